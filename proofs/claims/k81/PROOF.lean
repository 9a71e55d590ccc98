import PyProof.Rows.All
import Wide.All
import OpenK.AllK
import Wide.FinOn
import HandS.ForMost
import HandS.ForExc
import PyProof.ReprRoads
import HandS.RaiseMore
import PyProof.ReprLen
import HandS.ExcInit
import HandS.ExcField
import HandS.TryMany
import KE.KExcSuper
import HandS.Codes
import HandS.Walk
import HandS.IsInst
import HandS.Conv
import HandS.TupSets
import HandS.TupLen
import HandS.SetKeys
import HandS.Style
import KE.GoesEnum
import KE.KRevSl
import PyProof.SliceStr2
import PyProof.DictMoreH
import HandS.Defaults
import HandS.Flow
import HandS.Keys
import PySem.Challenge.RW_wordsaid_k81_whole_games_played
set_option Elab.async false
set_option linter.all false
set_option maxRecDepth 100000
set_option maxHeartbeats 4200000
/-! defs that may show values (repr): their promise is kept where nothing is being shown around the call -/
namespace Ws
open PySem PySem.Spec PyProof.Rows L2

/-- as FnOk, around which no repr runs -/
structure FnG (P : Program) (w : World) (K : PySem.W.Frag) (mg : Str → Option Value) (base : Heap) (CX : CXT)
    (k : Nat) (f : Addr) (fd : FuncData) (ps : List Str) (sp : Sp) : Prop where
  len : ∀ vs H Q E, sp vs H Q E →
      vs.length = ps.length
  run : ∀ (A : Around) (outer : List Env) (s : Shared) (H : Hp) (args : Args) (us : List Value) (vs : List V)
    (Q : VK) (E : XK), Room k A → A.guards = some [] → Env0 P w K mg base A outer s H →
    BindsTo s fd args (ps.zip us) → Vals vs us → sp vs H Q E →
    codeAny (model P w) A (.call (.ref f) args)
        (CR CX outer P w H s Q E) s

theorem FnG.of {P : Program} {w : World} {K : PySem.W.Frag} {mg : Str → Option Value} {base : Heap} {CX : CXT}
    {k : Nat} {f : Addr} {fd : FuncData} {ps : List Str} {sp : Sp} (F : FnOk P w K mg base CX k f fd ps sp) :
    FnG P w K mg base CX k f fd ps sp :=
  ⟨F.len, fun A outer s H args us vs Q E hr _ e0 hb r h => F.run A outer s H args us vs Q E hr e0 hb r h⟩

section
variable {P : Program} {w : World} {K : PySem.W.Frag} {mg : Str → Option Value} {base : Heap}

/-- the rule for a def, by its body -/
theorem okG {x qual : Str} {st : Stmt} {f : Addr} {fd : FuncData} {N ps : List Str} {k : Nat} {sp : Sp}
    (F : Fun K x qual st f fd) (S : FnScope N ps (defScope st)) (len : ∀ vs H Q E, sp vs H Q E → vs.length = ps.length)
    (hbody : ∀ (cdv : Value) (A : Around) (outer : List Env) (s : Shared) (H : Hp) (vs : List V) (Q : VK) (E : XK),
      Room k (A.deeper (envOfC qual (defScope st) s.heap.objs.size f cdv)) → A.guards = some [] → sp vs H Q E →
      ∃ t, PSs (cxOf CX0 P w K mg base N qual (defScope st) f cdv A outer s H E).nox (defBody st) t ∧
        t { nx := fun _ H' => Q .non H', rt := Q } (start N vs) H) :
    FnG P w K mg base CX0 (k + 1) f fd ps sp := by
  obtain ⟨oc, od, kV, doc, pm, an, cdv, ct, osl, rfl, lk, hco⟩ := F.ex
  refine ⟨len, fun A outer s H args us vs Q E hr hg e0 hb r hsp => ?_⟩
  have hl := len _ _ _ _ hsp
  have stays : ∀ b o, base.get? b = some o → s.heap.get? b = some o := fun b o e => (e0.bs b o e).1
  have kin0 : K.In s.heap := e0.mod.kin.keeps stays
  have lim : s.heap.NoLimit := e0.mod.nolimit.keeps stays
  have hkind : ∀ y ∈ ps.zip us, (defScope st).names.lookup y.1 = some .local ∨
      ((defScope st).names.lookup y.1 = some .cell ∧
        ((cellsFrom (s.heap.objs.size + 1) (defScope st).names []).lookup y.1).isSome = true) := by
    rintro ⟨n, v⟩ hy
    rcases
      S.par n (List.of_mem_zip hy).1 with q | q
    · exact .inl q
    · exact
        .inr ⟨q, PySem.W.cellsFrom_some _ _ _ (.inl q)⟩
  have core : ∀ s1, InCallC s s.heap.objs.size (bindL (envOfC qual (defScope st) s.heap.objs.size f cdv).kindOf (ps.zip us) fun _ => none)
      (cellsFrom (s.heap.objs.size + 1) (defScope st).names [])
      (bindC (envOfC qual (defScope st) s.heap.objs.size f cdv).kindOf (ps.zip us) fun _ => none) s1 →
      wpAny (model P w) (A.deeper (envOfC qual (defScope st) s.heap.objs.size f cdv))
        (execs (defBody st) (envOfC qual (defScope st) s.heap.objs.size f cdv))
        (SP (cxOf CX0 P w K mg base N qual (defScope st) f cdv A outer s H E) [] { nx := fun _ H' => Q .non H', rt := Q })
        (cxOf CX0 P w K mg base N qual (defScope st) f cdv A outer s H E).xe s1 := by
    intro s1 x
    obtain ⟨t, ht, hq⟩ := hbody cdv A outer s H vs Q E (hr.deeper _) hg hsp
    exact ht.nox.run [] s1 (start N vs) H _ (inv_start S hr.hd e0 hl r x) hq
  refine codeAny_call_function hr.depth (kin0 _ _ lk) rfl S.co S.gen rfl (PySem.W.codeRec_of kin0 hco) (hb _ _ _ _ ?_)
  refine
    wpAny_newFunctionEnv_cells S.kind hkind fun env he s1 x => ?_
  subst he
  refine ⟨lim.keeps x.toInCall.keep, codeAny_func (wpAny_mono (core s1 x) (fun fl s' hs => ?_) fun e s' hs => hs)⟩
  cases fl with
  | ret u =>
    obtain ⟨v, σ', H', J, rvv, q⟩ := hs
    exact ⟨v, H', J.os, J.bare, J.base, J.hok, rvv, q⟩
  | next =>
    obtain ⟨σ', H', J, q⟩ := hs
    exact ⟨V.non, H', J.os, J.bare, J.base, J.hok, rfl, q⟩
  | brk => exact hs.elim fun _ h => h.elim fun _ h => h.2.elim
  | cont => exact hs.elim fun _ h => h.elim fun _ h => h.2.elim
end

section
variable {X : Cx} {k : Nat} {f : Addr} {fd : FuncData} {ps : List Str} {sp : Sp} {x : Str} {p pos : Pos} {e : Expr}
  {es : List Expr} {t : TA}
/-- a call of such a def, no defaults -/
theorem pe_callG (F : FnG X.prog X.w X.K X.mg X.base CX0 k f fd ps sp) (hr : Room k X.A) (hgd : X.A.guards = some [])
    (hg : Gl X x) (hm : X.mg x = some (.ref f)) (hk : PySem.W.keepIn X.K (.ref f) = true) (hb : Binds X.K fd ps [])
    (ha : PA X (e :: es) t) (hdb : (x == ("__debug__" : Str)) = false := by decide)
    (he : starEach (e :: es) X.env = (false, eval e X.env) :: starEach es X.env := by rfl)
    (hpl : (backTo pos (starEach es X.env)).any (·.1) = false := by rfl) :
    PE X (.Call (.Name x p) (e :: es) [] pos) (fun σ H Q => t σ H fun vs H1 => sp vs H1 Q E0) := by
  refine ⟨fun pz s σ H Q I h => wpAny_Call_Name_kw (ld_glob I hg hm ?_ hdb)⟩
  refine PySem.W.callWith_K (h₀ := X.base) I.ok.mod.kin hk ?_ he hpl
  refine thn (ha.run pos pz s σ H _ I h) fun us s1 ⟨vs, H1, iA, r, q⟩ => ⟨iA.kIn, ?_⟩
  have hl : us.length = ps.length := by rw [← r.length]; exact F.len _ _ _ _ q
  have hb1 : BindsTo s1 fd ⟨us, []⟩ (ps.zip us) := by
    have z := hb s1 us iA.kIn (by rw [List.append_nil]; exact hl)
    rw [List.append_nil] at z
    exact z
  refine wpAny_call (codeAny_mono (F.run X.A X.stack s1 H1 ⟨us, []⟩ us vs Q E0 hr hgd iA.env0 hb1 r q) fun r s' hq => ?_)
  cases r with
  | error e => exact hq.elim
  | ok fl =>
    cases fl with
    | ret u => exact iA.after hq
    | next => exact hq.elim
    | brk => exact hq.elim
    | cont => exact hq.elim
end

/-- what is shown of data that stands in the heap -/
structure Shw (d : PyData) : Prop where
  ok : d.showable = true
  nd : d.hasDict = false
  dp : d.depth ≤ 60
  sh : d.leavesShort 13 = true
  wt : d.weight ≤ 2 ^ 20
theorem Shw.len {d : PyData} (s : Shw d) : d.shown.length ≤ sizeLine := PyData.shown_fits (B := 13) (by decide) (by decide) s.sh s.wt
def rRepr (K : PySem.W.Frag) : List V → Hp → VK → Prop := fun xs H Q => ∃ (x : V) (d : PyData),
  xs = [x] ∧ Dp K H x d ∧ Shw d ∧ Q (.str d.shown) H
theorem cr_repr {X : Cx} (hg : X.A.guards = some []) (hu : X.A.units + 64 < cLine) : CallR X (.builtin "repr") (rRepr X.K) := by
  intro pz s σ H xs us Q I r h
  obtain ⟨x, d, rfl, hd, hs, q⟩ := h
  have hz := hs.len
  cases r with
  | cons r1 r2 =>
    cases r2
    have byRef : ∀ a, x = .ref a → wpAny (model X.prog X.w) X.A (call (.builtin "repr") [.ref a]) (EP X pz σ Q) X.xe s := by
      rintro a rfl
      obtain ⟨as, hr⟩ := Dp.reads I d _ _ hd rfl
      have hdp := hs.dp
      refine repr_of_reads' hr hs.ok (PyData.noDict_hsm hs.nd) hg (by omega) (fun _ _ e => e) (fun h' u tk hk => ?_) hz
      exact ⟨.str d.shown, H, I.kept (t' := tk) hk, ⟨u, rfl⟩, q⟩
    cases hd with
    | non =>
      cases r1
      exact PySem.P.repr_of_none ⟨.str _, H, I.tok _, ⟨_, rfl⟩, q⟩
    | bl b =>
      cases r1
      exact PySem.P.repr_of_bool ⟨.str _, H, I.tok _, ⟨_, rfl⟩, q⟩
    | int i =>
      obtain ⟨t, rfl⟩ := r1
      have hi : i.natAbs.log2 < 1920 := by simpa [PyData.showable] using hs.ok
      exact PySem.P.repr_of_int hi ⟨.str _, H, I.tok _, ⟨_, rfl⟩, q⟩
    | str x =>
      obtain ⟨t, rfl⟩ := r1
      exact PySem.P.repr_of_str ⟨.str _, H, I.tok _, ⟨_, rfl⟩, q⟩ hz
    | lst h1 h2 =>
      cases r1
      exact byRef _ rfl
    | tup h1 h2 =>
      cases r1
      exact byRef _ rfl

/-! ### the law, called by its caller: nothing is shown around it -/
theorem law_callG {P : Program} {w : World} {K : PySem.W.Frag} {mg mb : Str → Option Value} {k : Nat} {fa a : Addr}
    {fd : FuncData} {x : Str} {sp : Sp} {s1 : Shared} {vs : List Value} {ns : List Int}
    (kin0 : K.In s1.heap) (hns : s1.heap.Ns mainGlobals mg) (hb : s1.heap.Ns builtinsNs mb)
    (hbb : ∀ x : Str, x ≠ "__name__" → mb x = bootBuiltins x) (hlim : s1.heap.NoLimit) (hg : s1.gens = #[])
    (ha : s1.heap.get? a = some { cls := .type "list", data := .seq vs.toArray }) (hi : IntsAre vs ns)
    (hl : ns.length ≤ sizeLine) (hr : Room k callerA)
    (F : ∀ base : Heap, K.In base → base.Ns mainGlobals mg → FnG P w K mg base CX0 k fa fd [x] sp)
    (hbind : ∀ (s : Shared) (u : Value), BindsTo s fd ⟨[u], []⟩ [(x, u)])
    (hsp : ∀ H : Hp, Only H → SqL K H a (ns.map V.int) → sp [.ref a] H (fun v _ => v = .bl true) E0) :
    codeAny (model P w) callerA (.call (.ref fa) ⟨[.ref a], []⟩)
      (fun r s' => r = .ok (.ret (.bool true)) ∧ OldK s1.heap s'.heap ∧ s'.os = s1.os ∧ AllBare s'.gens) s1 := by
  have rvv := vals_ints hi
  have lenV := hi.length
  -- whatever part of the script is told, the rest of the heap serves as the base
  have go : ∀ H : Hp, Only H → SqL K H a (ns.map V.int) → HOk P w H s1.heap → (∀ b, H b ≠ none → b = a ∧ K.lookup a = none) →
      codeAny (model P w) callerA (.call (.ref fa) ⟨[.ref a], []⟩)
        (fun r s' => r = .ok (.ret (.bool true)) ∧ OldK s1.heap s'.heap ∧ s'.os = s1.os ∧ AllBare s'.gens) s1 := by
    intro H hO hS hok hA
    have notDict : ∀ {b : Addr} {o : Obj} {es : Array DictEntry} {ep : Nat}, s1.heap.get? b = some o →
        o.data = .dict es ep → H b = none := by
      intro b o es ep e d
      refine Classical.byContradiction fun q => ?_
      rw [(hA b q).1, ha] at e
      cases e
      have d' :
        Data.seq vs.toArray _ = Data.dict es ep := d
      cases d'
    have ns1 : ∀ {b : Addr} {m : Str → Option Value}, s1.heap.Ns b m → (hidT s1.heap H).Ns b m := by
      rintro b m ⟨o, es, ep, e, d, r⟩
      exact ⟨o, es, ep, hidT_get e (notDict e d), d, r⟩
    have kin1 : K.In (hidT s1.heap H) := by
      intro b o e
      refine hidT_get (kin0 b o e) (Classical.byContradiction fun q => ?_)
      have z := hA b q
      rw [z.1, z.2] at e
      cases e
    have md : Mod K mg (hidT s1.heap H) := by
      obtain ⟨mc, l1, l2⟩ := hlim
      exact ⟨kin1, ns1 hns, ⟨mb, ns1 hb, hbb⟩, ⟨mc, ns1 l1, l2⟩⟩
    have e0 : Env0 P w K mg (hidT s1.heap H) callerA [] s1 H :=
      { frames := rfl, mod := md, bs := fun b o e => of_hidT e, bsz := Nat.le_of_eq (hidT_size _ _), funs := trivial,
        frf := fun b q => absurd (show b ∈ ([] : List Addr) from q) List.not_mem_nil, hok := hok, bare := .of_eq hg }
    refine codeAny_mono ((F _ kin1 (ns1 hns)).run callerA [] s1 H ⟨[.ref a], []⟩ [.ref a] [.ref a] _ _ hr rfl e0
      (hbind s1 (.ref a)) (.cons rfl .nil) (hsp H hO hS)) fun r s' h => ?_
    cases r with
    | error e => exact h.elim
    | ok fl =>
      cases fl with
      | next => exact h.elim
      | brk => exact h.elim
      | cont => exact h.elim
      | ret u =>
        obtain ⟨v, H', os, bar, unn, hok', r', q⟩ := h
        subst q
        cases r'
        refine ⟨rfl, OldK.of_keep fun b o e => ?_, os, bar⟩
        rcases hO b with q | ⟨ob, xs, q⟩
        · exact unn.keep b o e q (fun z => absurd (show b ∈ ([] : List Addr) from z) List.not_mem_nil) List.not_mem_nil
        · have q1 := (hok b _ q).1
          have q2 := (hok' b _ (unn.frzs b ob _ q)).1
          rw [e] at q1
          cases q1
          exact q2
  cases hk : K.lookup a with
  | some o =>
    have e := kin0 a o hk
    rw [ha] at e
    cases e
    refine go (fun _ => none) (fun _ => .inl rfl) (.inr ?_) (fun b u z => ?_) (fun b z => absurd rfl z)
    · exact ⟨_, vs.toArray, _, hk, rfl, rfl, rfl, by rw [List.size_toArray, lenV]; exact hl, by simpa using rvv⟩
    · have z' : (none : Option HO) = some u := z
      cases z'
  | none =>
    let o : Obj := { cls := .type "list", data := .seq vs.toArray }
    let H1 : Hp := fun b => if b = a then some (.frz o (.lst (ns.map V.int))) else none
    have at1 : H1 a = some (.frz o (.lst (ns.map V.int))) := if_pos rfl
    have off : ∀ {b}, b ≠ a → H1 b = none := fun h => if_neg h
    refine go H1 (fun b => ?_) (.inl (.inr ⟨o, at1⟩)) (fun b u z => ?_) fun b z => ?_
    · by_cases q : b = a
      · exact .inr ⟨o, _, by rw [q]; exact at1⟩
      · exact .inl (off q)
    · by_cases q : b = a
      · subst q
        rw [at1] at z
        cases z
        exact ⟨ha, by rw [List.length_map]; exact hl, vs, _, rvv, ha⟩
      · rw [off q] at z
        cases z
    · exact ⟨Classical.byContradiction fun q => z (off q), hk⟩

theorem walkG {l : PySem.W.OpenLaw} {n k : Nat} {q : Program} {loose : List Str} {XP : (Str → Option Value) → Heap → Prop}
    {YP : World → Heap → Prop} {d : DefRec} {K : Params → PySem.W.Frag} {sp : PySem.W.Frag → Sp} {x : Str}
    (hn : l.most = some n)
        (hn2 : n ≤ sizeLine) (hdf : d.params.defaults = []) (hr : Room k callerA)
    (hY : ∀ (w : World) (h : Heap), YP w h → (K w.params).In h)
    (F : ∀ (w : World) (mg : Str → Option Value) (fa : Addr) (h : Heap), (K w.params).In h → h.Ns mainGlobals mg →
      mg d.name = some (.ref fa) → ∃ fd : FuncData, (∀ (s : Shared) (u : Value), BindsTo s fd ⟨[u], []⟩ [(x, u)]) ∧
        ∀ base : Heap, (K w.params).In base → base.Ns mainGlobals mg →
          FnG l.prog w (K w.params) mg base CX0 k fa fd [x] (sp (K w.params)))
    (hsp : ∀ (K : PySem.W.Frag) (H : Hp) (a : Addr) (ns : List Int), ns.length ≤ n → Only H →
      SqL K H a (ns.map V.int) → sp K [.ref a] H (fun v _ => v = .bl true) E0) :
    PySem.W.WalkO q loose XP YP l.row.toRowW d [] (fun f vs => PySem.call f vs) :=
        by
  refine Att.attach_call hn hdf fun w s0 s1 mg mb fa o pm cd doc a vs ns G Y ho hd hco hmg hobj hints hlen hg => ?_
  have kin0 := hY w _ Y
  obtain ⟨fd, hb, hfn⟩ := F w mg fa _ kin0 G.T.g hmg
  exact law_callG kin0 G.T.g G.T.b G.T.builtins G.T.nolimit hg hobj hints (Nat.le_trans hlen hn2) hr hfn hb
    (fun H hO hS => hsp _ H a ns hlen hO hS)
end Ws

/-! exceptions of one's own whose __init__ begins with super().__init__(..), over several classes -/
namespace Ws
open PySem PySem.Spec PyProof.Rows L2

abbrev veI : String := "ValueError.__init__"

/-- the built-in __init__, bound to the new exception, called -/
theorem call_mw {prog : Program} {w : World} {A : Around} {E : Value → Shared → Prop} {h : Heap} {g : Array GenState}
    {d : Drawn} {t : Nat} {os : OsState} {nm q : Str} {C N : Addr} {bs bm : List Value} {hdct : Bool} {sn : List Str}
    {sub : List Value} {ab : Bool} {col : Option Bool} {dd : Option Addr} {k0 k1 k2 k3 k5 : Option Value}
    {u e t0 : Addr} {rest : List Value} {Q : Value → Shared → Prop}
    (hC : h.get? C = some (excClassObj nm q C N bs bm hdct sn sub ab col dd k0 k1 k2 k3 k5 "ValueError.__new__"))
    (he : h.get? e = some (HandSPX.excO C t0)) (hu : h.get? u = some (PySem.W.kxs_mw veI e)) (hrest : rest.length ≤ sizeLine)
    (hq : ∀ h' t1, (∀ b o, b ≠ e → h.get? b = some o → h'.get? b = some o) → h'.get? e = some (HandSPX.excO C t1) →
      Q .none ⟨h', g, d, t, os⟩) :
    wpAny (model prog w) A (call (.ref u) rest) Q E ⟨h,
        g, d, t, os⟩ := by
  refine
    wpAny_call (codeAny_of_tree ?_)
  show
    wpAny _ A.in1 (callAny (.ref u) ⟨rest, []⟩) _ _ _
  simp only [callAny]
  refine
    wpAny_bind (wpAny_load hu ?_)
  simp only [PySem.W.kxs_mw, show (Value.type "method-wrapper" == Value.type "method" ||
    Value.type "method-wrapper" == Value.type "builtin_function_or_method" ||
    Value.type "method-wrapper" == Value.type "method-wrapper") = true by decide, if_true]
  refine
    PySem.W.KFB.if_so (by decide) ?_
  refine wpAny_bind (PySem.W.check_bound_init F.excBase_ValueError.toExcCallFacts hC he rfl ?_)
  refine
    wpAny_bind (wpAny_pure (wpAny_pure ?_))
  refine ⟨Code.quiet_builtin _ (by decide +kernel), codeAny_builtin F.excBase_ValueError.initEntry ?_⟩
  rw [Around.under_plainId F.excBase_ValueError.init.plain _]
  wp_walk
  refine
    hq _ h.objs.size (fun b o hb ho => ?_) ?_
  · rw
      [Heap.get?_update_other _ _ (Ne.symm hb)]
    exact
      Heap.get?_push_of_some _ ho
  · rw
      [Heap.get?_update_self _ (Heap.get?_push_of_some _ he) rfl]
    rfl

/-- a method of the class at D that closes over __class__ alone -/
structure SFun (P : Program) (K : PySem.W.Frag) (x qual : Str) (st : Stmt) (D f : Addr) (fd : FuncData) : Prop where
  ex : ∃ (oc : Value) (od : Option Addr) (dV kV doc pm : Value) (an : Option Addr) (cda : Addr) (ct : Value)
    (osl : Array (Option Value)) (cc : Addr) (ccl : Value) (cdd : Option Addr) (vs : Array Value) (ccs : Array (Option Value))
    (file : Str) (tf : Tok) (cl : Value) (cld : Option Addr) (csl : Array (Option Value)) (cdD : ClassData) (ar : Arg),
    fd = PySem.W.fnX x qual (defArgs st) (defBody st) (defScope st) [("__class__", cc)] dV kV doc pm an (.ref cda) ct ∧
    K.lookup f = some ⟨oc, od, .func fd, osl⟩ ∧ PySem.W.codeIn K (.ref cda) qual = true ∧
    K.lookup cda = some ⟨ccl, cdd, .fields vs, ccs⟩ ∧ vs[2]? = some (.str file tf) ∧ ((P.main.file : Str) == file) = true ∧
    K.lookup cc = some ⟨cl, cld, .cell (some (.ref D)), csl⟩ ∧ PySem.W.clsIn K D = some cdD ∧
    ((defArgs st).posonlyargs ++ (defArgs st).args).head? = some ar ∧ ar.arg = "self"
  top : (P.main.scope.names.lookup ("super" : Str)).isSome = false
  kp :
      PySem.W.keepIn K (.ref f) = true
  fn : PySem.W.fnIn K f = true
  ty : PySem.W.typeIn K (.ref f) = some (.type "function")

structure SScope (N ps : List Str) (sc : Scope) : Prop where
  kind : sc.kind = .function
  co : sc.isCoroutine = false
  gen : sc.isGenerator = false
  nd : N.Nodup
  pre : N.take ps.length = ps
  par : ∀ x ∈ ps,
      sc.names.lookup x = some .local
  nocell : ∀ y ∈ sc.names,
      y.2 ≠ .cell
  free : ∀ y ∈ sc.names, y.2 = .free → y.1 = "__class__"
  cls : sc.names.lookup ("__class__" : Str) = some .free
  sup : sc.names.lookup ("super" : Str) = some .globalImplicit
  self : ps.head? = some "self"

/-- the class at C, from the class at D on: whose __init__ comes next -/
structure Sup (K : PySem.W.Frag) (C D : Addr) (to : Value) : Prop where
  sub : PySem.W.mroIn K C (.ref D) = some true
  ve : PySem.W.subIn K (.ref C) (.type "ValueError") = some true
  ini : PySem.W.ks_superIn K C D "__init__" = some (some to)
  tp : PySem.W.nsIn K cStatics "thirdparty.any" = some none

theorem rev_lookup {x : Str} {u : Value} : ∀ {ps : List Str} {us : List Value} {i : Nat}, ps.Nodup → ps[i]? = some x →
    us[i]? = some u → (ps.zip us).reverse.lookup x = some u
  | [], _, _, _, h, _ => by cases h
  | _ :: _, [], _, _, _, h => by cases h
  | p :: ps, v :: us, 0, nd, h1, h2 => by
    simp only [List.getElem?_cons_zero, Option.some.injEq] at h1 h2
    subst h1 h2
    have no : (ps.zip us).reverse.lookup p = none := by
      cases e : (ps.zip us).reverse.lookup p with
      | none => rfl
      | some y =>
        have z := List.mem_reverse.mp (PySem.mem_of_lookup e)
        exact absurd (List.of_mem_zip z).1 (List.nodup_cons.mp nd).1
    simp [List.lookup_append, no]
  | p :: ps, v :: us, i + 1, nd, h1, h2 => by
    have z := rev_lookup (List.nodup_cons.mp nd).2 (by simpa using h1) (by simpa using h2)
    simp [List.lookup_append, z]

/-- where such a method's body runs -/
def cxS (P : Program) (w : World) (K : PySem.W.Frag) (mg : Str → Option Value) (base : Heap) (N : List Str) (qual : Str)
    (scope : Scope) (f : Addr) (cd : Value) (cc : Addr) (A : Around) (outer : List Env) (s : Shared) (H : Hp) : Cx where
  prog := P
  w := w
  K := K
  mg := mg
  base := base
  A := A.deeper (PySem.W.envX qual scope s.heap.objs.size f cd [("__class__", cc)])
  N := N
  s_0 := s
  H_0 := H
  env := PySem.W.envX qual scope s.heap.objs.size f cd [("__class__", cc)]
  outer := outer
  stack := PySem.W.envX qual scope s.heap.objs.size f cd [("__class__", cc)] :: outer
  ex := []
  calm := true
  fn := fun x => x != "__class__"
  pn := []
  xe := fun _ _ => False

theorem one_cell {cc c : Addr} {x : Str} (h : [(("__class__" : Str), cc)].lookup x = some c) : x = "__class__" ∧ c = cc := by
  have z := PySem.mem_of_lookup h
  simp only [List.mem_singleton, Prod.mk.injEq] at z
  exact z

theorem inv_startS {P : Program} {w : World} {K : PySem.W.Frag} {mg : Str → Option Value} {base : Heap} {N ps : List Str}
    {qual : Str} {scope : Scope} {f : Addr} {cd : Value} {cc D : Addr} {A : Around} {outer : List Env} {s : Shared} {H : Hp}
    {us : List Value} {vs : List V} {h1 : Heap} {tk : Nat} {cl : Value} {cld : Option Addr} {csl : Array (Option Value)}
    (S : SScope N ps scope) (hd : A.handled = none) (e0 : Env0 P w K mg base A outer s H) (hl : vs.length = ps.length)
    (r : Vals vs us) (hcc : K.lookup cc = some ⟨cl, cld, .cell (some (.ref D)), csl⟩)
    (hns : h1.Ns s.heap.objs.size (fun x => (ps.zip us).reverse.lookup x))
    (hk : ∀ b o, s.heap.get? b = some o → h1.get? b = some o) :
    Inv (cxS P w K mg base N qual scope f cd cc A outer s H) [] (L2.start N vs) H { s with heap := h1, toks := tk } := by
  have hpn : ps.length ≤ N.length := by have := congrArg List.length S.pre; rw [List.length_take] at this; omega
  have noA : ∀ b : Addr, b ∉ (cxS P w K mg base N qual scope f cd cc A outer s H).ex :=
    fun b z => absurd (show b ∈ ([] : List Addr) from z) List.not_mem_nil
  have kin0 : K.In s.heap := e0.mod.kin.keeps fun b o e => (e0.bs b o e).1
  have cellAt : h1.IsCell cc (some (.ref D)) := ⟨_, hk _ _ (kin0 _ _ hcc), rfl⟩
  have ok : (cxS P w K mg base N qual scope f cd cc A outer s H).Ok :=
    { mod := e0.mod, kind := S.kind, glob := rfl, blt := rfl, above := Nat.le_refl _,
      inj := fun x y c hx hy => by rw [(one_cell hx).1, (one_cell hy).1],
      has := fun x hx => by
        have hx' : scope.names.lookup x = some .cell ∨ scope.names.lookup x = some .free := hx
        rcases hx' with q | q
        · exact absurd rfl (S.nocell _ (PySem.mem_of_lookup q))
        · have e := S.free _ (PySem.mem_of_lookup q) rfl
          have e' : x = "__class__" := e
          subst e'
          exact ⟨cc, rfl⟩,
      cab := fun x c hf hc => by
        have e := (one_cell hc).1
        subst e
        have hf' : (("__class__" : Str) != "__class__") = true := hf
        exact absurd hf' (by decide),
      hd := fun _ => hd, frames := Around.frames_deeper e0.frames, stk := .inr ⟨rfl, rfl⟩, exf := fun b z => absurd z (noA b),
      bs := e0.bs, bsz := e0.bsz, noex := fun b _ _ => noA b, exfs := fun b z => absurd z (noA b), funs := e0.funs, frf := e0.frf }
  refine ⟨ok, rfl, e0.bare, Un.kept hk, ⟨_, hns, fun i y v g1 g2 g3 => ?_⟩, fun y c h => ⟨_, (one_cell h).2 ▸ cellAt⟩,
    e0.hok.fresh (Nat.le_refl _), fun y c h => ?_, fun p hp => absurd (show p ∈ ([] : List (Addr × Obj)) from hp) List.not_mem_nil,
    e0.hok.kept hk, ?_⟩
  · have hi :
      i < vs.length := by
      unfold L2.start at g2
      by_cases hi : i < vs.length
      · exact hi
      · rw [List.getElem?_append_right (by simpa using hi), List.getElem?_replicate] at g2
        split at g2 <;> cases g2
    have ha :
      vs[i]? = some v := by
      unfold L2.start at g2
      rw [List.getElem?_append_left (by simpa using hi), List.getElem?_map] at g2
      cases e : vs[i]? with
      | none => rw [e] at g2; cases g2
      | some a => rw [e] at g2; cases g2; rfl
    obtain ⟨u, hu, rvv⟩ := r.get ha
    have hp :
      ps[i]? = some y := by
      rw [← S.pre, List.getElem?_take_of_lt (by omega)]; exact g1
    have ndp : ps.Nodup := by rw [← S.pre]; exact S.nd.sublist (List.take_sublist _ _)
    exact ⟨u, rvv, .inl ⟨S.par y (List.mem_of_getElem? hp), rev_lookup ndp hp hu⟩⟩
  · obtain ⟨_, rfl⟩ := one_cell h
    cases q : H c with
    | none => rfl
    | some o =>
      have z := (e0.bs c _ (e0.mod.kin _ _ hcc)).2
      rw [q] at z
      cases z
  · unfold L2.start
    show _ = N.length
    rw
      [List.length_append, List.length_map, List.length_replicate]
    omega

theorem pin_new {X : Cx} {σ : L2.St} {H : Hp} {g : Array GenState} {d : Drawn} {t t' : Nat} {os : OsState} {h : Heap} {o : Obj}
    (I : Inv X [] σ H ⟨h, g, d, t, os⟩) (hc : ∀ v, o.data ≠ .cell v) (hf : o.isFreed = false) :
    Inv X [(h.objs.size, o)] σ H ⟨h.push o, g, d, t', os⟩ := by
  have J : Inv X [] σ H ⟨h.push o, g, d, t', os⟩ := I.kept (t' := t') fun b u e => Heap.get?_push_of_some _ e
  refine J.pins_of fun p hp => ?_
  · obtain rfl := List.mem_singleton.mp hp
    exact ⟨Heap.get?_push_size _ hf, I.hok.fresh (Nat.le_refl _), Nat.ne_of_gt I.lt, I.nofs (Nat.le_refl _), hc⟩

/-- the state between: where super() stands -/
theorem at_super {X : Cx} {σ : L2.St} {H : Hp} {s : Shared} {C D a : Addr} {cdD : ClassData} {E : Value → Shared → Prop} {A : Around}
    {Q : Value → Shared → Prop} {to : Value}
    (I : Inv X [] σ H s) (ea : H a = some (exo a C none)) (hD : PySem.W.clsIn X.K D = some cdD) (T : Sup X.K C D to)
    (hq : ∀ h' t1, Inv X [] σ H { s with heap := h' } → h'.get? s.heap.objs.size = some { cls := .type "super", dict := none, data := .fields #[.ref D, .ref a, .ref C], slots := #[] } →
      h'.get? a = some (HandSPX.excO C t1) → Q (.ref s.heap.objs.size) { s with heap := h' }) :
    wpAny (model X.prog X.w) A (isType (.ref D)) (fun b s1 => b = true ∧ wpAny (model X.prog X.w) A (call (.type "super") [.ref D, .ref a]) Q E s1) E s := by
  obtain ⟨oD, hD1, hD2⟩ : ∃ oD, s.heap.get? D = some oD ∧ oD.data = .cls cdD := by
    unfold PySem.W.clsIn at hD
    split at hD
    · rename_i c d cd' sl ho
      cases hD
      exact ⟨_, I.kIn _ _ ho, rfl⟩
    · cases hD
  obtain ⟨t1, hx⟩ := exo_at I.hok ea
  obtain ⟨hh, g, d, t, os⟩ := s
  refine
    ks_wpAny_isType_cls hD1 hD2 ⟨rfl, ?_⟩
  have hnc : ∀ c, (HandSPX.excO C t1).data ≠ .cls c := fun c e => by cases e
  refine ks_wpAny_call_super (ox := HandSPX.excO C t1) hD1 hD2 hx rfl hnc (PySem.W.looks_mroIn I.kIn T.sub) fun h' e k => ?_
  exact hq h' t1 (I.kept (t' := t) k) e (k _ _ hx)

section
variable {P : Program} {w : World} {K : PySem.W.Frag} {mg : Str → Option Value} {base : Heap}

/-- what is wanted of super().__init__(..): the built-in one | a def of one's own -/
def tSup (P : Program) (w : World) (K : PySem.W.Frag) (mg : Str → Option Value) (base : Heap) (k : Nat) (a C : Addr) (to : Value)
    (ta : TA) (σ : L2.St) (H : Hp) (kn : Hp → Prop) : Prop :=
  (to = .builtin veI ∧ OexC K C ∧ ta σ H fun ws H1 => H1 a = some (exo a C none) ∧ ws.length ≤ 1000 ∧ kn H1) ∨
    (∃ (f2 : Addr) (fd2 : FuncData) (ps2 : List Str) (sp2 : Sp), to = .ref f2 ∧ FnOk P w K mg base CX0 k f2 fd2 ps2 sp2 ∧
      Binds K fd2 ps2 [] ∧ PySem.W.fnIn K f2 = true ∧ PySem.W.typeIn K (.ref f2) = some (.type "function") ∧
      ta σ H fun ws H1 => sp2 (.ref a :: ws) H1 (fun v H2 => v = .non ∧ kn H2) E0)

theorem okSup {x qual : Str} {st : Stmt} {D f : Addr} {fd : FuncData} {N ps : List Str} {k : Nat} {sp : Sp}
    {p0 p1 p2 p3 p4 : Pos} {e : Expr} {es : List Expr} {rest : List Stmt} {pl : Sem Bool}
    (F : SFun P K x qual st D f fd) (S : SScope N ps (defScope st)) (len : ∀ vs H Q E, sp vs H Q E → vs.length = ps.length)
    (hst : defBody st = .Expr (.Call (.Attribute (.Call (.Name "super" p0) [] [] p1) "__init__" p2) (e :: es) [] p3) p4 :: rest)
    (hm : mg "super" = none)
    (hev : ∀ env : Env, eval (.Call (.Attribute (.Call (.Name "super" p0) [] [] p1) "__init__" p2) (e :: es) [] p3) env = (do
      let ov ← attributeBase (.Call (.Name "super" p0) [] [] p1) "__init__" env (eval (.Call (.Name "super" p0) [] [] p1) env)
      standAt p2.atName
      let (f,
          first) ← holding [ov] (getMethod ov "__init__" pl)
      callWith p3 f first (backTo p3 (starEach (e :: es) env)) []))
    (he : ∀ env : Env, starEach (e :: es) env = (false, eval e env) :: starEach es env)
    (hpn : ∀ env : Env, (backTo p3 (starEach es env)).any (·.1) = false)
    (hsw : ∀ env : Env, swapsWith (.Call (.Attribute (.Call (.Name "super" p0) [] [] p1) "__init__" p2) (e :: es) [] p3) none p4.line env = pure false)
    (hbody : ∀ (cd : Value) (cc : Addr) (A : Around) (outer : List Env) (s : Shared) (H : Hp) (vs : List V) (Q : VK) (E : XK),
      sp vs H Q E → ∃ (a C : Addr) (vt : List V) (to : Value) (ta : TA) (u : TS), vs = .ref a :: vt ∧ H a = some (exo a C none) ∧
        Sup K C D to ∧
        PA (cxS P w K mg base N qual (defScope st) f cd cc A outer s H) (e :: es) ta ∧
        PSs (cxS P w K mg base N qual (defScope st) f cd cc A outer s H) rest u ∧
        tSup P w K mg base k a C to ta (L2.start N vs) H (fun H1 => u { nx := fun _ H' => Q .non H', rt := Q } (L2.start N vs) H1)) :
    FnOk P w K mg base CX0 (k + 1) f fd ps sp := by
  obtain ⟨oc, od, dV, kV, doc, pm, an, cda, ct, osl, cc, ccl, cdd, vs2, ccs, file, tf, cl, cld, csl, cdD, ar, rfl, lk, hco, lkc, hvs2, hfile, hcc, hD, har, hself⟩ := F.ex
  refine
    ⟨len, fun A outer s H args us vs Q E hr e0 hb r hsp => ?_⟩
  have hl := len _ _ _ _ hsp
  have stays : ∀ b o, base.get? b = some o → s.heap.get? b = some o := fun b o e => (e0.bs b o e).1
  have kin0 : K.In s.heap := e0.mod.kin.keeps stays
  have lim : s.heap.NoLimit := e0.mod.nolimit.keeps stays
  obtain ⟨a, C, vt, to, ta, u, rfl, ea, T, pa, pss, hq⟩ := hbody (.ref cda) cc A outer s H vs Q E hsp
  refine PySem.ks_codeAny_call_defAt (body := defBody st) (binds := ps.zip us) hr.depth (kin0 _ _ lk) rfl lim (PySem.W.codeRec_of kin0 hco) rfl hb S.nocell
    (fun y hy => S.par y.1 (List.of_mem_zip (show (y.1, y.2) ∈ ps.zip us from hy)).1) (fun h1 hns hk => ?_) S.co S.gen S.kind
  have I : Inv (cxS P w K mg base N qual (defScope st) f (.ref cda) cc A outer s H) [] (L2.start N (.ref a :: vt)) H
      { s with heap := h1, toks := s.toks + (ps.zip us).length } := inv_startS S hr.hd e0 hl r hcc hns hk
  rw [hst]
  let X := cxS P w K mg base N qual (defScope st) f (.ref cda) cc A outer s H
  -- what stands behind the first statement
  have restRun : ∀ s1 H1, Inv X [] (L2.start N (.ref a :: vt)) H1 s1 → u { nx := fun _ H' => Q .non H', rt := Q } (L2.start N (.ref a :: vt)) H1 →
      wpAny (model P w) X.A (execs rest X.env) (fun fl s' => CR CX0 outer P w H s Q E (.ok (.ret (match fl with | .ret v => v | _ => .none))) s')
        (fun _ _ => False) s1 := by
    intro s1 H1 iA q1
    refine thn (pss.run [] s1 _ H1 _ iA q1) fun fl s' hs => ?_
    cases fl with
    | ret u =>
      obtain ⟨v, σ', H', J, rvv, q⟩ := hs
      exact ⟨v, H', J.os, J.bare, J.base, J.hok, rvv, q⟩
    | next =>
      obtain ⟨σ', H', J, q⟩ := hs
      exact ⟨V.non, H', J.os, J.bare, J.base, J.hok, rfl, q⟩
    | brk => exact hs.elim fun _ h => h.elim fun _ h => h.2.elim
    | cont => exact hs.elim fun _ h => h.elim fun _ h => h.2.elim
  refine ks_wpAt_mono (Q := fun fl s' => CR CX0 outer P w H s Q E (.ok (.ret (match fl with | .ret v => v | _ => .none))) s') (E := fun _ _ => False) ?_ (fun _ _ z => z) fun _ _ z => z.elim
  refine ks_wpAt_execs_cons (ks_wpAt_Expr_any (ks_wpAt_MethodCall (pl := pl) (PySem.ks_wpAt_super_base S.sup S.cls (by decide) rfl (hk _ _ (kin0 _ _ lk)) rfl har rfl (hk _ _ (kin0 _ _ lkc)) rfl hvs2 hfile F.top ?_) (hev _)) (by simp [interactive, PySem.callEnv, PySem.newEnv, S.kind]) (hsw _))
  -- the loads
  show wpAny (model P w) X.A (loadName X.env "super") _ _ _
  obtain ⟨mb, hb1, hb2⟩ := I.mod.blt
  refine PySem.W.ks_loadName_global S.kind S.sup (Calls.loadGlobal_builtin (I.mod.glob.keeps I.bk) hm (hb1.keeps I.bk) ((hb2 _ (by decide +kernel)).trans (show bootBuiltins "super" = some (.type "super") by decide +kernel)) ⟨rfl, ?_⟩)
  have hcell : h1.IsCell cc (some (.ref D)) := ⟨_, hk _ _ (kin0 _ _ hcc), rfl⟩
  show wpAny (model P w) X.A (loadName X.env "__class__") _ _ _
  refine wpAny_loadName_free S.kind S.cls rfl hcell ?_
  show wpAny (model P w) X.A (loadName X.env ar.arg) _ _ _
  rw [hself]
  obtain ⟨u0, ur, rfl⟩ : ∃ u0 ur, us = u0 :: ur := by
    cases r with
    | cons _ _ => exact ⟨_, _, rfl⟩
  obtain ⟨pr, rfl⟩ : ∃ pr, ps = ("self" : Str) :: pr := by
    have z := S.self
    cases ps with
    | nil => cases z
    | cons p pr =>
      have z' : some p = some "self" := z
      exact ⟨pr, by rw [Option.some.inj z']⟩
  have eu0 : u0 = Value.ref a := by
    cases r with
    | cons r1 _ => exact r1
  subst eu0
  have ndp : (("self" : Str) :: pr).Nodup := by rw [← S.pre]; exact S.nd.sublist (List.take_sublist _ _)
  refine wpAny_loadName_local S.kind (S.par "self" List.mem_cons_self) hns (rev_lookup (i := 0) ndp rfl rfl) ?_
  refine at_super (X := X) I ea hD T fun h2 t1 iB hso hx2 => ?_
  have hno := PySem.W.looks_opaque (M := model P w) (C := C) iB.kIn T.tp
  have T' := T.ini
  unfold PySem.W.ks_superIn at T'
  cases hcl : PySem.W.clsIn K C with
  | none => rw [hcl] at T'; cases T'
  | some cdC =>
    rw [hcl] at T'
    have hmro : PySem.W.Looks (model P w) h2 (mroOf (.ref C)) cdC.mro :=
      fun A Q E s k q => wpAny_bind ((PySem.W.looks_clsIn iB.kIn hcl) A _ E s k (wpAny_pure q))
    have inst : PySem.W.InstAt h2 a (HandSPX.excO C t1) C none := ⟨hx2, rfl, rfl, trivial⟩
    have hxC : a ≠ C := PySem.W.ks_ne iB.kIn inst hcl
    rcases hq with ⟨rfl, oex, hq⟩ | ⟨f2, fd2, ps2, sp2, rfl, F2, b2, hfn2, hty2, hq⟩
    · -- the built-in one
      refine PySem.W.kxs_getMethod PySem.W.kxs_ValueError hso hno hmro rfl iB.kIn T' (inst.type.andThen (PySem.W.looks_subIn iB.kIn T.ve)) hxC (by decide) ?_
      have iC := pin_new (t' := s.toks + (((("self" : Str) :: pr).zip (.ref a :: ur)).length) + 1) iB (o := PySem.W.kxs_mw veI a) (fun v z => by cases z) rfl
      show wpAny (model P w) X.A (callWith p3 (.ref h2.objs.size) [] (backTo p3 (starEach (e :: es) X.env)) []) _ _ _
      have hrun := pa.run p3 _ _ _ H _ iC hq
      change wpAny (model P w) X.A (spliced (backTo p3 (starEach (e :: es) X.env))) _ _ _ at hrun
      rw [he] at hrun ⊢
      refine PySem.W.kxs_callWith (i := veI) (x := a) (by show (false || (backTo p3 (starEach es X.env)).any (·.1)) = false; rw [hpn]; rfl) (Calls.evalArgs_plain (thn hrun fun ws s4 h4 => ?_))
      obtain ⟨wv, H1, I4, rw4, ea1, hz, q4⟩ := h4
      have pin4 := (I4.pin _ (List.mem_append_right _ (List.mem_singleton.mpr rfl))).1
      refine ⟨pin4, ?_⟩
      obtain ⟨t4, hx4⟩ := exo_at I4.hok ea1
      obtain ⟨nm, qq, N', bs, bm, sn, sub, ab, col, dd, k0, k1, k2, k3, k5, hC, hbm⟩ := oex.cls
      obtain ⟨hp, g4, d4, tk4, os4⟩ := s4
      refine call_mw (I4.kIn _ _ hC) hx4 pin4 (by show ws.length ≤ sizeLine; rw [← rw4.length, sizeLine_eq]; omega) fun h' t2 k hx => ?_
      have J0 : Inv X [] (L2.start N (.ref a :: vt)) H1 ⟨hp, g4, d4, tk4, os4⟩ := I4.pins_of fun p hp => absurd hp List.not_mem_nil
      have J := J0.write (t' := tk4) (x := a) (e := a) (o := exo a C none) (by rw [ea1]; exact True.intro) (.inl rfl) k ⟨_, hx⟩ (exo_ok hx)
      have eu : upd H1 a (exo a C none) = H1 := by
        funext b
        by_cases hb : b = a
        · rw [hb, upd_same, ea1]
        · rw [upd_ne hb]
      rw [eu] at J
      exact wpAt_of_wpAny (restRun _ _ J q4)
    · -- a def of one's own
      obtain ⟨of, hof, hofc⟩ : ∃ of, h2.get? f2 = some of ∧ of.cls = .type "function" := by
        have ht' : (K.lookup f2).map (·.cls) = some (.type "function") := hty2
        cases z : K.lookup f2 with
        | none =>
          rw [z] at ht'; cases ht'
        | some of => rw [z] at ht'; exact ⟨of, iB.kIn _ _ z, Option.some.inj ht'⟩
      refine PySem.ks_wpAny_getMethod_super hso hno hmro rfl iB.kIn T' hof hofc hxC (by decide) ?_
      have iC := pin_new (t' := s.toks + (((("self" : Str) :: pr).zip (.ref a :: ur)).length) + 1) iB (o := PySem.W.methodObj (.ref f2) (.ref a)) (fun v z => by cases z) rfl
      show wpAny (model P w) X.A (callWith p3 (.ref h2.objs.size) [] (backTo p3 (starEach (e :: es) X.env)) []) _ _ _
      have hrun := pa.run p3 _ _ _ H _ iC hq
      change wpAny (model P w) X.A (spliced (backTo p3 (starEach (e :: es) X.env))) _ _ _ at hrun
      rw [he] at hrun ⊢
      refine PySem.W.callWith_of (by show ((false || (backTo p3 (starEach es X.env)).any (·.1)) || false) = false; rw [hpn]; rfl) (PySem.W.keeps_M (self := .ref a) hfn2) (Calls.evalArgs_plain (thn hrun fun ws s4 h4 => ?_))
      obtain ⟨wv, H1, I4, rw4, q4⟩ := h4
      have pin4 := (I4.pin _ (List.mem_append_right _ (List.mem_singleton.mpr rfl))).1
      refine ⟨⟨pin4, I4.kIn⟩, ?_⟩
      show wpAny (model P w) X.A (call (.ref h2.objs.size) ws) _ _ _
      refine wpAny_call (PySem.W.method_call pin4 ?_)
      have J0 : Inv X [] (L2.start N (.ref a :: vt)) H1 s4 := I4.pins_of fun p hp => absurd hp List.not_mem_nil
      have r2 : Vals (.ref a :: wv) (.ref a :: ws) := .cons rfl rw4
      have hl2 : (Value.ref a :: ws).length = ps2.length := by rw [← r2.length]; exact F2.len _ _ _ _ q4
      have hb2' : BindsTo s4 fd2 ⟨.ref a :: ws, []⟩ (ps2.zip (.ref a :: ws)) := by
        have z := b2 s4 (.ref a :: ws) J0.kIn (by rw [List.append_nil]; exact hl2)
        rw [List.append_nil] at z
        exact z
      refine codeAny_mono (F2.run X.A X.stack s4 H1 _ (.ref a :: ws) (.ref a :: wv) _ _ (hr.deeper _) J0.env0 hb2' r2 q4) fun r5 s5 hq5 => ?_
      cases r5 with
      | error er => exact hq5.elim
      | ok fl =>
        cases fl with
        | ret uu =>
          obtain ⟨v, H2, I5, _, hv, q5⟩ := J0.after hq5
          exact wpAt_of_wpAny (restRun _ _ I5 q5)
        | next => exact hq5.elim
        | brk => exact hq5.elim
        | cont => exact hq5.elim
end
end Ws

/-! words kept by k (plain mathematics) -/
namespace Ws

/-- two words are kept by k -/
def kept : Nat → List Nat → List Nat → Prop
  | 0, _, _ => True
  | k + 1, v, w => (∀ a c b, v = a ++ c :: b → ∃ a' b', w = a' ++ c :: b' ∧ kept k a a' ∧ kept k b b') ∧
      (∀ a c b, w = a ++ c :: b → ∃ a' b', v = a' ++ c :: b' ∧ kept k a a' ∧ kept k b b')

theorem kept_refl : ∀ (k : Nat) (v : List Nat), kept k v v
  | 0, _ => trivial
  | k + 1, v => ⟨fun a c b e => ⟨a, b, e, kept_refl k a, kept_refl k b⟩, fun a c b e => ⟨a, b, e, kept_refl k a, kept_refl k b⟩⟩

theorem kept_symm : ∀ {k : Nat} {v w : List Nat}, kept k v w → kept k w v
  | 0, _, _, _ => trivial
  | _ + 1, _, _, h => ⟨h.2, h.1⟩

theorem kept_comm {k : Nat} {v w : List Nat} : kept k v w ↔ kept k w v := ⟨kept_symm, kept_symm⟩

theorem kept_trans : ∀ {k : Nat} {u v w : List Nat}, kept k u v → kept k v w → kept k u w
  | 0, _, _, _, _, _ => trivial
  | k + 1, u, v, w, h, g => by
    refine ⟨fun a c b e => ?_, fun a c b e => ?_⟩
    · obtain ⟨a1, b1, e1, p1, q1⟩ := h.1 a c b e
      obtain ⟨a2, b2, e2, p2, q2⟩ := g.1 a1 c b1 e1
      exact ⟨a2, b2, e2, kept_trans p1 p2, kept_trans q1 q2⟩
    · obtain ⟨a1, b1, e1, p1, q1⟩ := g.2 a c b e
      obtain ⟨a2, b2, e2, p2, q2⟩ := h.2 a1 c b1 e1
      exact ⟨a2, b2, e2, kept_trans p1 p2, kept_trans q1 q2⟩

theorem kept_less : ∀ {k : Nat} {v w : List Nat}, kept (k + 1) v w → kept k v w
  | 0, _, _, _ => trivial
  | k + 1, v, w, h => by
    refine ⟨fun a c b e => ?_, fun a c b e => ?_⟩
    · obtain ⟨a', b', e', p, q⟩ := h.1 a c b e
      exact ⟨a', b', e', kept_less p, kept_less q⟩
    · obtain ⟨a', b', e', p, q⟩ := h.2 a c b e
      exact ⟨a', b', e', kept_less p, kept_less q⟩

theorem kept_mono {j k : Nat} {v w : List Nat} (h : j ≤ k) (x : kept k v w) : kept j v w := by
  induction k with
  | zero => have : j = 0 := by omega
            subst this; exact x
  | succ k ih =>
    by_cases e : j = k + 1
    · subst e; exact x
    · exact ih (by omega) (kept_less x)

/-- a part of joined words -/
theorem split_append {v u a b : List Nat} {c : Nat} (e : v ++ u = a ++ c :: b) :
    (∃ b1, v = a ++ c :: b1 ∧ b = b1 ++ u) ∨ (∃ a1, a = v ++ a1 ∧ u = a1 ++ c :: b) := by
  rcases List.append_eq_append_iff.mp e with ⟨a1, e1, e2⟩ | ⟨a1, e1, e2⟩
  · exact .inr ⟨a1, e1, e2⟩
  · cases a1 with
    | nil =>
      refine .inr ⟨[], ?_, ?_⟩
      · simp at e1; simp [e1]
      · simpa using e2.symm
    | cons x a1 =>
      simp only [List.cons_append, List.cons.injEq] at e2
      obtain ⟨rfl, e2⟩ := e2
      exact .inl ⟨a1, e1, e2⟩

theorem kept_append : ∀ {k : Nat} {v w x y : List Nat}, kept k v w → kept k x y → kept k (v ++ x) (w ++ y)
  | 0, _, _, _, _, _, _ => trivial
  | k + 1, v, w, x, y, h, g => by
    have half : ∀ {v w x y : List Nat}, kept (k + 1) v w → kept (k + 1) x y → ∀ a c b, v ++ x = a ++ c :: b →
        ∃ a' b', w ++ y = a' ++ c :: b' ∧ kept k a a' ∧ kept k b b' := by
      intro v w x y h g a c b e
      rcases split_append e with ⟨b1, e1, e2⟩ | ⟨a1, e1, e2⟩
      · obtain ⟨a', b', e', p, q⟩ := h.1 a c b1 e1
        refine ⟨a', b' ++ y, by rw [e']; simp, p, ?_⟩
        rw [e2]
        exact kept_append q (kept_less g)
      · obtain ⟨a', b', e', p, q⟩ := g.1 a1 c b e2
        refine ⟨w ++ a', b', by rw [e']; simp, ?_, q⟩
        rw [e1]
        exact kept_append (kept_less h) p
    exact ⟨half h g, half (kept_symm h) (kept_symm g)⟩

theorem kept_rev : ∀ {k : Nat} {v w : List Nat}, kept k v w → kept k v.reverse w.reverse
  | 0, _, _, _ => trivial
  | k + 1, v, w, h => by
    have half : ∀ {v w : List Nat}, kept (k + 1) v w → ∀ a c b, v.reverse = a ++ c :: b →
        ∃ a' b', w.reverse = a' ++ c :: b' ∧ kept k a a' ∧ kept k b b' := by
      intro v w h a c b e
      have e1 : v = b.reverse ++ c :: a.reverse := by
        have := congrArg List.reverse e
        simpa using this
      obtain ⟨a', b', e', p, q⟩ := h.1 _ _ _ e1
      refine ⟨b'.reverse, a'.reverse, by rw [e']; simp, ?_, ?_⟩
      · have := kept_rev q
        simpa using this
      · have := kept_rev p
        simpa using this
    exact ⟨half h, half (kept_symm h)⟩

theorem kept_rev_iff {k : Nat} {v w : List Nat} : kept k v.reverse w.reverse ↔ kept k v w :=
  ⟨fun h => by have := kept_rev h; simpa using this, kept_rev⟩

theorem kept_nil {k : Nat} {w : List Nat} (h : kept (k + 1) [] w) : w = [] := by
  cases w with
  | nil => rfl
  | cons c w =>
    obtain ⟨a', b', e, _⟩ := h.2 [] c w rfl
    simp at e

/-- kept by more rounds than letters: the same word -/
theorem kept_eq : ∀ {v w : List Nat}, kept (v.length + 1) v w → v = w
  | [], w, h => (kept_nil h).symm
  | c :: v, w, h => by
    obtain ⟨a', b', e, p, q⟩ := h.1 [] c v rfl
    have e1 : a' = [] := kept_nil (k := v.length) p
    subst e1
    rw [e, kept_eq q]
    rfl

/-! ### by places -/
theorem kept_at {k : Nat} {v w : List Nat} :
    (∀ a c b, v = a ++ c :: b → ∃ a' b', w = a' ++ c :: b' ∧ kept k a a' ∧ kept k b b') ↔
      ∀ i, (hi : i < v.length) → ∃ j, ∃ (hj : j < w.length), w[j] = v[i] ∧ kept k (v.take i) (w.take j) ∧ kept k (v.drop (i + 1)) (w.drop (j + 1)) := by
  constructor
  · intro h i hi
    have e : v = v.take i ++ v[i] :: v.drop (i + 1) := by simp
    obtain ⟨a', b', e', p, q⟩ := h _ _ _ e
    have la : a'.length < w.length := by rw [e']; simp
    refine ⟨a'.length, la, ?_, ?_, ?_⟩
    · simp only [e', List.getElem_append_right (Nat.le_refl _), Nat.sub_self, List.getElem_cons_zero]
    · rw [e']; simpa using p
    · rw [e']
      have : (a' ++ v[i] :: b').drop (a'.length + 1) = b' := by
        rw [List.drop_append]; simp
      rw [this]; exact q
  · intro h a c b e
    have la : a.length < v.length := by rw [e]; simp
    obtain ⟨j, hj, ec, p, q⟩ := h a.length la
    have ec2 : v[a.length] = c := by
      simp only [e, List.getElem_append_right (Nat.le_refl _), Nat.sub_self, List.getElem_cons_zero]
    have ta : v.take a.length = a := by rw [e]; simp
    have db : v.drop (a.length + 1) = b := by
      rw [e, List.drop_append]; simp
    rw [ta] at p
    rw [db] at q
    refine ⟨w.take j, w.drop (j + 1), ?_, p, q⟩
    rw [← ec2, ← ec]
    simp

/-- by places, once: what one word's places ask -/
def halfAt (k : Nat) (v w : List Nat) : Prop :=
  ∀ i, (hi : i < v.length) → ∃ j, ∃ (hj : j < w.length), w[j] = v[i] ∧ kept k (v.take i) (w.take j) ∧ kept k (v.drop (i + 1)) (w.drop (j + 1))
theorem kept_succ {k : Nat} {v w : List Nat} : kept (k + 1) v w ↔ halfAt k v w ∧ halfAt k w v := by
  unfold halfAt
  rw [← kept_at, ← kept_at]
  rfl
end Ws

namespace Ws
open PySem PySem.Spec PyProof.Rows L2
abbrev S := SX.S

/-! ### defs of the module that may be called by their names -/
structure Def (K : PySem.W.Frag) (mg : Str → Option Value) (x : Str) (st : Stmt) (f : Addr) (fd : FuncData) (ps : List Str) : Prop where
  fn : L2.Fun K x x st f fd
  mgf : mg x = some (.ref f)
  b : Binds K fd ps []
structure Cal (P : Program) (w : World) (K : PySem.W.Frag) (mg : Str → Option Value) (base : Heap) (k : Nat) (x : Str) (sp : Sp) : Prop where
  ex : ∃ (f : Addr) (fd : FuncData) (ps : List Str), FnOk P w K mg base CX0 k f fd ps sp ∧ mg x = some (.ref f) ∧
    PySem.W.keepIn K (.ref f) = true ∧ Binds K fd ps []
/-- .. that may raise -/
structure CalX (P : Program) (w : World) (K : PySem.W.Frag) (mg : Str → Option Value) (base : Heap) (k : Nat) (x : Str) (sp : Sp) : Prop where
  ex : ∃ (f : Addr) (fd : FuncData) (ps : List Str), FnOk P w K mg base (L2.CX P w) k f fd ps sp ∧ mg x = some (.ref f) ∧
    PySem.W.keepIn K (.ref f) = true ∧ Binds K fd ps []
/-- .. that may show values -/
structure CalG (P : Program) (w : World) (K : PySem.W.Frag) (mg : Str → Option Value) (base : Heap) (k : Nat) (x : Str) (sp : Sp) : Prop where
  ex : ∃ (f : Addr) (fd : FuncData) (ps : List Str), FnG P w K mg base CX0 k f fd ps sp ∧ mg x = some (.ref f) ∧
    PySem.W.keepIn K (.ref f) = true ∧ Binds K fd ps []
section
variable {P : Program} {w : World} {K : PySem.W.Frag} {mg : Str → Option Value} {base : Heap} {k : Nat} {x : Str} {sp : Sp}
  {st : Stmt} {f : Addr} {fd : FuncData} {ps : List Str}
theorem Def.cal (D : Def K mg x st f fd ps) (F : FnOk P w K mg base CX0 k f fd ps sp) : Cal P w K mg base k x sp := ⟨f, fd, ps, F, D.mgf, D.fn.kp, D.b⟩
theorem Def.calX (D : Def K mg x st f fd ps) (F : FnOk P w K mg base (L2.CX P w) k f fd ps sp) : CalX P w K mg base k x sp := ⟨f, fd, ps, F, D.mgf, D.fn.kp, D.b⟩
theorem Def.calG (D : Def K mg x st f fd ps) (F : FnG P w K mg base CX0 k f fd ps sp) : CalG P w K mg base k x sp := ⟨f, fd, ps, F, D.mgf, D.fn.kp, D.b⟩
end
section
variable {X : Cx} {k j : Nat} {x : Str} {sp : Sp} {p pos : Pos} {e : Expr} {es : List Expr} {t : TA}
theorem pe_c (c : Cal X.prog X.w X.K X.mg X.base k x sp) (hr : Room j X.A) (hk : k ≤ j) (hg : Gl X x) (ha : PA X (e :: es) t)
    (hdb : (x == ("__debug__" : Str)) = false := by decide)
        (he : starEach (e :: es) X.env = (false, eval e X.env) :: starEach es X.env := by rfl)
    (hpl : (backTo pos (starEach es X.env)).any (·.1) = false := by rfl) : PE X (.Call (.Name x p) (e :: es) [] pos) (tCall sp [] E0 t) := by
  obtain ⟨f, fd, ps, F, hm, kp, b⟩ := c.ex
  exact pe_call F (hr.mono hk) hg hm kp b .nil pass0 ha hdb he hpl
/-- of one that may raise, where it does not -/
theorem pe_cX (c : CalX X.prog X.w X.K X.mg X.base k x sp) (hr : Room j X.A) (hk : k ≤ j) (hg : Gl X x) (ha : PA X (e :: es) t)
    (hdb : (x == ("__debug__" : Str)) = false := by decide)
        (he : starEach (e :: es) X.env = (false, eval e X.env) :: starEach es X.env := by rfl)
    (hpl : (backTo pos (starEach es X.env)).any (·.1) = false := by rfl) : PE X (.Call (.Name x p) (e :: es) [] pos) (tCall sp [] E0 t) := by
  obtain ⟨f, fd, ps, F, hm, kp, b⟩ := c.ex
  exact pe_call F (hr.mono hk) hg hm kp b .nil passL ha hdb he hpl
/-- .. where it may, in a def that may -/
theorem pe_cE {E : XK} (c : CalX X.prog X.w X.K X.mg X.base k x sp) (hx : Passes (L2.CX X.prog X.w) X E) (hr : Room j X.A) (hk : k ≤ j) (hg : Gl X x) (ha : PA X (e :: es) t)
    (hdb : (x == ("__debug__" : Str)) = false := by decide)
        (he : starEach (e :: es) X.env = (false, eval e X.env) :: starEach es X.env := by rfl)
    (hpl : (backTo pos (starEach es X.env)).any (·.1) = false := by rfl) : PE X (.Call (.Name x p) (e :: es) [] pos) (tCall sp [] E t) := by
  obtain ⟨f, fd, ps, F, hm, kp, b⟩ := c.ex
  exact pe_call F (hr.mono hk) hg hm kp b .nil hx ha hdb he hpl
/-- .. at a call in a try -/
theorem pe_cS {W : WX} (c : CalX X.prog X.w X.K X.mg X.base k x sp) (tk : Takes X W) (hr : Room j X.A) (hk : k ≤ j) (hg : Gl X x) (ha : PA X (e :: es) t)
    (hdb : (x == ("__debug__" : Str)) = false := by decide)
        (he : starEach (e :: es) X.env = (false, eval e X.env) :: starEach es X.env := by rfl)
    (hpl : (backTo pos (starEach es X.env)).any (·.1) = false := by rfl) : PE X (.Call (.Name x p) (e :: es) [] pos) (tCallS sp (WE W) t) := by
  obtain ⟨f, fd, ps, F, hm, kp, b⟩ := c.ex
  exact pe_callS F (hr.mono hk) hg hm kp b (fun σ => passAt tk σ) ha hdb he hpl
theorem pe_cG (c : CalG X.prog X.w X.K X.mg X.base k x sp) (hr : Room j X.A) (hk : k ≤ j) (hgd : X.A.guards = some []) (hg : Gl X x) (ha : PA X (e :: es) t)
    (hdb : (x == ("__debug__" : Str)) = false := by decide)
        (he : starEach (e :: es) X.env = (false, eval e X.env) :: starEach es X.env := by rfl)
    (hpl : (backTo pos (starEach es X.env)).any (·.1) = false := by rfl) : PE X (.Call (.Name x p) (e :: es) [] pos) (fun σ H Q => t σ H fun vs H1 => sp vs H1 Q E0) := by
  obtain ⟨f, fd, ps, F, hm, kp, b⟩ := c.ex
  exact pe_callG ⟨F.len, fun A outer s H args us vs Q E hr => F.run A outer s H args us vs Q E (hr.mono hk)⟩ hr hgd hg hm kp b ha hdb he hpl
end
/-- a value called as a text: the comparisons of the hand layer, as values and tests, of two ifs -/
theorem iteD {c A B : Prop} {d : Bool} [Decidable c] (hd : d = decide c) (h1 : c → A) (h2 : ¬ c → B) : if d = true then A else B := by
  subst hd
  by_cases h : c
  · rw [decide_eq_true h]; exact iteT (h1 h)
  · rw [decide_eq_false h]; exact iteF (h2 h)
theorem iteV {A B : Prop} {x y : V} (h1 : x = y → A) (h2 : x ≠ y → B) : if decide (x = y) = true then A else B := by
  by_cases h : x = y
  · rw [decide_eq_true h]; exact iteT (h1 h)
  · rw [decide_eq_false h]; exact iteF (h2 h)
theorem iteB {A B : Prop} {d : Bool} (h1 : d = true → A) (h2 : d = false → B) : if d = true then A else B := by
  cases d with
  | true => exact iteT (h1 rfl)
  | false => exact iteF (h2 rfl)

/-! ### heaps that grow; the object at p may change -/
def Ext (p : Addr) (H H' : Hp) : Prop := ∀ b o, b ≠ p → H b = some o → H' b = some o
theorem Ext.refl {p : Addr} (H : Hp) : Ext p H H := fun _ _ _ h => h
theorem Ext.trans {p : Addr} {H H1 H2 : Hp} (a : Ext p H H1) (b : Ext p H1 H2) : Ext p H H2 := fun c o n h => b c o n (a c o n h)
theorem Ext.of {p : Addr} {H H' : Hp} (s : Same H H') : Ext p H H' := fun b o _ h => s b o h
theorem Ext.upd {p : Addr} {H : Hp} {o : HO} : Ext p H (upd H p o) := fun b u n h => by rw [upd_ne n]; exact h
theorem Ext.new {p l : Addr} {H : Hp} {o : HO} (h : H l = none) : Ext p H (L2.upd H l o) := fun b u _ e => by rw [upd_ne (ne_of_none e h)]; exact e
theorem Same.new {l : Addr} {H : Hp} {o : HO} (h : H l = none) : Same H (upd H l o) := fun b u e => by rw [upd_ne (ne_of_none e h)]; exact e
theorem Ext.seq {p : Addr} {K : PySem.W.Frag} {H H' : Hp} {a : Addr} {xs : List V} (e : Ext p H H') (n : a ≠ p) (h : SqL K H a xs) : SqL K H' a xs := by
  rcases
    h with (h | ⟨o, h⟩) | h
  · exact .inl (.inl (e _ _ n h))
  · exact .inl (.inr ⟨o, e _ _ n h⟩)
  · exact .inr h
theorem Same.seqT {K : PySem.W.Frag} {H H' : Hp} {a : Addr} {xs : List V} (e : Same H H') (h : SqT K H a xs) : SqT K H' a xs := by
  rcases
    h with (h | ⟨o, h⟩) | h
  · exact .inl (.inl (e _ _ h))
  · exact
      .inl (.inr ⟨o, e _ _ h⟩)
  · exact .inr h
end Ws

/-! rules that the hand layer lacks: text[::-1], zip of two texts, setdefault with a tuple key -/
namespace Ws
open PySem PySem.Spec PyProof.Rows L2

/-! ### text[::-1] -/
theorem strAll (n : Nat) : Builtin.Str.strSliceIndices none none (-1) n = (List.range n).reverse := by
  unfold
    Builtin.Str.strSliceIndices
  show sliceRange ((n : Int) - 1) (-1) (-1) = _
  rw [PySem.W.krv_sliceRange, PySem.W.krv_range]
theorem strRev (z : Str) : ((Builtin.Str.strSliceIndices none none (-1) z.length).filterMap (z.cps[·]?)).toArray = z.cps.toList.reverse.toArray := by
  rw [strAll, List.filterMap_reverse]
  exact congrArg (fun l => (List.reverse l).toArray) (PySem.W.krv_all z.cps)
def tRevS (te : TE) : TE := fun σ H Q => te σ H fun x HA => ∃ l : List Nat, x = .str (S l) ∧ l.length ≤ sizeLine ∧ Q (.str (S l.reverse)) HA
theorem pe_revS {X : Cx} {e : Expr} {te : TE} {k : Nat} {p1 p2 p3 pos : Pos} (he : PE X e te) :
    PE X (.Subscript e (.Slice none none (some (.UnaryOp .USub (.Constant (.int 1) k p1) p2)) p3) pos) (tRevS te) := by
  refine ⟨fun pz s σ H Q I h => ?_⟩
  refine Subscript_ (thn (he.run pz s σ H _ I h) fun v sA ⟨x, HA, iA, r1, q1⟩ => ?_)
  obtain ⟨z, rfl, hz, q⟩ := q1
  obtain ⟨t, rfl⟩ := r1
  have hst :
    PO X (some (.UnaryOp .USub (.Constant (.int 1) k p1) p2)) (tPart (tUn (rU fun i => .int (-i)) (tC (.int 1)))) := po_some (pe_un un_neg pe_int)
  refine wpAny_Slice (thn (po_none.run pz sA σ HA (fun o HB => o = none ∧ HB = HA) iA ⟨rfl, rfl⟩) fun vl sB ⟨l, HB, iB, pl, el, e2⟩ => ?_)
  subst el e2
  refine thn (po_none.run pz sB σ HB (fun o HC => o = none ∧ HC = HB) iB ⟨rfl, rfl⟩) fun vu sC ⟨u, HC, iC, pu, eu, e3⟩ => ?_
  subst eu e3
  refine thn (hst.run pz sC σ HC (fun o HD => o = some (-1) ∧ HD = HC) iC ⟨1, rfl, -1, rfl, rfl, rfl⟩) fun vs sD ⟨o, HD, iD, ps, eo, e4⟩ => ?_
  subst eo e4
  have iE : Inv X pz σ HD { sD with heap := sD.heap.push { cls := .type "slice", data := .fields #[vl, vu, vs] } } := iD.kept (t' := sD.toks) fun b ob q => Heap.get?_push_of_some _ q
  cases pl
  cases pu
  cases ps with
  | int i ti =>
    refine tail_any (ops := [.str (S z) t, .ref sD.heap.objs.size]) (typeIs_str _ _ _) F.slot_str_getitem.lookup ?_ (by with_unfolding_all rfl)
    refine wpAny_getItem_str_slice (l := none) (u := none) (st := some (-1, ti)) ⟨_, Heap.get?_push_size _ rfl, rfl, rfl⟩ rfl ?_
    show Made.post (Made.str ⟨((Builtin.Str.strSliceIndices none none (-1) (S z).length).filterMap ((S z).cps[·]?)).toArray⟩) (EP X pz σ Q) _
    rw [strRev]
    have ez : (S z).cps.toList.reverse = z.reverse := by simp [S, SX.S]
    rw [ez]
    exact ⟨by show (z.reverse.toArray).size ≤ sizeLine; simpa using hz, .str (S z.reverse), HD, iE.tok _, ⟨_, rfl⟩, q⟩

/-! ### zip of two texts -/
def Itzs (x y : Str) : It := ⟨fun i _ => i < min x.cps.size y.cps.size,
  fun i H v H' => ∃ (T : Addr) (c d : Nat), v = .ref T ∧ H T = none ∧ H' = upd H T (.tup [.str ⟨#[c]⟩, .str ⟨#[d]⟩]) ∧ x.cps[i]? = some c ∧ y.cps[i]? = some d,
  fun i _ => min x.cps.size y.cps.size ≤ i⟩
theorem drawsStr {prog : Program} {w : World} {A : Around} (hh : A.handled = none) (it : Addr) (x : Str) (t : Tok) :
    Draws prog w A it [it] x.cps.size (fun i v => ∃ c u, x.cps[i]? = some c ∧ v = .str ⟨#[c]⟩ u)
        (fun i h => h.IsStrIter it (strIterType x) x t i) := by
  unfold strIterType
  by_cases ha : x.cps.all (· < 128) = true
  · rw [if_pos ha]; exact Draws.strAscii hh it x t
  · rw [if_neg ha]; exact Draws.strWide hh it x t
theorem turn_zipS {P : Program} {w : World} {K : PySem.W.Frag} {elts : List Expr} {kk : Nat} {tpos : Pos} {x y : Str} {t1 t2 : Tok} {z TI TO i1 i2 : Addr}
    (D : ZipSep2 z TI TO i1 i2 [i1] [i2]) : Turn P w K (.Tuple elts kk tpos) (Itzs x y) [z, TI, TO, i1, i2] z
      (fun i h => i ≤ min x.cps.size y.cps.size ∧ IsZip h z TI TO .none ∧ IsTupOf2 h TI (.ref i1) (.ref i2) ∧ (∃ a b, IsTupOf2 h TO a b) ∧
        h.IsStrIter i1 (strIterType x) x t1 i ∧ h.IsStrIter i2 (strIterType y) y t2 i) where
  mem := by simp
  obj := fun i h st c hc => by
    obtain ⟨_, hz, hTI, ⟨a, b, hTO⟩, ⟨o1, e1, _, d1⟩, ⟨o2, e2, _, d2⟩⟩ := st
    have eZ : c = z ∨ c = TI ∨ c = TO ∨ c = i1 ∨ c = i2 := by simpa using hc
    rcases eZ with q | q | q | q | q
    · rw [q]
      exact ⟨_, hz, fun v q => nomatch q⟩
    · rw [q]
      exact ⟨_, hTI, fun v q => nomatch q⟩
    · rw [q]
      exact ⟨_, hTO, fun v q => nomatch q⟩
    · rw [q]
      exact ⟨o1, e1, fun v q => by rw [d1] at q; cases q⟩
    · rw [q]
      exact ⟨o2, e2, fun v q => by rw [d2] at q; cases q⟩
  keep := fun i h h' st k => by
    obtain ⟨hi, hz, hTI, ⟨a, b, hTO⟩, ⟨o1, e1, r1⟩, ⟨o2, e2, r2⟩⟩ := st
    exact ⟨hi, k z (by simp) _ hz, k TI (by simp) _ hTI, ⟨a, b, k TO (by simp) _ hTO⟩, ⟨o1, k i1 (by simp) _ e1, r1⟩, ⟨o2, k i2 (by simp) _ e2, r2⟩⟩
  item := by
    intro X hP hw hK hc i pz s σ H E I hf st hg
    subst hP hw hK
    obtain ⟨_, hz, hTI, ⟨a, b, hTO⟩, h1, h2⟩ := st
    have hg' : i < min x.cps.size y.cps.size := hg
    have g1 : i < x.cps.size := by omega
    have g2 : i < y.cps.size := by omega
    have hh : X.A.in1.handled = none := I.ok.hd hc
    have zlt : z < s.heap.objs.size := Heap.lt_size hz
    refine wpAny_pyNext_zipD2_item D (drawsStr hh i1 x t1) (drawsStr hh i2 y t2) hz hTI hTO h1 h2 g1 g2 fun v1 v2 h' tk p1 p2 hz' hTO' st1 st2 hT hsz hk => ?_
    obtain ⟨c, u, hcx, rfl⟩ := p1
    obtain ⟨d, u2, hdy, rfl⟩ := p2
    refine ⟨_, rfl, wpAny_letOwnedTupleGo_zip (s := { s with heap := h', toks := tk }) hz' fun h'' z'' sb => ?_⟩
    have hT2 : h''.get? s.heap.objs.size = some { cls := .type "tuple", data := .seq #[.str ⟨#[c]⟩ u, .str ⟨#[d]⟩ u2] } := (sb.2 _ (Nat.ne_of_gt zlt)).trans hT
    have new : ObjOk X.prog X.w (upd H s.heap.objs.size (.tup [.str ⟨#[c]⟩, .str ⟨#[d]⟩])) h'' s.heap.objs.size (.tup [.str ⟨#[c]⟩, .str ⟨#[d]⟩]) :=
      ⟨by show 2 ≤ sizeLine; decide, [.str ⟨#[c]⟩ u, .str ⟨#[d]⟩ u2], .cons ⟨_, rfl⟩ (.cons ⟨_, rfl⟩ .nil), ⟨_, hT2, rfl, _, rfl⟩⟩
    have iA : Inv X pz σ (upd H s.heap.objs.size (.tup [.str ⟨#[c]⟩, .str ⟨#[d]⟩])) { s with heap := h'', toks := tk } :=
      I.turnedNew (t' := tk) (ch := [z, TI, TO, i1, i2]) (fun c o hb q => (sb.2 c (fun q' => hb (by simp [q']))).trans (hk c o (fun q' => hb (by simp [q'])) (fun q' => hb (by simp [q'])) (fun q' => hb (by simp [q'])) (fun q' => hb (by simp [q'])) q)) hf (Nat.le_refl _) new
    have nTz : TI ≠ z := D.TIz
    refine ⟨.ref s.heap.objs.size, _, iA, rfl, ⟨_, c, d, rfl, I.hok.fresh (Nat.le_refl _), rfl, hcx, hdy⟩, ⟨by omega, z'', ?_, ⟨_, _, (sb.2 _ D.TOz).trans hTO'⟩, ?_, ?_⟩, fun c hcm => ?_⟩
    · exact
        (sb.2 _ D.TIz).trans (hk _ _ D.TIz D.TITO D.TIi1 D.TIi2 hTI)
    · obtain ⟨o, e, r⟩ := st1
      exact ⟨o, (sb.2 _ D.zi1.symm).trans e, r⟩
    · obtain ⟨o, e, r⟩ := st2
      exact ⟨o, (sb.2 _ D.zi2.symm).trans e, r⟩
    · have hlt :
        c < s.heap.objs.size := by
        have eZ : c = z ∨ c = TI ∨ c = TO ∨ c = i1 ∨ c = i2 := by simpa using hcm
        rcases eZ with q | q | q | q | q
        · rw [q]; exact zlt
        · rw [q]
          exact Heap.lt_size hTI
        · rw [q]
          exact Heap.lt_size hTO
        · rw [q]
          obtain ⟨_, e1, _⟩ := h1; exact Heap.lt_size e1
        · rw [q]
          obtain ⟨_, e2, _⟩ := h2; exact Heap.lt_size e2
      rw
        [upd_ne (Nat.ne_of_lt hlt)]
      exact (hf c hcm).1
  done := by
    intro X hP hw hK hc i pz s σ H E I hf st hg
    subst hP hw hK
    obtain ⟨hi, hz, hTI, ⟨a, b, hTO⟩, h1, h2⟩ := st
    have hg' : min x.cps.size y.cps.size ≤ i := hg
    have hh : X.A.in1.handled = none := I.ok.hd hc
    exact wpAny_pyNext_zipD2_end D (drawsStr hh i1 x t1) (drawsStr hh i2 y t2) hz hTI hTO h1 h2 (by omega) (by omega) (by omega) fun h' tk hk => ⟨rfl, I.turnedL (t' := tk) (ch := [z, TI, TO, i1, i2]) (fun c o hb q =>
      hk c o (fun q' => hb (by simp [q']))
          (fun q' => hb (by simp [q'])) (fun q' => hb (by simp [q'])) (fun q' => hb (by simp [q'])) q) hf⟩
  self := fun A i s Q E st h => wpAny_pyIter_zip st.2.1 h
def iZipS (ta : TA) : TI := fun σ H R => ta σ H fun vs HA => ∃ x y, vs = [.str x, .str y] ∧ R (Itzs x y) HA
theorem pi_zipS {X : Cx} {e e2 : Expr} {ta : TA} {p pos tpos : Pos} {elts : List Expr} {kk : Nat} (hg : Gl X "zip") (hm : X.mg "zip" = none) (ha : PA X [e, e2] ta)
    (hs : starEach [e, e2] X.env = (false, eval e X.env) :: starEach [e2] X.env := by rfl)
        (hpl : (backTo pos (starEach [e2] X.env)).any (·.1) = false := by rfl) :
    PI X (.Tuple elts kk tpos) (.Call (.Name "zip" p) [e, e2] [] pos) (iZipS ta) := by
  refine ⟨fun pz s σ H R I h => ?_⟩
  refine Call_ (ld_blt I hg hm PyProof.Rows.boot_zip (PyProof.Rows.callWith_type1 (thn (ha.run pos pz s σ H _ I h) fun us sA ⟨vs, HA, iA, r1, q1⟩ => ?_) hs hpl))
  obtain ⟨x, y, rfl, q⟩ := q1
  cases r1 with
  | cons r rr =>
    cases rr with
    | cons r' rr =>
      cases rr
      obtain ⟨t, rfl⟩ := r
      obtain ⟨t', rfl⟩ := r'
      refine zip_begins2 (begins_text x t) (begins_text y t') trivial trivial fun h' hz hTI hTO g1 g2 hsz hk => wpAny_pyIter_zip hz ?_
      have iB : Inv X pz σ HA { sA with heap := h' } := iA.kept (t' := sA.toks) hk
      refine ⟨sA.heap.objs.size + 4, [sA.heap.objs.size + 4, sA.heap.objs.size + 2, sA.heap.objs.size + 3, sA.heap.objs.size, sA.heap.objs.size + 1], _, _, HA, rfl, iB,
        turn_zipS (zip_sep2 (fp1 := []) (fp2 := []) (fun _ z => nomatch z) fun _ z => nomatch z), ⟨Nat.zero_le _, hz, hTI, ⟨_, _, hTO⟩, ⟨_, g1, rfl, rfl⟩, ⟨_, g2, rfl, rfl⟩⟩, fun c hcm => ?_, q⟩
      have eZ : c = sA.heap.objs.size + 4 ∨ c = sA.heap.objs.size + 2 ∨ c = sA.heap.objs.size + 3 ∨ c = sA.heap.objs.size ∨ c = sA.heap.objs.size + 1 := by simpa using hcm
      have lo : sA.heap.objs.size ≤ c := by
        rcases eZ with z | z | z | z | z
        · rw [z]
          exact Nat.le_add_right _ _
        · rw [z]
          exact Nat.le_add_right _ _
        · rw [z]
          exact Nat.le_add_right _ _
        · rw [z]; exact Nat.le_refl _
        · rw [z]
          exact Nat.le_add_right _ _
      exact iA.fpOk lo (iA.hok.fresh lo)
theorem walk_zipS {x y : Str} : Walk (Itzs x y) (min x.cps.size y.cps.size) (fun _ => True)
    (fun i H v H' => ∃ (T : Addr) (c d : Nat), v = .ref T ∧ H T = none ∧ H' = upd H T (.tup [.str ⟨#[c]⟩, .str ⟨#[d]⟩]) ∧ x.cps[i]? = some c ∧ y.cps[i]? = some d) :=
  ⟨fun i H h _ => h, fun H _ => Nat.le_refl _, fun i H x H' _ _ y => y⟩

/-! ### d.setdefault(k, v), k a tuple -/
def tDSetdT (td ty tx : TE) : TE := fun σ H Q => td σ H fun x HA => ∃ a, x = .ref a ∧ IsD HA a ∧ ty σ HA fun y HB => tx σ HB fun z HC =>
  ∃ (kvs : List (List Key × V)) (k : List Key) (b : Addr), HC a = some (.dT kvs) ∧ y = .ref b ∧ HC b = some (.tup (k.map kV)) ∧ kvs.length < sizeLine ∧
    (∀ v, valV kvs k = some v → Q v HC) ∧ (valV kvs k = none → Q z (upd HC a (.dT (putK kvs k z))))
theorem dt_new {P : Program} {w : World} {H : Hp} {h' : Heap} {a : Addr} {kvs : List (List Key × V)} {xs : List (List Key × Addr × Value)} (z : kvs.length ≤ sizeLine) (hd : (a == sysModules) = false)
    (rel : KT (upd H a (.dT kvs)) kvs xs) (dd : h'.DictOfH (tupleKind (mixKind P w)) a xs) : ObjOk P w (upd H a (.dT kvs)) h' a (.dT kvs) := by
  obtain ⟨o, es, ep, h1, h2, h3, h4, _, h5⟩ := dd
  exact ⟨z, hd, xs, rel, o, es, ep, h1, h2, h3, h4, h5⟩
theorem pe_dsetdT {X : Cx} {o e f : Expr} {td ty tx : TE} {apos cpos : Pos} (hu : X.A.units + 1 < cLine) (ho : PE X o td) (he : PE X e ty) (hf : PE X f tx) (m : M2 X o "setdefault" apos e f cpos) :
    PE X (.Call (.Attribute o "setdefault" apos) [e, f] [] cpos) (tDSetdT td ty tx) := by
  refine ⟨fun pz s σ H Q I h => ?_⟩
  refine wpAny_Call_method m.base m.few m.line PySem.F.plainAttrs_dict PySem.F.slot_dict_setdefault PySem.F.type_dict_setdefault (thn (ho.run pz s σ H _ I h) fun u sA ⟨x, HA, iA, rx, a, ex, d, q1⟩ => ?_)
  subst ex
  obtain rfl : u = Value.ref a := rx
  obtain ⟨t1, t2, _⟩ := isD_at iA d
  refine ⟨t1, t2, ?_⟩
  rw [m.trees]
  refine Calls.callWith_builtin rfl (Calls.evalArgs_plain (Calls.spliced_cons (thn (he.run pz sA σ HA _ iA q1) fun iv sB ⟨y, HB, iB, ry, q2⟩ =>
    Calls.spliced_cons (thn (hf.run pz sB σ HB _ iB q2) fun fv sC ⟨z, HC, iC, rz, kvs, k, b, ea, ey, eb, hl, q3, q4⟩ => Calls.spliced_nil ?_))))
  subst ey
  cases ry
  obtain ⟨z0, hd, xs, rel, dd⟩ := dt_of iC.hok ea
  have hz : xs.length ≤ sizeLine := by
    rw [← rel.length]
    exact z0
  refine call_setdefault_heap (knd := tupleKind (mixKind X.prog X.w)) (tupleKind_room_in1 hu) (key_of iC.hok eb) hd dd (fun p hp => ?_) (fun hn h' dd' hs => ?_) hz
  · have q := rel.val k
    rw [hp] at q
    cases q0 : valV kvs k with
    | none => rw [q0] at q; exact (show False from q).elim
    | some v0 =>
      rw [q0] at q
      exact ⟨v0, HC, iC.tok _, q, q3 v0 q0⟩
  · have q := rel.val k
    rw [hn] at q
    cases q0 : valV kvs k with
    | some v0 => rw [q0] at q; exact (show False from q).elim
    | none =>
      have hl2 : (putK kvs k z).length ≤ sizeLine := by
        have := length_putK kvs k z
        omega
      have he' : ∃ q, h'.get? a = some q := let ⟨q, _, _, hq, _⟩ := dd'; ⟨q, hq⟩
      have nt : ∀ c ys, HC c = some (.tup ys) → upd HC a (.dT (putK kvs k z)) c = some (.tup ys) := fun c ys e => by
        rw [upd_ne (ne_of e ea fun z => by cases z)]
        exact e
      exact ⟨z, _, d_write iC (by rw [ea]; exact True.intro) hs he' (dt_new hl2 hd ((rel.put k eb rz).keeps nt) dd'), rz, q4 q0⟩
end Ws

/-! comprehensions whose parts make new things alone -/
namespace Ws
open PySem PySem.Spec PyProof.Rows L2
theorem ext_same {D : Addr} {H1 H : Hp} (h : H1 D = none) (e : Ext D H1 H) : Same H1 H := fun b o x => e b o (ne_of_none x h) x
section
variable {J : It} {n : Nat} {G : Hp → Prop} {Y : Nat → Hp → V → Hp → Prop} {g : TG} {te : TE} {tt : TT} {vs : List Nat} {σ : L2.St} {H1 : Hp} {D : Addr} {Qd : Hp → Prop}
/-- the items told by R, turn by turn -/
theorem lcR (w : Walk J n G Y) (hD : H1 D = none) (hn : n < sizeLine) (R : Nat → V → Hp → Prop)
    (hR : ∀ i v H H', Ext D H H' → (∃ xs, H D = some (.lst xs)) → R i v H → R i v H') (hG : ∀ H, Same H1 H → G H)
    (hs : ∀ i x H H', i < n → Same H1 H → (∃ xs, H D = some (.lst xs)) → Y i H x H' → ∀ Q : VK, (∀ v H2, Same H H2 → R i v H2 → Q v H2) →
      g x (wipe σ vs) H' fun σ2 H2 => wipe σ2 vs = wipe σ vs ∧ te σ2 H2 Q)
    (hd : ∀ ys H, Same H1 H → H D = some (.lst ys) → ys.length = n → (∀ i v, ys[i]? = some v → R i v H) → Qd H) :
    ∃ W : Nat → Nat → Hp → Prop, (∃ m, W 0 m (upd H1 D (.lst []))) ∧
        ∀ i m H, W i m H →
      (J.stop i H ∧ Qd H) ∨ (J.go i H ∧ ∃ Nx : Hp → Prop, (∀ H', Nx H' → ∃ m', m' < m ∧ W (i + 1) m' H') ∧ ∀ x H', J.yld i H x H' →
        g x (wipe σ vs) H' fun σ2 H2 => wipe σ2 vs = wipe σ vs ∧ tYes σ2 H2 fun b H3 =>
          if b = true then te σ2 H3 fun y H4 => ∃ acc, H4 D = some (.lst acc) ∧
              acc.length < sizeLine ∧ Nx (upd H4 D (.lst (acc ++ [y]))) else Nx H3) := by
  refine ⟨fun i m H => m = n - i ∧ i ≤ n ∧ Same H1 H ∧ ∃ ys, H D = some (.lst ys) ∧ ys.length = i ∧ ∀ j v, ys[j]? = some v → R j v H,
    ⟨n, by simp, Nat.zero_le _, Same.new hD, [], upd_same, rfl, fun j v h => by simp at h⟩, ?_⟩
  rintro i m H ⟨rfl, hi, s1, ys, hy, hl, hr⟩
  by_cases hlt : i < n
  · refine .inr ⟨w.goes i H hlt (hG H s1), fun H' => i + 1 ≤ n ∧ Same H1 H' ∧ ∃ ys, H' D = some (.lst ys) ∧ ys.length = i + 1 ∧ ∀ j v, ys[j]? = some v → R j v H',
      fun H' p => ⟨n - (i + 1), by omega, rfl, p⟩, fun x H' y => ?_⟩
    refine hs i x H H' hlt s1 ⟨ys, hy⟩ (w.yields i H x H' hlt (hG H s1) y) _ (fun v H2 s2 r2 => ?_)
    refine ⟨ys, s2 _ _ hy, by omega, hlt, ?_, ys ++ [v], upd_same, by simp [hl], fun j u hj => ?_⟩
    · intro b o e
      rw [upd_ne (ne_of_none e hD)]
      exact s2 _ _ (s1 _ _ e)
    · have hx : ∃ xs, H2 D = some (.lst xs) := ⟨ys, s2 _ _ hy⟩
      by_cases hj2 : j < ys.length
      · rw [List.getElem?_append_left hj2] at hj
        refine hR j u H2 _ Ext.upd hx (hR j u H H2 (Ext.of s2) ⟨ys, hy⟩ (hr j u hj))
      · rw [List.getElem?_append_right (by omega)] at hj
        have ej : j = i := by
          have := List.getElem?_eq_some_iff.mp hj
          obtain ⟨h1, _⟩ := this
          simp at h1
          omega
        subst ej
        rw [hl] at hj
        simp at hj
        subst hj
        exact hR j v H2 _ Ext.upd hx r2
  · have e : i = n := by omega
    subst e
    exact .inl ⟨w.stops H (hG H s1), hd ys H s1 hy hl hr⟩
/-- the items by a function of the turn -/
theorem lcP (w : Walk J n G Y) (hD : H1 D = none) (hn : n < sizeLine) (f : Nat → V) (hG : ∀ H, Same H1 H → G H)
    (hs : ∀ i x H H', i < n → Same H1 H → Y i H x H' → ∀ Q : VK, (∀ H2, Same H H2 → Q (f i) H2) →
      g x (wipe σ vs) H' fun σ2 H2 => wipe σ2 vs = wipe σ vs ∧ te σ2 H2 Q)
    (hd : ∀ H, Same H1 H → H D = some (.lst ((List.range n).map f)) → Qd H) :
    ∃ W : Nat → Nat → Hp → Prop, (∃ m, W 0 m (upd H1 D (.lst []))) ∧
        ∀ i m H, W i m H →
      (J.stop i H ∧ Qd H) ∨ (J.go i H ∧ ∃ Nx : Hp → Prop, (∀ H', Nx H' → ∃ m', m' < m ∧ W (i + 1) m' H') ∧ ∀ x H', J.yld i H x H' →
        g x (wipe σ vs) H' fun σ2 H2 => wipe σ2 vs = wipe σ vs ∧ tYes σ2 H2 fun b H3 =>
          if b = true then te σ2 H3 fun y H4 => ∃ acc, H4 D = some (.lst acc) ∧ acc.length < sizeLine ∧ Nx (upd H4 D (.lst (acc ++ [y]))) else Nx H3) :=
  lcR w hD hn (fun i v _ => v = f i) (fun _ _ _ _ _ _ h => h) hG (fun i x H H' hi s _ y Q q => hs i x H H' hi s y Q fun H2 s2 => q _ _ s2 rfl)
    fun ys H s e hl hr => hd H s (by
      have : ys = (List.range n).map f := by
        apply List.ext_getElem?
        intro i
        by_cases hi : i < n
        · have hy : ys[i]? = some ys[i] := List.getElem?_eq_getElem (by omega)
          rw [hy, hr i _ hy]
          simp [hi]
        · rw [List.getElem?_eq_none (by omega), List.getElem?_eq_none (by simp; omega)]
      rw [← this]; exact e)
/-- with a test -/
theorem lcF (w : Walk J n G Y) (hD : H1 D = none) (hn : n < sizeLine) (p : Nat → Bool) (f : Nat → V) (hG : ∀ H, Same H1 H → G H)
    (hs : ∀ i x H H', i < n → Same H1 H → Y i H x H' → ∀ (Q : VK) (Qn : Hp → Prop), (p i = true → ∀ H2, Same H H2 → Q (f i) H2) → (p i = false → ∀ H2, Same H H2 → Qn H2) →
      g x (wipe σ vs) H' fun σ2 H2 => wipe σ2 vs = wipe σ vs ∧ tt σ2 H2 fun b H3 => if b = true then te σ2 H3 Q else Qn H3)
    (hd : ∀ H, Same H1 H → H D = some (.lst (((List.range n).filter p).map f)) → Qd H) :
    ∃ W : Nat → Nat → Hp → Prop, (∃ m, W 0 m (upd H1 D (.lst []))) ∧
        ∀ i m H, W i m H →
      (J.stop i H ∧ Qd H) ∨ (J.go i H ∧ ∃ Nx : Hp → Prop, (∀ H', Nx H' → ∃ m', m' < m ∧ W (i + 1) m' H') ∧ ∀ x H', J.yld i H x H' →
        g x (wipe σ vs) H' fun σ2 H2 => wipe σ2 vs = wipe σ vs ∧ tt σ2 H2 fun b H3 =>
          if b = true then te σ2 H3 fun y H4 => ∃ acc, H4 D = some (.lst acc) ∧
              acc.length < sizeLine ∧ Nx (upd H4 D (.lst (acc ++ [y]))) else Nx H3) := by
  have len : ∀ i, ((List.range i).filter p).length ≤ i := fun i => by
    have := List.length_filter_le p (List.range i)
    simpa using this
  refine ⟨fun i m H => m = n - i ∧ i ≤ n ∧ Same H1 H ∧ H D = some (.lst (((List.range i).filter p).map f)),
    ⟨n, by simp, Nat.zero_le _, Same.new hD, upd_same⟩, ?_⟩
  rintro i m H ⟨rfl, hi, s1, hy⟩
  by_cases hlt : i < n
  · refine .inr ⟨w.goes i H hlt (hG H s1), fun H' => i + 1 ≤ n ∧ Same H1 H' ∧ H' D = some (.lst (((List.range (i + 1)).filter p).map f)),
      fun H' p => ⟨n - (i + 1), by omega, rfl, p⟩, fun x H' y => ?_⟩
    refine hs i x H H' hlt s1 (w.yields i H x H' hlt (hG H s1) y) _ _ (fun hp H2 s2 => ?_) (fun hp H2 s2 => ?_)
    · refine ⟨_, s2 _ _ hy, ?_, hlt, ?_, ?_⟩
      · rw [List.length_map]; have := len i; omega
      · intro b o e
        rw [upd_ne (ne_of_none e hD)]
        exact s2 _ _ (s1 _ _ e)
      · rw [upd_same, List.range_succ, List.filter_append, List.map_append]
        simp [hp]
    · refine ⟨hlt, s1.trans s2, ?_⟩
      rw [s2 _ _ hy, List.range_succ, List.filter_append, List.map_append]
      simp [hp]
  · have e : i = n := by omega
    subst e
    exact .inl ⟨w.stops H (hG H s1), hd H s1 hy⟩
end
end Ws

/-! texts of code lists: lengths, signs -/
namespace Ws
open PySem PySem.Spec PyProof.Rows L2
theorem take_in {L l : List Nat} (h : ∀ c ∈ l, c ∈ L) (n : Nat) : ∀ c ∈ l.take n, c ∈ L := fun c hc => h c (List.mem_of_mem_take hc)
theorem drop_in {L l : List Nat} (h : ∀ c ∈ l, c ∈ L) (n : Nat) : ∀ c ∈ l.drop n, c ∈ L := fun c hc => h c (List.mem_of_mem_drop hc)
theorem app_in {L a b : List Nat} (h : ∀ c ∈ a, c ∈ L) (g : ∀ c ∈ b, c ∈ L) : ∀ c ∈ a ++ b, c ∈ L := fun c hc => (List.mem_append.mp hc).elim (h c) (g c)
theorem S_app_len {a b : List Nat} {n : Nat} (h : a.length + b.length ≤ n) (hn : n ≤ 100000) : (S a).length + (S b).length ≤ sizeLine := by rw [SX.S_len, SX.S_len, sizeLine_eq]; omega
theorem S_le {a : List Nat} (h : a.length ≤ 100000) : (S a).length ≤ sizeLine := by rw [SX.S_len, sizeLine_eq]; omega
theorem S_at {L : List Nat} {u : Int} (h0 : 0 ≤ u) (h1 : u < (L.length : Int)) : ∃ c, c ∈ L ∧ atI (S L).cps.toList u = some c := by
  have hu : u.toNat < L.length := by omega
  refine ⟨L[u.toNat], List.getElem_mem hu, ?_⟩
  have z := atI_nat (xs := L) (j := u.toNat) (v := L[u.toNat]) (by simp [hu])
  rw [Int.toNat_of_nonneg h0] at z
  simpa [S, SX.S] using z
end Ws

/-! a text times an int -/
namespace Ws
open PySem PySem.Spec PyProof.Rows L2
theorem rep_foldl (l : List Nat) : ∀ (n : Nat) (acc : List Nat), (List.replicate n l.toArray).foldl (· ++ ·) acc.toArray = (acc ++ (List.replicate n l).flatten).toArray
  | 0, acc => by simp
  | n + 1, acc => by
    rw [List.replicate_succ, List.foldl_cons]
    have e : acc.toArray ++ l.toArray = (acc ++ l).toArray := by simp
    rw [e, rep_foldl l n (acc ++ l), List.replicate_succ, List.flatten_cons, List.append_assoc]
def rMulS : R2 := fun x y H Q => ∃ (l : List Nat) (n : Nat), x = .str (S l) ∧ y = .int n ∧ n ≤ 1000 ∧ l.length ≤ 1000 ∧ Q (.str (S (List.replicate n l).flatten)) H
theorem rep_len (l : List Nat) (n : Nat) : (List.replicate n l).flatten.length = n * l.length := by
  induction n with
  | zero => simp
  | succ n ih => rw [List.replicate_succ, List.flatten_cons, List.length_append, ih, Nat.succ_mul, Nat.add_comm]
theorem op_mulS {X : Cx} : OpR X (binaryOp .Mult) rMulS := by
  intro pins
  intro s σ H x y v u Q I rx ry h
  obtain ⟨l, n, rfl, rfl, hn, hl, q⟩ := h
  obtain ⟨t, rfl⟩ := rx
  obtain ⟨t', rfl⟩ := ry
  have hm : n * l.length ≤ 1000 * 1000 := Nat.mul_le_mul hn hl
  have hlen : (S l).length = l.length := SX.S_len l
  have hn2 : ((n : Nat) : Int) < 2 ^ 63 := by omega
  have hn3 : ¬ ((n : Nat) : Int) < -(2 ^ 63 : Int) := by omega
  refine P.mul_str (x := S l) (by rw [decide_eq_false hn3, decide_eq_false (by omega)]; rfl) (fun h1 _ => ?_) (fun _ _ => ?_) ?_
  · rw [hlen]
    have h3 : 0 < ((n : Nat) : Int) := by omega
    have h4 : ((l.length : Nat) : Int) ≤ (2 ^ 63 - 1) / ((n : Nat) : Int) := by
      refine (Int.le_ediv_iff_mul_le h3).mpr ?_
      have : ((l.length : Nat) : Int) * ((n : Nat) : Int) = ((n * l.length : Nat) : Int) := by rw [Nat.mul_comm, Int.natCast_mul]
      rw [this]
      omega
    omega
  · rw [hlen]
    have e : l.length * (((n : Nat) : Int)).toNat = n * l.length := by rw [Int.toNat_natCast, Nat.mul_comm]
    rw [e]
    show decide _ = false
    rw [decide_eq_false_iff_not, sizeLine_eq]
    omega
  · by_cases h0 : ((n : Nat) : Int) < 1
    · rw [if_pos h0]
      have en : n = 0 := by omega
      subst en
      exact ⟨by decide, .str (S []), H, I.tok _, ⟨_, rfl⟩, q⟩
    · rw [if_neg h0]
      cases h1 : (((n : Nat) : Int) == 1 || (S l).length == 0) with
      | true =>
        rw [if_pos rfl]
        have e : (List.replicate n l).flatten = l := by
          rcases Bool.or_eq_true_iff.mp h1 with h2 | h2
          · have : n = 1 := by
              have := eq_of_beq h2
              omega
            subst this
            simp
          · have h2 := eq_of_beq h2
            rw [hlen] at h2
            have : l = [] := List.length_eq_zero_iff.mp h2
            subst this
            simp
        rw [e] at q
        exact ⟨.str (S l), H, I, ⟨_, rfl⟩, q⟩
      | false =>
        rw [if_neg (by decide)]
        have e : (List.replicate (((n : Nat) : Int)).toNat (S l).cps).foldl (· ++ ·) #[] = ((List.replicate n l).flatten).toArray := by
          have := rep_foldl l n []
          rw [List.nil_append] at this
          exact this
        rw [e]
        refine ⟨?_, .str (S (List.replicate n l).flatten), H, I.tok _, ⟨_, rfl⟩, q⟩
        show (S (List.replicate n l).flatten).length ≤ sizeLine
        rw [SX.S_len, rep_len, sizeLine_eq]
        omega

end Ws

/-! the law's draws -/
namespace Ws
open PySem PySem.Spec PyProof.Rows L2
def top (i : Nat) : Stmt := PySem.Challenge.pw_wordsaid_k81_whole_games_played.main.body.getD i (.Pass ⟨0, 0, 0, 0⟩)

/-- names that are built in -/
structure Bl (mg : Str → Option Value) : Prop where
  len : mg "len" = none
  abs : mg "abs" = none
  int : mg "int" = none
  list : mg "list" = none
  range : mg "range" = none
  repr : mg "repr" = none
  isinstance : mg "isinstance" = none
  str : mg "str" = none
  all : mg "all" = none
  any : mg "any" = none
  zip : mg "zip" = none
  tuple : mg "tuple" = none
  ord : mg "ord" = none
  sorted : mg "sorted" = none
  set : mg "set" = none

/-- the deck at p -/
def DeckAt (K : PySem.W.Frag) (H : Hp) (p : Addr) : Prop := ∃ (d0 d1 d2 d4 : Int) (q : Addr) (ns : List Int),
  H p = some (.lst [.int d0, .int d1, .int d2, .ref q, .int d4]) ∧ q ≠ p ∧ SqL K H q (ns.map V.int) ∧ 0 ≤ d1 ∧ ns.length ≤ 63
theorem DeckAt.same {K : PySem.W.Frag} {H H' : Hp} {p : Addr} (d : DeckAt K H p) (s : Same H H') : DeckAt K H' p := by
  obtain ⟨d0, d1, d2, d4, q, ns, e, n, h, r⟩ := d
  exact ⟨d0, d1, d2, d4, q, ns, s _ _ e, n, s.seq h, r⟩
theorem DeckAt.some {K : PySem.W.Frag} {H : Hp} {p : Addr} (d : DeckAt K H p) : ∃ xs, H p = some (.lst xs) := by
  obtain ⟨d0, d1, d2, d4, q, ns, e, _⟩ := d
  exact ⟨_, e⟩
theorem DeckAt.ne {K : PySem.W.Frag} {H : Hp} {p l : Addr} (d : DeckAt K H p) (h : H l = none) : p ≠ l := by
  obtain ⟨xs, e⟩ := d.some
  exact ne_of_none e h

def spDeck (K : PySem.W.Frag) : Sp := fun vs H Q _ => ∃ (a : Addr) (ns : List Int), vs = [.ref a] ∧ SqL K H a (ns.map V.int) ∧ ns.length ≤ 63 ∧
  ∀ p H', Same H H' → H p = none → DeckAt K H' p → Q (.ref p) H'
def spDraw (K : PySem.W.Frag) : Sp := fun vs H Q _ => ∃ (p : Addr) (b : Int), vs = [.ref p, .int b] ∧ DeckAt K H p ∧ 0 < b ∧ b < 1073741824 ∧
  ∀ v H', 0 ≤ v → v < b → Ext p H H' → DeckAt K H' p → Q (.int v) H'

section
variable {P : Program} {w : World} {K : PySem.W.Frag} {mg : Str → Option Value} {base : Heap} {f : Addr} {fd : FuncData}
abbrev s_deck : Stmt := (top 25)
theorem sc_deck : FnScope ["script", "seed", "cell"] ["script"] (defScope s_deck) := ⟨rfl, rfl, rfl, by decide +kernel, rfl, by decide +kernel, by decide +kernel⟩
theorem ok_deck (T : Bl mg) (D : Def K mg "_law_deck" s_deck f fd ["script"]) : Cal P w K mg base 1 "_law_deck" (spDeck K) := by
  refine D.cal (D.fn.ok sc_deck (fun vs H Q E h => ?_) (fun cdv A outer s H vs Q E hr h => ?_))
  · obtain ⟨a, ns, rfl, _⟩ := h
    rfl
  · obtain ⟨a, ns, rfl, hS, hl, k⟩ := h
    have nd := sc_deck.nd
    refine ⟨_, (pss_cons (ps_set (i := 1) nd rfl (.inl rfl) pe_int)
      (pss_cons (ps_for PassesOwn.never rfl (pi_list (pv 0)) (pg_name (i := 2) nd rfl (.inl rfl))
        (pss_one (ps_set (i := 1) nd rfl (.inl rfl) (pe_op op_mod (pe_callTy call_int1 (by rfl) T.int (by decide +kernel) (pa_cons (pe_op op_add (pe_op op_mul (pv 1) pe_int) (pv 2)) pa_nil)) pe_int))))
      (pss_one (ps_ret (pe_lst (pa_cons pe_int (pa_cons pe_int (pa_cons (pv 1) (pa_cons (pe_callTy call_list_of (by rfl) T.list (by decide +kernel) (pa_cons (pv 0) pa_nil)) (pa_cons pe_int pa_nil)))))))))), ?_⟩
    refine ⟨_, rfl, a, rfl, ⟨_, hS⟩, for_list (K := K) (a := a) (xs := ns.map V.int) (fun i σ H' => H' = H ∧ ∃ (z : Int) (v : Option V), σ = [some (.ref a), some (.int z), v])
      ⟨rfl, 7, none, rfl⟩ (fun i σ H' _ q => q.1 ▸ hS) ?_ ?_⟩
    · rintro i y σ H' hi ⟨rfl, z, v, rfl⟩
      obtain ⟨u, rfl⟩ : ∃ u, y = V.int u := by
        obtain ⟨u, _, e⟩ := List.mem_map.mp (List.mem_of_getElem? hi)
        exact ⟨u, e.symm⟩
      exact ⟨_, rfl, _, _, rfl, rfl, .inr ⟨by decide, by decide⟩, _, rfl, _, _, rfl, rfl, .inl ⟨_, rfl, _, _, rfl, rfl, (by show (0 : Int) < 2147483647; decide), rfl, _, _, rfl⟩⟩
    · rintro σ H' ⟨rfl, z, v, rfl⟩
      refine ⟨_, rfl, _, rfl, a, _, rfl, .inl hS, fun l hl0 => ⟨by show 5 ≤ sizeLine; decide, fun p hp => ?_⟩⟩
      have npl : l ≠ p := fun e => by rw [e, ] at hl0; rw [← e, upd_same] at hp; cases hp
      have hp0 : H' p = none := by rw [upd_ne npl.symm] at hp; exact hp
      refine k p _ ((Same.new hl0).trans (Same.new hp)) hp0 ⟨0, 0, z, 0, l, ns, upd_same, npl, SqL.of ?_, Int.le_refl _, hl⟩
      rw [upd_ne npl, upd_same]

abbrev s_draw : Stmt := (top 26)
theorem sc_draw : FnScope ["deck", "bound", "number", "value"] ["deck", "bound"] (defScope s_draw) := ⟨rfl, rfl, rfl, by decide +kernel, rfl, by decide +kernel, by decide +kernel⟩
theorem ok_draw (T : Bl mg) (D : Def K mg "_law_draw" s_draw f fd ["deck", "bound"]) : Cal P w K mg base 1 "_law_draw" (spDraw K) := by
  refine D.cal (D.fn.ok sc_draw (fun vs H Q E h => ?_) (fun cdv A outer s H vs Q E hr h => ?_))
  · obtain ⟨p, b, rfl, _⟩ := h
    rfl
  · obtain ⟨p, b, rfl, ⟨d0, d1, d2, d4, q, ns, e, nq, hS, h1, hl⟩, hb0, hb1, k⟩ := h
    have nd := sc_draw.nd
    refine ⟨_, (C8.pss_cut (ps_if (PW.pt (pw_and (pt_cmpR op_eq (pe_ix ix_list (pv 0) pe_int (fun _ _ => rfl)) pe_int (nomark _)) (pw_and1 (pt_cmpR op_lt (pe_ix ix_list (pv 0) pe_int (fun _ _ => rfl)) (pe_callB call_len_seq (by rfl) T.len PySem.boot_len (pa_cons (pe_ix ix_list (pv 0) pe_int (fun _ _ => rfl)) pa_nil)) (nomark _)))))
        (pss_cons (ps_asg (pe_callB call_abs (by rfl) T.abs (by decide +kernel) (pa_cons (pe_ix ix_list (pe_ix ix_list (pv 0) pe_int (fun _ _ => rfl)) (pe_ix ix_list (pv 0) pe_int (fun _ _ => rfl)) (fun _ _ => rfl)) pa_nil)) (pg_sub (pv 0) pe_int set_list))
        (pss_one (ps_asg (pe_op op_add (pe_ix ix_list (pv 0) pe_int (fun _ _ => rfl)) pe_int) (pg_sub (pv 0) pe_int set_list))))
        (pss_one (ps_if (pt_cmpR op_eq (pe_ix ix_list (pv 0) pe_int (fun _ _ => rfl)) pe_int (nomark _))
          (pss_cons (ps_asg (pe_op op_add (pe_ix ix_list (pv 0) pe_int (fun _ _ => rfl)) pe_int) (pg_sub (pv 0) pe_int set_list))
          (pss_cons (ps_set (i := 2) nd rfl (.inl rfl) (pe_op op_mod (pe_callTy call_int1 (by rfl) T.int (by decide +kernel) (pa_cons (pe_op op_add (pe_op op_add (pe_op op_mul (pe_ix ix_list (pv 0) pe_int (fun _ _ => rfl)) pe_int) (pe_op op_mul (pe_ix ix_list (pv 0) pe_int (fun _ _ => rfl)) pe_int)) pe_int) pa_nil)) pe_int))
          (pss_cons (ps_set (i := 2) nd rfl (.inl rfl) (pe_op op_mod (pe_callTy call_int1 (by rfl) T.int (by decide +kernel) (pa_cons (pe_op op_add (pe_op op_add (pe_op op_mul (pv 2) (pv 2)) (pe_op op_mul pe_int (pe_ix ix_list (pv 0) pe_int (fun _ _ => rfl)))) pe_int) pa_nil)) pe_int))
          (pss_cons (ps_set (i := 2) nd rfl (.inl rfl) (pe_op op_mod (pe_callTy call_int1 (by rfl) T.int (by decide +kernel) (pa_cons (pe_op op_add (pe_op op_add (pe_op op_mul (pv 2) (pv 2)) (pe_op op_mul pe_int (pe_ix ix_list (pv 0) pe_int (fun _ _ => rfl)))) (pe_ix ix_list (pv 0) pe_int (fun _ _ => rfl))) pa_nil)) pe_int))
          (pss_one (ps_asg (pe_op op_fdiv (pv 2) pe_int) (pg_sub (pv 0) pe_int set_list)))))))
          pss_nil)))
      (pss_cons (ps_set (i := 3) nd rfl (.inl rfl) (pe_op op_mod (pe_callTy call_int1 (by rfl) T.int (by decide +kernel) (pa_cons (pe_ix ix_list (pv 0) pe_int (fun _ _ => rfl)) pa_nil)) (pv 1)))
      (pss_cons (ps_asg (pe_op op_fdiv (pe_ix ix_list (pv 0) pe_int (fun _ _ => rfl)) (pv 1)) (pg_sub (pv 0) pe_int set_list))
      (pss_one (ps_ret (pv 3)))))), ?_⟩
    refine ⟨fun σ' H' => ∃ (e0 e1 e4 : Int) (z : Option V), σ' = [some (.ref p), some (.int b), z, none] ∧ H' = upd H p (.lst [.int e0, .int e1, .int d2, .ref q, .int e4]) ∧ 0 ≤ e1, ?_, ?_⟩
    · -- the first statement
      have same : H = upd H p (.lst [.int d0, .int d1, .int d2, .ref q, .int d4]) := by
        funext c
        by_cases hc : c = p
        · rw [hc, upd_same, e]
        · rw [upd_ne hc]
      refine ⟨_, rfl, p, _, _, _, rfl, rfl, SqL.of e, rfl, rfl, _, rfl, ?_⟩
      refine iteV (fun h0 => ?_) (fun h0 => ?_)
      · obtain rfl : d0 = 0 := V.int.inj h0
        refine ⟨_, rfl, p, _, _, _, rfl, rfl, SqL.of e, rfl, _, rfl, p, _, _, _, rfl, rfl, SqL.of e, rfl, q, _, rfl, .inl hS, _, _, rfl, rfl, _, rfl, ?_⟩
        refine iteD rfl (fun hlt => ?_) (fun hlt => ?_)
        · have hlt' : d1.toNat < ns.length := by
            rw [List.length_map] at hlt
            omega
          have hat : atI (ns.map V.int) d1 = some (V.int ns[d1.toNat]) := by
            have z := atI_nat (xs := ns.map V.int) (j := d1.toNat) (v := V.int ns[d1.toNat]) (by rw [List.getElem?_map, List.getElem?_eq_getElem hlt']; rfl)
            rw [Int.toNat_of_nonneg h1] at z
            exact z
          refine ⟨_, rfl, p, _, _, _, rfl, rfl, SqL.of e, rfl, _, rfl, p, _, _, _, rfl, rfl, SqL.of e, rfl, q, _, _, _, rfl, rfl, hS, hat, _, rfl, _, rfl, p, _, _, 0, rfl, rfl, e, rfl, ?_⟩
          refine ⟨_, rfl, p, _, _, _, rfl, rfl, SqL.of upd_same, rfl, _, _, rfl, rfl, _, rfl, p, _, _, 1, rfl, rfl, upd_same, rfl, ?_⟩
          rw [upd_upd]
          exact ⟨_, _, _, none, rfl, rfl, by omega⟩
        · refine ⟨_, rfl, p, _, _, _, rfl, rfl, SqL.of e, rfl, rfl, _, rfl, ?_⟩
          refine iteV (fun _ => ?_) (fun h => absurd rfl h)
          refine ⟨_, rfl, p, _, _, _, rfl, rfl, SqL.of e, rfl, _, _, rfl, rfl, _, rfl, p, _, _, 4, rfl, rfl, e, rfl, ?_⟩
          have e' : upd H p (.lst [.int 0, .int d1, .int d2, .ref q, .int (d4 + 1)]) p = some (.lst [.int 0, .int d1, .int d2, .ref q, .int (d4 + 1)]) := upd_same
          have bnd : ∀ x m : Int, 0 < m → m < 2147483648 → -(2 ^ 64) < x % m ∧ x % m < 2 ^ 64 := fun x m h0 h1 => by
            have a1 := Int.emod_nonneg x (show m ≠ 0 by omega)
            have a2 := Int.emod_lt_of_pos x h0
            omega
          refine ⟨_, rfl, p, _, _, _, rfl, rfl, SqL.of e', rfl, _, _, rfl, rfl, .inr ⟨by decide, by decide⟩, _, rfl, p, _, _, _, rfl, rfl, SqL.of e', rfl, _, _, rfl, rfl, .inr ⟨by decide, by decide⟩, _, _, rfl, rfl, _, _, rfl, rfl, .inl ⟨_, rfl, _, _, rfl, rfl, (by show (0 : Int) < 2147483647; decide), ?_⟩⟩
          refine ⟨_, rfl, _, rfl, _, _, rfl, rfl, .inl (bnd _ _ (by decide) (by decide)), _, rfl, p, _, _, _, rfl, rfl, SqL.of e', rfl, _, _, rfl, rfl, .inl ⟨by decide, by decide⟩, _, _, rfl, rfl, _, _, rfl, rfl, .inl ⟨_, rfl, _, _, rfl, rfl, (by show (0 : Int) < 998244353; decide), ?_⟩⟩
          refine ⟨_, rfl, _, rfl, _, _, rfl, rfl, .inl (bnd _ _ (by decide) (by decide)), _, rfl, p, _, _, _, rfl, rfl, SqL.of e', rfl, _, _, rfl, rfl, .inl ⟨by decide, by decide⟩, _, _, rfl, rfl, _, rfl, p, _, _, _, rfl, rfl, SqL.of e', rfl, _, _, rfl, rfl, .inl ⟨_, rfl, _, _, rfl, rfl, (by show (0 : Int) < 2147483629; decide), ?_⟩⟩
          refine ⟨_, rfl, _, _, rfl, rfl, ⟨by decide, by decide⟩, _, rfl, p, _, _, 0, rfl, rfl, e', rfl, ?_⟩
          rw [upd_upd]
          exact ⟨_, _, _, _, rfl, rfl, h1⟩
      · refine ⟨_, rfl, p, _, _, _, rfl, rfl, SqL.of e, rfl, rfl, _, rfl, ?_⟩
        refine iteV (fun h => absurd h h0) (fun _ => ?_)
        exact ⟨d0, d1, d4, none, rfl, same, h1⟩
    · rintro σ' H' ⟨e0, e1, e4, z, rfl, rfl, he1⟩
      have hp : upd H p (.lst [.int e0, .int e1, .int d2, .ref q, .int e4]) p = some (.lst [.int e0, .int e1, .int d2, .ref q, .int e4]) := upd_same
      refine ⟨_, rfl, p, _, _, _, rfl, rfl, SqL.of hp, rfl, .inl ⟨_, rfl, _, rfl, _, _, rfl, rfl, hb0, ?_⟩⟩
      refine ⟨_, rfl, p, _, _, _, rfl, rfl, SqL.of hp, rfl, _, rfl, _, _, rfl, rfl, ⟨hb0, hb1⟩, _, rfl, p, _, _, _, rfl, rfl, hp, rfl, _, rfl, ?_⟩
      rw [upd_upd]
      refine k _ _ (Int.emod_nonneg _ (by omega)) (Int.emod_lt_of_pos _ hb0) Ext.upd ⟨e0 / b, e1, d2, e4, q, ns, upd_same, nq, ?_, he1, hl⟩
      exact Ext.upd.seq nq hS

/-! ### shown alike -/
def spIs (K : PySem.W.Frag) : Sp := fun vs H Q _ => ∃ x y d, vs = [x, y] ∧ Dp K H x d ∧ Dp K H y d ∧ Shw d ∧ Q (.bl true) H
abbrev s_is : Stmt := (top 27)
theorem sc_is : FnScope ["value", "due"] ["value", "due"] (defScope s_is) := ⟨rfl, rfl, rfl, by decide +kernel, rfl, by decide +kernel, by decide +kernel⟩
theorem ok_is (T : Bl mg) (D : Def K mg "_law_is" s_is f fd ["value", "due"]) : CalG P w K mg base 1 "_law_is" (spIs K) := by
  refine D.calG (okG D.fn sc_is (fun vs H Q E h => ?_) (fun cdv A outer s H vs Q E hr hg h => ?_))
  · obtain ⟨x, y, d, rfl, _⟩ := h
    rfl
  · obtain ⟨x, y, d, rfl, dx, dy, hs, k⟩ := h
    refine ⟨_, (pss_one (ps_ret (pe_cmpR op_eq (pe_callB (cr_repr hg hr.units) (by rfl) T.repr (by decide +kernel) (pa_cons (pv 0) pa_nil)) (pe_callB (cr_repr hg hr.units) (by rfl) T.repr (by decide +kernel) (pa_cons (pv 1) pa_nil)) (nomark _)))), ?_⟩
    refine ⟨_, rfl, x, d, rfl, dx, hs, _, rfl, y, d, rfl, dy, hs, rfl, ?_⟩
    rw [decide_eq_true rfl]
    exact k

/-! ### the letters, a word -/
theorem st_a : (Str.ofString "a") = S [97] := by decide +kernel
theorem st_ab : (Str.ofString "ab") = S [97, 98] := by decide +kernel
theorem st_abc : (Str.ofString "abc") = S [97, 98, 99] := by decide +kernel
theorem st_bd : (Str.ofString "bd") = S [98, 100] := by decide +kernel
theorem st_nil : (Str.ofString "") = S [] := by decide +kernel
/-- the letters that are drawn -/
def Lets : List (List Nat) := [[97], [97, 98], [97, 98, 99], [98, 100]]
theorem lets_len {L : List Nat} (h : L ∈ Lets) : 0 < L.length ∧ L.length ≤ 3 := by
  simp only [Lets, List.mem_cons, List.not_mem_nil, or_false] at h
  rcases h with rfl | rfl | rfl | rfl <;> exact ⟨by decide, by decide⟩
def spWord (K : PySem.W.Frag) : Sp := fun vs H Q _ => ∃ (p : Addr) (L : List Nat) (m : Nat), vs = [.ref p, .str (S L), .int m] ∧ DeckAt K H p ∧ L ≠ [] ∧ L.length ≤ 1000 ∧ m ≤ 1000 ∧
  ∀ l H', (∀ c ∈ l, c ∈ L) → l.length ≤ m → Ext p H H' → DeckAt K H' p → Q (.str (S l)) H'
abbrev s_word : Stmt := (top 28)
theorem sc_word : FnScope ["deck", "letters", "most", "made", "turn"] ["deck", "letters", "most"] (defScope s_word) := ⟨rfl, rfl, rfl, by decide +kernel, rfl, by decide +kernel, by decide +kernel⟩
theorem ok_word (T : Bl mg) (D : Def K mg "_law_word" s_word f fd ["deck", "letters", "most"]) (c_draw : Cal P w K mg base 1 "_law_draw" (spDraw K)) : Cal P w K mg base 2 "_law_word" (spWord K) := by
  refine D.cal (D.fn.ok sc_word (fun vs H Q E h => ?_) (fun cdv A outer s H vs Q E hr h => ?_))
  · obtain ⟨p, L, m, rfl, _⟩ := h
    rfl
  · obtain ⟨p, L, m, rfl, d, hL, hL2, hm, k⟩ := h
    have nd := sc_word.nd
    have lp : 0 < L.length := List.length_pos_iff.mpr hL
    refine ⟨_, (pss_cons (ps_set (i := 3) nd rfl (.inl rfl) pe_str)
      (pss_cons (ps_for PassesOwn.never rfl (pi_range1 (by rfl) T.range (pa_cons (pe_c c_draw hr (by decide) rfl (pa_cons (pv 0) (pa_cons (pe_op op_add (pv 2) pe_int) pa_nil))) pa_nil)) (pg_name (i := 4) nd rfl (.inl rfl))
        (pss_one (ps_set (i := 3) nd rfl (.inl rfl) (pe_op op_add_str (pv 3) (pe_ix ix_str (pv 1) (pe_c c_draw hr (by decide) rfl (pa_cons (pv 0) (pa_cons (pe_callB call_len_str (by rfl) T.len PySem.boot_len (pa_cons (pv 1) pa_nil)) pa_nil))) (fun _ _ => rfl))))))
      (pss_one (ps_ret (pv 3))))), ?_⟩
    refine ⟨_, rfl, _, rfl, _, _, rfl, rfl, p, _, rfl, d, by omega, by omega, fun v H1 h0 h1 e1 d1 => ?_⟩
    refine ⟨v, rfl, by omega, by omega, ?_⟩
    refine for_range (lo := 0) (n := v.toNat) (fun i σ H' => ∃ (l : List Nat) (z : Option V), σ = [some (.ref p), some (.str (S L)), some (.int m), some (.str (S l)), z] ∧ (∀ c ∈ l, c ∈ L) ∧ l.length = i ∧ Ext p H H' ∧ DeckAt K H' p)
      ⟨[], none, by rw [st_nil]; rfl, by simp, rfl, e1, d1⟩ ?_ ?_
    · rintro i σ H' hi ⟨l, z, rfl, hc, hl, e, d⟩
      have hz : (S L).length ≤ sizeLine := by rw [SX.S_len, sizeLine_eq]; omega
      refine ⟨_, rfl, _, rfl, _, rfl, _, rfl, _, rfl, hz, p, _, rfl, d, by rw [SX.S_len]; omega, by rw [SX.S_len]; omega, fun u H2 u0 u1 e2 d2 => ?_⟩
      rw [SX.S_len] at u1
      have hu : u.toNat < L.length := by omega
      have hat : atI (S L).cps.toList u = some L[u.toNat] := by
        have z := atI_nat (xs := L) (j := u.toNat) (v := L[u.toNat]) (by simp [hu])
        rw [Int.toNat_of_nonneg u0] at z
        simpa [S, SX.S] using z
      refine ⟨_, _, _, rfl, rfl, hz, hat, _, _, rfl, rfl, ?_, l ++ [L[u.toNat]], some (V.int (0 + (i : Int))), ?_, ?_, ?_, e.trans e2, d2⟩
      · have : (S [L[u.toNat]]).length = 1 := by rw [SX.S_len]; rfl
        show (S l).length + (S [L[u.toNat]]).length ≤ sizeLine
        rw [SX.S_len, this, sizeLine_eq]; omega
      · show [some (.ref p), some (.str (S L)), some (.int m), some (.str (S l ++ S [L[u.toNat]])), some (V.int (0 + (i : Int)))] = _
        rw [SX.S_cat]
      · intro c hcm
        rcases List.mem_append.mp hcm with q | q
        · exact hc c q
        · rw [List.mem_singleton.mp q]
          exact List.getElem_mem hu
      · rw [List.length_append, hl]; rfl
    · rintro σ H' ⟨l, z, rfl, hc, hl, e, d⟩
      exact ⟨_, rfl, k l H' hc (by omega) e d⟩
end
end Ws

/-! the program's errors -/
namespace Ws
open PySem PySem.Spec PyProof.Rows L2
/-- behind the class's own __init__ -/
def excH (H : Hp) (a dx C : Addr) (wd pl : V) : Hp := upd (upd (upd H dx (exd dx [("word", wd)])) a (exo a C (some dx))) dx (exd dx [("place", pl), ("word", wd)])
def spWE (K : PySem.W.Frag) (CW : Addr) : Sp := fun vs H Q _ => ∃ (a C : Addr) (wd pl : V), vs = [.ref a, wd, pl] ∧ H a = some (exo a C none) ∧ OexC K C ∧ Sup K C CW (.builtin veI) ∧
  PySem.W.findIn K (.ref C) "word" = some none ∧ PySem.W.findIn K (.ref C) "place" = some none ∧ ∀ dx, H dx = none → dx ≠ a → Q .non (excH H a dx C wd pl)
def spEr (C : Addr) (nm : Str) : Sp := fun vs H Q _ => ∃ (a : Addr) (pl : V), vs = [.ref a, pl] ∧ H a = some (exo a C none) ∧ ∀ dx, H dx = none → dx ≠ a → Q .non (excH H a dx C (.str nm) pl)
/-- the class nm, at C, below WordError at CW -/
structure ErC (P : Program) (w : World) (K : PySem.W.Frag) (mg : Str → Option Value) (base : Heap) (nm : Str) (C : Addr) : Prop where
  oex : OexC K C
  np : PySem.W.findIn K (.ref C) "place" = some none
  mgC : mg nm = some (.ref C)
  xf : XfC K C
  ini : ∃ (fI : Addr) (fd : FuncData), PySem.W.findIn K (.ref C) "__init__" = some (some (.ref fI)) ∧ PySem.W.typeIn K (.ref fI) = some (.type "function") ∧
    FnOk P w K mg base CX0 2 fI fd ["self", "place"] (spEr C nm) ∧ Binds K fd ["self", "place"] []
section
variable {P : Program} {w : World} {K : PySem.W.Frag} {mg : Str → Option Value} {base : Heap} {f fW C CW : Addr} {fd fdW : FuncData}
abbrev s_WordError : Stmt := (inClass (top 1) 0)
theorem ss_WordError : SScope ["self", "word", "place"] ["self", "word", "place"] (defScope s_WordError) :=
  ⟨rfl, rfl, rfl, by decide +kernel, rfl, by decide +kernel, by decide +kernel, by decide +kernel, by decide +kernel, by decide +kernel, rfl⟩
theorem ok_WordError (F : SFun P K "__init__" "WordError.__init__" s_WordError CW f fd) (hm : mg "super" = none) : FnOk P w K mg base CX0 1 f fd ["self", "word", "place"] (spWE K CW) := by
  refine okSup (k := 0) F ss_WordError (fun vs H Q E h => ?_) rfl hm (fun _ => rfl) (fun _ => rfl) (fun _ => rfl) (fun _ => rfl) (fun cd cc A outer s H vs Q E h => ?_)
  · obtain ⟨a, C, wd, pl, rfl, _⟩ := h
    rfl
  · obtain ⟨a, C, wd, pl, rfl, ea, oex, T, nw, np, k⟩ := h
    refine ⟨a, C, [wd, pl], _, _, _, rfl, ea, T, pa_cons (pv 1) pa_nil, pss_cons (ps_ost (pv 0) (pv 1)) (pss_one (ps_ost (pv 0) (pv 2))), ?_⟩
    refine .inl ⟨rfl, oex, _, rfl, ea, by simp, ?_⟩
    refine ⟨_, rfl, _, rfl, a, C, rfl, oex, nw, .inl ⟨ea, fun dx hd hne => ?_⟩⟩
    refine ⟨_, rfl, _, rfl, a, C, rfl, oex, np, .inr ⟨dx, _, upd_same, ?_, by show 1 ≤ 900; decide, k dx hd hne⟩⟩
    rw [upd_ne hne, upd_same]
theorem ok_Er {nm : Str} {st : Stmt} {p0 p1 p2 p3 p4 p5 p6 : Pos} {j : Nat} {pl : Sem Bool} {q : Str} (F : SFun P K "__init__" q st C f fd) (S : SScope ["self", "place"] ["self", "place"] (defScope st)) (hm : mg "super" = none)
    (hst : defBody st = [.Expr (.Call (.Attribute (.Call (.Name "super" p0) [] [] p1) "__init__" p2) [.Constant (.str nm) j p5, .Name "place" p6] [] p3) p4])
    (hev : ∀ env : Env, eval (.Call (.Attribute (.Call (.Name "super" p0) [] [] p1) "__init__" p2) [.Constant (.str nm) j p5, .Name "place" p6] [] p3) env = (do
      let ov ← attributeBase (.Call (.Name "super" p0) [] [] p1) "__init__" env (eval (.Call (.Name "super" p0) [] [] p1) env)
      standAt p2.atName
      let (f,
          first) ← holding [ov] (getMethod ov "__init__" pl)
      callWith p3 f first (backTo p3 (starEach [.Constant (.str nm) j p5, .Name "place" p6] env)) []))
    (hsw : ∀ env : Env, swapsWith (.Call (.Attribute (.Call (.Name "super" p0) [] [] p1) "__init__" p2) [.Constant (.str nm) j p5, .Name "place" p6] [] p3) none p4.line env = pure false)
    (FW : FnOk P w K mg base CX0 1 fW fdW ["self", "word", "place"] (spWE K CW)) (bW : Binds K fdW ["self", "word", "place"] []) (hfn : PySem.W.fnIn K fW = true) (hty : PySem.W.typeIn K (.ref fW) = some (.type "function"))
    (oex : OexC K C) (T1 : Sup K C C (.ref fW)) (T2 : Sup K C CW (.builtin veI)) (nw : PySem.W.findIn K (.ref C) "word" = some none) (np : PySem.W.findIn K (.ref C) "place" = some none) :
    FnOk P w K mg base CX0 2 f fd ["self", "place"] (spEr C nm) := by
  refine okSup (k := 1) F S (fun vs H Q E h => ?_) hst hm hev (fun _ => rfl) (fun _ => rfl) hsw (fun cd cc A outer s H vs Q E h => ?_)
  · obtain ⟨a, pl, rfl, _⟩ := h
    rfl
  · obtain ⟨a, pl, rfl, ea, k⟩ := h
    refine ⟨a, C, [pl], _, _, _, rfl, ea, T1, pa_cons pe_str (pa_cons (pe_var (i := 1) rfl (.inl (S.par "place" (by decide)))) pa_nil), pss_nil, ?_⟩
    refine .inr ⟨fW, fdW, _, _, rfl, FW, bW, hfn, hty, _, rfl, a, C, _, _, rfl, ea, oex, T2, nw, np, fun dx hd hne => ⟨rfl, k dx hd hne⟩⟩

/-- raise X(e): what stands behind the class's __init__ -/
theorem er_mk {C : Addr} {nm : Str} {pl : V} {H1 : Hp} {Q : XK} (k : ∀ (d : Addr) (H' : Hp), Same H1 H' → H1 d = none → H' d = some (.xd [("place", pl), ("word", .str nm)]) → Q (.ref C) (some d) H') :
    [pl].length ≤ 1000 ∧ ∀ a, H1 a = none → spEr C nm (.ref a :: ([pl] ++ [])) (upd H1 a (exo a C none))
      (fun v H2 => v = .non ∧ ∃ (d : Addr) (fs : List (Str × V)), H2 a = some (exo a C (some d)) ∧ H2 d = some (exd d fs) ∧ H1 d = none ∧ Q (.ref C) (some d) (upd (del H2 a) d (.xd fs))) (fun _ _ _ => False) := by
  refine ⟨by simp, fun a ha => ⟨a, pl, rfl, upd_same, fun dx hd hne => ⟨rfl, dx, [("place", pl), ("word", .str nm)], ?_, ?_, ?_, ?_⟩⟩⟩
  · show excH _ _ _ _ _ _ a = _
    unfold excH
    rw [upd_ne (Ne.symm hne), upd_same]
  · show excH _ _ _ _ _ _ dx = _
    unfold excH
    rw [upd_same]
  · rwa [upd_ne hne] at hd
  · refine k dx _ (fun b o e => ?_) (by rwa [upd_ne hne] at hd) upd_same
    have ba : b ≠ a := fun z => by rw [z, ha] at e; cases e
    have bd : b ≠ dx := fun z => by rw [z, ← upd_ne hne (H := H1) (o := exo a C none), hd] at e; cases e
    rw [upd_ne bd, del_ne ba]
    show excH _ _ _ _ _ _ b = _
    unfold excH
    rw [upd_ne bd, upd_ne ba, upd_ne bd, upd_ne ba, e]
end
end Ws

/-! letters and words looked at -/
namespace Ws
open PySem PySem.Spec PyProof.Rows L2
/-- x is the text of o, or no text at all -/
def TxtOr (K : PySem.W.Frag) (H : Hp) (x : V) (o : Option (List Nat)) : Prop :=
  (∃ l, o = some l ∧ x = .str (S l) ∧ l.length ≤ 1000) ∨ (o = none ∧ ∃ t, TyX K H x t ∧ PySem.W.kitOne K t (.type "str") = some false)
def TxtO (K : PySem.W.Frag) (H : Hp) (x : V) (o : Option (List Nat)) : Prop := ∀ H', Same H H' → TxtOr K H' x o
theorem TxtO.same {K : PySem.W.Frag} {H H' : Hp} {x : V} {o : Option (List Nat)} (t : TxtO K H x o) (s : Same H H') : TxtO K H' x o := fun H2 s2 => t H2 (s.trans s2)
theorem TxtO.now {K : PySem.W.Frag} {H : Hp} {x : V} {o : Option (List Nat)} (t : TxtO K H x o) : TxtOr K H x o := t H (fun _ _ h => h)
theorem txt_str {K : PySem.W.Frag} {H : Hp} {l : List Nat} (h : l.length ≤ 1000) : TxtO K H (.str (S l)) (some l) := fun _ _ => .inl ⟨l, rfl, rfl, h⟩
theorem txt_non {K : PySem.W.Frag} {H : Hp} : TxtO K H .non none := fun _ _ => .inr ⟨rfl, _, .base .non, kit_ty (by decide +kernel)⟩
theorem txt_int {K : PySem.W.Frag} {H : Hp} {i : Int} : TxtO K H (.int i) none := fun _ _ => .inr ⟨rfl, _, .base (.int i), kit_ty (by decide +kernel)⟩
theorem txt_lst {K : PySem.W.Frag} {H : Hp} {a : Addr} {xs : List V} (h : H a = some (.lst xs)) : TxtO K H (.ref a) none := fun _ s => .inr ⟨rfl, _, .base (.lst (s _ _ h)), kit_ty (by decide +kernel)⟩
def small : Str := "abcdefghijklmnopqrstuvwxyz"
def letOk : Option (List Nat) → Bool
  | none => false
  | some l => decide (1 ≤ l.length) && decide (l.length ≤ 3) && ((List.range l.length).all fun i => decide (l.getD i 0 ∈ small.cps.toList)) &&
    ((List.range (l.length - 1)).all fun i => decide (l.getD i 0 < l.getD (i + 1) 0))
def wordOk (L : List Nat) : Option (List Nat) → Bool
  | none => false
  | some l => decide (l.length ≤ 60) && ((List.range l.length).all fun i => decide (l.getD i 0 ∈ L))
theorem wordOk_iff {L l : List Nat} : wordOk L (some l) = true ↔ l.length ≤ 60 ∧ ∀ c ∈ l, c ∈ L := by
  simp only [wordOk, Bool.and_eq_true, decide_eq_true_eq, List.all_eq_true, List.mem_range]
  constructor
  · rintro ⟨h, k⟩
    refine ⟨h, fun c hc => ?_⟩
    obtain ⟨i, hi, rfl⟩ := List.mem_iff_getElem.mp hc
    have := k i hi
    rwa [List.getD_eq_getElem?_getD, List.getElem?_eq_getElem hi] at this
  · rintro ⟨h, k⟩
    refine ⟨h, fun i hi => ?_⟩
    rw
      [List.getD_eq_getElem?_getD, List.getElem?_eq_getElem hi]
    exact k _ (List.getElem_mem hi)
structure Gs (mg : Str → Option Value) : Prop where
  small : ∃ t, mg "SMALL" = some (.str small t)
  lm : ∃ t, mg "LETTERS_MOST" = some (.int 3 t)
  wm : ∃ t, mg "WORD_MOST" = some (.int 60 t)
def spIsL (K : PySem.W.Frag) : Sp := fun vs H Q _ => ∃ x o, vs = [x] ∧ TxtO K H x o ∧ ∀ H', Same H H' → Q (.bl (letOk o)) H'
def spIsW (K : PySem.W.Frag) : Sp := fun vs H Q _ => ∃ L x o, vs = [.str (S L), x] ∧ TxtO K H x o ∧ ∀ H', Same H H' → Q (.bl (wordOk L o)) H'
theorem refl_same (H : Hp) : Same H H := fun _ _ h => h
theorem all_map {n : Nat} {f : Nat → Bool} : ((List.range n).map f).all id = (List.range n).all f := by rw [List.all_map]; rfl
theorem walk_S {l : List Nat} : Walk (Its (S l)) l.length (fun _ => True) (fun i H v H' => H' = H ∧ ∃ c, l[i]? = some c ∧ v = .str (S [c])) :=
  ⟨fun i H hi _ => by show i < (S l).cps.size; simpa using hi, fun H _ => by show (S l).cps.size ≤ l.length; simp, fun i H v H' _ _ y => by
    obtain ⟨e, c, hc, hv⟩ := y
    exact ⟨e, c, by simpa using hc, hv⟩⟩
theorem walk_zS {l m : List Nat} : Walk (Itzs (S l) (S m)) (min l.length m.length) (fun _ => True)
    (fun i H v H' => ∃ (T : Addr) (c d : Nat), v = .ref T ∧ H T = none ∧ H' = upd H T (.tup [.str (S [c]), .str (S [d])]) ∧ l[i]? = some c ∧ m[i]? = some d) :=
  ⟨fun i H hi _ => by show i < min (S l).cps.size (S m).cps.size; simpa using hi, fun H _ => by show min (S l).cps.size (S m).cps.size ≤ _; simp, fun i H v H' _ _ y => by
    obtain ⟨T, c, d, e1, e2, e3, hc, hd⟩ := y
    exact ⟨T, c, d, e1, e2, e3, by simpa using hc, by simpa using hd⟩⟩
theorem getD_of {l : List Nat} {i c : Nat} (h : l[i]? = some c) : l.getD i 0 = c := by rw [List.getD_eq_getElem?_getD, h]; rfl
theorem bl_map {n : Nat} {p : Nat → Bool} : ((List.range n).map p).map V.bl = (List.range n).map fun i => V.bl (p i) := by rw [List.map_map]; rfl
section
variable {P : Program} {w : World} {K : PySem.W.Frag} {mg : Str → Option Value} {base : Heap} {f : Addr} {fd : FuncData}
abbrev s_is_letters : Stmt := (top 13)
abbrev N_is_letters : List Str := ["value", "sign", "one", "two"]
theorem sc_is_letters : FnScope N_is_letters ["value"] (defScope s_is_letters) := ⟨rfl, rfl, rfl, by decide +kernel, rfl, by decide +kernel, by decide +kernel⟩
theorem ok_is_letters (T : Bl mg) (G : Gs mg) (D : Def K mg "is_letters" s_is_letters f fd ["value"]) : Cal P w K mg base 1 "is_letters" (spIsL K) := by
  refine D.cal (D.fn.ok sc_is_letters (fun vs H Q E h => ?_) (fun cdv A outer s H vs Q E hr h => ?_))
  · obtain ⟨x, o, rfl, _⟩ := h
    rfl
  · obtain ⟨x, o, rfl, tx, k⟩ := h
    have nd := sc_is_letters.nd
    obtain ⟨t1, g1⟩ := G.small
    obtain ⟨t2, g2⟩ := G.lm
    refine ⟨_, (pss_cons (ps_if (PW.pt (pw_or (pt_not (pt_val (pe_callB call_isi (by rfl) T.isinstance (by decide +kernel) (pa_cons (pv 0) (pa_cons (pe_bltn (v := .ty "str") rfl T.str (by decide +kernel) rfl) pa_nil))))) (pw_or1 (pt_not (pt_chain op_le op_le pe_int (pe_callB call_len_str (by rfl) T.len PySem.boot_len (pa_cons (pv 0) pa_nil)) (pe_glob (v := .int 3) rfl g2 ⟨_, rfl⟩))))))
      (pss_one (ps_ret pe_bl))
      pss_nil)
      (pss_one (ps_ret (pe_and (pe_callB (cr_all rfl) (by rfl) T.all (by decide +kernel) (pa_cons (pe_lc (own := [("sign", 1)]) rfl nd (pi_str (pv 0)) (blkOk_by (N := N_is_letters) rfl) (fun _ _ _ _ _ => (pg_name (i := 1) nd rfl (.inl rfl))) (fun _ _ _ _ _ => pts_nil) (fun _ _ _ _ _ => (pe_cmpR op_in_sign (pv 1) (pe_glob (v := .str small) rfl g1 ⟨_, rfl⟩) (by with_unfolding_all rfl)))) pa_nil))
        (pe_one (pe_callB (cr_all rfl) (by rfl) T.all (by decide +kernel) (pa_cons (pe_lc (own := [("one", 2), ("two", 3)]) (g := gTup K 2 (gCons (gName 2) (gCons (gName 3) gNil))) rfl nd (pi_zipS (by rfl) T.zip (pa_cons (pv 0) (pa_cons (pe_slice C8.sl_txt (pv 0) (po_some pe_int) po_none) pa_nil))) (blkOk_by (N := N_is_letters) rfl) (fun _ _ _ _ _ => (pg_tup (n := 2) rfl (pgs_cons (pg_name (i := 2) nd rfl (.inl rfl) (.inr rfl)) (pgs_cons (pg_name (i := 3) nd rfl (.inl rfl) (.inr rfl)) pgs_nil)))) (fun _ _ _ _ _ => pts_nil) (fun _ _ _ _ _ => (pe_cmpR op_lt_str (pv 2) (pv 3) (nomark _)))) pa_nil))))))), ?_⟩
    rcases tx.now with ⟨l, rfl, rfl, hl⟩ | ⟨rfl, t, ty, kit⟩
    · have hz : (S l).length ≤ sizeLine := by rw [SX.S_len, sizeLine_eq]; omega
      refine ⟨_, rfl, _, .ty "str", _, _, true, rfl, .ty "str", .base (.str _), kit_ty (by decide +kernel), _, rfl, iteF ?_⟩
      refine ⟨_, rfl, _, rfl, hz, _, _, rfl, rfl, _, rfl, ?_⟩
      rw [SX.S_len]
      refine iteD rfl (fun h1 => ?_) (fun h1 => ?_)
      · refine ⟨_, _, rfl, rfl, _, rfl, ?_⟩
        refine iteB (fun h2 => ?_) (fun h2 => ?_)
        · have e : letOk (some l) = false := by
            have : ¬ ((l.length : Int) ≤ 3) := by simpa using h2
            have : ¬ l.length ≤ 3 := by omega
            simp [letOk, this]
          rw [← e]
          exact k _ (refl_same _)
        · have h3 : l.length ≤ 3 := by
            have : ((l.length : Int) ≤ 3) := by simpa using h2
            omega
          refine ⟨_, rfl, _, rfl, fun D hD => lcP walk_S hD (by rw [sizeLine_eq]; omega) (fun i => .bl (decide (l.getD i 0 ∈ small.cps.toList))) (fun _ _ => True.intro) (fun i x H0 H' hi s y Q q => ?_) (fun H1 s1 e1 => ?_)⟩
          · obtain ⟨rfl, c, hc, rfl⟩ := y
            rw [getD_of hc] at q
            exact ⟨rfl, _, rfl, c, small, rfl, rfl, q _ (refl_same _)⟩
          · refine ⟨D, (List.range l.length).map fun i => decide (l.getD i 0 ∈ small.cps.toList), rfl, SqL.of (by rw [bl_map]; exact e1), _, rfl, ?_⟩
            rw [all_map]
            refine iteB (fun h4 => ?_) (fun h4 => ?_)
            · refine ⟨_, rfl, _, rfl, 1, rfl, _, rfl, hz, _, _, rfl, ?_⟩
              rw [SX.slice_from (by decide)]
              have en : min l.length (l.drop (1 : Int).toNat).length = l.length - 1 := by
                show min l.length (l.drop 1).length = _
                rw [List.length_drop]; omega
              intro D2 hD2
              refine lcP (walk_zS (l := l) (m := l.drop (1 : Int).toNat)) hD2 (by rw [en, sizeLine_eq]; omega) (fun i => .bl (decide (l.getD i 0 < l.getD (i + 1) 0))) (fun _ _ => True.intro) (fun i x H0 H' hi s y Q q => ?_) (fun H2 s2 e2 => ?_)
              · obtain ⟨Tp, c, d, rfl, hT, rfl, hc, hd⟩ := y
                have hd' : l[i + 1]? = some d := by
                  have : (l.drop 1)[i]? = some d := hd
                  rw [List.getElem?_drop] at this
                  rwa [Nat.add_comm] at this
                rw [getD_of hc, getD_of hd'] at q
                refine ⟨Tp, _, rfl, .inl (.inl upd_same), rfl, _, _, rfl, _, _, rfl, rfl, rfl, _, rfl, _, rfl, _, _, rfl, rfl, ?_⟩
                have e : decide (c < d) = decide ((S [c]).cps.toList < (S [d]).cps.toList) := by
                  refine decide_eq_decide.mpr ?_
                  show c < d ↔ List.Lex (· < ·) [c] [d]
                  refine ⟨fun h => .rel h, fun h => ?_⟩
                  cases h with
                  | rel h => exact h
                  | cons h => cases h
                rw [← e]
                exact q _ (Same.new hT)
              · refine ⟨D2, (List.range (l.length - 1)).map fun i => decide (l.getD i 0 < l.getD (i + 1) 0), rfl, SqL.of (by rw [bl_map, ← en]; exact e2), ?_⟩
                rw [all_map]
                have e : letOk (some l) = (List.range (l.length - 1)).all fun i => decide (l.getD i 0 < l.getD (i + 1) 0) := by
                  have z1 : 1 ≤ l.length := by omega
                  simp only [letOk, h4, z1, h3, decide_true, Bool.true_and]
                rw [← e]
                exact k _ (s1.trans s2)
            · have e : letOk (some l) = false := by
                simp only [letOk, h4, Bool.and_false, Bool.false_and]
              rw [← e]
              exact k _ s1
      · have e : letOk (some l) = false := by
          have : ¬ (1 ≤ l.length) := by omega
          simp [letOk, this]
        refine ⟨_, rfl, ?_⟩
        refine iteT ?_
        show Q (.bl false) H
        rw [← e]
        exact k _ (refl_same _)
    · refine ⟨_, rfl, _, .ty "str", _, _, false, rfl, .ty "str", ty, kit, _, rfl, iteT ?_⟩
      exact k _ (refl_same _)
abbrev s_check_letters : Stmt := (top 14)
theorem sc_check_letters : FnScope ["letters"] ["letters"] (defScope s_check_letters) := ⟨rfl, rfl, rfl, by decide +kernel, rfl, by decide +kernel, by decide +kernel⟩
/-- the object d tells the fault -/
def Fault (CL CW : Addr) (H : Hp) (bad : Option (Bool × V)) (E : XK) : Prop := ∀ b u, bad = some (b, u) → ∀ d H', Same H H' → H' d = some (.xd [("place", u), ("word", .str (if b = true then "BadWord" else "BadLetters"))]) → E (.ref (if b = true then CW else CL)) (some d) H'
theorem Fault.same {CL CW : Addr} {H H1 : Hp} {bad : Option (Bool × V)} {E : XK} (f : Fault CL CW H bad E) (s : Same H H1) : Fault CL CW H1 bad E := fun b u e d H' s' => f b u e d H' (s.trans s')
def spChkL (K : PySem.W.Frag) (CL CW : Addr) : Sp := fun vs H Q E => ∃ x o, vs = [x] ∧ TxtO K H x o ∧ (letOk o = true → ∀ H', Same H H' → Q .non H') ∧ Fault CL CW H (if letOk o = true then none else some (false, x)) E
theorem ok_check_letters {CL CW : Addr} (D : Def K mg "check_letters" s_check_letters f fd ["letters"]) (EL : ErC P w K mg base "BadLetters" CL) (c_is : Cal P w K mg base 1 "is_letters" (spIsL K)) :
    CalX P w K mg base 5 "check_letters" (spChkL K CL CW) := by
  refine D.calX (D.fn.okX sc_check_letters (fun vs H Q E h => ?_) (fun cdv A outer s H vs Q E hr h => ?_))
  · obtain ⟨x, o, rfl, _⟩ := h
    rfl
  · obtain ⟨x, o, rfl, tx, k, kf⟩ := h
    have nd := sc_check_letters.nd
    obtain ⟨fI, fdI, i1, i2, FI, bI⟩ := EL.ini
    refine ⟨_, (pss_one (ps_if (pt_not (pt_val (pe_c c_is hr (by decide) rfl (pa_cons (pv 0) pa_nil))))
      (pss_one (ps_raise rfl (takes_of rfl rfl rfl rfl) (pmk_oex EL.oex i1 i2 FI (hr.mono (by decide)) bI .nil pass0 rfl EL.mgC (pa_cons (pv 0) pa_nil))))
      pss_nil)), ?_⟩
    refine ⟨_, rfl, x, o, rfl, tx, fun H1 s1 => ⟨_, rfl, ?_⟩⟩
    refine iteB (fun h => ?_) (fun h => ?_)
    · have h : letOk o = false := by simpa using h
      refine ⟨_, rfl, er_mk fun d H' s2 hd e => ?_⟩
      refine kf false x (by rw [h]; rfl) d H' (s1.trans s2) e
    · have h : letOk o = true := by simpa using h
      exact k h _ s1

abbrev s_is_word : Stmt := (top 15)
abbrev N_is_word : List Str := ["letters", "value", "sign"]
theorem sc_is_word : FnScope N_is_word ["letters", "value"] (defScope s_is_word) := ⟨rfl, rfl, rfl, by decide +kernel, rfl, by decide +kernel, by decide +kernel⟩
theorem ok_is_word (T : Bl mg) (G : Gs mg) (D : Def K mg "is_word" s_is_word f fd ["letters", "value"]) : Cal P w K mg base 1 "is_word" (spIsW K) := by
  refine D.cal (D.fn.ok sc_is_word (fun vs H Q E h => ?_) (fun cdv A outer s H vs Q E hr h => ?_))
  · obtain ⟨L, x, o, rfl, _⟩ := h
    rfl
  · obtain ⟨L, x, o, rfl, tx, k⟩ := h
    have nd := sc_is_word.nd
    obtain ⟨t2, g2⟩ := G.wm
    refine ⟨_, (pss_one (ps_ret (pe_and (pe_callB call_isi (by rfl) T.isinstance (by decide +kernel) (pa_cons (pv 1) (pa_cons (pe_bltn (v := .ty "str") rfl T.str (by decide +kernel) rfl) pa_nil)))
      (pe_and (pe_cmpR op_le (pe_callB call_len_str (by rfl) T.len PySem.boot_len (pa_cons (pv 1) pa_nil)) (pe_glob (v := .int 60) rfl g2 ⟨_, rfl⟩) (nomark _))
      (pe_one (pe_callB (cr_all rfl) (by rfl) T.all (by decide +kernel) (pa_cons (pe_lc (own := [("sign", 2)]) rfl nd (pi_str (pv 1)) (blkOk_by (N := N_is_word) rfl) (fun _ _ _ _ _ => (pg_name (i := 2) nd rfl (.inl rfl))) (fun _ _ _ _ _ => pts_nil) (fun _ _ _ _ _ => (pe_cmpR op_in_sign (pv 2) (pv 0) (by with_unfolding_all rfl)))) pa_nil))))))), ?_⟩
    rcases tx.now with ⟨l, rfl, rfl, hl⟩ | ⟨rfl, t, ty, kit⟩
    · have hz : (S l).length ≤ sizeLine := by rw [SX.S_len, sizeLine_eq]; omega
      refine ⟨_, rfl, _, .ty "str", _, _, true, rfl, .ty "str", .base (.str _), kit_ty (by decide +kernel), _, rfl, iteT ?_⟩
      refine ⟨_, rfl, _, rfl, hz, _, _, rfl, rfl, _, rfl, ?_⟩
      rw [SX.S_len]
      refine iteD rfl (fun h1 => ?_) (fun h1 => ?_)
      · refine ⟨_, rfl, _, rfl, fun D hD => lcP walk_S hD (by rw [sizeLine_eq]; omega) (fun i => .bl (decide (l.getD i 0 ∈ L))) (fun _ _ => True.intro) (fun i x H0 H' hi s y Q q => ?_) (fun H1 s1 e1 => ?_)⟩
        · obtain ⟨rfl, c, hc, rfl⟩ := y
          rw [getD_of hc] at q
          refine ⟨rfl, _, rfl, _, rfl, c, S L, rfl, rfl, ?_⟩
          have e : (S L).cps.toList = L := rfl
          rw [e]
          exact q _ (refl_same _)
        · refine ⟨D, (List.range l.length).map fun i => decide (l.getD i 0 ∈ L), rfl, SqL.of (by rw [bl_map]; exact e1), ?_⟩
          rw [all_map]
          have e : wordOk L (some l) = (List.range l.length).all fun i => decide (l.getD i 0 ∈ L) := by
            have z1 : l.length ≤ 60 := by omega
            simp only [wordOk, z1, decide_true, Bool.true_and]
          rw [← e]
          exact k _ s1
      · have e : wordOk L (some l) = false := by
          have : ¬ (l.length ≤ 60) := by omega
          simp [wordOk, this]
        show Q (.bl false) H
        rw [← e]
        exact k _ (refl_same _)
    · refine ⟨_, rfl, _, .ty "str", _, _, false, rfl, .ty "str", ty, kit, _, rfl, iteF ?_⟩
      exact k _ (refl_same _)

abbrev s_check_game_words : Stmt := (top 17)
abbrev N_check_game_words : List Str := ["letters", "words", "w"]
theorem sc_check_game_words : FnScope N_check_game_words ["letters", "words"] (defScope s_check_game_words) := ⟨rfl, rfl, rfl, by decide +kernel, rfl, by decide +kernel, by decide +kernel⟩
/-- the fault of letters and words -/
def badOf (lt : V) (o : Option (List Nat)) (xs : List (V × Option (List Nat))) : Option (Bool × V) :=
  if letOk o = true then (xs.find? fun p => !wordOk (o.getD []) p.2).map fun p => (true, p.1) else some (false, lt)
def spChk (K : PySem.W.Frag) (CL CW : Addr) : Sp := fun vs H Q E => ∃ lt o p xs, vs = [lt, .ref p] ∧ SqL K H p (xs.map Prod.fst) ∧ xs.length ≤ 1000 ∧ TxtO K H lt o ∧ (∀ q ∈ xs, TxtO K H q.1 q.2) ∧
  (badOf lt o xs = none → ∀ H', Same H H' → Q .non H') ∧ Fault CL CW H (badOf lt o xs) E
theorem ok_check_game_words {CL CW : Addr} (D : Def K mg "check_game_words" s_check_game_words f fd ["letters", "words"]) (EW : ErC P w K mg base "BadWord" CW) (c_chk : CalX P w K mg base 5 "check_letters" (spChkL K CL CW)) (c_is : Cal P w K mg base 1 "is_word" (spIsW K)) :
    CalX P w K mg base 6 "check_game_words" (spChk K CL CW) := by
  refine D.calX (D.fn.okX sc_check_game_words (fun vs H Q E h => ?_) (fun cdv A outer s H vs Q E hr h => ?_))
  · obtain ⟨lt, o, p, xs, rfl, _⟩ := h
    rfl
  · obtain ⟨lt, o, p, xs, rfl, hS, hxl, tl, tx, k, kf⟩ := h
    have nd := sc_check_game_words.nd
    obtain ⟨fI, fdI, i1, i2, FI, bI⟩ := EW.ini
    refine ⟨_, (pss_cons (ps_expr (pe_cE c_chk (passes_call (takes_of rfl rfl rfl rfl) (fun _ _ _ _ h => h)) hr (by decide) rfl (pa_cons (pv 0) pa_nil)))
      (pss_one (ps_for (passes_of rfl) rfl (pi_list (pv 1)) (pg_name (i := 2) nd rfl (.inl rfl))
      (pss_one (ps_if (pt_not (pt_val (pe_c c_is hr (by decide) rfl (pa_cons (pv 0) (pa_cons (pv 2) pa_nil)))))
      (pss_one (ps_raise rfl (takes_of rfl rfl rfl rfl) (pmk_oex EW.oex i1 i2 FI (hr.mono (by decide)) bI .nil pass0 rfl EW.mgC (pa_cons (pv 2) pa_nil))))
      pss_nil))))), ?_⟩
    refine ⟨_, rfl, lt, o, rfl, tl, fun hl H1 s1 => ?_, fun b u e d H' s' e' => ?_⟩
    · obtain ⟨L, rfl, rfl⟩ : ∃ L, o = some L ∧ lt = .str (S L) := by
        rcases tl.now with ⟨L, rfl, rfl, _⟩ | ⟨rfl, _⟩
        · exact ⟨L, rfl, rfl⟩
        · cases hl
      refine ⟨_, rfl, p, rfl, ⟨_, s1.seq hS⟩, for_list (K := K) (a := p) (xs := xs.map Prod.fst) (fun i σ H' => Same H H' ∧ (∀ j, j < i → ∀ q, xs[j]? = some q → wordOk L q.2 = true) ∧ ∃ z, σ = [some (.str (S L)), some (.ref p), z])
        ⟨s1, fun j hj => absurd hj (Nat.not_lt_zero _), none, rfl⟩ (fun i σ H' _ q => q.1.seq hS) ?_ ?_⟩
      · rintro i y σ H' hi ⟨s2, hw, z, rfl⟩
        rw [List.getElem?_map] at hi
        obtain ⟨q, hq, rfl⟩ := Option.map_eq_some_iff.mp hi
        refine ⟨_, rfl, _, rfl, L, q.1, q.2, rfl, (tx q (List.mem_of_getElem? hq)).same s2, fun H2 s3 => ⟨_, rfl, ?_⟩⟩
        have hil : i < xs.length := (List.getElem?_eq_some_iff.mp hq).1
        refine iteB (fun h => ?_) (fun h => ?_)
        · have h : wordOk L q.2 = false := by simpa using h
          refine ⟨_, rfl, er_mk fun d H' s4 hd e => ?_⟩
          refine kf true q.1 ?_ d H' (s2.trans (s3.trans s4)) e
          have hf : xs.find? (fun p => !wordOk L p.2) = some q := by
            rw
              [List.find?_eq_some_iff_getElem]
            refine ⟨by simp [h], i, hil, ?_, fun j hj => ?_⟩
            · have := List.getElem?_eq_some_iff.mp hq
              exact this.2
            · have := hw j hj xs[j] (List.getElem?_eq_getElem (by omega))
              simp [this]
          unfold badOf
          rw [if_pos hl]
          show Option.map _ (xs.find? fun p => !wordOk L p.2) = _
          rw [hf]; rfl
        · have h : wordOk L q.2 = true := by simpa using h
          refine ⟨s2.trans s3, fun j hj q' hq' => ?_, _, rfl⟩
          by_cases e : j = i
          · subst e
            rw [hq] at hq'
            cases hq'
            exact h
          · exact hw j (by omega) q' hq'
      · rintro σ H' ⟨s2, hw, z, rfl⟩
        refine k ?_ H' s2
        unfold badOf
        rw [if_pos hl]
        show Option.map _ (xs.find? fun p => !wordOk L p.2) = none
        have hf : xs.find? (fun p => !wordOk L p.2) = none := by
          rw [List.find?_eq_none]
          intro q hq
          obtain
            ⟨j, hj⟩ := List.mem_iff_getElem?.mp hq
          have hjl := (List.getElem?_eq_some_iff.mp hj).1
          rw [List.length_map] at hw
          simp [hw j hjl q hj]
        rw [hf]; rfl
    · refine kf b u ?_ d H' s' e'
      by_cases hl : letOk o = true
      · rw [if_pos hl] at e; cases e
      · unfold badOf
        rw [if_neg hl] at e ⊢
        exact e
end
end Ws

/-! numbers of classes: equal exactly for words kept (plain mathematics) -/
namespace Ws
open PySem PySem.Spec PyProof.Rows L2
def BB : Int := 16777216
structure RowsOk (rows : List (List Int)) : Prop where
  nd : rows.Nodup
  srt : rows.Pairwise (fun q r => TS.code BB q ≤ TS.code BB r)
  bd : ∀ r ∈ rows, r.length = 3 ∧ TS.Bd BB r
/-- n is the number of the class of u by k -/
def Means (ks : List (List Int)) : Nat → Nat → List Nat → Prop
  | 0, n, _ => ks[n]? = some [0]
  | k + 1, n, u => ∃ rows : List (List Int), ks[n]? = some (((k + 1 : Nat) : Int) :: rows.flatten) ∧ RowsOk rows ∧
      (∀ (x : List Nat) (c : Nat) (y : List Nat), u = x ++ c :: y → ∃ a b : Nat, [(a : Int), (c : Int), (b : Int)] ∈ rows ∧ Means ks k a x ∧ Means ks k b y) ∧
      (∀ r ∈ rows, ∃ (x : List Nat) (c : Nat) (y : List Nat) (a b : Nat), u = x ++ c :: y ∧ r = [(a : Int), (c : Int), (b : Int)] ∧ Means ks k a x ∧ Means ks k b y)

theorem means_mono {ks ks' : List (List Int)} (h : ∀ (n : Nat) (x : List Int), ks[n]? = some x → ks'[n]? = some x) : ∀ {k n : Nat} {u : List Nat}, Means ks k n u → Means ks' k n u
  | 0, n, _, m => h n [0] m
  | k + 1, n, u, ⟨rows, e, ok, f, g⟩ => by
    refine ⟨rows, h _ _ e, ok, fun x c y eu => ?_, fun r hr => ?_⟩
    · obtain ⟨a, b, i, ma, mb⟩ := f x c y eu
      exact ⟨a, b, i, means_mono h ma, means_mono h mb⟩
    · obtain ⟨x, c, y, a, b, eu, er, ma, mb⟩ := g r hr
      exact ⟨x, c, y, a, b, eu, er, means_mono h ma, means_mono h mb⟩

theorem code_inj {B : Int} : ∀ q r : List Int, q.length = r.length → TS.Bd B q → TS.Bd B r → TS.code B q = TS.code B r → q = r
  | [], [], _, _, _, _ => rfl
  | [], _ :: _, h, _, _, _ => by cases h
  | _ :: _, [], h, _, _, _ => by cases h
  | d :: q, e :: r, h, hq, hr, hc => by
    have hl : q.length = r.length := by simpa using h
    rcases Int.lt_trichotomy d e with z | z | z
    · have := TS.code_lt hl hq.tail hr.tail z
      omega
    · subst z
      have h1 : ¬ TS.code B q < TS.code B r := fun z => absurd ((TS.code_same (B := B) (d := d) hl).mpr z) (by omega)
      have h2 : ¬ TS.code B r < TS.code B q := fun z => absurd ((TS.code_same (B := B) (d := d) hl.symm).mpr z) (by omega)
      rw [code_inj q r hl hq.tail hr.tail (by have := Int.lt_trichotomy (TS.code B q) (TS.code B r); rcases this with z | z | z; exact (h1 z).elim; exact z; exact (h2 z).elim)]
    · have := TS.code_lt hl.symm hr.tail hq.tail z
      omega

theorem sorted_ext {α : Type} {R : α → α → Prop} : ∀ (l m : List α), l.Pairwise R → m.Pairwise R → l.Nodup → m.Nodup → (∀ x, x ∈ l ↔ x ∈ m) → (∀ x y, x ∈ l → y ∈ l → R x y → R y x → x = y) → l = m
  | [], [], _, _, _, _, _, _ => rfl
  | [], y :: m, _, _, _, _, h, _ => absurd ((h y).mpr (List.mem_cons_self ..)) (List.not_mem_nil)
  | x :: l, [], _, _, _, _, h, _ => absurd ((h x).mp (List.mem_cons_self ..)) (List.not_mem_nil)
  | x :: l, y :: m, p1, p2, n1, n2, h, anti => by
    obtain ⟨q1, q1'⟩ := List.pairwise_cons.mp p1
    obtain ⟨q2, q2'⟩ := List.pairwise_cons.mp p2
    obtain ⟨w1, w1'⟩ := List.nodup_cons.mp n1
    obtain ⟨w2, w2'⟩ := List.nodup_cons.mp n2
    have e : x = y := by
      rcases List.mem_cons.mp ((h x).mp (List.mem_cons_self ..)) with e | hx
      · exact e
      · rcases List.mem_cons.mp ((h y).mpr (List.mem_cons_self ..)) with e | hy
        · exact e.symm
        · exact anti x y (List.mem_cons_self ..) (List.mem_cons_of_mem _ hy) (q1 y hy) (q2 x hx)
    subst e
    rw [sorted_ext l m q1' q2' w1' w2' (fun z => ⟨fun hz => ?_, fun hz => ?_⟩) (fun a b ha hb => anti a b (List.mem_cons_of_mem _ ha) (List.mem_cons_of_mem _ hb))]
    · rcases List.mem_cons.mp ((h z).mp (List.mem_cons_of_mem _ hz)) with e | q
      · subst e; exact absurd hz w1
      · exact q
    · rcases List.mem_cons.mp ((h z).mpr (List.mem_cons_of_mem _ hz)) with e | q
      · subst e; exact absurd hz w2
      · exact q
theorem flat3_inj : ∀ (l m : List (List Int)), (∀ r ∈ l, r.length = 3) → (∀ r ∈ m, r.length = 3) → l.flatten = m.flatten → l = m
  | [], [], _, _, _ => rfl
  | [], y :: m, _, h, e => by
    have := h y (List.mem_cons_self ..)
    have e2 := congrArg List.length e
    rw [List.flatten_cons, List.length_append] at e2
    have e3 : ([] : List (List Int)).flatten.length = 0 := rfl
    omega
  | x :: l, [], h, _, e => by
    have := h x (List.mem_cons_self ..)
    have e2 := congrArg List.length e
    rw [List.flatten_cons, List.length_append] at e2
    have e3 : ([] : List (List Int)).flatten.length = 0 := rfl
    omega
  | x :: l, y :: m, h1, h2, e => by
    have a1 := h1 x (List.mem_cons_self ..)
    have a2 := h2 y (List.mem_cons_self ..)
    rw [List.flatten_cons, List.flatten_cons] at e
    obtain ⟨e1, e2⟩ := List.append_inj e (by omega)
    rw [e1, flat3_inj l m (fun r hr => h1 r (List.mem_cons_of_mem _ hr)) (fun r hr => h2 r (List.mem_cons_of_mem _ hr)) e2]
theorem rows_ext {l m : List (List Int)} (h1 : RowsOk l) (h2 : RowsOk m) (h : ∀ x, x ∈ l ↔ x ∈ m) : l = m :=
  sorted_ext l m h1.srt h2.srt h1.nd h2.nd h fun x y hx hy a b => by
    obtain ⟨lx, bx⟩ := h1.bd x hx
    obtain ⟨ly, bY⟩ := h1.bd y hy
    exact code_inj x y (by omega) bx bY (by omega)
theorem nodup_at {α : Type} {l : List α} (h : l.Nodup) {n m : Nat} {x : α} (a : l[n]? = some x) (b : l[m]? = some x) : n = m := by
  obtain ⟨hn, en⟩ := List.getElem?_eq_some_iff.mp a
  obtain ⟨hm, em⟩ := List.getElem?_eq_some_iff.mp b
  have p := List.pairwise_iff_getElem.mp h
  rcases Nat.lt_trichotomy n m with z | z | z
  · exact absurd (en.trans em.symm) (p n m hn hm z)
  · exact z
  · exact absurd (em.trans en.symm) (p m n hm hn z)
theorem means_iff {ks : List (List Int)} (nd : ks.Nodup) : ∀ {k n m : Nat} {u v : List Nat}, Means ks k n u → Means ks k m v → (n = m ↔ kept k u v)
  | 0, n, m, u, v, a, b => ⟨fun _ => trivial, fun _ => nodup_at (x := [0]) nd a b⟩
  | k + 1, n, m, u, v, ⟨rows, e, ok, f, g⟩, ⟨rows', e', ok', f', g'⟩ => by
    constructor
    · intro h
      subst h
      have e2 := e.symm.trans e'
      injection e2 with e2
      injection e2 with _ e2
      have er : rows = rows' := flat3_inj _ _ (fun r hr => (ok.bd r hr).1) (fun r hr => (ok'.bd r hr).1) e2
      subst er
      refine ⟨fun x c y eu => ?_, fun x c y eu => ?_⟩
      · obtain ⟨a, b, i, ma, mb⟩ := f x c y eu
        obtain ⟨x', c', y', a', b', ev, er, ma', mb'⟩ := g' _ i
        injection er with h1 h2
        injection h2 with h2 h3
        injection h3 with h3 _
        have h1 : a = a' := by omega
        have h2 : c = c' := by omega
        have h3 : b = b' := by omega
        subst h1 h2 h3
        exact ⟨x', y', ev, (means_iff nd ma ma').mp rfl, (means_iff nd mb mb').mp rfl⟩
      · obtain ⟨a, b, i, ma, mb⟩ := f' x c y eu
        obtain ⟨x', c', y', a', b', ev, er, ma', mb'⟩ := g _ i
        injection er with h1 h2
        injection h2 with h2 h3
        injection h3 with h3 _
        have h1 : a = a' := by omega
        have h2 : c = c' := by omega
        have h3 : b = b' := by omega
        subst h1 h2 h3
        exact ⟨x', y', ev, (means_iff nd ma ma').mp rfl, (means_iff nd mb mb').mp rfl⟩
    · intro h
      have er : rows = rows' := by
        refine rows_ext ok ok' fun r => ⟨fun hr => ?_, fun hr => ?_⟩
        · obtain ⟨x, c, y, a, b, eu, er, ma, mb⟩ := g r hr
          obtain ⟨x', y', ev, p, q⟩ := h.1 x c y eu
          obtain ⟨a', b', i, ma', mb'⟩ := f' x' c y' ev
          have h1 := (means_iff nd ma ma').mpr p
          have h2 := (means_iff nd mb mb').mpr q
          subst h1 h2
          rw [er]; exact i
        · obtain ⟨x, c, y, a, b, eu, er, ma, mb⟩ := g' r hr
          obtain ⟨x', y', ev, p, q⟩ := h.2 x c y eu
          obtain ⟨a', b', i, ma', mb'⟩ := f x' c y' ev
          have h1 := (means_iff nd ma ma').mpr p
          have h2 := (means_iff nd mb mb').mpr q
          subst h1 h2
          rw [er]; exact i
      subst er
      exact nodup_at nd e e'
theorem means_lt {ks : List (List Int)} : ∀ {k n : Nat} {u : List Nat}, Means ks k n u → n < ks.length
  | 0, n, u, h => (List.getElem?_eq_some_iff.mp (show ks[n]? = some [0] from h)).1
  | k + 1, n, u, ⟨_, h, _⟩ => (List.getElem?_eq_some_iff.mp h).1

/-! ### the table of the known keys -/
def knv : Nat → List (List Int) → List (List Key × V)
  | _, [] => []
  | i, k :: r => (k.map Sum.inl, .int (i : Nat)) :: knv (i + 1) r
theorem knv_len : ∀ (i : Nat) (ks : List (List Int)), (knv i ks).length = ks.length
  | _, [] => rfl
  | i, k :: r => by rw [knv, List.length_cons, List.length_cons, knv_len (i + 1) r]
theorem knv_snoc (k : List Int) : ∀ (i : Nat) (ks : List (List Int)), knv i (ks ++ [k]) = knv i ks ++ [(k.map Sum.inl, .int ((i + ks.length : Nat)))]
  | i, [] => rfl
  | i, x :: r => by
    show (x.map Sum.inl, V.int (i : Nat)) :: knv (i + 1) (r ++ [k]) = (x.map Sum.inl, V.int (i : Nat)) :: (knv (i + 1) r ++ [(k.map Sum.inl, .int ((i + (x :: r).length : Nat)))])
    rw [knv_snoc k (i + 1) r, List.length_cons]
    have e : i + 1 + r.length = i + (r.length + 1) := by omega
    rw [e]
theorem inl_inj : ∀ {a b : List Int}, a.map (Sum.inl : Int → Key) = b.map Sum.inl → a = b
  | [], [], _ => rfl
  | [], _ :: _, h => by cases h
  | _ :: _, [], h => by cases h
  | x :: a, y :: b, h => by
    injection h with h1 h2
    injection h1 with h1
    rw [h1, inl_inj h2]
theorem knv_some {k : List Int} {v : V} : ∀ {i : Nat} {ks : List (List Int)}, valV (knv i ks) (k.map Sum.inl) = some v → ∃ n : Nat, v = .int ((i + n : Nat)) ∧ ks[n]? = some k
  | i, [], h => by cases h
  | i, x :: r, h => by
    by_cases e : x = k
    · subst e
      rw [knv, valV_pos rfl] at h
      injection h with h
      exact ⟨0, h.symm, rfl⟩
    · rw [knv, valV_neg (fun z => e (inl_inj z))] at h
      obtain ⟨n, e1, e2⟩ := knv_some h
      refine ⟨n + 1, ?_, by simpa using e2⟩
      rw [e1]
      have : i + 1 + n = i + (n + 1) := by omega
      rw [this]
theorem knv_none {k : List Int} : ∀ {i : Nat} {ks : List (List Int)}, valV (knv i ks) (k.map Sum.inl) = none → k ∉ ks
  | i, [], _ => List.not_mem_nil
  | i, x :: r, h => by
    by_cases e : x = k
    · subst e
      rw [knv, valV_pos rfl] at h
      cases h
    · rw [knv, valV_neg (fun z => e (inl_inj z))] at h
      intro m
      rcases List.mem_cons.mp m with q | q
      · exact e q.symm
      · exact knv_none h q
/-- ks' is ks, or ks with key behind; key stands at n -/
structure Step (ks ks' : List (List Int)) (key : List Int) (n : Nat) : Prop where
  at_ : ks'[n]? = some key
  or : ks' = ks ∨ (key ∉ ks ∧ ks' = ks ++ [key])
theorem Step.pre {ks ks' : List (List Int)} {key : List Int} {n : Nat} (s : Step ks ks' key n) {m : Nat} {x : List Int} (h : ks[m]? = some x) : ks'[m]? = some x := by
  rcases s.or with e | ⟨_, e⟩
  · rw [e]; exact h
  · rw [e, List.getElem?_append_left (List.getElem?_eq_some_iff.mp h).1]; exact h
theorem Step.nd {ks ks' : List (List Int)} {key : List Int} {n : Nat} (s : Step ks ks' key n) (h : ks.Nodup) : ks'.Nodup := by
  rcases s.or with e | ⟨f, e⟩
  · rw [e]; exact h
  · rw [e, List.nodup_append]
    refine ⟨h, by simp, fun a ha b hb z => f ?_⟩
    rw [List.mem_singleton] at hb
    rw [← hb, ← z]; exact ha
theorem Step.len {ks ks' : List (List Int)} {key : List Int} {n : Nat} (s : Step ks ks' key n) : ks'.length ≤ ks.length + 1 := by
  rcases s.or with e | ⟨_, e⟩
  · rw [e]; omega
  · rw [e]; simp
/-- what grows -/
structure Grow (ks ks' : List (List Int)) : Prop where
  pre : ∀ (m : Nat) (x : List Int), ks[m]? = some x → ks'[m]? = some x
  nd : ks.Nodup → ks'.Nodup
theorem Grow.refl (ks : List (List Int)) : Grow ks ks := ⟨fun _ _ h => h, fun h => h⟩
theorem Grow.trans {a b c : List (List Int)} (x : Grow a b) (y : Grow b c) : Grow a c := ⟨fun m z h => y.pre m z (x.pre m z h), fun h => y.nd (x.nd h)⟩
theorem Step.grow {ks ks' : List (List Int)} {key : List Int} {n : Nat} (s : Step ks ks' key n) : Grow ks ks' := ⟨fun _ _ h => s.pre h, s.nd⟩
theorem Grow.means {ks ks' : List (List Int)} (g : Grow ks ks') {k n : Nat} {u : List Nat} (h : Means ks k n u) : Means ks' k n u := means_mono g.pre h
end Ws

/-! the classes' numbers -/
namespace Ws
open PySem PySem.Spec PyProof.Rows L2
/-- a method that may be called -/
structure MCal (P : Program) (w : World) (K : PySem.W.Frag) (mg : Str → Option Value) (base : Heap) (C : Addr) (m : Str) (k : Nat) (sp : Sp) : Prop where
  ex : ∃ (f : Addr) (fd : FuncData) (ps : List Str), FnOk P w K mg base CX0 k f fd ps sp ∧ Meth K C m f ∧ Binds K fd ps []
theorem pe_m {X : Cx} {C : Addr} {m : Str} {k j : Nat} {sp : Sp} {o e : Expr} {es : List Expr} {ta : TE} {t : TA} {pos apos : Pos} {pl : Sem Bool} (c : MCal X.prog X.w X.K X.mg X.base C m k sp) (cl : Cls X.K C) (hr : Room j X.A) (hk : k ≤ j) (he : PE X o ta) (ha : PA X (e :: es) t)
    (hst : starEach (e :: es) X.env = (false, eval e X.env) :: starEach es X.env := by rfl) (hpl : (backTo pos (starEach es X.env)).any (·.1) = false := by rfl)
    (ht : eval (.Call (.Attribute o m apos) (e :: es) [] pos) X.env = (do
      let ov ← eval o X.env
      standAt apos.atName
      let (f, first) ← holding [ov] (getMethod ov m pl)
      callWith pos f first (backTo pos (starEach (e :: es) X.env)) (backToKw pos (keywordEach [] X.env))) := by rfl) :
    PE X (.Call (.Attribute o m apos) (e :: es) [] pos) (tMeth C m sp [] E0 ta t) := by
  obtain ⟨f, fd, ps, F, M, b⟩ := c.ex
  exact pe_meth he cl M F (hr.mono hk) b .nil pass0 ha hst hpl ht
structure ClsT (K : PySem.W.Frag) (mg : Str → Option Value) (C : Addr) : Prop where
  cl : Cls K C
  nK : NoAttr K C "known"
  mgC : mg "Classes" = some (.ref C)
structure MkC (P : Program) (w : World) (K : PySem.W.Frag) (mg : Str → Option Value) (base : Heap) (C : Addr) (sp : Sp) : Prop where
  ex : ∃ (f : Addr) (fd : FuncData), FnOk P w K mg base CX0 1 f fd ["self"] sp ∧ Mk K C f ∧ Binds K fd ["self"] []
def ClsAt (C : Addr) (H : Hp) (c dk : Addr) (ks : List (List Int)) : Prop := (∃ dx, H c = some (.ins C dx [("known", .ref dk)])) ∧ H dk = some (.dT (knv 0 ks))
theorem ClsAt.ne {C : Addr} {H : Hp} {c dk : Addr} {ks : List (List Int)} (h : ClsAt C H c dk ks) : c ≠ dk := by
  obtain ⟨⟨dx, e⟩, e2⟩ := h
  exact ne_of e e2 (by intro z; cases z)
theorem ClsAt.same {C : Addr} {H H' : Hp} {c dk : Addr} {ks : List (List Int)} (h : ClsAt C H c dk ks) (s : Same H H') : ClsAt C H' c dk ks := by
  obtain ⟨⟨dx, e⟩, e2⟩ := h
  exact ⟨⟨dx, s _ _ e⟩, s _ _ e2⟩
def spCI (C : Addr) : Sp := fun vs H Q _ => ∃ p dx, vs = [.ref p] ∧ H p = some (.ins C dx []) ∧ ∀ dk, H dk = none → Q .non (upd (upd H dk (.dT [])) p (.ins C dx [("known", .ref dk)]))
theorem yesT {σ : L2.St} {H : Hp} {A B : Hp → Prop} (h : A H) : tYes σ H fun b H3 => if b = true then A H3 else B H3 := iteT (A := A H) (B := B H) h
/-- the key of k and the rows -/
def keyOf (k : Int) (rows : List (List Int)) : List Int := k :: rows.flatten
theorem kv_ints (l : List Int) : (l.map (Sum.inl : Int → Key)).map kV = l.map V.int := by rw [List.map_map]; rfl
theorem flat_ints : ∀ rs : List (Addr × List Int), rs.flatMap (fun p => p.2.map V.int) = ((rs.map (·.2)).flatten).map V.int
  | [] => rfl
  | p :: rs => by
    rw [List.flatMap_cons, flat_ints rs, List.map_cons, List.flatten_cons, List.map_append]
theorem flat_len {rs : List (Addr × List Int)} (h : ∀ p ∈ rs, p.2.length = 3) : (rs.flatMap (fun p => p.2.map V.int)).length = 3 * rs.length := by
  induction rs with
  | nil => rfl
  | cons p rs ih =>
    rw [List.flatMap_cons, List.length_append, ih (fun q hq => h q (List.mem_cons_of_mem _ hq)), List.length_map, h p (List.mem_cons_self ..), List.length_cons]
    omega
/-- rows that stand as tuples in a list -/
structure RowsAt (K : PySem.W.Frag) (H : Hp) (r : Addr) (rs : List (Addr × List Int)) : Prop where
  at_ : SqL K H r (rs.map fun p => V.ref p.1)
  tup : ∀ p ∈ rs, SqT K H p.1 (p.2.map V.int)
  few : rs.length < 64
  three : ∀ p ∈ rs, p.2.length = 3
def spNum (K : PySem.W.Frag) (C : Addr) : Sp := fun vs H Q _ => ∃ (c dk : Addr) (ks : List (List Int)) (k : Int) (r : Addr) (rs : List (Addr × List Int)), vs = [.ref c, .int k, .ref r] ∧ ClsAt C H c dk ks ∧ ks.length < 10000000 ∧
  RowsAt K H r rs ∧ ∀ (n : Nat) ks' H', Ext dk H H' → ClsAt C H' c dk ks' → Step ks ks' (keyOf k (rs.map (·.2))) n → Q (.int n) H'
section
variable {P : Program} {w : World} {K : PySem.W.Frag} {mg : Str → Option Value} {base : Heap} {f C : Addr} {fd : FuncData}
abbrev s_CI : Stmt := (inClass (top 18) 0)
theorem sc_CI : FnScope ["self"] ["self"] (defScope s_CI) := ⟨rfl, rfl, rfl, by decide +kernel, rfl, by decide +kernel, by decide +kernel⟩
theorem ok_CI (CT : ClsT K mg C) (F : L2.Fun K "__init__" "Classes.__init__" s_CI f fd) : FnOk P w K mg base CX0 1 f fd ["self"] (spCI C) := by
  refine F.ok sc_CI (fun vs H Q E h => ?_) (fun cdv A outer s H vs Q E hr h => ?_)
  · obtain ⟨p, dx, rfl, _⟩ := h
    rfl
  · obtain ⟨p, dx, rfl, hp, k⟩ := h
    refine ⟨_, pss_one (ps_fld (pv 0) pe_dnewT rfl), ?_⟩
    intro d hd
    exact ⟨_, rfl, p, C, dx, [], rfl, by rw [upd_ne (ne_of_none hp hd)]; exact hp, CT.cl, CT.nK, by show 0 < 1000; decide, k d hd⟩

abbrev s_num : Stmt := (inClass (top 18) 1)
abbrev N_num : List Str := ["self", "k", "around", "key", "triple", "item"]
theorem sc_num : FnScope N_num ["self", "k", "around"] (defScope s_num) := ⟨rfl, rfl, rfl, by decide +kernel, rfl, by decide +kernel, by decide +kernel⟩
theorem ok_num (T : Bl mg) (CT : ClsT K mg C) (F : L2.Fun K "number" "Classes.number" s_num f fd) : FnOk P w K mg base CX0 1 f fd ["self", "k", "around"] (spNum K C) := by
  refine F.ok sc_num (fun vs H Q E h => ?_) (fun cdv A outer s H vs Q E hr h => ?_)
  · obtain ⟨c, dk, ks, k, r, rs, rfl, _⟩ := h
    rfl
  · obtain ⟨c, dk, ks, k, r, rs, rfl, hc, hkl, hR, kq⟩ := h
    have nd := sc_num.nd
    have hu := hu_of hr
    refine ⟨_, (C8.pss_cut (ps_set (i := 3) nd rfl (.inl rfl) (pe_op op_catT (pe_tup (pa_cons (pv 1) pa_nil)) (pe_callTy call_tuple_of (by rfl) T.tuple (by decide +kernel) (pa_cons
        (pe_lc2 (own := [("triple", 4), ("item", 5)]) (vs1 := [5]) (wi1 := iTup K (tVar 4)) rfl nd (pi_list (pv 2)) (blkOk_by (N := N_num) rfl) (by decide) (fun _ _ _ _ _ => pg_name (i := 4) nd rfl (.inl rfl)) (fun _ _ _ _ _ => pts_nil)
          (fun _ _ _ _ _ => pi_tup (pv 4)) (fun _ _ _ _ _ => pg_name (i := 5) nd rfl (.inl rfl)) (fun _ _ _ _ _ => pts_nil) (fun _ _ _ _ _ => pv 5)) pa_nil))))
      (pss_one (ps_ret (pe_dsetdT hu (pe_fld (pv 0) rfl) (pv 3) (pe_callB call_len_dT (by rfl) T.len PySem.boot_len (pa_cons (pe_fld (pv 0) rfl) pa_nil)) ⟨rfl, rfl, rfl, rfl⟩)))), ?_⟩
    refine ⟨fun σ' H' => ∃ b z y, σ' = [some (.ref c), some (.int k), some (.ref r), some (.ref b), z, y] ∧ Same H H' ∧ H' b = some (.tup ((keyOf k (rs.map (·.2))).map V.int)), ?_, ?_⟩
    · refine ⟨_, rfl, by show 1 ≤ sizeLine; decide, fun t ht => ?_⟩
      have s1 : Same H (upd H t (.tup [.int k])) := Same.new ht
      refine ⟨_, rfl, r, rfl, ⟨_, s1.seq hR.at_⟩, fun D hD => ?_⟩
      let flat : Nat → List V := fun i => (rs.take i).flatMap fun p => p.2.map V.int
      have flen : ∀ i, (flat i).length ≤ 192 := fun i => by
        have h3 := flat_len (rs := rs.take i) (fun p hp => hR.three p (List.mem_of_mem_take hp))
        have := hR.few
        have h4 : (rs.take i).length ≤ rs.length := by simp; omega
        show ((rs.take i).flatMap fun p => p.2.map V.int).length ≤ 192
        omega
      have hWl : Walk (Itl K r) (rs.map fun p => V.ref p.1).length (fun H => SqL K H r (rs.map fun p => V.ref p.1)) (YAt (rs.map fun p => V.ref p.1)) := walk_list
      refine ⟨fun i m H' => m = rs.length - i ∧ i ≤ rs.length ∧ Same (upd H t (.tup [.int k])) H' ∧ H' D = some (.lst (flat i)), ⟨_, rfl, Nat.zero_le _, Same.new hD, upd_same⟩, ?_⟩
      rintro i m H' ⟨rfl, hi, s2, eD⟩
      by_cases hlt : i < rs.length
      · have hS2 : SqL K H' r (rs.map fun p => V.ref p.1) := (s1.trans s2).seq hR.at_
        refine .inr ⟨hWl.goes i H' (by rw [List.length_map]; exact hlt) hS2, fun H3 => i + 1 ≤ rs.length ∧ Same (upd H t (.tup [.int k])) H3 ∧ H3 D = some (.lst (flat (i + 1))),
          fun H3 p => ⟨rs.length - (i + 1), by omega, rfl, p⟩, fun x H3 y => ?_⟩
        obtain ⟨rfl, hx⟩ := hWl.yields i H' x H3 (by rw [List.length_map]; exact hlt) hS2 y
        rw [List.getElem?_map, List.getElem?_eq_getElem hlt] at hx
        have hx : V.ref rs[i].1 = x := Option.some.inj hx
        subst hx
        have hm : rs[i] ∈ rs := List.getElem_mem hlt
        have h3 := hR.three _ hm
        have hT2 : SqT K H3 rs[i].1 (rs[i].2.map V.int) := Ws.Same.seqT (s1.trans s2) (hR.tup _ hm)
        have hWt : Walk (Itt K rs[i].1) (rs[i].2.map V.int).length (fun H => SqT K H rs[i].1 (rs[i].2.map V.int)) (YAt (rs[i].2.map V.int)) := walk_tup
        have fs : flat (i + 1) = flat i ++ rs[i].2.map V.int := by
          show (rs.take (i + 1)).flatMap _ = (rs.take i).flatMap _ ++ _
          rw [List.take_succ, List.getElem?_eq_getElem hlt, List.flatMap_append]
          simp
        refine ⟨rfl, ?_⟩
        refine yesT ?_
        refine ⟨_, rfl, rs[i].1, rfl, ⟨_, hT2⟩, fun j m H4 => m = 3 - j ∧ j ≤ 3 ∧ Same (upd H t (.tup [.int k])) H4 ∧ H4 D = some (.lst (flat i ++ (rs[i].2.map V.int).take j)), ⟨_, rfl, Nat.zero_le _, s2, by rw [eD]; simp⟩, ?_⟩
        rintro j m H4 ⟨rfl, hj, s4, e4⟩
        have hT4 : SqT K H4 rs[i].1 (rs[i].2.map V.int) := Ws.Same.seqT (s1.trans s4) (hR.tup _ hm)
        by_cases hjl : j < 3
        · have hjl' : j < (rs[i].2.map V.int).length := by rw [List.length_map, h3]; exact hjl
          refine .inr ⟨hWt.goes j H4 hjl' hT4, fun H5 => j + 1 ≤ 3 ∧ Same (upd H t (.tup [.int k])) H5 ∧ H5 D = some (.lst (flat i ++ (rs[i].2.map V.int).take (j + 1))), fun H5 p => ⟨3 - (j + 1), by omega, rfl, p⟩, fun x H5 y => ?_⟩
          obtain ⟨rfl, hx⟩ := hWt.yields j H4 x H5 hjl' hT4 y
          refine ⟨rfl, ?_⟩
          refine yesT ?_
          refine ⟨_, rfl, _, e4, ?_, hjl, ?_, ?_⟩
          · have := flen i
            rw [List.length_append, List.length_take, sizeLine_eq]
            omega
          · intro b o e
            rw [upd_ne (ne_of_none e hD)]
            exact s4 _ _ e
          · rw [upd_same, List.take_succ, hx, List.append_assoc]
            rfl
        · have ej : j = 3 := by omega
          subst ej
          refine .inl ⟨hWt.stops H4 hT4 |> fun h => ?_, hlt, s4, ?_⟩
          · have : (rs[i].2.map V.int).length = 3 := by rw [List.length_map, h3]
            rw [this] at h
            exact h
          · rw [e4, fs, List.take_of_length_le (by rw [List.length_map, h3]; omega)]
      · have ei : i = rs.length := by omega
        subst ei
        have hS2 : SqL K H' r (rs.map fun p => V.ref p.1) := (s1.trans s2).seq hR.at_
        refine .inl ⟨hWl.stops H' hS2 |> fun h => ?_, ?_⟩
        · rw [List.length_map] at h
          exact h
        have ef : flat rs.length = ((rs.map (·.2)).flatten).map V.int := by
          show (rs.take rs.length).flatMap _ = _
          rw [List.take_length, flat_ints]
        rw [ef] at eD
        refine ⟨D, _, rfl, .inl ⟨SqL.of eD, fun l hl => ?_⟩⟩
        have ht2 : upd H' l (.tup (((rs.map (·.2)).flatten).map V.int)) t = some (.tup [.int k]) := by
          have h0 := s2 _ _ (upd_same (H := H) (a := t) (o := .tup [.int k]))
          rw [upd_ne (ne_of_none h0 hl)]
          exact h0
        have s5 : Same H (upd H' l (.tup (((rs.map (·.2)).flatten).map V.int))) := (s1.trans s2).trans (Same.new hl)
        refine ⟨t, l, [.int k], _, rfl, rfl, SqT.of ht2, SqT.of upd_same, by simp, ?_, fun e => ?_, fun e p hp => ?_⟩
        · have := flen rs.length
          rw [ef] at this
          rw [sizeLine_eq]
          simp only [List.length_cons, List.length_nil] at this ⊢
          omega
        · refine ⟨t, none, none, rfl, s5, ?_⟩
          rw [ht2]
          have e2 : (rs.map (·.2)).flatten = [] := List.map_eq_nil_iff.mp e
          unfold keyOf
          rw [e2]
          rfl
        · refine ⟨p, none, none, rfl, s5.trans (Same.new hp), ?_⟩
          rw [upd_same]
          rfl
    · rintro σ' H' ⟨b, z, y, rfl, s1, eb⟩
      obtain ⟨⟨dx, e1⟩, e2⟩ := hc.same s1
      refine ⟨_, rfl, c, C, dx, _, _, rfl, e1, CT.cl, CT.nK, rfl, dk, rfl, .inr ⟨_, .inl e2⟩, _, rfl, _, rfl, c, C, dx, _, _, rfl, e1, CT.cl, CT.nK, rfl, dk, knv 0 ks, rfl, e2, ?_⟩
      refine ⟨knv 0 ks, (keyOf k (rs.map (·.2))).map Sum.inl, b, e2, rfl, by rw [kv_ints]; exact eb, by rw [knv_len, sizeLine_eq]; omega, fun v hv => ?_, fun hv => ?_⟩
      · obtain ⟨n, rfl, hn⟩ := knv_some hv
        rw [Nat.zero_add]
        exact kq n ks H' (Ext.of s1) (hc.same s1) ⟨hn, .inl rfl⟩
      · rw [putK_new _ hv, knv_len]
        have en : knv 0 ks ++ [((keyOf k (rs.map (·.2))).map Sum.inl, V.int ((ks.length : Nat) : Int))] = knv 0 (ks ++ [keyOf k (rs.map (·.2))]) := by
          rw [knv_snoc, Nat.zero_add]
        rw [en]
        have ncd : c ≠ dk := hc.ne
        refine kq ks.length _ _ ((Ext.of s1).trans Ext.upd) ⟨⟨dx, by rw [upd_ne ncd]; exact e1⟩, upd_same⟩ ⟨by simp, .inr ⟨knv_none hv, rfl⟩⟩
theorem refs_of {H : Hp} : ∀ {ys : List V} {row : Nat → List Int} (h : ∀ i v, ys[i]? = some v → ∃ p, v = .ref p ∧ H p = some (.tup ((row i).map V.int))),
    ∃ ks : List (Addr × List Int), ys = ks.map (fun p => V.ref p.1) ∧ ks.length = ys.length ∧ ∀ i p, ks[i]? = some p → p.2 = row i ∧ H p.1 = some (.tup (p.2.map V.int))
  | [], row, _ => ⟨[], rfl, rfl, fun i p h => by simp at h⟩
  | y :: ys, row, h => by
    obtain ⟨p, rfl, e⟩ := h 0 y rfl
    obtain ⟨ks, e1, e2, e3⟩ := refs_of (ys := ys) (row := fun i => row (i + 1)) (fun i v hv => h (i + 1) v (by simpa using hv))
    refine ⟨(p, row 0) :: ks, by rw [List.map_cons, ← e1], by simp [e2], fun i q hq => ?_⟩
    cases i with
    | zero =>
      simp at hq
      subst hq
      exact ⟨rfl, e⟩
    | succ i => exact e3 i q (by simpa using hq)
def spAro (K : PySem.W.Frag) : Sp := fun vs H Q _ => ∃ (c : V) (u : List Nat) (m : Addr) (k : Nat) (lo hi : Nat), vs = [c, .str (S u), .ref m, .int k, .int lo, .int hi] ∧ u.length ≤ 60 ∧ lo ≤ hi ∧ hi ≤ u.length ∧
  (k = 0 → ∀ r H', Same H H' → RowsAt K H' r [] → Q (.ref r) H') ∧
  (∀ k', k = k' + 1 → ∃ (mv : List (List Key × V)) (fa fb : Nat → Nat), H m = some (.dT mv) ∧
    (∀ s, lo ≤ s → s < hi → valV mv [.inl (k' : Nat), .inl (lo : Nat), .inl (s : Nat)] = some (.int (fa s : Nat)) ∧ valV mv [.inl (k' : Nat), .inl ((s + 1 : Nat)), .inl (hi : Nat)] = some (.int (fb s : Nat)) ∧ fa s < 16777216 ∧ fb s < 16777216 ∧ u.getD s 0 < 16777216) ∧
    ∀ r rs H', Same H H' → RowsAt K H' r rs → RowsOk (rs.map (·.2)) → (∀ x, x ∈ rs.map (·.2) ↔ ∃ s, lo ≤ s ∧ s < hi ∧ x = [(fa s : Int), (u.getD s 0 : Int), (fb s : Int)]) → Q (.ref r) H')
abbrev s_aro : Stmt := (inClass (top 18) 3)
abbrev N_aro : List Str := ["self", "w", "made", "k", "low", "high", "rows", "s"]
theorem sc_aro : FnScope N_aro ["self", "w", "made", "k", "low", "high"] (defScope s_aro) := ⟨rfl, rfl, rfl, by decide +kernel, rfl, by decide +kernel, by decide +kernel⟩
theorem ok_aro (T : Bl mg) (F : L2.Fun K "around" "Classes.around" s_aro f fd) : FnOk P w K mg base CX0 1 f fd ["self", "w", "made", "k", "low", "high"] (spAro K) := by
  refine F.ok sc_aro (fun vs H Q E h => ?_) (fun cdv A outer s H vs Q E hr h => ?_)
  · obtain ⟨c, u, m, k, lo, hi, rfl, _⟩ := h
    rfl
  · obtain ⟨c, u, m, k, lo, hi, rfl, hul, hlh, hhu, hk0, hk1⟩ := h
    have nd := sc_aro.nd
    have hu := hu_of hr
    refine ⟨_, (pss_cons (ps_if (pt_cmpR op_eq (pv 3) pe_int (nomark _))
      (pss_one (ps_ret (pe_lst pa_nil)))
      pss_nil)
      (pss_cons (ps_setLc (i := 6) (own := [("s", 7)]) rfl nd rfl rfl (sw_true rfl rfl rfl (by decide +kernel)) (pi_range2 (by rfl) T.range (pa_cons (pv 4) (pa_cons (pv 5) pa_nil))) (blkOk_by (N := N_aro) rfl) (fun _ _ _ _ _ => (pg_name (i := 7) nd rfl (.inl rfl))) (fun _ _ _ _ _ => pts_nil)
        (fun _ _ _ _ _ => (pe_tup (pa_cons (pe_dget hu (pv 2) (pe_tup (pa_cons (pe_op op_sub (pv 3) pe_int) (pa_cons (pv 4) (pa_cons (pv 7) pa_nil)))) (fun _ _ => rfl)) (pa_cons (pe_callB call_ord (by rfl) T.ord (by decide +kernel) (pa_cons (pe_ix ix_str (pv 1) (pv 7) (fun _ _ => rfl)) pa_nil)) (pa_cons (pe_dget hu (pv 2) (pe_tup (pa_cons (pe_op op_sub (pv 3) pe_int) (pa_cons (pe_op op_add (pv 7) pe_int) (pa_cons (pv 5) pa_nil)))) (fun _ _ => rfl)) pa_nil))))))
      (pss_one (ps_ret (pe_callB (cr_sortedT rfl) (by rfl) T.sorted (by decide +kernel) (pa_cons (pe_callTy (cr_setOfT rfl hr.units) (by rfl) T.set (by decide +kernel) (pa_cons (pv 6) pa_nil)) pa_nil)))))), ?_⟩
    refine ⟨_, rfl, rfl, _, rfl, ?_⟩
    refine iteV (fun h0 => ?_) (fun h0 => ?_)
    · have ek : k = 0 := by
        have := V.int.inj h0
        omega
      refine ⟨Nat.zero_le _, fun l hl => hk0 ek l _ (Same.new hl) ⟨SqL.of upd_same, fun p hp => absurd hp List.not_mem_nil, by decide, fun p hp => absurd hp List.not_mem_nil⟩⟩
    · obtain ⟨k', rfl⟩ : ∃ k', k = k' + 1 := by
        cases k with
        | zero => exact absurd rfl h0
        | succ k' => exact ⟨k', rfl⟩
      obtain ⟨mv, fa, fb, hm, hf, kq⟩ := hk1 k' rfl
      let row : Nat → List Int := fun i => [(fa (lo + i) : Int), (u.getD (lo + i) 0 : Int), (fb (lo + i) : Int)]
      have en : (((hi : Nat) : Int) - ((lo : Nat) : Int)).toNat = hi - lo := by omega
      refine ⟨_, rfl, _, rfl, _, _, rfl, ⟨by omega, by omega, by omega, by omega⟩, fun D hD => ?_⟩
      rw [en]
      refine lcR (walk_range (lo := (lo : Int)) (n := hi - lo)) hD (by rw [sizeLine_eq]; omega) (fun i v H => ∃ p, v = .ref p ∧ H p = some (.tup ((row i).map V.int)))
        (fun i v H1 H2 e hx r => ?_) (fun _ _ => True.intro) (fun i x H1 H1' hi' s1 hx y Q' q => ?_) (fun ys H1 s1 e1 hl1 hr1 => ?_)
      · obtain ⟨p, rfl, hp⟩ := r
        obtain ⟨xs, hx⟩ := hx
        refine ⟨p, rfl, e p _ (fun z => ?_) hp⟩
        rw [z, hx] at hp
        cases hp
      · obtain ⟨rfl, rfl⟩ := y
        obtain ⟨v1, v2, b1, b2, b3⟩ := hf (lo + i) (by omega) (by omega)
        have hm1 := s1 _ _ hm
        have hz : (S u).length ≤ sizeLine := by rw [SX.S_len, sizeLine_eq]; omega
        have hsl : lo + i < u.length := by omega
        have ec : u.getD (lo + i) 0 = u[lo + i] := by rw [List.getD_eq_getElem?_getD, List.getElem?_eq_getElem hsl]; rfl
        refine ⟨rfl, ?_⟩
        refine ⟨_, rfl, _, rfl, _, _, rfl, rfl, _, rfl, _, rfl, by show 3 ≤ sizeLine; decide, fun t1 ht1 => ?_⟩
        refine ⟨m, .int (fa (lo + i) : Nat), rfl, ?_, ?_⟩
        · have g := DGet.t (b := t1) (k := [.inl (k' : Nat), .inl (lo : Nat), .inl ((lo + i : Nat))]) ((Same.new (o := .tup [.int (((k' + 1 : Nat) : Int) - 1), .int (lo : Nat), .int ((lo : Int) + (i : Int))]) ht1) _ _ hm1) (by
            rw [upd_same]
            have e1 : (((k' + 1 : Nat) : Int) - 1) = ((k' : Nat) : Int) := by omega
            have e2 : ((lo : Int) + (i : Int)) = ((lo + i : Nat) : Int) := by omega
            rw [e1, e2]
            rfl)
          rw [v1] at g
          exact g
        refine ⟨_, rfl, _, rfl, _, _, u[lo + i], rfl, rfl, hz, ?_, _, rfl, rfl, ?_⟩
        · have z := atI_nat (xs := u) (j := lo + i) (v := u[lo + i]) (by simp [hsl])
          have e2 : ((lo : Int) + (i : Int)) = ((lo + i : Nat) : Int) := by omega
          rw [e2]
          simpa [S, SX.S] using z
        refine ⟨_, rfl, _, rfl, _, _, rfl, rfl, _, rfl, _, _, rfl, rfl, _, rfl, by show 3 ≤ sizeLine; decide, fun t3 ht3 => ?_⟩
        refine ⟨m, .int (fb (lo + i) : Nat), rfl, ?_, ?_⟩
        · have g := DGet.t (b := t3) (k := [.inl (k' : Nat), .inl ((lo + i + 1 : Nat)), .inl (hi : Nat)]) ((Same.new (o := .tup [.int (((k' + 1 : Nat) : Int) - 1), .int ((lo : Int) + (i : Int) + 1), .int (hi : Nat)]) ht3) _ _ ((Same.new ht1) _ _ hm1)) (by
            rw [upd_same]
            have e1 : (((k' + 1 : Nat) : Int) - 1) = ((k' : Nat) : Int) := by omega
            have e2 : ((lo : Int) + (i : Int) + 1) = ((lo + i + 1 : Nat) : Int) := by omega
            rw [e1, e2]
            rfl)
          rw [v2] at g
          exact g
        refine ⟨by show 3 ≤ sizeLine; decide, fun t ht => ?_⟩
        refine q _ _ ((Same.new ht1).trans ((Same.new ht3).trans (Same.new ht))) ⟨t, rfl, ?_⟩
        rw [upd_same]
        show some (HO.tup [V.int (fa (lo + i) : Nat), V.int ((u[lo + i] : Nat) : Int), V.int (fb (lo + i) : Nat)]) = some (HO.tup [V.int (fa (lo + i) : Nat), V.int ((u.getD (lo + i) 0 : Nat) : Int), V.int (fb (lo + i) : Nat)])
        rw [ec]
      · obtain ⟨ks, e2, hl2, e3⟩ := refs_of (row := row) hr1
        have hkl : ks.length = hi - lo := by rw [hl2, hl1]
        have mem : ∀ p ∈ ks, H1 p.1 = some (.tup (p.2.map V.int)) ∧ ∃ s, lo ≤ s ∧ s < hi ∧ p.2 = [(fa s : Int), (u.getD s 0 : Int), (fb s : Int)] := fun p hp => by
          obtain ⟨i, hi2⟩ := List.mem_iff_getElem?.mp hp
          obtain ⟨a, b⟩ := e3 i p hi2
          have hil := (List.getElem?_eq_some_iff.mp hi2).1
          exact ⟨b, lo + i, by omega, by omega, a⟩
        refine ⟨_, rfl, D, ks, rfl, SqL.of (by rw [e1, e2]), fun p hp => SqT.of (mem p hp).1, by omega, fun a L ha hsub hall => ?_⟩
        have len3 : ∀ p ∈ ks, p.2.length = 3 ∧ TS.Bd BB p.2 := fun p hp => by
          obtain ⟨_, s, h1, h2, e⟩ := mem p hp
          obtain ⟨_, _, b1, b2, b3⟩ := hf s h1 h2
          rw [e]
          refine ⟨rfl, fun z hz => ?_⟩
          simp only [List.mem_cons, List.not_mem_nil, or_false] at hz
          show 0 ≤ z ∧ z < 16777216
          rcases hz with rfl | rfl | rfl <;> omega
        refine ⟨a, L, 3, BB, rfl, upd_same, fun p hp => SqT.of ((Same.new ha) _ _ (mem p (hsub p hp)).1), by decide, fun p hp => len3 p (hsub p hp), fun L' p perm nodup few pw hp => ?_⟩
        have sub' : ∀ q ∈ L', q ∈ ks := fun q hq => hsub q (perm.mem_iff.mp hq)
        have sAll : Same H (upd (upd H1 a (SetTO P w a L)) p (.lst (L'.map fun q => V.ref q.1))) := (s1.trans (Same.new ha)).trans (Same.new hp)
        refine kq p L' _ sAll ⟨SqL.of upd_same, fun q hq => SqT.of (((Same.new ha).trans (Same.new hp)) _ _ (mem q (sub' q hq)).1), few, fun q hq => (len3 q (sub' q hq)).1⟩
          ⟨nodup, List.pairwise_map.mpr pw, fun x hx => ?_⟩ (fun x => ⟨fun hx => ?_, fun hx => ?_⟩)
        · obtain ⟨q, hq, rfl⟩ := List.mem_map.mp hx
          exact len3 q (sub' q hq)
        · obtain ⟨q, hq, rfl⟩ := List.mem_map.mp hx
          exact (mem q (sub' q hq)).2
        · obtain ⟨s, h1, h2, rfl⟩ := hx
          have hil : s - lo < ks.length := by omega
          have e4 := (e3 (s - lo) ks[s - lo] (List.getElem?_eq_getElem hil)).1
          have e5 : lo + (s - lo) = s := by omega
          have hrow : row (s - lo) = [(fa s : Int), (u.getD s 0 : Int), (fb s : Int)] := by
            show [(fa (lo + (s - lo)) : Int), (u.getD (lo + (s - lo)) 0 : Int), (fb (lo + (s - lo)) : Int)] = _
            rw [e5]
          have hin := hall ks[s - lo] (List.getElem_mem hil)
          rw [e4, hrow] at hin
          exact (perm.map (·.2)).mem_iff.mpr hin
/-- a part of a word -/
def seg (u : List Nat) (l h : Nat) : List Nat := (u.take h).drop l
theorem seg_split {u : List Nat} {l s h : Nat} (h1 : l ≤ s) (h2 : s < h) (h3 : h ≤ u.length) : seg u l h = seg u l s ++ u.getD s 0 :: seg u (s + 1) h := by
  have hs : s < (u.take h).length := by rw [List.length_take]; omega
  have e1 : (u.take h).drop s = u.getD s 0 :: (u.take h).drop (s + 1) := by
    rw [List.drop_eq_getElem_cons hs, List.getElem_take, List.getD_eq_getElem?_getD, List.getElem?_eq_getElem (by omega)]
    rfl
  have e2 : ((u.take h).drop l).take (s - l) = (u.take s).drop l := by
    rw [List.take_drop, List.take_take]
    have : min (l + (s - l)) h = s := by omega
    rw [this]
  have e3 : ((u.take h).drop l).drop (s - l) = (u.take h).drop s := by
    rw [List.drop_drop]
    have : l + (s - l) = s := by omega
    rw [this]
  show (u.take h).drop l = (u.take s).drop l ++ u.getD s 0 :: (u.take h).drop (s + 1)
  rw [← e1, ← e2, ← e3, List.take_append_drop]
theorem seg_len {u : List Nat} {l h : Nat} (h1 : l ≤ h) (h3 : h ≤ u.length) : (seg u l h).length = h - l := by
  unfold seg
  rw [List.length_drop, List.length_take]
  omega
theorem seg_at {u : List Nat} {l h : Nat} (h1 : l ≤ h) (h3 : h ≤ u.length) {x y : List Nat} {c : Nat} (e : seg u l h = x ++ c :: y) :
    l + x.length < h ∧ x = seg u l (l + x.length) ∧ c = u.getD (l + x.length) 0 ∧ y = seg u (l + x.length + 1) h := by
  have el := congrArg List.length e
  rw [seg_len h1 h3, List.length_append, List.length_cons] at el
  have h4 : l + x.length < h := by omega
  have e2 := seg_split (u := u) (l := l) (s := l + x.length) (h := h) (by omega) h4 h3
  rw [e2] at e
  have ll : (seg u l (l + x.length)).length = x.length := by rw [seg_len (by omega) (by omega)]; omega
  obtain ⟨a, b⟩ := List.append_inj e ll
  injection b with b1 b2
  exact ⟨h4, a.symm, b1.symm, b2.symm⟩
theorem seg_all (u : List Nat) : seg u 0 u.length = u := by
  unfold seg
  rw [List.take_length, List.drop_zero]
def kk (k l h : Nat) : List Key := [.inl (k : Nat), .inl (l : Nat), .inl (h : Nat)]
theorem kk_eq {k l h k' l' h' : Nat} : kk k l h = kk k' l' h' ↔ k = k' ∧ l = l' ∧ h = h' := by
  unfold kk
  constructor
  · intro e
    injection e with e1 e
    injection e with e2 e
    injection e with e3 _
    injection e1 with e1
    injection e2 with e2
    injection e3 with e3
    omega
  · rintro ⟨rfl, rfl, rfl⟩
    rfl
theorem no_known {m : Str} {v : V} (h : (m == "known") = false) : List.lookup m [(("known" : Str), v)] = none := by simp [List.lookup, h]
structure TabInv (C : Addr) (H0 H : Hp) (c dk m : Addr) (ks0 ks : List (List Int)) (mv : List (List Key × V)) (u : List Nat) (step : Nat) (Bef : Nat → Nat → Nat → Prop) : Prop where
  ext : Ext dk H0 H
  cls : ClsAt C H c dk ks
  grow : Grow ks0 ks
  klen : ks.length ≤ ks0.length + step
  new : H0 m = none
  at_ : H m = some (.dT mv)
  mlen : mv.length ≤ step
  val : ∀ k l h, l ≤ h → h ≤ u.length → Bef k l h → ∃ n : Nat, valV mv (kk k l h) = some (.int (n : Nat)) ∧ Means ks k n (seg u l h)
theorem TabInv.weak {C : Addr} {H0 H : Hp} {c dk m : Addr} {ks0 ks : List (List Int)} {mv : List (List Key × V)} {u : List Nat} {step step' : Nat} {Bef Bef' : Nat → Nat → Nat → Prop} (t : TabInv C H0 H c dk m ks0 ks mv u step Bef) (hs : step ≤ step')
    (hb : ∀ k l h, l ≤ h → h ≤ u.length → Bef' k l h → Bef k l h) : TabInv C H0 H c dk m ks0 ks mv u step' Bef' :=
  ⟨t.ext, t.cls, t.grow, Nat.le_trans t.klen (by omega), t.new, t.at_, Nat.le_trans t.mlen hs, fun k l h h1 h2 h3 => t.val k l h h1 h2 (hb k l h h1 h2 h3)⟩
def spTab (C : Addr) : Sp := fun vs H Q _ => ∃ (c dk : Addr) (ks : List (List Int)) (u : List Nat) (k : Nat), vs = [.ref c, .str (S u), .int k] ∧ ClsAt C H c dk ks ∧ u.length ≤ 60 ∧ (∀ x ∈ u, x < 16777216) ∧ k ≤ 61 ∧ ks.length ≤ 5000000 ∧
  ∀ m mv ks' H', TabInv C H H' c dk m ks ks' mv u ((k + 1) * ((u.length + 1) * (u.length + 1))) (fun k' _ _ => k' ≤ k) → Q (.ref m) H'
abbrev s_tab : Stmt := (inClass (top 18) 2)
abbrev N_tab : List Str := ["self", "w", "most", "made", "k", "low", "high"]
theorem sc_tab : FnScope N_tab ["self", "w", "most"] (defScope s_tab) := ⟨rfl, rfl, rfl, by decide +kernel, rfl, by decide +kernel, by decide +kernel⟩
/-- one turn -/
theorem tab_turn {C : Addr} {H0 H : Hp} {c dk m : Addr} {ks0 ks : List (List Int)} {mv : List (List Key × V)} {u : List Nat} {step : Nat} {k l h : Nat} (hc0 : ClsAt C H0 c dk ks0) (t : TabInv C H0 H c dk m ks0 ks mv u step (fun k' l' h' => k' < k ∨ (k' = k ∧ (l' < l ∨ (l' = l ∧ h' < h)))))
    (hul : u.length ≤ 60) (hch : ∀ x ∈ u, x < 16777216) (hl : l ≤ h) (hh : h ≤ u.length) (hk : ks0.length ≤ 5000000) (hst : step ≤ 300000) {Qn : VK} {E : XK}
    (next : ∀ (n : Nat) ks' H', TabInv C H0 H' c dk m ks0 ks' mv u (step + 1) (fun k' l' h' => k' < k ∨ (k' = k ∧ (l' < l ∨ (l' = l ∧ h' < h)))) → Means ks' k n (seg u l h) → Qn (.int (n : Nat)) H') :
    spAro K [.ref c, .str (S u), .ref m, .int k, .int l, .int h] H (fun r H1 => spNum K C [.ref c, .int k, r] H1 Qn E) E := by
  have hkl : ks.length ≤ 5300000 := by
    have := t.klen
    omega
  have hdm : m ≠ dk := fun e => by
    have := t.new
    rw [e, hc0.2] at this
    cases this
  -- behind number
  have fin : ∀ (rs : List (Addr × List Int)) (n : Nat) (ks' : List (List Int)) (H1 H2 : Hp), Same H H1 → Ext dk H1 H2 → ClsAt C H2 c dk ks' → Step ks ks' (keyOf k (rs.map (·.2))) n → Means ks' k n (seg u l h) → Qn (.int (n : Nat)) H2 := fun rs n ks' H1 H2 s1 e2 c2 st mn =>
    next n ks' H2 ⟨t.ext.trans ((Ext.of s1).trans e2), c2, t.grow.trans st.grow, by have := st.len; have := t.klen; omega, t.new, e2 _ _ hdm (s1 _ _ t.at_), by have := t.mlen; omega, fun k' l' h' a b d => by
      obtain ⟨n', e, mm⟩ := t.val k' l' h' a b d
      exact ⟨n', e, st.grow.means mm⟩⟩ mn
  refine ⟨.ref c, u, m, k, l, h, rfl, hul, hl, hh, fun hk0 r H1 s1 R => ?_, fun k' hk1 => ?_⟩
  · subst hk0
    exact ⟨c, dk, ks, 0, r, [], rfl, t.cls.same s1, by omega, R, fun n ks' H2 e2 c2 st => fin [] n ks' H1 H2 s1 e2 c2 st (show ks'[n]? = some [0] from st.at_)⟩
  · subst hk1
    have ex : ∀ l' h', l' ≤ h' → h' ≤ u.length → ∃ n : Nat, valV mv (kk k' l' h') = some (.int (n : Nat)) ∧ Means ks k' n (seg u l' h') := fun l' h' a b => t.val k' l' h' a b (.inl (Nat.lt_succ_self _))
    let fn : Nat → Nat → Nat := fun l' h' => if z : l' ≤ h' ∧ h' ≤ u.length then Classical.choose (ex l' h' z.1 z.2) else 0
    have fn_ok : ∀ l' h', l' ≤ h' → h' ≤ u.length → valV mv (kk k' l' h') = some (.int (fn l' h' : Nat)) ∧ Means ks k' (fn l' h') (seg u l' h') := fun l' h' a b => by
      have e : fn l' h' = Classical.choose (ex l' h' a b) := dif_pos ⟨a, b⟩
      rw [e]
      exact Classical.choose_spec (ex l' h' a b)
    have lt : ∀ l' h', l' ≤ h' → h' ≤ u.length → fn l' h' < 16777216 := fun l' h' a b => by
      have := means_lt (fn_ok l' h' a b).2
      omega
    refine ⟨mv, fun s => fn l s, fun s => fn (s + 1) h, t.at_, fun s h1 h2 => ⟨(fn_ok l s h1 (by omega)).1, (fn_ok (s + 1) h (by omega) hh).1, lt _ _ h1 (by omega), lt _ _ (by omega) hh, ?_⟩, fun r rs H1 s1 R ok mem => ?_⟩
    · have hs : s < u.length := by omega
      have e : u.getD s 0 = u[s] := by rw [List.getD_eq_getElem?_getD, List.getElem?_eq_getElem hs]; rfl
      rw [e]
      exact hch _ (List.getElem_mem hs)
    · refine ⟨c, dk, ks, ((k' + 1 : Nat) : Int), r, rs, rfl, t.cls.same s1, by omega, R, fun n ks' H2 e2 c2 st => fin rs n ks' H1 H2 s1 e2 c2 st ⟨rs.map (·.2), (show ks'[n]? = some (((k' + 1 : Nat) : Int) :: (rs.map (·.2)).flatten) from st.at_), ok, fun x ch y e => ?_, fun x hx => ?_⟩⟩
      · obtain ⟨g1, g2, g3, g4⟩ := seg_at hl hh e
        refine ⟨fn l (l + x.length), fn (l + x.length + 1) h, ?_, ?_, ?_⟩
        · rw [g3]
          exact (mem _).mpr ⟨l + x.length, by omega, g1, rfl⟩
        · have := (fn_ok l (l + x.length) (by omega) (by omega)).2
          rw [← g2] at this
          exact st.grow.means this
        · have := (fn_ok (l + x.length + 1) h (by omega) hh).2
          rw [← g4] at this
          exact st.grow.means this
      · obtain ⟨s, h1, h2, rfl⟩ := (mem x).mp hx
        exact ⟨seg u l s, u.getD s 0, seg u (s + 1) h, fn l s, fn (s + 1) h, seg_split h1 h2 hh, rfl, st.grow.means (fn_ok l s h1 (by omega)).2, st.grow.means (fn_ok (s + 1) h (by omega) hh).2⟩
theorem ok_tab (T : Bl mg) (CT : ClsT K mg C) (c_num : MCal P w K mg base C "number" 1 (spNum K C)) (c_aro : MCal P w K mg base C "around" 1 (spAro K)) (F : L2.Fun K "table" "Classes.table" s_tab f fd) :
    FnOk P w K mg base CX0 2 f fd ["self", "w", "most"] (spTab C) := by
  refine F.ok sc_tab (fun vs H Q E h => ?_) (fun cdv A outer s H vs Q E hr h => ?_)
  · obtain ⟨c, dk, ks, u, k, rfl, _⟩ := h
    rfl
  · obtain ⟨c, dk, ks, u, k, rfl, hc, hul, hch, hk61, hkl, kq⟩ := h
    have nd := sc_tab.nd
    have hu := hu_of hr
    refine ⟨_, (pss_cons (ps_set (i := 3) nd rfl (.inl rfl) pe_dnewT)
      (pss_cons (ps_for PassesOwn.never rfl (pi_range1 (by rfl) T.range (pa_cons (pe_op op_add (pv 2) pe_int) pa_nil)) (pg_name (i := 4) nd rfl (.inl rfl))
      (pss_one (ps_for PassesOwn.never rfl (pi_range1 (by rfl) T.range (pa_cons (pe_op op_add (pe_callB call_len_str (by rfl) T.len PySem.boot_len (pa_cons (pv 1) pa_nil)) pe_int) pa_nil)) (pg_name (i := 5) nd rfl (.inl rfl))
      (pss_one (ps_for PassesOwn.never rfl (pi_range2 (by rfl) T.range (pa_cons (pv 5) (pa_cons (pe_op op_add (pe_callB call_len_str (by rfl) T.len PySem.boot_len (pa_cons (pv 1) pa_nil)) pe_int) pa_nil))) (pg_name (i := 6) nd rfl (.inl rfl))
      (pss_one (ps_dput hu (pv 3) (pe_tup (pa_cons (pv 4) (pa_cons (pv 5) (pa_cons (pv 6) pa_nil)))) (pe_m c_num CT.cl hr (by decide) (pv 0) (pa_cons (pv 4) (pa_cons (pe_m c_aro CT.cl hr (by decide) (pv 0) (pa_cons (pv 1) (pa_cons (pv 3) (pa_cons (pv 4) (pa_cons (pv 5) (pa_cons (pv 6) pa_nil)))))) pa_nil))) rfl)))))))
      (pss_one (ps_ret (pv 3))))), ?_⟩
    intro m hm
    have hz : (S u).length ≤ sizeLine := by rw [SX.S_len, sizeLine_eq]; omega
    have en : (((k : Nat) : Int) + 1).toNat = k + 1 := by omega
    have eN : ((((S u).length : Nat) : Int) + 1).toNat = u.length + 1 := by rw [SX.S_len]; omega
    let M := (u.length + 1) * (u.length + 1)
    have hM : M ≤ 3721 := by
      have := Nat.mul_le_mul (show u.length + 1 ≤ 61 by omega) (show u.length + 1 ≤ 61 by omega)
      exact this
    refine ⟨_, rfl, _, _, rfl, rfl, _, rfl, by omega, by omega, ?_⟩
    rw [en]
    refine for_range (lo := 0) (n := k + 1) (fun i σ H' => ∃ z1 z2 z3 ks' mv, σ = [some (.ref c), some (.str (S u)), some (.int k), some (.ref m), z1, z2, z3] ∧ TabInv C H H' c dk m ks ks' mv u (i * M) (fun k' _ _ => k' < i))
      ⟨none, none, none, ks, [], rfl, ⟨Ext.new hm, hc.same (Same.new hm), Grow.refl _, by omega, hm, upd_same, Nat.zero_le _, fun _ _ _ _ _ z => absurd z (Nat.not_lt_zero _)⟩⟩ ?_ ?_
    · rintro i σ H1 hi ⟨z1, z2, z3, ks1, mv1, rfl, t1⟩
      have hiM : i * M ≤ 61 * 3721 := Nat.mul_le_mul (by omega) hM
      rw [show (0 : Int) + (i : Int) = ((i : Nat) : Int) from Int.zero_add _]
      refine ⟨_, rfl, _, rfl, hz, _, _, rfl, rfl, _, rfl, by rw [SX.S_len]; omega, by rw [SX.S_len]; omega, ?_⟩
      rw [eN]
      refine for_range (lo := 0) (n := u.length + 1) (fun l σ H' => ∃ z2 z3 ks' mv, σ = [some (.ref c), some (.str (S u)), some (.int k), some (.ref m), some (.int (i : Nat)), z2, z3] ∧ TabInv C H H' c dk m ks ks' mv u (i * M + l * (u.length + 1)) (fun k' l' _ => k' < i ∨ (k' = i ∧ l' < l)))
        ⟨z2, z3, ks1, mv1, rfl, t1.weak (by omega) (fun k' l' h' _ _ z => by omega)⟩ ?_ ?_
      · rintro l σ H2 hl ⟨z2, z3, ks2, mv2, rfl, t2⟩
        have hlM : l * (u.length + 1) ≤ 60 * 61 := Nat.mul_le_mul (by omega) (by omega)
        rw [show (0 : Int) + (l : Int) = ((l : Nat) : Int) from Int.zero_add _]
        have e2 : ((((S u).length : Nat) : Int) + 1 - ((l : Nat) : Int)).toNat = u.length + 1 - l := by rw [SX.S_len]; omega
        refine ⟨_, rfl, _, rfl, _, rfl, hz, _, _, rfl, rfl, _, _, rfl, ⟨by omega, by omega, by rw [SX.S_len]; omega, by rw [SX.S_len]; omega⟩, ?_⟩
        rw [e2]
        refine for_range (lo := (l : Int)) (n := u.length + 1 - l) (fun j σ H' => ∃ z3 ks' mv, σ = [some (.ref c), some (.str (S u)), some (.int k), some (.ref m), some (.int (i : Nat)), some (.int (l : Nat)), z3] ∧ TabInv C H H' c dk m ks ks' mv u (i * M + l * (u.length + 1) + j) (fun k' l' h' => k' < i ∨ (k' = i ∧ (l' < l ∨ (l' = l ∧ h' < l + j)))))
          ⟨z3, ks2, mv2, rfl, t2.weak (by omega) (fun k' l' h' _ _ z => by omega)⟩ ?_ ?_
        · rintro j σ H3 hj ⟨z3, ks3, mv3, rfl, t3⟩
          rw [show ((l : Int) + (j : Int)) = ((l + j : Nat) : Int) from (Int.natCast_add l j).symm]
          obtain ⟨⟨dx, ec⟩, ed⟩ := id t3.cls
          refine ⟨_, rfl, c, dx, _, rfl, ec, no_known (by decide +kernel), _, rfl, _, rfl, c, dx, _, rfl, ec, no_known (by decide +kernel), _, rfl, _, rfl, _, rfl, _, rfl, _, rfl, ?_⟩
          dsimp only [tNil]
          refine tab_turn (K := K) (E := E0) hc t3 hul hch (by omega) (by omega) hkl (by omega) (fun n ks4 H4 t4 mn => ?_)
          refine ⟨_, rfl, _, rfl, _, rfl, _, rfl, by show 3 ≤ sizeLine; decide, fun t ht => ⟨m, _, rfl, DPut.t (k := kk i l (l + j)) ((Same.new ht) _ _ t4.at_) (by rw [upd_same]; rfl) (by have := t4.mlen; rw [sizeLine_eq]; omega), ?_⟩⟩
          have hdm : m ≠ dk := fun e => by
            have := t4.new
            rw [e, hc.2] at this
            cases this
          have hcm : c ≠ m := fun e => by
            obtain ⟨⟨dx0, e0⟩, _⟩ := hc
            have := t4.new
            rw [← e, e0] at this
            cases this
          refine ⟨_, ks4, _, rfl, ⟨?_, ?_, t4.grow, by have := t4.klen; omega, t4.new, upd_same, ?_, fun k' l' h' a b d => ?_⟩⟩
          · intro b o n e
            have e4 := t4.ext b o n e
            rw [upd_ne (fun z => by rw [z, t4.new] at e; cases e), upd_ne (ne_of_none e4 ht)]
            exact e4
          · obtain ⟨⟨dx4, e4⟩, e5⟩ := t4.cls
            exact ⟨⟨dx4, by rw [upd_ne hcm, upd_ne (ne_of_none e4 ht)]; exact e4⟩, by rw [upd_ne hdm.symm, upd_ne (ne_of_none e5 ht)]; exact e5⟩
          · have h1 := length_putK mv3 (kk i l (l + j)) (.int (n : Nat))
            have h2 := t3.mlen
            omega
          · rw [valV_put]
            by_cases e : kk k' l' h' = kk i l (l + j)
            · obtain ⟨rfl, rfl, rfl⟩ := kk_eq.mp e
              exact ⟨n, by rw [if_pos rfl], mn⟩
            · rw [if_neg e]
              refine t4.val k' l' h' a b ?_
              have ne : ¬ (k' = i ∧ l' = l ∧ h' = l + j) := fun z => e (kk_eq.mpr z)
              omega
        · rintro σ H3 ⟨z3, ks3, mv3, rfl, t3⟩
          refine ⟨_, z3, ks3, mv3, rfl, t3.weak ?_ (fun k' l' h' _ hh z => by omega)⟩
          rw [Nat.succ_mul]
          omega
      · rintro σ H2 ⟨z2, z3, ks2, mv2, rfl, t2⟩
        refine ⟨_, z2, z3, ks2, mv2, rfl, t2.weak ?_ (fun k' l' h' hh1 hh2 z => by omega)⟩
        show i * M + M ≤ (i + 1) * M
        rw [Nat.succ_mul i M]
        exact Nat.le_refl _
    · rintro σ H1 ⟨z1, z2, z3, ks1, mv1, rfl, t1⟩
      exact ⟨_, rfl, kq m mv1 ks1 H1 (t1.weak (Nat.le_refl _) (fun k' l' h' _ _ z => by omega))⟩

def spClassOf (C : Addr) : Sp := fun vs H Q _ => ∃ (c dk : Addr) (ks : List (List Int)) (u : List Nat) (k : Nat), vs = [.ref c, .int k, .str (S u)] ∧ ClsAt C H c dk ks ∧ u.length ≤ 60 ∧ (∀ x ∈ u, x < 16777216) ∧ k ≤ 61 ∧ ks.length ≤ 5000000 ∧
  ∀ (n : Nat) ks' H', Ext dk H H' → ClsAt C H' c dk ks' → Grow ks ks' → ks'.length ≤ ks.length + (k + 1) * ((u.length + 1) * (u.length + 1)) → Means ks' k n u → Q (.int (n : Nat)) H'
abbrev s_class_of : Stmt := (top 19)
theorem sc_class_of : FnScope ["classes", "k", "w"] ["classes", "k", "w"] (defScope s_class_of) := ⟨rfl, rfl, rfl, by decide +kernel, rfl, by decide +kernel, by decide +kernel⟩
theorem ok_class_of (T : Bl mg) (CT : ClsT K mg C) (c_tab : MCal P w K mg base C "table" 2 (spTab C)) (D : Def K mg "class_of" s_class_of f fd ["classes", "k", "w"]) : Cal P w K mg base 3 "class_of" (spClassOf C) := by
  refine D.cal (D.fn.ok sc_class_of (fun vs H Q E h => ?_) (fun cdv A outer s H vs Q E hr h => ?_))
  · obtain ⟨c, dk, ks, u, k, rfl, _⟩ := h
    rfl
  · obtain ⟨c, dk, ks, u, k, rfl, hc, hul, hch, hk61, hkl, kq⟩ := h
    have nd := sc_class_of.nd
    have hu := hu_of hr
    refine ⟨_, (pss_one (ps_ret (pe_dget hu (pe_m c_tab CT.cl hr (by decide) (pv 0) (pa_cons (pv 2) (pa_cons (pv 1) pa_nil))) (pe_tup (pa_cons (pv 1) (pa_cons pe_int (pa_cons (pe_callB call_len_str (by rfl) T.len PySem.boot_len (pa_cons (pv 2) pa_nil)) pa_nil)))) (fun _ _ => rfl)))), ?_⟩
    obtain ⟨⟨dx, ec⟩, ed⟩ := id hc
    have hz : (S u).length ≤ sizeLine := by rw [SX.S_len, sizeLine_eq]; omega
    refine ⟨_, rfl, c, dx, _, rfl, ec, no_known (by decide +kernel), _, rfl, _, rfl, c, dk, ks, u, k, rfl, hc, hul, hch, hk61, hkl, fun m mv ks' H1 t1 => ?_⟩
    refine ⟨_, rfl, _, rfl, _, rfl, hz, by show 3 ≤ sizeLine; decide, fun t ht => ?_⟩
    obtain ⟨n, e, mn⟩ := t1.val k 0 u.length (Nat.zero_le _) (Nat.le_refl _) (Nat.le_refl _)
    rw [seg_all] at mn
    refine ⟨m, .int (n : Nat), rfl, ?_, ?_⟩
    · have g := DGet.t (b := t) (k := kk k 0 u.length) ((Same.new (o := .tup [.int (k : Nat), .int 0, .int (((S u).length : Nat) : Int)]) ht) _ _ t1.at_) (by
        rw [upd_same, SX.S_len]
        rfl)
      rw [e] at g
      exact g
    · exact kq n ks' _ (t1.ext.trans (Ext.of (Same.new ht))) (t1.cls.same (Same.new ht)) t1.grow t1.klen mn
end
end Ws

/-! kept_by, rounds_needed -/
namespace Ws
open PySem PySem.Spec PyProof.Rows L2
open Classical in
noncomputable def keptB (k : Nat) (v w : List Nat) : Bool := decide (kept k v w)
open Classical in
theorem keptB_iff {k : Nat} {v w : List Nat} : keptB k v w = true ↔ kept k v w := by unfold keptB; exact decide_eq_true_iff
theorem keptB_eq {k : Nat} {v w v' w' : List Nat} {k' : Nat} (h : kept k v w ↔ kept k' v' w') : keptB k v w = keptB k' v' w' := by
  cases e : keptB k' v' w' with
  | true => exact keptB_iff.mpr (h.mpr (keptB_iff.mp e))
  | false =>
    cases e2 : keptB k v w with
    | true => rw [keptB_iff.mpr (h.mp (keptB_iff.mp e2))] at e; cases e
    | false => rfl
theorem letOk_small {l : List Nat} (h : letOk (some l) = true) : ∀ c ∈ l, c < 16777216 := by
  simp only [letOk, Bool.and_eq_true, List.all_eq_true, decide_eq_true_eq, List.mem_range] at h
  intro c hc
  obtain ⟨i, hi, rfl⟩ := List.mem_iff_getElem.mp hc
  have h2 := h.1.2 i hi
  rw [List.getD_eq_getElem?_getD, List.getElem?_eq_getElem hi] at h2
  have h3 : small.cps.toList.all (fun c => decide (c < 16777216)) = true := by decide +kernel
  exact of_decide_eq_true (List.all_eq_true.mp h3 _ h2)
theorem bad_none {lt : V} {o : Option (List Nat)} {xs : List (V × Option (List Nat))} (h : badOf lt o xs = none) : ∃ L, o = some L ∧ letOk (some L) = true ∧ ∀ q ∈ xs, ∃ l, q.2 = some l ∧ l.length ≤ 60 ∧ (∀ c ∈ l, c ∈ L) ∧ (∀ c ∈ l, c < 16777216) := by
  unfold badOf at h
  by_cases hl : letOk o = true
  · rw [if_pos hl] at h
    cases o with
    | none => cases hl
    | some L =>
      refine ⟨L, rfl, hl, fun q hq => ?_⟩
      have hf := List.find?_eq_none.mp (Option.map_eq_none_iff.mp h) q hq
      have hw : wordOk L q.2 = true := by simpa using hf
      cases e : q.2 with
      | none => rw [e] at hw; cases hw
      | some l =>
        rw [e] at hw
        obtain ⟨a, b⟩ := wordOk_iff.mp hw
        exact ⟨l, rfl, a, b, fun c hc => letOk_small hl c (b c hc)⟩
  · rw [if_neg hl] at h; cases h
theorem bad_ok {lt : V} {L : List Nat} {xs : List (V × Option (List Nat))} (h : letOk (some L) = true) (hx : ∀ q ∈ xs, wordOk L q.2 = true) : badOf lt (some L) xs = none := by
  unfold badOf
  rw [if_pos h]
  have hf : xs.find? (fun p => !wordOk L p.2) = none := by
    rw [List.find?_eq_none]
    intro q hq
    simp [hx q hq]
  show Option.map _ (xs.find? fun p => !wordOk L p.2) = none
  rw [hf]; rfl
theorem Fault.none {CL CW : Addr} {H : Hp} {bad : Option (Bool × V)} {E : XK} (h : bad = .none) : Fault CL CW H bad E := fun b u e => by rw [h] at e; cases e
def spKB (K : PySem.W.Frag) (CL CW : Addr) : Sp := fun vs H Q E => ∃ lt x y o ox oy, ∃ k : Nat, vs = [lt, .int k, x, y] ∧ TxtO K H lt o ∧ TxtO K H x ox ∧ TxtO K H y oy ∧ k ≤ 61 ∧
  (badOf lt o [(x, ox), (y, oy)] = none → ∀ v w, ox = some v → oy = some w → ∀ H', Same H H' → Q (.bl (keptB k v w)) H') ∧ Fault CL CW H (badOf lt o [(x, ox), (y, oy)]) E
theorem txt_of {K : PySem.W.Frag} {H : Hp} {x : V} {l : List Nat} (t : TxtO K H x (some l)) : x = .str (S l) := by
  rcases t.now with ⟨l', e, rfl, _⟩ | ⟨e, _⟩
  · cases e; rfl
  · cases e
section
variable {P : Program} {w : World} {K : PySem.W.Frag} {mg : Str → Option Value} {base : Heap} {f C CL CW : Addr} {fd : FuncData}
abbrev s_kept_by : Stmt := (top 20)
abbrev N_kept_by : List Str := ["letters", "k", "v", "w", "classes"]
theorem sc_kept_by : FnScope N_kept_by ["letters", "k", "v", "w"] (defScope s_kept_by) := ⟨rfl, rfl, rfl, by decide +kernel, rfl, by decide +kernel, by decide +kernel⟩
theorem ok_kept_by (T : Bl mg) (CT : ClsT K mg C) (MK : MkC P w K mg base C (spCI C)) (c_chk : CalX P w K mg base 6 "check_game_words" (spChk K CL CW)) (c_co : Cal P w K mg base 3 "class_of" (spClassOf C))
    (D : Def K mg "kept_by" s_kept_by f fd ["letters", "k", "v", "w"]) : CalX P w K mg base 7 "kept_by" (spKB K CL CW) := by
  refine D.calX (D.fn.okX sc_kept_by (fun vs H Q E h => ?_) (fun cdv A outer s H vs Q E hr h => ?_))
  · obtain ⟨lt, x, y, o, ox, oy, k, rfl, _⟩ := h
    rfl
  · obtain ⟨lt, x, y, o, ox, oy, k, rfl, tl, tx, ty, hk, kq, kf⟩ := h
    have nd := sc_kept_by.nd
    obtain ⟨fI, fdI, FI, MI, bI⟩ := MK.ex
    refine ⟨_, (pss_cons (ps_expr (pe_cE c_chk (passes_call (takes_of rfl rfl rfl rfl) (fun _ _ _ _ h => h)) hr (by decide) rfl (pa_cons (pv 0) (pa_cons (pe_lst (pa_cons (pv 2) (pa_cons (pv 3) pa_nil))) pa_nil))))
      (pss_cons (ps_set (i := 4) nd rfl (.inl rfl) (pe_make0 MI FI (hr.mono (by decide)) rfl CT.mgC bI .nil pass0))
      (pss_one (ps_ret (pe_cmpR op_eq (pe_c c_co hr (by decide) rfl (pa_cons (pv 4) (pa_cons (pv 1) (pa_cons (pv 2) pa_nil)))) (pe_c c_co hr (by decide) rfl (pa_cons (pv 4) (pa_cons (pv 1) (pa_cons (pv 3) pa_nil)))) (nomark _)))))), ?_⟩
    refine ⟨_, rfl, _, rfl, _, rfl, by show 2 ≤ sizeLine; decide, fun l hl => ?_⟩
    have s1 : Same H (upd H l (.lst [x, y])) := Same.new hl
    refine ⟨lt, o, l, [(x, ox), (y, oy)], rfl, SqL.of upd_same, by show 2 ≤ 1000; decide, tl.same s1, fun q hq => ?_, fun hb H2 s2 => ?_, kf.same s1⟩
    · simp only [List.mem_cons, List.not_mem_nil, or_false] at hq
      rcases hq with rfl | rfl
      · exact tx.same s1
      · exact ty.same s1
    obtain ⟨L, rfl, hL, hall⟩ := bad_none hb
    obtain ⟨v, ev, v60, vL, vs⟩ := hall (x, ox) (by simp)
    obtain ⟨w', ew, w60, wL, ws⟩ := hall (y, oy) (by simp)
    have ev : ox = some v := ev
    have ew : oy = some w' := ew
    subst ev ew
    obtain rfl := txt_of tx
    obtain rfl := txt_of ty
    intro p dx hp hdx hne
    refine ⟨p, dx, rfl, upd_same, fun dk hdk => ⟨rfl, ?_⟩⟩
    have hdk2 : H2 dk = none := by
      by_cases e1 : dk = p
      · rw [e1]; exact hp
      · by_cases e2 : dk = dx
        · rw [e2]; exact hdx
        · rwa [upd_ne e1, upd_ne e2] at hdk
    have npd : p ≠ dk := fun e => by rw [← e, upd_same] at hdk; cases hdk
    have c0 : ClsAt C (upd (upd (upd (upd H2 dx (.own p)) p (.ins C dx [])) dk (.dT [])) p (.ins C dx [("known", .ref dk)])) p dk [] := ⟨⟨dx, upd_same⟩, by rw [upd_ne npd.symm, upd_same]; rfl⟩
    have x0 : Ext dk H2 (upd (upd (upd (upd H2 dx (.own p)) p (.ins C dx [])) dk (.dT [])) p (.ins C dx [("known", .ref dk)])) := by
      intro b ob n e
      have nbp : b ≠ p := ne_of_none e hp
      rw [upd_ne nbp, upd_ne n, upd_ne nbp, upd_ne (ne_of_none e hdx)]
      exact e
    have hMv : (k + 1) * ((v.length + 1) * (v.length + 1)) ≤ 62 * (61 * 61) := Nat.mul_le_mul (by omega) (Nat.mul_le_mul (by omega) (by omega))
    refine ⟨_, rfl, _, rfl, _, rfl, p, dk, [], v, k, rfl, c0, v60, vs, hk, by decide, fun n ks1 H3 e3 c3 g3 l3 m3 => ?_⟩
    refine ⟨_, rfl, _, rfl, _, rfl, p, dk, ks1, w', k, rfl, c3, w60, ws, hk, by simp only [List.length_nil] at l3; omega, fun n2 ks2 H4 e4 c4 g4 l4 m4 => ?_⟩
    refine ⟨rfl, ?_⟩
    have nd2 : ks2.Nodup := g4.nd (g3.nd List.nodup_nil)
    have mi := means_iff nd2 (g4.means m3) m4
    have ed : decide (V.int (n : Nat) = V.int (n2 : Nat)) = keptB k v w' := by
      unfold keptB
      refine decide_eq_decide.mpr ?_
      rw [← mi]
      constructor
      · intro h
        have := V.int.inj h
        omega
      · rintro rfl; rfl
    rw [ed]
    exact kq hb v w' rfl rfl _ (s1.trans (s2.trans (ext_same hdk2 (x0.trans (e3.trans e4)))))

end
end Ws

/-! two words near each other -/
namespace Ws
open PySem PySem.Spec PyProof.Rows L2
def spNear (K : PySem.W.Frag) : Sp := fun vs H Q _ => ∃ (p : Addr) (L : List Nat) (m : Nat), vs = [.ref p, .str (S L), .int m] ∧ DeckAt K H p ∧ L ≠ [] ∧ L.length ≤ 1000 ∧ m ≤ 100 ∧
  ∀ v w t H', (∀ c ∈ v, c ∈ L) → v.length ≤ m → (∀ c ∈ w, c ∈ L) → w.length ≤ m → Ext p H H' → DeckAt K H' p → H' t = some (.tup [.str (S v), .str (S w)]) → Q (.ref t) H'
section
variable {P : Program} {w : World} {K : PySem.W.Frag} {mg : Str → Option Value} {base : Heap} {f : Addr} {fd : FuncData}
abbrev s_near : Stmt := (top 29)
theorem sc_near : FnScope ["deck", "letters", "most", "v", "at", "sign", "w"] ["deck", "letters", "most"] (defScope s_near) := ⟨rfl, rfl, rfl, by decide +kernel, rfl, by decide +kernel, by decide +kernel⟩
theorem ok_near (T : Bl mg) (D : Def K mg "_law_near" s_near f fd ["deck", "letters", "most"]) (c_draw : Cal P w K mg base 1 "_law_draw" (spDraw K)) (c_word : Cal P w K mg base 2 "_law_word" (spWord K)) : Cal P w K mg base 3 "_law_near" (spNear K) := by
  refine D.cal (D.fn.ok sc_near (fun vs H Q E h => ?_) (fun cdv A outer s H vs Q E hr h => ?_))
  · obtain ⟨p, L, m, rfl, _⟩ := h
    rfl
  · obtain ⟨p, L, m, rfl, d, hL, hL2, hm, k⟩ := h
    have nd := sc_near.nd
    have lp : 0 < L.length := List.length_pos_iff.mpr hL
    refine ⟨_, (pss_cons (ps_set (i := 3) nd rfl (.inl rfl) (pe_c c_word hr (by decide) rfl (pa_cons (pv 0) (pa_cons (pv 1) (pa_cons (pv 2) pa_nil)))))
      (pss_cons (ps_set (i := 4) nd rfl (.inl rfl) (pe_c c_draw hr (by decide) rfl (pa_cons (pv 0) (pa_cons (pe_op op_add (pe_callB call_len_str (by rfl) T.len PySem.boot_len (pa_cons (pv 3) pa_nil)) pe_int) pa_nil))))
      (pss_cons (ps_set (i := 5) nd rfl (.inl rfl) (pe_ix ix_str (pv 1) (pe_c c_draw hr (by decide) rfl (pa_cons (pv 0) (pa_cons (pe_callB call_len_str (by rfl) T.len PySem.boot_len (pa_cons (pv 1) pa_nil)) pa_nil))) (fun _ _ => rfl)))
      (pss_cons (ps_set (i := 6) nd rfl (.inl rfl) (pe_ix ix_list (pe_lst (pa_cons (pe_c c_word hr (by decide) rfl (pa_cons (pv 0) (pa_cons (pv 1) (pa_cons (pv 2) pa_nil)))) (pa_cons (pe_op op_add_str (pe_op op_add_str (pe_slice C8.sl_txt (pv 3) po_none (po_some (pv 4))) (pv 5)) (pe_slice C8.sl_txt (pv 3) (po_some (pv 4)) po_none)) (pa_cons (pe_op op_add_str (pe_slice C8.sl_txt (pv 3) po_none (po_some (pv 4))) (pe_slice C8.sl_txt (pv 3) (po_some (pe_op op_add (pv 4) pe_int)) po_none)) (pa_cons (pe_revS (pv 3)) (pa_cons (pe_op op_add_str (pe_slice C8.sl_txt (pv 3) (po_some (pv 4)) po_none) (pe_slice C8.sl_txt (pv 3) po_none (po_some (pv 4)))) pa_nil)))))) (pe_c c_draw hr (by decide) rfl (pa_cons (pv 0) (pa_cons pe_int pa_nil))) (fun _ _ => rfl)))
      (pss_one (ps_ret (pe_tup (pa_cons (pv 3) (pa_cons (pe_slice C8.sl_txt (pv 6) po_none (po_some (pv 2))) pa_nil))))))))), ?_⟩
    refine ⟨_, rfl, _, rfl, _, rfl, p, L, m, rfl, d, hL, hL2, by omega, fun v H1 hv hvl e1 d1 => ?_⟩
    have hz : (S v).length ≤ sizeLine := S_le (by omega)
    refine ⟨_, rfl, _, rfl, _, rfl, hz, _, _, rfl, rfl, p, _, rfl, d1, by rw [SX.S_len]; omega, by rw [SX.S_len]; omega, fun at_ H2 a0 a1 e2 d2 => ?_⟩
    rw [SX.S_len] at a1
    obtain ⟨a, rfl⟩ := Int.eq_ofNat_of_zero_le a0
    have hzL : (S L).length ≤ sizeLine := S_le (by omega)
    refine ⟨_, rfl, _, rfl, _, rfl, _, rfl, hzL, p, _, rfl, d2, by rw [SX.S_len]; omega, by rw [SX.S_len]; omega, fun u H3 u0 u1 e3 d3 => ?_⟩
    rw [SX.S_len] at u1
    obtain ⟨c, hc, hat⟩ := S_at u0 u1
    refine ⟨_, _, _, rfl, rfl, hzL, hat, ?_⟩
    -- the five words
    refine ⟨_, rfl, _, rfl, _, rfl, p, L, m, rfl, d3, hL, hL2, by omega, fun l1 H4 hl1 hl1l e4 d4 => ?_⟩
    have lt : (v.take a).length ≤ m := by rw [List.length_take]; omega
    have ld : ∀ n, (v.drop n).length ≤ m := fun n => by rw [List.length_drop]; omega
    refine ⟨_, rfl, _, rfl, a, rfl, _, rfl, hz, ?_⟩
    rw [SX.slice_to (by omega)]
    refine ⟨_, rfl, _, _, rfl, rfl, S_app_len (n := m + 1) (by simp; omega) (by omega), _, rfl, _, rfl, a, rfl, _, rfl, hz, ?_⟩
    rw [SX.slice_from (by omega)]
    refine ⟨_, _, rfl, rfl, ?_, ?_⟩
    · show (S (v.take (a : Int).toNat) ++ S [c]).length + (S (v.drop (a : Int).toNat)).length ≤ sizeLine
      rw [SX.S_cat]
      exact S_app_len (n := 2 * m + 1) (by simp; omega) (by omega)
    -- v[:at] + v[at + 1:]
    refine ⟨_, rfl, _, rfl, a, rfl, _, rfl, hz, ?_⟩
    rw [SX.slice_to (by omega)]
    refine ⟨_, rfl, _, rfl, _, _, rfl, rfl, ((a : Int) + 1), rfl, _, rfl, hz, ?_⟩
    rw [SX.slice_from (by omega)]
    refine ⟨_, _, rfl, rfl, S_app_len (n := 2 * m) (by simp; omega) (by omega), ?_⟩
    -- v[::-1]
    refine ⟨_, rfl, v, rfl, by rw [sizeLine_eq]; omega, ?_⟩
    -- v[at:] + v[:at]
    refine ⟨_, rfl, _, rfl, a, rfl, _, rfl, hz, ?_⟩
    rw [SX.slice_from (by omega)]
    refine ⟨_, rfl, _, rfl, a, rfl, _, rfl, hz, ?_⟩
    rw [SX.slice_to (by omega)]
    refine ⟨_, _, rfl, rfl, S_app_len (n := 2 * m) (by simp; omega) (by omega), ?_⟩
    refine ⟨by show 5 ≤ sizeLine; decide, fun q hq => ⟨_, rfl, p, 5, rfl, d4.same (Same.new hq), by decide, by decide, fun b H5 b0 b1 e5 d5 => ?_⟩⟩
    have npq := d4.ne hq
    have hq' := e5 _ _ npq.symm upd_same
    have eall : Ext p H H5 := e1.trans (e2.trans (e3.trans (e4.trans ((Ext.of (Same.new hq)).trans e5))))
    have lcA : (v.take a).length + (v.drop a).length = v.length := by simp; omega
    have mem : ∃ l : List Nat, (∀ x ∈ l, x ∈ L) ∧ l.length ≤ 1000 ∧ atI [V.str (S l1), V.str (SX.S (v.take (a : Int).toNat) ++ ⟨#[c]⟩ ++ SX.S (v.drop (a : Int).toNat)), V.str (SX.S (v.take (a : Int).toNat) ++ SX.S (v.drop ((a : Int) + 1).toNat)), V.str (S v.reverse), V.str (SX.S (v.drop (a : Int).toNat) ++ SX.S (v.take (a : Int).toNat))] b = some (.str (S l)) := by
      have hb : b = 0 ∨ b = 1 ∨ b = 2 ∨ b = 3 ∨ b = 4 := by omega
      rcases hb with rfl | rfl | rfl | rfl | rfl
      · exact ⟨l1, hl1, by omega, rfl⟩
      · refine ⟨v.take a ++ [c] ++ v.drop a, app_in (app_in (take_in hv a) (fun x hx => by rw [List.mem_singleton.mp hx]; exact hc)) (drop_in hv a), by simp; omega, ?_⟩
        show _ = some (V.str (SX.S (v.take a ++ [c] ++ v.drop a)))
        rw [← SX.S_cat, ← SX.S_cat]
        rfl
      · refine ⟨v.take a ++ v.drop (a + 1), app_in (take_in hv a) (drop_in hv (a + 1)), by simp; omega, ?_⟩
        show _ = some (V.str (SX.S (v.take a ++ v.drop (a + 1))))
        rw [← SX.S_cat]
        have e : ((a : Int) + 1).toNat = a + 1 := by omega
        rw [e]
        rfl
      · exact ⟨v.reverse, fun x hx => hv x (List.mem_reverse.mp hx), by simp; omega, rfl⟩
      · refine ⟨v.drop a ++ v.take a, app_in (drop_in hv a) (take_in hv a), by simp; omega, ?_⟩
        show _ = some (V.str (SX.S (v.drop a ++ v.take a)))
        rw [← SX.S_cat]
        rfl
    obtain ⟨l, hl, hll, hat2⟩ := mem
    refine ⟨q, _, _, _, rfl, rfl, SqL.of hq', hat2, ?_⟩
    refine ⟨_, rfl, _, rfl, _, rfl, m, rfl, _, rfl, S_le (by omega), ?_⟩
    rw [SX.slice_to (by omega)]
    refine ⟨by show 2 ≤ sizeLine; decide, fun t ht => ?_⟩
    exact k v _ t _ hv hvl (take_in hl _) (by rw [List.length_take]; omega) (eall.trans (Ext.of (Same.new ht))) (d5.same (Same.new ht)) upd_same
end
end Ws

/-! a game of marks won: words kept (plain mathematics) -/
namespace Ws
def okP (x y s r : Nat) : Bool := (decide (x < s) == decide (y < r)) && (decide (x = s) == decide (y = r))
def fairB (v w : List Nat) (ms : List (Nat × Nat)) : Bool := ms.all fun p => decide (v.getD p.1 0 = w.getD p.2 0) && ms.all fun q => okP p.1 p.2 q.1 q.2
def winsB (v w : List Nat) : Nat → List (Nat × Nat) → Bool
  | 0, ms => fairB v w ms
  | k + 1, ms => fairB v w ms && ((List.range v.length).all (fun x => (List.range w.length).any fun y => winsB v w k (ms ++ [(x, y)])) &&
      (List.range w.length).all fun y => (List.range v.length).any fun x => winsB v w k (ms ++ [(x, y)]))
structure Fair (v w : List Nat) (ms : List (Nat × Nat)) : Prop where
  sg : ∀ p ∈ ms, v.getD p.1 0 = w.getD p.2 0
  lt : ∀ p ∈ ms, ∀ q ∈ ms, (p.1 < q.1 ↔ p.2 < q.2)
  eq : ∀ p ∈ ms, ∀ q ∈ ms, (p.1 = q.1 ↔ p.2 = q.2)
theorem okP_iff {x y s r : Nat} : okP x y s r = true ↔ (x < s ↔ y < r) ∧ (x = s ↔ y = r) := by
  simp [okP, Bool.and_eq_true, beq_iff_eq, decide_eq_decide]
theorem fairB_iff {v w : List Nat} {ms : List (Nat × Nat)} : fairB v w ms = true ↔ Fair v w ms := by
  simp only [fairB, List.all_eq_true, Bool.and_eq_true, decide_eq_true_eq, okP_iff]
  exact ⟨fun h => ⟨fun p hp => (h p hp).1, fun p hp q hq => ((h p hp).2 q hq).1, fun p hp q hq => ((h p hp).2 q hq).2⟩, fun h p hp => ⟨h.sg p hp, fun q hq => ⟨h.lt p hp q hq, h.eq p hp q hq⟩⟩⟩
def Inb (v w : List Nat) (ms : List (Nat × Nat)) : Prop := ∀ p ∈ ms, p.1 < v.length ∧ p.2 < w.length
def Lo (ms : List (Nat × Nat)) : List (Nat × Nat) := (0, 0) :: ms.map fun p => (p.1 + 1, p.2 + 1)
def Hi (v w : List Nat) (ms : List (Nat × Nat)) : List (Nat × Nat) := (v.length, w.length) :: ms
/-- every gap is kept -/
def Gaps (v w : List Nat) (k : Nat) (ms : List (Nat × Nat)) : Prop := ∀ a ∈ Lo ms, ∀ s ∈ Hi v w ms, a.1 ≤ s.1 → a.2 ≤ s.2 → (∀ p ∈ ms, ¬ (a.1 ≤ p.1 ∧ p.1 < s.1)) → (∀ p ∈ ms, ¬ (a.2 ≤ p.2 ∧ p.2 < s.2)) →
  kept k (seg v a.1 s.1) (seg w a.2 s.2)
theorem lo_iff {ms : List (Nat × Nat)} {a : Nat × Nat} : a ∈ Lo ms ↔ a = (0, 0) ∨ ∃ p ∈ ms, a = (p.1 + 1, p.2 + 1) := by
  simp only [Lo, List.mem_cons, List.mem_map]
  constructor
  · rintro (h | ⟨p, hp, rfl⟩)
    · exact .inl h
    · exact .inr ⟨p, hp, rfl⟩
  · rintro (h | ⟨p, hp, rfl⟩)
    · exact .inl h
    · exact .inr ⟨p, hp, rfl⟩
theorem hi_iff {v w : List Nat} {ms : List (Nat × Nat)} {s : Nat × Nat} : s ∈ Hi v w ms ↔ s = (v.length, w.length) ∨ s ∈ ms := by simp [Hi]
theorem ex_max (x : Nat) : ∀ (l : List (Nat × Nat)), (∃ p ∈ l, p.1 ≤ x) → ∃ p ∈ l, p.1 ≤ x ∧ ∀ q ∈ l, q.1 ≤ x → q.1 ≤ p.1
  | [], h => by obtain ⟨p, hp, _⟩ := h; exact absurd hp List.not_mem_nil
  | r :: l, h => by
    by_cases hl : ∃ p ∈ l, p.1 ≤ x
    · obtain ⟨p, hp, hx, hm⟩ := ex_max x l hl
      by_cases hr : r.1 ≤ x ∧ p.1 < r.1
      · refine ⟨r, List.mem_cons_self .., hr.1, fun q hq hqx => ?_⟩
        rcases
          List.mem_cons.mp hq with rfl | hq
        · exact Nat.le_refl _
        · have := hm q hq hqx; omega
      · refine ⟨p, List.mem_cons_of_mem _ hp, hx, fun q hq hqx => ?_⟩
        rcases
          List.mem_cons.mp hq with rfl | hq
        · omega
        · exact hm q hq hqx
    · obtain ⟨p, hp, hx⟩ := h
      rcases
        List.mem_cons.mp hp with rfl | hp
      · refine ⟨p, List.mem_cons_self .., hx, fun q hq hqx => ?_⟩
        rcases
          List.mem_cons.mp hq with rfl | hq
        · exact Nat.le_refl _
        · exact absurd ⟨q, hq, hqx⟩ hl
      · exact absurd ⟨p, hp, hx⟩ hl
theorem ex_min (x : Nat) : ∀ (l : List (Nat × Nat)), (∃ p ∈ l, x < p.1) → ∃ p ∈ l, x < p.1 ∧ ∀ q ∈ l, x < q.1 → p.1 ≤ q.1
  | [], h => by obtain ⟨p, hp, _⟩ := h; exact absurd hp List.not_mem_nil
  | r :: l, h => by
    by_cases hl : ∃ p ∈ l, x < p.1
    · obtain ⟨p, hp, hx, hm⟩ := ex_min x l hl
      by_cases hr : x < r.1 ∧ r.1 < p.1
      · refine ⟨r, List.mem_cons_self .., hr.1, fun q hq hqx => ?_⟩
        rcases
          List.mem_cons.mp hq with rfl | hq
        · exact Nat.le_refl _
        · have := hm q hq hqx; omega
      · refine ⟨p, List.mem_cons_of_mem _ hp, hx, fun q hq hqx => ?_⟩
        rcases
          List.mem_cons.mp hq with rfl | hq
        · omega
        · exact hm q hq hqx
    · obtain ⟨p, hp, hx⟩ := h
      rcases
        List.mem_cons.mp hp with rfl | hp
      · refine ⟨p, List.mem_cons_self .., hx, fun q hq hqx => ?_⟩
        rcases
          List.mem_cons.mp hq with rfl | hq
        · exact Nat.le_refl _
        · exact absurd ⟨q, hq, hqx⟩ hl
      · exact absurd ⟨p, hp, hx⟩ hl
theorem seg_seg_take {v : List Nat} {a s i : Nat} (h : a + i ≤ s) : (seg v a s).take i = seg v a (a + i) := by
  unfold seg
  rw [List.take_drop, List.take_take]
  have : min (a + i) s = a + i := by omega
  rw [this]
theorem seg_seg_drop {v : List Nat} {a s i : Nat} : (seg v a s).drop i = seg v (a + i) s := by
  unfold seg
  rw [List.drop_drop]
theorem seg_get {v : List Nat} {a s i : Nat} (h : a + i < s) (hs : s ≤ v.length) (hi : i < (seg v a s).length) : (seg v a s)[i] = v.getD (a + i) 0 := by
  have hi2 : i < ((v.take s).drop a).length := hi
  show ((v.take s).drop a)[i]'hi2 = _
  rw [List.getElem_drop, List.getElem_take, List.getD_eq_getElem?_getD, List.getElem?_eq_getElem (by omega)]
  rfl
/-- the other word's place -/
theorem forth {v w : List Nat} {ms : List (Nat × Nat)} {k : Nat} (hI : Inb v w ms) (hF : Fair v w ms) (hG : Gaps v w (k + 1) ms) {x : Nat} (hx : x < v.length) :
    ∃ y, y < w.length ∧ Fair v w (ms ++ [(x, y)]) ∧ Gaps v w k (ms ++ [(x, y)]) := by
  by_cases hm : ∃ p ∈ ms, p.1 = x
  · -- marked
    obtain ⟨⟨x', y⟩, hp, rfl⟩ := hm
    have same : ∀ q, q ∈ ms ++ [(x', y)] ↔ q ∈ ms := fun q => by
      rw [List.mem_append, List.mem_singleton]
      exact ⟨fun h => h.elim (fun h => h) (fun h => by rw [h]; exact hp), .inl⟩
    refine ⟨y, (hI _ hp).2, ⟨fun p h => hF.sg p ((same p).mp h), fun p h q h' => hF.lt p ((same p).mp h) q ((same q).mp h'), fun p h q h' => hF.eq p ((same p).mp h) q ((same q).mp h')⟩, ?_⟩
    intro a ha s hs h1 h2 n1 n2
    refine kept_less (hG a ?_ s ?_ h1 h2 (fun p h => n1 p ((same p).mpr h)) (fun p h => n2 p ((same p).mpr h)))
    · rcases lo_iff.mp ha with e | ⟨p, h, e⟩
      · exact lo_iff.mpr (.inl e)
      · exact lo_iff.mpr (.inr ⟨p, (same p).mp h, e⟩)
    · rcases hi_iff.mp hs with e | h
      · exact hi_iff.mpr (.inl e)
      · exact hi_iff.mpr (.inr ((same s).mp h))
  · have hm : ∀ p ∈ ms, p.1 ≠ x := fun p hp e => hm ⟨p, hp, e⟩
    obtain ⟨a, ha, hax, hamax⟩ := ex_max x (Lo ms) ⟨(0, 0), List.mem_cons_self .., Nat.zero_le _⟩
    obtain ⟨s, hs, hxs, hsmin⟩ := ex_min x (Hi v w ms) ⟨(v.length, w.length), List.mem_cons_self .., hx⟩
    -- a mark stands before a or behind s
    have lr : ∀ p ∈ ms, p.1 < a.1 ∨ s.1 ≤ p.1 := fun p hp => by
      have h1 := hm p hp
      by_cases h : p.1 < x
      · have := hamax (p.1 + 1, p.2 + 1) (lo_iff.mpr (.inr ⟨p, hp, rfl⟩)) h
        exact .inl this
      · exact .inr (hsmin p (hi_iff.mpr (.inr hp)) (by omega))
    have before : ∀ p ∈ ms, (p.1 < a.1 ↔ p.2 < a.2) := fun p hp => by
      rcases lo_iff.mp ha with e | ⟨q, hq, e⟩
      · rw [e]; simp
      · rw [e]
        have h1 := hF.lt p hp q hq
        have h2 := hF.eq p hp q hq
        show p.1 < q.1 + 1 ↔ p.2 < q.2 + 1
        omega
    have behind : ∀ p ∈ ms, (s.1 ≤ p.1 ↔ s.2 ≤ p.2) := fun p hp => by
      rcases hi_iff.mp hs with e | hq
      · rw [e]
        have := hI p hp
        show v.length ≤ p.1 ↔ w.length ≤ p.2
        omega
      · have h1 := hF.lt p hp s hq
        omega
    have hsl : s.1 ≤ v.length ∧ s.2 ≤ w.length := by
      rcases hi_iff.mp hs with e | hq
      · rw [e]; exact ⟨Nat.le_refl _, Nat.le_refl _⟩
      · have := hI s hq; omega
    have as2 : a.2 ≤ s.2 := by
      rcases lo_iff.mp ha with e | ⟨q, hq, e⟩
      · rw [e]; exact Nat.zero_le _
      · have h1 := behind q hq
        rw [e] at hax ⊢
        have hax : q.1 + 1 ≤ x := hax
        show q.2 + 1 ≤ s.2
        omega
    have kp := hG a ha s hs (by omega) as2 (fun p hp h => by have := lr p hp; omega) (fun p hp h => by
      have := lr p hp
      have h1 := before p hp
      have h2 := behind p hp
      omega)
    have lenv : (seg v a.1 s.1).length = s.1 - a.1 := seg_len (by omega) hsl.1
    have lenw : (seg w a.2 s.2).length = s.2 - a.2 := seg_len as2 hsl.2
    obtain ⟨j, hj, e, p1, p2⟩ := (kept_succ.mp kp).1 (x - a.1) (by omega)
    have ex : a.1 + (x - a.1) = x := by omega
    rw [seg_get (by omega) hsl.1, seg_get (by omega) hsl.2, ex] at e
    rw [seg_seg_take (by omega), seg_seg_take (by omega), ex] at p1
    rw [seg_seg_drop, seg_seg_drop] at p2
    have ex2 : a.1 + (x - a.1 + 1) = x + 1 := by omega
    rw [ex2] at p2
    have hj2 : a.2 + j < s.2 := by omega
    have p2 : kept k (seg v (x + 1) s.1) (seg w (a.2 + j + 1) s.2) := p2
    generalize hy : a.2 + j = y at *
    have mem : ∀ q, q ∈ ms ++ [(x, y)] ↔ q ∈ ms ∨ q = (x, y) := fun q => by rw [List.mem_append, List.mem_singleton]
    have rel : ∀ p ∈ ms, (p.1 < x ↔ p.2 < y) ∧ (x < p.1 ↔ y < p.2) ∧ p.1 ≠ x ∧ p.2 ≠ y := fun p hp => by
      have := lr p hp
      have h1 := before p hp
      have h2 := behind p hp
      have h3 := hm p hp
      omega
    refine ⟨y, by omega, ⟨fun p hp => ?_, fun p hp q hq => ?_, fun p hp q hq => ?_⟩, ?_⟩
    · rcases (mem p).mp hp with hp | rfl
      · exact hF.sg p hp
      · exact e.symm
    · rcases (mem p).mp hp with hp | rfl <;> rcases (mem q).mp hq with hq | rfl
      · exact hF.lt p hp q hq
      · exact (rel p hp).1
      · exact (rel q hq).2.1
      · simp
    · rcases (mem p).mp hp with hp | rfl <;> rcases (mem q).mp hq with hq | rfl
      · exact hF.eq p hp q hq
      · have := rel p hp
        show p.1 = x ↔ p.2 = y
        omega
      · have := rel q hq
        show x = q.1 ↔ y = q.2
        omega
      · simp
    · intro b hb t ht h1 h2 n1 n2
      have n1' : ∀ p ∈ ms, ¬ (b.1 ≤ p.1 ∧ p.1 < t.1) := fun p hp => n1 p ((mem p).mpr (.inl hp))
      have n2' : ∀ p ∈ ms, ¬ (b.2 ≤ p.2 ∧ p.2 < t.2) := fun p hp => n2 p ((mem p).mpr (.inl hp))
      have nx := n1 (x, y) ((mem _).mpr (.inr rfl))
      have hb' : b ∈ Lo ms ∨ b = (x + 1, y + 1) := by
        rcases lo_iff.mp hb with e | ⟨p, hp, e⟩
        · exact .inl (lo_iff.mpr (.inl e))
        · rcases (mem p).mp hp with hp | rfl
          · exact .inl (lo_iff.mpr (.inr ⟨p, hp, e⟩))
          · exact .inr e
      have ht' : t ∈ Hi v w ms ∨ t = (x, y) := by
        rcases hi_iff.mp ht with e | hp
        · exact .inl (hi_iff.mpr (.inl e))
        · rcases (mem t).mp hp with hp | e
          · exact .inl (hi_iff.mpr (.inr hp))
          · exact .inr e
      rcases hb' with hb' | rfl <;> rcases ht' with ht' | rfl
      · exact kept_less (hG b hb' t ht' h1 h2 n1' n2')
      · -- the lower end is a
        have e1 : b = a := by
          have h1 : b.1 ≤ x := h1
          have m1 := hamax b hb' h1
          rcases lo_iff.mp ha with ea | ⟨q, hq, ea⟩
          · rcases lo_iff.mp hb' with eb | ⟨q', hq', eb⟩
            · rw [ea, eb]
            · rw [ea, eb] at m1
              have m1 : q'.1 + 1 ≤ 0 := m1
              omega
          · have nq := n1' q hq
            rw [ea] at hax m1
            have hax : q.1 + 1 ≤ x := hax
            have nq : ¬ (b.1 ≤ q.1 ∧ q.1 < x) := nq
            have m1 : b.1 ≤ q.1 + 1 := m1
            rcases lo_iff.mp hb' with eb | ⟨q', hq', eb⟩
            · rw [eb] at nq
              have nq : ¬ (0 ≤ q.1 ∧ q.1 < x) := nq
              omega
            · rw [eb] at nq m1
              have nq : ¬ (q'.1 + 1 ≤ q.1 ∧ q.1 < x) := nq
              have m1 : q'.1 + 1 ≤ q.1 + 1 := m1
              have e1 : q'.1 = q.1 := by omega
              have e2 := (hF.eq q' hq' q hq).mp e1
              rw [ea, eb, e1, e2]
        rw [e1]
        exact p1
      · -- the upper end is s
        have e1 : t = s := by
          have h1 : x + 1 ≤ t.1 := h1
          have m1 := hsmin t ht' (by omega)
          rcases hi_iff.mp hs with es | hq
          · rcases hi_iff.mp ht' with et | hq'
            · rw [es, et]
            · have := hI t hq'
              rw [es] at m1
              have m1 : v.length ≤ t.1 := m1
              omega
          · have nq := n1' s hq
            have nq : ¬ (x + 1 ≤ s.1 ∧ s.1 < t.1) := nq
            have e1 : t.1 = s.1 := by omega
            rcases hi_iff.mp ht' with et | hq'
            · have := hI s hq
              rw [et] at e1
              have e1 : v.length = s.1 := e1
              omega
            · have e2 := (hF.eq t hq' s hq).mp e1
              exact Prod.ext e1 e2
        rw [e1]
        exact p2
      · have h1 : x + 1 ≤ x := h1
        omega
def sw (p : Nat × Nat) : Nat × Nat := (p.2, p.1)
theorem sw_mem {ms : List (Nat × Nat)} {p : Nat × Nat} : p ∈ ms.map sw ↔ sw p ∈ ms := by
  rw [List.mem_map]
  constructor
  · rintro ⟨q, hq, rfl⟩
    exact hq
  · intro h
    exact ⟨sw p, h, rfl⟩
theorem fair_sw {v w : List Nat} {ms : List (Nat × Nat)} (h : Fair v w ms) : Fair w v (ms.map sw) :=
  ⟨fun p hp => (h.sg _ (sw_mem.mp hp)).symm, fun p hp q hq => (h.lt _ (sw_mem.mp hp) _ (sw_mem.mp hq)).symm, fun p hp q hq => (h.eq _ (sw_mem.mp hp) _ (sw_mem.mp hq)).symm⟩
theorem inb_sw {v w : List Nat} {ms : List (Nat × Nat)} (h : Inb v w ms) : Inb w v (ms.map sw) := fun p hp => (h _ (sw_mem.mp hp)).symm
theorem sw_lo {ms : List (Nat × Nat)} {a : Nat × Nat} (h : a ∈ Lo (ms.map sw)) : sw a ∈ Lo ms := by
  rcases lo_iff.mp h with rfl | ⟨p, hp, rfl⟩
  · exact lo_iff.mpr (.inl rfl)
  · exact lo_iff.mpr (.inr ⟨sw p, sw_mem.mp hp, rfl⟩)
theorem sw_hi {v w : List Nat} {ms : List (Nat × Nat)} {a : Nat × Nat} (h : a ∈ Hi w v (ms.map sw)) : sw a ∈ Hi v w ms := by
  rcases hi_iff.mp h with rfl | hp
  · exact hi_iff.mpr (.inl rfl)
  · exact hi_iff.mpr (.inr (sw_mem.mp hp))
theorem gaps_sw {v w : List Nat} {k : Nat} {ms : List (Nat × Nat)} (h : Gaps v w k ms) : Gaps w v k (ms.map sw) := fun a ha s hs h1 h2 n1 n2 =>
  kept_symm (h (sw a) (sw_lo ha) (sw s) (sw_hi hs) h2 h1 (fun p hp => n2 (sw p) (sw_mem.mpr hp)) (fun p hp => n1 (sw p) (sw_mem.mpr hp)))
theorem sw_sw (ms : List (Nat × Nat)) : (ms.map sw).map sw = ms := by
  rw [List.map_map]
  have : sw ∘ sw = id := by funext p; rfl
  rw [this, List.map_id]
theorem sw_app (ms : List (Nat × Nat)) (x y : Nat) : (ms.map sw ++ [(y, x)]).map sw = ms ++ [(x, y)] := by
  rw [List.map_append, sw_sw]
  rfl
/-- one word's turn, read back -/
theorem back {v w : List Nat} {ms : List (Nat × Nat)} {k : Nat} {a s : Nat × Nat} (ha : a ∈ Lo ms) (hs : s ∈ Hi v w ms) (hsl : s.1 ≤ v.length) (hsw : s.2 ≤ w.length) (h1 : a.1 ≤ s.1) (h2 : a.2 ≤ s.2)
    (n1 : ∀ p ∈ ms, ¬ (a.1 ≤ p.1 ∧ p.1 < s.1)) (n2 : ∀ p ∈ ms, ¬ (a.2 ≤ p.2 ∧ p.2 < s.2))
    (h : ∀ x, x < v.length → ∃ y, y < w.length ∧ Fair v w (ms ++ [(x, y)]) ∧ Gaps v w k (ms ++ [(x, y)])) : halfAt k (seg v a.1 s.1) (seg w a.2 s.2) := by
  intro i hi
  have lv := seg_len h1 hsl
  have lw := seg_len h2 hsw
  have hx : a.1 + i < s.1 := by omega
  obtain ⟨y, hy, F, G⟩ := h (a.1 + i) (by omega)
  have mem : ∀ q, q ∈ ms ++ [(a.1 + i, y)] ↔ q ∈ ms ∨ q = (a.1 + i, y) := fun q => by rw [List.mem_append, List.mem_singleton]
  have me : (a.1 + i, y) ∈ ms ++ [(a.1 + i, y)] := (mem _).mpr (.inr rfl)
  have ay : a.2 ≤ y := by
    rcases lo_iff.mp ha with e | ⟨q, hq, e⟩
    · rw [e]; exact Nat.zero_le _
    · have := F.lt q ((mem q).mpr (.inl hq)) _ me
      have this : q.1 < a.1 + i ↔ q.2 < y := this
      rw [e] at this ⊢
      have this : q.1 < q.1 + 1 + i ↔ q.2 < y := this
      show q.2 + 1 ≤ y
      omega
  have ys : y < s.2 := by
    rcases hi_iff.mp hs with e | hq
    · rw [e]; exact hy
    · have := F.lt _ me s ((mem s).mpr (.inl hq))
      have this : a.1 + i < s.1 ↔ y < s.2 := this
      omega
  have sgn := F.sg _ me
  have sgn : v.getD (a.1 + i) 0 = w.getD y 0 := sgn
  have ey : a.2 + (y - a.2) = y := by omega
  refine ⟨y - a.2, by omega, ?_, ?_, ?_⟩
  · rw [seg_get (by omega) hsw, seg_get (by omega) hsl, ey, sgn]
  · rw [seg_seg_take (by omega), seg_seg_take (by omega), ey]
    refine G a ?_ (a.1 + i, y) (hi_iff.mpr (.inr me)) (by show a.1 ≤ a.1 + i; omega) ay (fun p hp z => ?_) (fun p hp z => ?_)
    · rcases lo_iff.mp ha with e | ⟨q, hq, e⟩
      · exact lo_iff.mpr (.inl e)
      · exact lo_iff.mpr (.inr ⟨q, (mem q).mpr (.inl hq), e⟩)
    · have z : a.1 ≤ p.1 ∧ p.1 < a.1 + i := z
      rcases (mem p).mp hp with hp | rfl
      · exact n1 p hp ⟨z.1, by omega⟩
      · have z : a.1 ≤ a.1 + i ∧ a.1 + i < a.1 + i := z
        omega
    · have z : a.2 ≤ p.2 ∧ p.2 < y := z
      rcases (mem p).mp hp with hp | rfl
      · exact n2 p hp ⟨z.1, by omega⟩
      · have z : a.2 ≤ y ∧ y < y := z
        omega
  · rw [seg_seg_drop, seg_seg_drop]
    have ey2 : a.2 + (y - a.2 + 1) = y + 1 := by omega
    have ex2 : a.1 + (i + 1) = a.1 + i + 1 := by omega
    rw [ey2, ex2]
    refine G (a.1 + i + 1, y + 1) (lo_iff.mpr (.inr ⟨_, me, rfl⟩)) s ?_ hx ys (fun p hp z => ?_) (fun p hp z => ?_)
    · rcases hi_iff.mp hs with e | hq
      · exact hi_iff.mpr (.inl e)
      · exact hi_iff.mpr (.inr ((mem s).mpr (.inl hq)))
    · have z : a.1 + i + 1 ≤ p.1 ∧ p.1 < s.1 := z
      rcases (mem p).mp hp with hp | rfl
      · exact n1 p hp ⟨by omega, z.2⟩
      · have z : a.1 + i + 1 ≤ a.1 + i ∧ a.1 + i < s.1 := z
        omega
    · have z : y + 1 ≤ p.2 ∧ p.2 < s.2 := z
      rcases (mem p).mp hp with hp | rfl
      · exact n2 p hp ⟨by omega, z.2⟩
      · have z : y + 1 ≤ y ∧ y < s.2 := z
        omega
theorem inb_app {v w : List Nat} {ms : List (Nat × Nat)} {x y : Nat} (h : Inb v w ms) (hx : x < v.length) (hy : y < w.length) : Inb v w (ms ++ [(x, y)]) := fun p hp => by
  rcases
    List.mem_append.mp hp with q | q
  · exact h p q
  · rw [List.mem_singleton.mp q]; exact ⟨hx, hy⟩
theorem wins_iff {v w : List Nat} : ∀ {k : Nat} {ms : List (Nat × Nat)}, Inb v w ms → (winsB v w k ms = true ↔ Fair v w ms ∧ Gaps v w k ms)
  | 0, ms, hI => by
    show fairB v w ms = true ↔ _
    rw [fairB_iff]
    exact ⟨fun h => ⟨h, fun _ _ _ _ _ _ _ _ => trivial⟩, fun h => h.1⟩
  | k + 1, ms, hI => by
    have unf : winsB v w (k + 1) ms = true ↔ Fair v w ms ∧ (∀ x, x < v.length → ∃ y, y < w.length ∧ Fair v w (ms ++ [(x, y)]) ∧ Gaps v w k (ms ++ [(x, y)])) ∧
        (∀ y, y < w.length → ∃ x, x < v.length ∧ Fair v w (ms ++ [(x, y)]) ∧ Gaps v w k (ms ++ [(x, y)])) := by
      show (fairB v w ms && (_ && _)) = true ↔ _
      simp only [Bool.and_eq_true, fairB_iff, List.all_eq_true, List.any_eq_true, List.mem_range]
      constructor
      · rintro ⟨f, g, h⟩
        refine ⟨f, fun x hx => ?_, fun y hy => ?_⟩
        · obtain ⟨y, hy, z⟩ := g x hx
          exact ⟨y, hy, (wins_iff (inb_app hI hx hy)).mp z⟩
        · obtain ⟨x, hx, z⟩ := h y hy
          exact ⟨x, hx, (wins_iff (inb_app hI hx hy)).mp z⟩
      · rintro ⟨f, g, h⟩
        refine ⟨f, fun x hx => ?_, fun y hy => ?_⟩
        · obtain ⟨y, hy, z⟩ := g x hx
          exact ⟨y, hy, (wins_iff (inb_app hI hx hy)).mpr z⟩
        · obtain ⟨x, hx, z⟩ := h y hy
          exact ⟨x, hx, (wins_iff (inb_app hI hx hy)).mpr z⟩
    rw [unf]
    constructor
    · rintro ⟨f, g, h⟩
      refine ⟨f, fun a ha s hs h1 h2 n1 n2 => ?_⟩
      have hsl : s.1 ≤ v.length ∧ s.2 ≤ w.length := by
        rcases hi_iff.mp hs with e | hq
        · rw [e]; exact ⟨Nat.le_refl _, Nat.le_refl _⟩
        · have := hI s hq; omega
      refine kept_succ.mpr ⟨back ha hs hsl.1 hsl.2 h1 h2 n1 n2 g, ?_⟩
      have ha' : sw a ∈ Lo (ms.map sw) := sw_lo (by rw [sw_sw]; exact ha)
      have hs' : sw s ∈ Hi w v (ms.map sw) := sw_hi (by rw [sw_sw]; exact hs)
      refine back ha' hs' hsl.2 hsl.1 h2 h1 (fun p hp => n2 (sw p) (sw_mem.mp hp)) (fun p hp => n1 (sw p) (sw_mem.mp hp)) (fun y hy => ?_)
      obtain ⟨x, hx, F, G⟩ := h y hy
      have e : ms.map sw ++ [(y, x)] = (ms ++ [(x, y)]).map sw := by rw [List.map_append]; rfl
      exact ⟨x, hx, by rw [e]; exact fair_sw F, by rw [e]; exact gaps_sw G⟩
    · rintro ⟨f, G⟩
      refine ⟨f, fun x hx => forth hI f G hx, fun y hy => ?_⟩
      obtain ⟨x, hx, F, G2⟩ := forth (inb_sw hI) (fair_sw f) (gaps_sw G) hy
      have F' := fair_sw F
      have G' := gaps_sw G2
      rw [sw_app] at F' G'
      exact ⟨x, hx, F', G'⟩
theorem wins_kept {v w : List Nat} {k : Nat} : winsB v w k [] = true ↔ kept k v w := by
  rw [wins_iff (fun p hp => absurd hp List.not_mem_nil)]
  constructor
  · rintro ⟨_, G⟩
    have := G (0, 0) (List.mem_cons_self ..) (v.length, w.length) (List.mem_cons_self ..) (Nat.zero_le _) (Nat.zero_le _) (fun p hp => absurd hp List.not_mem_nil) (fun p hp => absurd hp List.not_mem_nil)
    rwa [seg_all, seg_all] at this
  · intro h
    refine ⟨⟨fun p hp => absurd hp List.not_mem_nil, fun p hp => absurd hp List.not_mem_nil, fun p hp => absurd hp List.not_mem_nil⟩, fun a ha s hs _ _ _ _ => ?_⟩
    have ea : a = (0, 0) := by simpa [Lo] using ha
    have es : s = (v.length, w.length) := by simpa [Hi] using hs
    rw [ea, es]
    show kept k (seg v 0 v.length) (seg w 0 w.length)
    rwa [seg_all, seg_all]
end Ws

/-! several except clauses, each with a name -/
namespace Ws
open PySem PySem.Spec PyProof.Rows L2
abbrev Cl := Value × Nat × (Addr → Value → Option Addr → TS)
/-- what the clauses wish of an exception, one after the other; each clause's slot is empty behind it -/
def wManyAs (K : PySem.W.Frag) (Wo : WX) (D : Ends) : List Cl → WX
  | [] => Wo
  | (c, i, ts) :: more => fun cls d σ H => ∃ b, PySem.W.exmOne K cls c = some b ∧
      (b = true → ∀ a, H a = none → ts a cls d { nx := fun τ G => D.nx (τ.set i none) G, rt := D.rt, bk := fun τ G => D.bk (τ.set i none) G, ct := fun τ G => D.ct (τ.set i none) G } (σ.set i (some (.ref a))) H) ∧
      (b = false → wManyAs K Wo D more cls d σ H)
inductive HdsAs (X : Cx) : List ExceptHandler → List Cl → Prop
  | nil : HdsAs X [] []
  | cons {x n : Str} {c : Value} {i : Nat} {ts : Addr → Value → Option Addr → TS} {st0 : Stmt} {sts : List Stmt} {q1 q2 : Pos} {hds : List ExceptHandler} {l : List Cl} (hi : X.N[i]? = some n) (hln : X.env.kindOf n = some .local) (hc : Names X x c)
      (hsu : ∀ (a : Addr) (oe : Obj) (cls : Value) (d : Option Addr) (pz : List (Addr × Obj)), Zc cls d oe → (∃ vs, oe.data = .fields vs) → PSs (X.suite a ((a, oe) :: pz)) (st0 :: sts) (ts a cls d)) (r : HdsAs X hds l) :
      HdsAs X (.ExceptHandler (some (.Name x q1)) (some n) (st0 :: sts) q2 :: hds) ((c, i, ts) :: l)
theorem ps_try_manyAs {X : Cx} {body : List Stmt} {hd0 : ExceptHandler} {hds : List ExceptHandler} {l : List Cl} {pos : Pos} {tb : WX → TS} {Wo : WX} (hst : X.stack = X.env :: X.outer) (hfrm : X.env.frame = some X.env.locals) (hN : X.N.Nodup) (tk : Takes X Wo)
    (hb : ∀ (Wi : WX) (pz : List (Addr × Obj)) (xz : Value → Shared → Prop), Takes (X.tr pz xz) Wi → PassesOwn (model X.prog X.w) X.A X.env xz → PSs (X.tr pz xz) body (tb Wi))
    (hh : HdsAs X (hd0 :: hds) l) : PS X (.Try body (hd0 :: hds) [] [] pos) (fun D σ H => tb (wManyAs X.K Wo D l) D σ H) := by
  refine ⟨fun pz s σ H D I h => ?_⟩
  have okI := I.ok
  have frI : X.A.frames = some (X.env :: X.outer) := by rw [okI.frames, hst]
  refine wpAny_Try_except (wpAny_mono ((hb (wManyAs X.K Wo D l) (X.pn ++ pz) (fun e t₁ => wpAny (model X.prog X.w) X.A (noteFrame e X.env) (fun _ t₂ => wpAny (model X.prog X.w) X.A (setFlight e none) (fun _ t₃ =>
    wpAny (model X.prog X.w) X.A (handleBy e X.env (hd0 :: hds)) (SP X pz D) X.xe t₃) X.xe t₂) X.xe t₁) (fun u s2 xx => ?_) PassesOwn.looking).run [] s σ H D (I.toTry _) h) (fun f s1 hsp => ?_) (fun e s1 ze => ze))
  · obtain ⟨a, B, sz, pzz, σ2, H2, cls, d, rfl, JT, nbare, ups, skyT, fre, oss, bare, wish⟩ := xx
    have JA : Inv X pz σ2 H2 sz := JT.ofTry okI
    have skyA : Sky B (X.env :: X.outer) a (Zc cls d) X.env.locals s2.heap := by
      rw [← hst]; exact skyT
    show
      wpAny (model X.prog X.w) X.A (noteFrame (.ref a) X.env) _ _ _
    refine Sky.land Zc.steady frI hfrm skyA fun g3 fly3 ups3 => ?_
    have JB : Inv X pz σ2 H2 { s2 with heap := g3 } := JA.landed nbare fly3.1 (ups.trans ups3) oss bare
    obtain ⟨ob3, vz3, at3, zc3, dat3⟩ := fly3.there
    have notF : ∀ {g : Heap} {o : Obj} {vz : Array Value}, g.FunFrames B (X.env :: X.outer) → g.get? a = some o → o.data = .fields vz → a ∉ frs (X.env :: X.outer) := fun {g o vz} ff e dd hm => by
      obtain ⟨_, o2, e2, hnf⟩ := ff.mem hm
      rw [e] at e2
      cases e2
      exact hnf _ dd
    have nfrs := notF fly3.2.2.1 at3 dat3
    have nloc : a ≠ X.env.locals := fun z => nfrs (List.mem_filterMap.mpr ⟨X.env, List.mem_cons_self, by rw [hfrm, z]⟩)
    have nfs : a ∉ X.fs := fun hm => by
      obtain ⟨e, hem, qe⟩ := List.mem_filterMap.mp hm
      exact nfrs (List.mem_filterMap.mpr ⟨e, List.mem_cons_of_mem _ hem, qe⟩)
    have JS := JB.suite at3 dat3 fre nloc nfs
    have walkH : ∀ {hz : List ExceptHandler} {lz : List Cl}, HdsAs X hz lz → wManyAs X.K Wo D lz cls d σ2 H2 →
        wpAny (model X.prog X.w) X.A (handleBy (.ref a) X.env hz) (SP X pz D) X.xe { s2 with heap := g3 } := by
      intro hz lz hk
      induction hk with
      | nil =>
        intro wz
        refine wpAny_handleBy_nil ?_
        obtain ⟨f1, f2, f3, oz, vz, TB, oTB, tz, e1, e2, e3, e4, e5⟩ := id fly3
        unfold PySem.passOn
        refine wpAny_bind (wpAny_field e1 e3 e4 ?_)
        rw [if_neg (show ¬ ((Value.ref TB == Value.none) = true) from by simp)]
        have last : wpAny (model X.prog X.w) X.A (setFlight (.ref a) X.env.frame) (fun _ s4 => wpAny (model X.prog X.w) X.A (throw (.ref a) : Sem Flow) (SP X pz D) X.xe s4) X.xe { s2 with heap := g3 } := by
          rw [hfrm]
          refine HandSPX.setFlight_upZ fly3 fun g4 fl4 ups4 => wpAny_throw (tk _ _ ⟨a, B, sz, pz, σ2, H2, cls, d, rfl, JA, nbare, (ups.trans ups3).trans ups4, .inr (.inr ?_), fre, oss, bare, wz⟩)
          rw [hst]
          exact fl4
        first
          | exact wpAny_bind (wpAny_pure (wpAny_bind last))
          | exact wpAny_bind last
      | @cons x n c i ts st0 sts q1 q2 hds2 l2 hi hln hc hsu r ih =>
        intro wz
        obtain ⟨b, hex, yes, no⟩ := wz
        refine wpAny_handleBy_cons (codeAny_handlers_test ?_) (by intro z; cases z)
        have looks : PySem.W.Looks (model X.prog X.w) g3 (typeOf (.ref a)) cls := fun A Q E s k qz => wpAny_typeOf_ref (k _ _ at3) (by rw [zc3.1]; exact qz)
        have one := PySem.W.exm_one (M := model X.prog X.w) (JB.kIn) looks hex
        have look : ∀ {Q : Value → Shared → Prop} {E : Value → Shared → Prop}, Q c { s2 with heap := g3 } → wpAny (model X.prog X.w) (X.A.mark (some (.ref a))) (eval (.Name x q1) X.env) Q E { s2 with heap := g3 } := fun {Q E} qz => by
          obtain ⟨gl, ndb, hm | ⟨hm, hv, hnn⟩⟩ := hc
          · exact ld_glob (X := X.suite a ((a, ob3) :: (X.pn ++ pz))) JS gl hm qz ndb
          · exact ld_blt (X := X.suite a ((a, ob3) :: (X.pn ++ pz))) JS gl hm hv qz hnn ndb
        refine look (one.here ?_)
        cases b with
        | true =>
          refine codeAny_handlers_suite_as (HandSPX.lands_againZ fly3 fun g4 fly4 ups4 => ?_)
          have JC : Inv X pz σ2 H2 { s2 with heap := g4 } := JA.landed nbare fly4.1 ((ups.trans ups3).trans ups4) oss bare
          obtain ⟨ob4, vz4, at4, zc4, dat4⟩ := fly4.there
          have JD := JC.suite at4 dat4 fre nloc nfs
          refine store_ok (X := X.suite a ((a, ob4) :: (X.pn ++ pz))) (v := .ref a) JD hN hi (.inl hln) rfl (fun s5 JE => ?_) (.inr hln)
          refine wpAny_mono ((hsu a ob4 cls d (X.pn ++ pz) zc4 ⟨_, dat4⟩).run [] s5 _ H2 _ JE (yes rfl a fre)) (fun f s6 ends => ?_) (fun _ _ z => False.elim z)
          have behind : ∀ {σ6 : L2.St} {H6 : Hp} {Q : Shared → Prop}, Inv (X.suite a ((a, ob4) :: (X.pn ++ pz))) [] σ6 H6 s6 → (∀ s7, Inv X pz (σ6.set i none) H6 s7 → Q s7) →
              wpAny (model X.prog X.w) X.A (do bindName X.env n .none; unbindBehindTheSuite X.env n q2) (fun _ s7 => Q s7) X.xe s6 := fun {σ6 H6 Q} J6 hq => gone_ok (J6.unsuite okI) hN hi hln hq
          cases f with
          | next =>
            obtain ⟨σ6, H6, J6, e6⟩ := ends
            exact behind J6 fun s7 J7 => ⟨_, _, J7, e6⟩
          | brk =>
            obtain ⟨σ6, H6, J6, e6⟩ := ends
            exact behind J6 fun s7 J7 => ⟨_, _, J7, e6⟩
          | cont =>
            obtain ⟨σ6, H6, J6, e6⟩ := ends
            exact behind J6 fun s7 J7 => ⟨_, _, J7, e6⟩
          | ret u =>
            obtain ⟨v6, σ6, H6, J6, r6, e6⟩ := ends
            exact behind J6 fun s7 J7 => ⟨_, _, _, J7, r6, e6⟩
        | false =>
          show
            wpAny _ X.A (handleBy (.ref a) X.env hds2) _ _ _
          exact ih (no rfl)
    exact walkH hh wish
  · cases f with
    | next =>
      obtain ⟨σ2, H2, J2, q2⟩ := hsp
      exact wpAny_execs_nil ⟨σ2, H2, J2.ofTry okI, q2⟩
    | brk =>
      obtain ⟨σ2, H2, J2, q2⟩ := hsp
      exact ⟨σ2, H2, J2.ofTry okI, q2⟩
    | cont =>
      obtain ⟨σ2, H2, J2, q2⟩ := hsp
      exact ⟨σ2, H2, J2.ofTry okI, q2⟩
    | ret u =>
      obtain ⟨v2, σ2, H2, J2, r2, q2⟩ := hsp
      exact ⟨v2, σ2, H2, J2.ofTry okI, r2, q2⟩
end Ws

/-! data that is shown; a comprehension with an invariant of its own -/
namespace Ws
open PySem PySem.Spec PyProof.Rows L2
/-- small data without a dict -/
structure Leaf (d : PyData) : Prop where
  ok : d.showable = true
  nd : d.hasDict = false
  dp : d.depth ≤ 3
  sh : d.leavesShort 13 = true
  wt : d.weight ≤ 3000
theorem Leaf.shw {d : PyData} (h : Leaf d) : Shw d := ⟨h.ok, h.nd, by have := h.dp; omega, h.sh, by have := h.wt; omega⟩
theorem leaf_none : Leaf .none := ⟨rfl, rfl, by decide, rfl, by decide⟩
theorem leaf_bool (b : Bool) : Leaf (.bool b) := ⟨rfl, rfl, by show 0 ≤ 3; decide, rfl, by show 0 ≤ 3000; decide⟩
theorem leaf_int {n : Nat} (h : n < 100) : Leaf (.int n) := by
  have a : ((List.range 100).all fun n => (PyData.int n).showable && (PyData.int n).leavesShort 13 && decide ((PyData.int n).weight ≤ 3000)) = true := by decide +kernel
  have b := List.all_eq_true.mp a n (List.mem_range.mpr h)
  simp only [Bool.and_eq_true, decide_eq_true_eq] at b
  exact ⟨b.1.1, rfl, by show 0 ≤ 3; decide, b.1.2, b.2⟩
theorem leaf_str {l : List Nat} (h : ∀ c ∈ l, c < 16777216) (hl : l.length ≤ 2000) : Leaf (.str (S l)) := by
  refine ⟨rfl, rfl, by show 0 ≤ 3; decide, ?_, ?_⟩
  · show (S l).cps.toList.all (fun c => decide (c < 16 ^ 8)) = true
    rw [List.all_eq_true]
    intro c hc
    have := h c hc
    rw [decide_eq_true_iff]
    omega
  · show (S l).cps.size ≤ 3000
    have : (S l).cps.size = l.length := SX.S_len l
    omega
theorem all_show : ∀ {ds : List PyData}, (∀ d ∈ ds, d.showable = true ∧ d.hasDict = false ∧ d.leavesShort 13 = true) → PyData.showableAll ds = true ∧ PyData.hasDictAll ds = false ∧ PyData.leavesShortAll 13 ds = true
  | [], _ => ⟨rfl, rfl, rfl⟩
  | d :: ds, h => by
    obtain ⟨a, b, c⟩ := h d (List.mem_cons_self ..)
    obtain ⟨x, y, z⟩ := all_show (ds := ds) (fun e he => h e (List.mem_cons_of_mem _ he))
    refine ⟨?_, ?_, ?_⟩
    · show (d.showable && PyData.showableAll ds) = true
      rw [a, x]; rfl
    · show (d.hasDict || PyData.hasDictAll ds) = false
      rw [b, y]; rfl
    · show (d.leavesShort 13 && PyData.leavesShortAll 13 ds) = true
      rw [c, z]; rfl
theorem all_depth {n : Nat} : ∀ {ds : List PyData}, (∀ d ∈ ds, d.depth ≤ n) → PyData.depthAll ds ≤ n
  | [], _ => Nat.zero_le _
  | d :: ds, h => by
    show max d.depth (PyData.depthAll ds) ≤ n
    have a := h d (List.mem_cons_self ..)
    have b := all_depth (ds := ds) (fun e he => h e (List.mem_cons_of_mem _ he))
    omega
theorem all_weight {n : Nat} : ∀ {ds : List PyData}, (∀ d ∈ ds, d.weight ≤ n) → PyData.weightAll ds ≤ ds.length * (n + 1)
  | [], _ => Nat.zero_le _
  | d :: ds, h => by
    show d.weight + 1 + PyData.weightAll ds ≤ (ds.length + 1) * (n + 1)
    have a := h d (List.mem_cons_self ..)
    have b := all_weight (ds := ds) (fun e he => h e (List.mem_cons_of_mem _ he))
    rw [Nat.succ_mul]
    omega
/-- a list (tuple) of shown things -/
theorem Shw.list {n m : Nat} {ds : List PyData} (h : ∀ d ∈ ds, d.showable = true ∧ d.hasDict = false ∧ d.leavesShort 13 = true) (hd : ∀ d ∈ ds, d.depth ≤ n) (hn : n < 60) (hw : ∀ d ∈ ds, d.weight ≤ m) (hm : ds.length * (m + 1) ≤ 2 ^ 20) : Shw (.list ds) := by
  obtain ⟨a, b, c⟩ := all_show h
  refine ⟨a, b, ?_, c, ?_⟩
  · show PyData.depthAll ds + 1 ≤ 60
    have := all_depth hd
    omega
  · show PyData.weightAll ds ≤ 2 ^ 20
    exact Nat.le_trans (all_weight hw) hm
theorem Shw.leaves {ds : List PyData} (h : ∀ d ∈ ds, Leaf d) (hl : ds.length ≤ 300) : Shw (.list ds) :=
  Shw.list (n := 3) (m := 3000) (fun d hd => ⟨(h d hd).ok, (h d hd).nd, (h d hd).sh⟩) (fun d hd => (h d hd).dp) (by decide) (fun d hd => (h d hd).wt) (by
    have := Nat.mul_le_mul_right (3000 + 1) hl
    omega)
theorem leaf_pair {a b : PyData} (ha : Leaf a) (hb : Leaf b) (da : a.depth ≤ 2) (db : b.depth ≤ 2) (wa : a.weight ≤ 1000) (wb : b.weight ≤ 1000) : Leaf (.tuple [a, b]) := by
  obtain ⟨x, y, z⟩ := all_show (ds := [a, b]) (fun d hd => by
    simp only [List.mem_cons, List.not_mem_nil, or_false] at hd
    rcases hd with rfl | rfl
    · exact ⟨ha.ok, ha.nd, ha.sh⟩
    · exact ⟨hb.ok, hb.nd, hb.sh⟩)
  refine ⟨x, y, ?_, z, ?_⟩
  · show max a.depth (max b.depth 0) + 1 ≤ 3
    omega
  · show a.weight + 1 + (b.weight + 1 + 0) ≤ 3000
    omega
theorem leaf_list1 {a : PyData} (ha : Leaf a) (da : a.depth ≤ 1) (wa : a.weight ≤ 900) : Leaf (.list [a]) ∧ (PyData.list [a]).depth ≤ 2 ∧ (PyData.list [a]).weight ≤ 1000 := by
  obtain ⟨x, y, z⟩ := all_show (ds := [a]) (fun d hd => by
    rw [List.mem_singleton.mp hd]
    exact ⟨ha.ok, ha.nd, ha.sh⟩)
  have e1 : (PyData.list [a]).depth = max a.depth 0 + 1 := rfl
  have e2 : (PyData.list [a]).weight = a.weight + 1 + 0 := rfl
  exact ⟨⟨x, y, by omega, z, by omega⟩, by omega, by omega⟩
section
variable {K : PySem.W.Frag} {H : Hp}
theorem dp_map {f : Nat → V} {g : Nat → PyData} (h : ∀ i, Dp K H (f i) (g i)) : ∀ l : List Nat, DpAll K H (l.map f) (l.map g)
  | [] => .nil
  | i :: l => .cons (h i) (dp_map h l)
theorem dp_rep {d : PyData} : ∀ (ys : List V) (h : ∀ v ∈ ys, Dp K H v d), DpAll K H ys (List.replicate ys.length d)
  | [], _ => .nil
  | y :: ys, h => .cons (h y (List.mem_cons_self ..)) (dp_rep ys (fun v hv => h v (List.mem_cons_of_mem _ hv)))
theorem dp_app : ∀ {xs ys : List V} {ds es : List PyData}, DpAll K H xs ds → DpAll K H ys es → DpAll K H (xs ++ ys) (ds ++ es)
  | [], _, _, _, .nil, h => h
  | _ :: _, _, _, _, .cons a b, h => .cons a (dp_app b h)
end
section
variable {J : It} {n : Nat} {G : Hp → Prop} {Y : Nat → Hp → V → Hp → Prop} {g : TG} {te : TE} {vs : List Nat} {σ : L2.St} {H1 : Hp} {D : Addr} {Qd : Hp → Prop}
/-- the items by a function of the turn, with an invariant of its own -/
theorem lcI (w : Walk J n G Y) (hn : n < sizeLine) (f : Nat → V) (Iv : Nat → Hp → Prop) (h0 : Iv 0 (upd H1 D (.lst []))) (hG : ∀ i H, Iv i H → G H) (hI : ∀ i H ys, Iv i H → (∃ xs, H D = some (.lst xs)) → Iv i (upd H D (.lst ys)))
    (hs : ∀ i x H H', i < n → Iv i H → (∃ xs, H D = some (.lst xs)) → Y i H x H' → ∀ Q : VK, (∀ H2, Iv (i + 1) H2 → H2 D = H D → Q (f i) H2) →
      g x (wipe σ vs) H' fun σ2 H2 => wipe σ2 vs = wipe σ vs ∧ te σ2 H2 Q)
    (hd : ∀ H, Iv n H → H D = some (.lst ((List.range n).map f)) → Qd H) :
    ∃ W : Nat → Nat → Hp → Prop, (∃ m, W 0 m (upd H1 D (.lst []))) ∧
        ∀ i m H, W i m H →
      (J.stop i H ∧ Qd H) ∨ (J.go i H ∧ ∃ Nx : Hp → Prop, (∀ H', Nx H' → ∃ m', m' < m ∧ W (i + 1) m' H') ∧ ∀ x H', J.yld i H x H' →
        g x (wipe σ vs) H' fun σ2 H2 => wipe σ2 vs = wipe σ vs ∧ tYes σ2 H2 fun b H3 =>
          if b = true then te σ2 H3 fun y H4 => ∃ acc, H4 D = some (.lst acc) ∧
              acc.length < sizeLine ∧ Nx (upd H4 D (.lst (acc ++ [y]))) else Nx H3) := by
  refine ⟨fun i m H => m = n - i ∧ i ≤ n ∧ Iv i H ∧ H D = some (.lst ((List.range i).map f)), ⟨n, by simp, Nat.zero_le _, h0, upd_same⟩, ?_⟩
  rintro i m H ⟨rfl, hi, iv, hy⟩
  by_cases hlt : i < n
  · refine .inr ⟨w.goes i H hlt (hG i H iv), fun H' => i + 1 ≤ n ∧ Iv (i + 1) H' ∧ H' D = some (.lst ((List.range (i + 1)).map f)), fun H' p => ⟨n - (i + 1), by omega, rfl, p⟩, fun x H' y => ?_⟩
    refine hs i x H H' hlt iv ⟨_, hy⟩ (w.yields i H x H' hlt (hG i H iv) y) _ (fun H2 iv2 e2 => ?_)
    rw [hy] at e2
    refine ⟨_, e2, by rw [List.length_map, List.length_range]; omega, hlt, hI _ _ _ iv2 ⟨_, e2⟩, ?_⟩
    rw [upd_same, List.range_succ, List.map_append]
    rfl
  · have e : i = n := by omega
    subst e
    exact .inl ⟨w.stops H (hG _ H iv), hd H iv hy⟩
end
end Ws

/-! calls in a try: methods, new objects; an exception of one's own made without arguments -/
namespace Ws
open PySem PySem.Spec PyProof.Rows L2
section
variable {X : Cx} {CX : CXT} {k : Nat} {f C : Addr} {fd : FuncData} {ps : List Str} {sp : Sp} {E : L2.St → XK} {x m : Str} {p pos apos : Pos} {e o : Expr} {es : List Expr} {ta : TE} {t : TA}
/-- o.m(..), what it lets out told by the slots -/
def tMT (C : Addr) (m : Str) (sp : Sp) (E : L2.St → XK) (ta : TE) (t : TA) : TE := fun σ H Q => ta σ H fun x H1 => ∃ a dx fs, x = .ref a ∧ H1 a = some (.ins C dx fs) ∧ fs.lookup m = none ∧
  t σ H1 fun vs H2 => sp (x :: vs) H2 Q (E σ)
theorem pe_mT {pl : Sem Bool} (ho : PE X o ta) (c : Cls X.K C) (M : Meth X.K C m f) (F : FnOk X.prog X.w X.K X.mg X.base CX k f fd ps sp) (hr : Room k X.A) (hb : Binds X.K fd ps []) (hx : ∀ σ, PassesAt CX X σ (E σ)) (ha : PA X (e :: es) t)
    (h1 : starEach (e :: es) X.env = (false, eval e X.env) :: starEach es X.env := by rfl) (h2 : (backTo pos (starEach es X.env)).any (·.1) = false := by rfl)
    (h3 : eval (.Call (.Attribute o m apos) (e :: es) [] pos) X.env = (do
      let ov ← eval o X.env
      standAt apos.atName
      let (f, first) ←
        holding [ov] (getMethod ov m pl)
      callWith pos f first (backTo pos (starEach (e :: es) X.env)) (backToKw pos
        (keywordEach [] X.env))) := by rfl) :
    PE X (.Call (.Attribute o m apos) (e :: es) [] pos) (tMT C m sp E ta t) := by
  refine ⟨fun pz s σ H Q I h => PySem.W.methodCall_KW (pl := pl) (thn (ho.run pz s σ H _ I h) fun u sA ⟨y, HA, iA, ry, a, dx, fs, ey, ea, l, q⟩ => ?_) h3⟩
  subst ey
  have eu : u = Value.ref a := ry
  subst eu
  refine getmeth_ok iA ea c M l (PySem.W.callWith_K (first := [.ref a]) (h₀ := X.base) I.ok.mod.kin M.kp (thn (ha.run pos pz sA σ HA _ iA q) fun us sB ⟨vs, HB, iB, r, q2⟩ => ⟨iB.kIn, ?_⟩) h1 h2)
  exact run_fnS (us := .ref a :: us) (vs := .ref a :: vs) F hr hb (hx σ) iB (.cons rfl r) q2
theorem pe_mT0 {pl : Sem Bool} (ho : PE X o ta) (c : Cls X.K C) (M : Meth X.K C m f) (F : FnOk X.prog X.w X.K X.mg X.base CX k f fd ps sp) (hr : Room k X.A) (hb : Binds X.K fd ps []) (hx : ∀ σ, PassesAt CX X σ (E σ))
    (h3 : eval (.Call (.Attribute o m apos) [] [] pos) X.env = (do
      let ov ← eval o X.env
      standAt apos.atName
      let (f, first) ←
        holding [ov] (getMethod ov m pl)
      callWith pos f first (backTo pos (starEach [] X.env)) (backToKw pos
        (keywordEach [] X.env))) := by rfl) :
    PE X (.Call (.Attribute o m apos) [] [] pos) (tMT C m sp E ta tNil) := by
  refine ⟨fun pz s σ H Q I h => PySem.W.methodCall_KW (pl := pl) (thn (ho.run pz s σ H _ I h) fun u sA ⟨y, HA, iA, ry, a, dx, fs, ey, ea, l, q⟩ => ?_) h3⟩
  subst ey
  have eu : u = Value.ref a := ry
  subst eu
  exact getmeth_ok iA ea c M l (PySem.W.callWith_K0 (first := [.ref a]) iA.kIn M.kp (run_fnS (us := [.ref a]) (vs := [.ref a]) F hr hb (hx σ) iA (.cons rfl .nil) q))
/-- C(..), what __init__ lets out told by the slots -/
def tMkT (C : Addr) (sp : Sp) (E : L2.St → XK) (t : TA) : TE := fun σ H Q => t σ H fun vs H1 => ∀ x dx, H1 x = none → H1 dx = none → dx ≠ x →
  sp (.ref x :: vs) (upd (upd H1 dx (.own x)) x (.ins C dx [])) (fun v H2 => v = .non ∧ Q (.ref x) H2) (E σ)
theorem pe_mkT (M : Mk X.K C f) (F : FnOk X.prog X.w X.K X.mg X.base CX k f fd ps sp) (hr : Room (k + 1) X.A) (hg : Gl X x) (hm : X.mg x = some (.ref C)) (hb : Binds X.K fd ps []) (hx : ∀ σ, PassesAt CX X σ (E σ)) (ha : PA X (e :: es) t)
    (hdb : (x == ("__debug__" : Str)) = false := by decide) (h1 : starEach (e :: es) X.env = (false, eval e X.env) :: starEach es X.env := by rfl) (h2 : (backTo pos (starEach es X.env)).any (·.1) = false := by rfl) :
    PE X (.Call (.Name x p) (e :: es) [] pos) (tMkT C sp E t) := by
  refine ⟨fun pz s σ H Q I h => wpAny_Call_Name_kw (ld_glob I hg hm ?_ hdb)⟩
  refine PySem.W.callWith_K (h₀ := X.base) I.ok.mod.kin M.kp (thn (ha.run pos pz s σ H _ I h) fun us sA ⟨vs, HA, iA, r, q⟩ => ⟨iA.kIn, ?_⟩) h1 h2
  have hq := q (sA.heap.objs.size + 1) sA.heap.objs.size (iA.hok.fresh (Nat.le_succ _)) (iA.hok.fresh (Nat.le_refl _)) (Nat.ne_of_lt (Nat.lt_succ_self _))
  have iB := Inv.made (C := C) iA
  have rB : Vals (V.ref (sA.heap.objs.size + 1) :: vs) (Value.ref (sA.heap.objs.size + 1) :: us) := .cons rfl r
  have hl : (Value.ref (sA.heap.objs.size + 1) :: us).length = ps.length := by
    have e := rB.length
    rw [F.len _ _ _ _ hq] at e
    exact e.symm
  have bd := hb _ (Value.ref (sA.heap.objs.size + 1) :: us) iB.kIn (by rw [List.append_nil]; exact hl)
  rw [List.append_nil] at bd
  refine wpAny_call (make_map (f := f) iA.kIn M.makes M.init (beq_iff_eq.mp M.fn) (codeAny_mono (F.run _ X.stack _ _ ⟨Value.ref (sA.heap.objs.size + 1) :: us, []⟩ (Value.ref (sA.heap.objs.size + 1) :: us) _ _ (E σ) (hr.make C us [])
    (iB.env0.make C us []) bd rB hq) fun r s2 hq2 => ?_))
  cases r with
  | error er => exact hx σ pz _ _ er s2 iB hq2
  | ok fl =>
    cases fl with
    | ret u =>
      obtain ⟨v, HC, iC, rv, ev, q3⟩ := iB.after hq2
      subst ev
      exact ⟨rv, ⟨V.ref (sA.heap.objs.size + 1), HC, iC, rfl, q3⟩⟩
    | next => exact hq2.elim
    | brk => exact hq2.elim
    | cont => exact hq2.elim
/-- C(), an exception of the program's own: the defaults fill up -/
theorem pmk_oex0 {fI : Addr} {ds : List Value} {dvs : List V} (T : OexC X.K C) (iC : PySem.W.findIn X.K (.ref C) "__init__" = some (some (.ref fI))) (tI : PySem.W.typeIn X.K (.ref fI) = some (.type "function"))
    (F1 : FnOk X.prog X.w X.K X.mg X.base CX k fI fd ps sp) (hr : Room (k + 1) X.A) (hb : Binds X.K fd ps ds) (hd : Vals dvs ds) (hx : Passes CX X (fun _ _ _ => False)) (hg : Gl X x) (hm : X.mg x = some (.ref C)) (hdb : (x == ("__debug__" : Str)) = false := by decide) :
    PMk X (.Call (.Name x p) [] [] pos) (tMkO C sp dvs tNil) := by
  intro pz s σ H Q I h
  obtain ⟨nm, q, N, bs, bm, sn, sub, ab, col, dd, k0, k1, k2, k3, k5, hC, hbm⟩ := T.cls
  refine
    wpAny_Call_Name_kw (ld_glob I hg hm ?_ hdb)
  obtain ⟨_, q1⟩ := h
  refine PySem.W.callWith_K0 I.kIn T.kC ?_
  show wpAny _ _ (call (.ref C) []) _ _ _
  obtain ⟨hp, g, dr, tk, os⟩ := s
  have hsz :
    hp.objs.size ≤ hp.objs.size + 1 := Nat.le_succ _
  have hq := q1 (hp.objs.size + 1) (I.hok.fresh hsz)
  have keep : ∀ b o, hp.get? b = some o → ((hp.push (PySem.W.kdv_tup [])).push (PySem.HandSPX.excO C hp.objs.size)).get? b = some o := fun b o e =>
    Heap.get?_push_of_some _ (Heap.get?_push_of_some _ e)
  have there : ((hp.push (PySem.W.kdv_tup [])).push (PySem.HandSPX.excO C hp.objs.size)).get? (hp.objs.size + 1) = some (PySem.HandSPX.excO C hp.objs.size) := by heap_get
  have iB : Inv X pz σ (upd H (hp.objs.size + 1) (exo (hp.objs.size + 1) C none)) ⟨(hp.push (PySem.W.kdv_tup [])).push (PySem.HandSPX.excO C hp.objs.size), g, dr, tk, os⟩ :=
    I.laid (t' := tk) keep hsz (exo_ok there)
  have rB : Vals (V.ref (hp.objs.size + 1) :: ([] ++ dvs)) (Value.ref (hp.objs.size + 1) :: ([] ++ ds)) := .cons rfl hd
  have hl : (Value.ref (hp.objs.size + 1) :: [] ++ ds).length = ps.length := by
    have e := rB.length
    rw [F1.len _ _ _ _ hq] at e
    exact e.symm
  have bd : BindsTo ⟨(hp.push (PySem.W.kdv_tup [])).push (PySem.HandSPX.excO C hp.objs.size), g, dr, tk, os⟩ fd ⟨[Value.ref (hp.objs.size + 1)], []⟩ (ps.zip (Value.ref (hp.objs.size + 1) :: ([] ++ ds))) := hb _ [Value.ref (hp.objs.size + 1)] iB.kIn hl
  refine wpAny_call (PySem.HandSPX.call_own F.excBase_ValueError (fun Y => PySem.HandSPX.refsVE_contains Y bm hbm) (I.kIn _ _ hC) (PySem.W.looks_findIn I.kIn iC) (fun self => PySem.W.bind_fn I.kIn self tI) (Nat.zero_le _)
    (codeAny_mono (F1.run _ X.stack _ _ ⟨[Value.ref (hp.objs.size + 1)], []⟩ (Value.ref (hp.objs.size + 1) :: ([] ++ ds)) _ _ (fun _ _ _ => False) (hr.make C [] []) (iB.env0.make C [] []) bd rB hq) fun r s2 hq2 => ?_))
  cases r with
  | error er => exact hx pz σ _ _ er s2 iB hq2
  | ok fl =>
    cases fl with
    | ret u =>
      obtain ⟨v, HC, os2, bare2, un2, hok2, rv, ev, d, fs, ea, ed, hd1, q2⟩ := hq2
      subst ev
      obtain ⟨h2, g2, d2, t2, os3⟩ := s2
      exact ⟨rv, mk_end (raises_own T.exC T.tyC) I hsz keep un2 hok2 os2 bare2 ea ed hd1 q2⟩
    | next => exact hq2.elim
    | brk => exact hq2.elim
    | cont => exact hq2.elim
end
end Ws

/-! words that are right, letters that are none: for a law's own def -/
namespace Ws
open PySem PySem.Spec PyProof.Rows L2
def spLaw (K : PySem.W.Frag) : Sp := fun vs H Q _ => ∃ (a : Addr) (ns : List Int), vs = [.ref a] ∧ SqL K H a (ns.map V.int) ∧ ns.length ≤ 63 ∧ ∀ H', Q (.bl true) H'
theorem lets_ok {L : List Nat} (h : L ∈ Lets) : letOk (some L) = true ∧ (∀ c ∈ L, c < 16777216) ∧ (113 : Nat) ∉ L := by
  have a : Lets.all (fun L => letOk (some L) && L.all (fun c => decide (c < 16777216)) && decide ((113 : Nat) ∉ L)) = true := by decide +kernel
  have b := List.all_eq_true.mp a L h
  simp only [Bool.and_eq_true, decide_eq_true_eq] at b
  exact ⟨b.1.1, fun c hc => of_decide_eq_true (List.all_eq_true.mp b.1.2 c hc), b.2⟩
structure WordIn (L l : List Nat) : Prop where
  len : l.length ≤ 60
  sub : ∀ c ∈ l, c ∈ L
theorem WordIn.ok {L l : List Nat} (h : WordIn L l) : wordOk L (some l) = true := wordOk_iff.mpr ⟨h.len, h.sub⟩
theorem WordIn.rev {L l : List Nat} (h : WordIn L l) : WordIn L l.reverse := ⟨by rw [List.length_reverse]; exact h.len, fun c hc => h.sub c (List.mem_reverse.mp hc)⟩
theorem pair_ok {L v w : List Nat} (hL : letOk (some L) = true) (hv : WordIn L v) (hw : WordIn L w) {lt x y : V} : badOf lt (some L) [(x, some v), (y, some w)] = none := bad_ok hL fun q hq => by
  simp only [List.mem_cons, List.not_mem_nil, or_false] at hq
  rcases hq with rfl | rfl
  · exact hv.ok
  · exact hw.ok
theorem kb_ok {K : PySem.W.Frag} {CL CW : Addr} {L v w : List Nat} {k : Nat} {H : Hp} {Q : VK} {E : XK} (hL : letOk (some L) = true) (hl : L.length ≤ 1000) (hv : WordIn L v) (hw : WordIn L w) (hk : k ≤ 61) (q : ∀ H', Same H H' → Q (.bl (keptB k v w)) H') :
    spKB K CL CW [.str (S L), .int (k : Nat), .str (S v), .str (S w)] H Q E :=
  ⟨_, _, _, some L, some v, some w, k, rfl, txt_str hl, txt_str (by have := hv.len; omega), txt_str (by have := hw.len; omega), hk, fun _ v2 w2 e1 e2 H' s => by
    cases e1
    cases e2
    exact q H' s, Fault.none (pair_ok hL hv hw)⟩
theorem st_ba : (Str.ofString "ba") = S [98, 97] := by decide +kernel
/-- a value that is no letters (no word of L), whatever is made beside it -/
structure BadV (K : PySem.W.Frag) (p : Addr) (H : Hp) (x : V) (o : Option (List Nat)) (d : PyData) : Prop where
  tx : ∀ H', Ext p H H' → TxtOr K H' x o
  dp : ∀ H', Ext p H H' → Dp K H' x d
  lf : Leaf d
  d2 : d.depth ≤ 2
  w2 : d.weight ≤ 1000
theorem BadV.txt {K : PySem.W.Frag} {p : Addr} {H H1 : Hp} {x : V} {o : Option (List Nat)} {d : PyData} (b : BadV K p H x o d) (e : Ext p H H1) : TxtO K H1 x o := fun H' s => b.tx H' (e.trans (Ext.of s))
theorem BadV.ext {K : PySem.W.Frag} {p : Addr} {H H1 : Hp} {x : V} {o : Option (List Nat)} {d : PyData} (b : BadV K p H x o d) (e : Ext p H H1) : BadV K p H1 x o d := ⟨fun H' e' => b.tx H' (e.trans e'), fun H' e' => b.dp H' (e.trans e'), b.lf, b.d2, b.w2⟩
theorem bad_non {K : PySem.W.Frag} {p : Addr} {H : Hp} : BadV K p H .non none .none := ⟨fun H' _ => txt_non.now, fun _ _ => .non, leaf_none, by decide, by decide⟩
theorem bad_5 {K : PySem.W.Frag} {p : Addr} {H : Hp} : BadV K p H (.int 5) none (.int 5) := ⟨fun H' _ => txt_int.now, fun _ _ => .int 5, leaf_int (n := 5) (by decide), by decide, by decide⟩
theorem bad_str {K : PySem.W.Frag} {p : Addr} {H : Hp} {l : List Nat} (h : ∀ c ∈ l, c < 16777216) (hl : l.length ≤ 1000) : BadV K p H (.str (S l)) (some l) (.str (S l)) :=
  ⟨fun H' _ => (txt_str hl).now, fun _ _ => .str _, leaf_str h (by omega), by show 0 ≤ 2; decide, by show (S l).cps.size ≤ 1000; have : (S l).cps.size = l.length := SX.S_len l; omega⟩
theorem bad_lt {lt : V} {o : Option (List Nat)} {xs : List (V × Option (List Nat))} (h : letOk o = false) : badOf lt o xs = some (false, lt) := by
  unfold badOf
  rw [if_neg (by rw [h]; decide)]
theorem leaf_letters : Leaf (.str "letters") := ⟨rfl, rfl, by decide, by decide +kernel, by decide +kernel⟩
theorem leaf_word : Leaf (.str "word") := ⟨rfl, rfl, by decide, by decide +kernel, by decide +kernel⟩
end Ws

/-! an error made without arguments: place is None -/
namespace Ws
open PySem PySem.Spec PyProof.Rows L2
/-- raise X(): what stands behind the class's __init__ -/
theorem er_mk0 {C : Addr} {nm : Str} {H1 : Hp} {Q : XK} (k : ∀ (d : Addr) (H' : Hp), Same H1 H' → H1 d = none → H' d = some (.xd [("place", .non), ("word", .str nm)]) → Q (.ref C) (some d) H') :
    ([] : List V).length ≤ 1000 ∧ ∀ a, H1 a = none → spEr C nm (.ref a :: ([] ++ [.non])) (upd H1 a (exo a C none))
      (fun v H2 => v = .non ∧ ∃ (d : Addr) (fs : List (Str × V)), H2 a = some (exo a C (some d)) ∧ H2 d = some (exd d fs) ∧ H1 d = none ∧ Q (.ref C) (some d) (upd (del H2 a) d (.xd fs))) (fun _ _ _ => False) :=
  ⟨by simp, (er_mk (pl := .non) k).2⟩
end Ws

/-! whole numbers looked at -/
namespace Ws
open PySem PySem.Spec PyProof.Rows L2
/-- x is the int of o, or none at all (a bool is none) -/
def IntO (K : PySem.W.Frag) (H : Hp) (x : V) (o : Option Int) : Prop :=
  (∃ i, o = some i ∧ x = .int i) ∨ (o = none ∧ ((∃ b, x = .bl b) ∨ ∃ t, TyX K H x t ∧ PySem.W.kitOne K t (.type "int") = some false))
theorem int_int {K : PySem.W.Frag} {H : Hp} {i : Int} : IntO K H (.int i) (some i) := .inl ⟨i, rfl, rfl⟩
theorem int_bl {K : PySem.W.Frag} {H : Hp} {b : Bool} : IntO K H (.bl b) none := .inr ⟨rfl, .inl ⟨b, rfl⟩⟩
theorem int_non {K : PySem.W.Frag} {H : Hp} : IntO K H .non none := .inr ⟨rfl, .inr ⟨_, .base .non, kit_ty (by decide +kernel)⟩⟩
theorem int_str {K : PySem.W.Frag} {H : Hp} {x : Str} : IntO K H (.str x) none := .inr ⟨rfl, .inr ⟨_, .base (.str x), kit_ty (by decide +kernel)⟩⟩
def cntOk (lo hi : Int) : Option Int → Bool
  | none => false
  | some i => decide (lo ≤ i) && decide (i ≤ hi)
def spIsInt (K : PySem.W.Frag) : Sp := fun vs H Q _ => ∃ x o, vs = [x] ∧ IntO K H x o ∧ Q (.bl o.isSome) H
def spCount (K : PySem.W.Frag) : Sp := fun vs H Q _ => ∃ x o, ∃ lo hi : Int, vs = [x, .int lo, .int hi] ∧ IntO K H x o ∧ Q (.bl (cntOk lo hi o)) H
section
variable {P : Program} {w : World} {K : PySem.W.Frag} {mg : Str → Option Value} {base : Heap} {f : Addr} {fd : FuncData}
abbrev s_is_integer : Stmt := (top 11)
theorem sc_is_integer : FnScope ["value"] ["value"] (defScope s_is_integer) := ⟨rfl, rfl, rfl, by decide +kernel, rfl, by decide +kernel, by decide +kernel⟩
theorem ok_is_integer (T : Bl mg) (hb : mg "bool" = none) (D : Def K mg "is_integer" s_is_integer f fd ["value"]) : Cal P w K mg base 1 "is_integer" (spIsInt K) := by
  refine D.cal (D.fn.ok sc_is_integer (fun vs H Q E h => ?_) (fun cdv A outer s H vs Q E hr h => ?_))
  · obtain ⟨x, o, rfl, _⟩ := h
    rfl
  · obtain ⟨x, o, rfl, ix, k⟩ := h
    refine ⟨_, (pss_one (ps_ret (pe_and (pe_callB call_isi (by rfl) T.isinstance (by decide +kernel) (pa_cons (pv 0) (pa_cons (pe_bltn (v := .ty "int") rfl T.int (by decide +kernel) rfl) pa_nil)))
      (pe_one (pe_not (pe_callB call_isi (by rfl) T.isinstance (by decide +kernel) (pa_cons (pv 0) (pa_cons (pe_bltn (v := .ty "bool") rfl hb (by decide +kernel) rfl) pa_nil)))))))), ?_⟩
    rcases ix with ⟨i, rfl, rfl⟩ | ⟨rfl, ⟨b, rfl⟩ | ⟨t, ty, kt⟩⟩
    · refine ⟨_, rfl, _, .ty "int", _, _, true, rfl, .ty "int", .base (.int i), kit_ty (by decide +kernel), _, rfl, iteT ?_⟩
      refine ⟨_, rfl, _, .ty "bool", _, _, false, rfl, .ty "bool", .base (.int i), kit_ty (by decide +kernel), _, rfl, k⟩
    · refine ⟨_, rfl, _, .ty "int", _, _, true, rfl, .ty "int", .base (.bl b), kit_ty (by decide +kernel), _, rfl, iteT ?_⟩
      refine ⟨_, rfl, _, .ty "bool", _, _, true, rfl, .ty "bool", .base (.bl b), kit_ty (by decide +kernel), _, rfl, k⟩
    · exact ⟨_, rfl, _, .ty "int", _, _, false, rfl, .ty "int", ty, kt, _, rfl, iteF k⟩
abbrev s_is_count : Stmt := (top 12)
theorem sc_is_count : FnScope ["value", "least", "most"] ["value", "least", "most"] (defScope s_is_count) := ⟨rfl, rfl, rfl, by decide +kernel, rfl, by decide +kernel, by decide +kernel⟩
theorem ok_is_count (F : FunD K "is_count" "is_count" (defArgs s_is_count) (defBody s_is_count) (defScope s_is_count) [.int 0, .non] [] f fd) (hm : mg "is_count" = some (.ref f)) (b : Binds K fd ["value", "least", "most"] []) (c : Cal P w K mg base 1 "is_integer" (spIsInt K)) :
    Cal P w K mg base 2 "is_count" (spCount K) := by
  refine ⟨f, fd, _, F.ok (CX := CX0) sc_is_count (fun vs H Q E h => ?_) (fun cdv A outer s H vs Q E hr h => ?_), hm, F.kp, b⟩
  · obtain ⟨x, o, lo, hi, rfl, _⟩ := h
    rfl
  · obtain ⟨x, o, lo, hi, rfl, ix, k⟩ := h
    refine ⟨_, (pss_cons (ps_if (PW.pt (pw_or (pt_not (pt_val (pe_c c hr (by decide) rfl (pa_cons (pv 0) pa_nil)))) (pw_or1 (pt_cmpR op_lt (pv 0) (pv 1) (nomark _)))))
      (pss_one (ps_ret pe_bl))
      pss_nil)
      (pss_one (ps_ret (pe_or (pe_cmpR op_isN (pv 2) pe_non (nomark _)) (pe_one (pe_cmpR op_le (pv 0) (pv 2) (nomark _))))))), ?_⟩
    refine ⟨_, rfl, x, o, rfl, ix, _, rfl, ?_⟩
    cases o with
    | none => exact iteT k
    | some i =>
      obtain rfl : x = .int i := by
        rcases ix with ⟨j, e, rfl⟩ | ⟨e, _⟩
        · cases e; rfl
        · cases e
      refine iteF ?_
      refine ⟨_, rfl, _, rfl, _, _, rfl, rfl, _, rfl, ?_⟩
      refine iteD rfl (fun h => ?_) (fun h => ?_)
      · have e : cntOk lo hi (some i) = false := by
          show (decide (lo ≤ i) && _) = false
          rw [decide_eq_false (by omega), Bool.false_and]
        rw [e] at k
        exact k
      · have e : cntOk lo hi (some i) = decide (i ≤ hi) := by
          show (decide (lo ≤ i) && _) = _
          rw [decide_eq_true (by omega), Bool.true_and]
        rw [e] at k
        refine ⟨_, rfl, rfl, _, rfl, ?_⟩
        refine iteV (fun z => nomatch z) (fun _ => ?_)
        exact ⟨_, rfl, _, rfl, _, _, rfl, rfl, k⟩
end
end Ws

/-! the two sides of a game -/
namespace Ws
open PySem PySem.Spec PyProof.Rows L2
def TabFact (mv : List (List Key × V)) (ks : List (List Int)) (u : List Nat) (k0 : Nat) : Prop := ∀ k l h, l ≤ h → h ≤ u.length → k ≤ k0 → ∃ n : Nat, valV mv (kk k l h) = some (.int (n : Nat)) ∧ Means ks k n (seg u l h)
structure SdAt (CS : Addr) (H : Hp) (sd : Addr) (v w : List Nat) (k0 : Nat) : Prop where
  ex : ∃ (dx tw tt m1 m2 : Addr) (mv1 mv2 : List (List Key × V)) (ks : List (List Int)), H sd = some (.ins CS dx [("words", .ref tw), ("tables", .ref tt)]) ∧ H tw = some (.tup [.str (S v), .str (S w)]) ∧ H tt = some (.tup [.ref m1, .ref m2]) ∧
    H m1 = some (.dT mv1) ∧ H m2 = some (.dT mv2) ∧ ks.Nodup ∧ TabFact mv1 ks v k0 ∧ TabFact mv2 ks w k0
theorem SdAt.same {CS : Addr} {H H' : Hp} {sd : Addr} {v w : List Nat} {k0 : Nat} (h : SdAt CS H sd v w k0) (s : L2.Same H H') : SdAt CS H' sd v w k0 := by
  obtain ⟨dx, tw, tt, m1, m2, mv1, mv2, ks, a, b, c, d, e, r⟩ := h.ex
  exact ⟨dx, tw, tt, m1, m2, mv1, mv2, ks, s _ _ a, s _ _ b, s _ _ c, s _ _ d, s _ _ e, r⟩
/-- a list changed elsewhere -/
theorem SdAt.ext {CS ml : Addr} {H H' : Hp} {sd : Addr} {v w : List Nat} {k0 : Nat} {xs : List V} (h : SdAt CS H sd v w k0) (s : Ext ml H H') (e : H ml = some (.lst xs)) : SdAt CS H' sd v w k0 := by
  obtain ⟨dx, tw, tt, m1, m2, mv1, mv2, ks, a, b, c, d, f, r⟩ := h.ex
  exact ⟨dx, tw, tt, m1, m2, mv1, mv2, ks, s _ _ (ne_of a e (by intro z; cases z)) a, s _ _ (ne_of b e (by intro z; cases z)) b, s _ _ (ne_of c e (by intro z; cases z)) c, s _ _ (ne_of d e (by intro z; cases z)) d, s _ _ (ne_of f e (by intro z; cases z)) f, r⟩
structure SdT (K : PySem.W.Frag) (mg : Str → Option Value) (CS : Addr) : Prop where
  cl : Cls K CS
  nW : NoAttr K CS "words"
  nT : NoAttr K CS "tables"
  mgC : mg "Sides" = some (.ref CS)
theorem put_wt {x y : V} : putF "tables" x [("words", y)] = ([("words", y), ("tables", x)] : List (Str × V)) := by
  show (if ("words" : Str) = "tables" then _ else (("words" : Str), y) :: putF "tables" x []) = _
  rw
    [if_neg (by decide +kernel)]
  rfl
theorem sd_tab {x y : V} : List.lookup ("tables" : Str) ([("words", x), ("tables", y)] : List (Str × V)) = some y := by
  have : (("tables" : Str) == "words") = false := by decide +kernel
  simp [List.lookup, this]
def spSI (CS : Addr) : Sp := fun vs H Q _ => ∃ (p dx : Addr) (v w : List Nat) (k : Nat), vs = [.ref p, .str (S v), .str (S w), .int k] ∧ H p = some (.ins CS dx []) ∧ v.length ≤ 60 ∧ w.length ≤ 60 ∧ (∀ x ∈ v, x < 16777216) ∧ (∀ x ∈ w, x < 16777216) ∧ k ≤ 61 ∧
  ∀ H', Ext p H H' → SdAt CS H' p v w k → Q .non H'
def spAK (K : PySem.W.Frag) (CS : Addr) : Sp := fun vs H Q _ => ∃ (sd a b : Addr) (v w : List Nat) (k0 k l h l2 h2 : Nat), vs = [.ref sd, .int k, .ref a, .ref b] ∧ SdAt CS H sd v w k0 ∧ k ≤ k0 ∧ H a = some (.tup [.int l, .int h]) ∧ H b = some (.tup [.int l2, .int h2]) ∧
  l ≤ h ∧ h ≤ v.length ∧ l2 ≤ h2 ∧ h2 ≤ w.length ∧ ∀ H', Same H H' → Q (.bl (keptB k (seg v l h) (seg w l2 h2))) H'
section
variable {P : Program} {w : World} {K : PySem.W.Frag} {mg : Str → Option Value} {base : Heap} {f C CS : Addr} {fd : FuncData}
abbrev s_SI : Stmt := (inClass (top 21) 0)
theorem sc_SI : FnScope ["self", "v", "w", "k", "classes"] ["self", "v", "w", "k"] (defScope s_SI) := ⟨rfl, rfl, rfl, by decide +kernel, rfl, by decide +kernel, by decide +kernel⟩
theorem ok_SI (CT : ClsT K mg C) (MK : MkC P w K mg base C (spCI C)) (ST : SdT K mg CS) (c_tab : MCal P w K mg base C "table" 2 (spTab C)) (F : L2.Fun K "__init__" "Sides.__init__" s_SI f fd) : FnOk P w K mg base CX0 3 f fd ["self", "v", "w", "k"] (spSI CS) := by
  refine F.ok sc_SI (fun vs H Q E h => ?_) (fun cdv A outer s H vs Q E hr h => ?_)
  · obtain ⟨p, dx, v, w, k, rfl, _⟩ := h
    rfl
  · obtain ⟨p, dx, v, w, k, rfl, hp, hv, hw, vs, ws, hk, kq⟩ := h
    have nd := sc_SI.nd
    obtain ⟨fI, fdI, FI, MI, bI⟩ := MK.ex
    refine ⟨_, (pss_cons (ps_set (i := 4) nd rfl (.inl rfl) (pe_make0 MI FI hr rfl CT.mgC bI .nil pass0))
      (pss_cons (ps_fld (pv 0) (pe_tup (pa_cons (pv 1) (pa_cons (pv 2) pa_nil))) rfl)
      (pss_one (ps_fld (pv 0) (pe_tup (pa_cons (pe_m c_tab CT.cl hr (by decide) (pv 4) (pa_cons (pv 1) (pa_cons (pv 3) pa_nil))) (pa_cons (pe_m c_tab CT.cl hr (by decide) (pv 4) (pa_cons (pv 2) (pa_cons (pv 3) pa_nil))) pa_nil))) rfl)))), ?_⟩
    intro c dc hc hdc hne
    refine ⟨c, dc, rfl, upd_same, fun dk hdk => ⟨rfl, ?_⟩⟩
    have hdk2 : H dk = none := by
      by_cases e1 : dk = c
      · rw [e1]; exact hc
      · by_cases e2 : dk = dc
        · rw [e2]; exact hdc
        · rwa [upd_ne e1, upd_ne e2] at hdk
    have ncd : c ≠ dk := fun e => by rw [← e, upd_same] at hdk; cases hdk
    let HC := upd (upd (upd (upd H dc (.own c)) c (.ins C dc [])) dk (.dT [])) c (.ins C dc [("known", .ref dk)])
    have c0 : ClsAt C HC c dk [] := ⟨⟨dc, upd_same⟩, by show upd _ c _ dk = _; rw [upd_ne ncd.symm, upd_same]; rfl⟩
    have sC : Same H HC := by
      intro b ob e
      have nbc : b ≠ c := ne_of_none e hc
      show upd _ c _ b = _
      rw [upd_ne nbc, upd_ne (ne_of_none e hdk2), upd_ne nbc, upd_ne (ne_of_none e hdc)]
      exact e
    have npc : p ≠ c := ne_of_none hp hc
    have npk : p ≠ dk := ne_of_none hp hdk2
    -- self.words
    refine ⟨_, rfl, _, rfl, by show 2 ≤ sizeLine; decide, fun tw htw => ?_⟩
    have npt : p ≠ tw := ne_of_none (sC _ _ hp) htw
    refine ⟨_, rfl, p, CS, dx, [], rfl, (Same.new htw) _ _ (sC _ _ hp), ST.cl, ST.nW, by show 0 < 1000; decide, ?_⟩
    let HD := upd (upd HC tw (.tup [.str (S v), .str (S w)])) p (.ins CS dx [("words", .ref tw)])
    have cD : ClsAt C HD c dk [] := by
      obtain ⟨⟨d1, e1⟩, e2⟩ := c0.same (Same.new (o := .tup [.str (S v), .str (S w)]) htw)
      exact ⟨⟨d1, by show upd _ p _ c = _; rw [upd_ne npc.symm]; exact e1⟩, by show upd _ p _ dk = _; rw [upd_ne npk.symm]; exact e2⟩
    have etw : HD tw = some (.tup [.str (S v), .str (S w)]) := by show upd _ p _ tw = _; rw [upd_ne npt.symm, upd_same]
    have epD : HD p = some (.ins CS dx [("words", .ref tw)]) := upd_same
    have xD : Ext p H HD := fun b o n e => by
      show upd _ p _ b = _
      rw [upd_ne n]
      exact (Same.new htw) _ _ (sC _ _ e)
    show sFld K (tVar 0) (tTup (tCons (tMeth C "table" (spTab C) [] E0 (tVar 4) (tCons (tVar 1) (tCons (tVar 3) tNil))) (tCons (tMeth C "table" (spTab C) [] E0 (tVar 4) (tCons (tVar 2) (tCons (tVar 3) tNil))) tNil))) "tables" _ _ HD
    obtain ⟨dc1, ec1⟩ := cD.1
    have M1 : (k + 1) * ((v.length + 1) * (v.length + 1)) ≤ 62 * (61 * 61) := Nat.mul_le_mul (by omega) (Nat.mul_le_mul (by omega) (by omega))
    refine ⟨_, rfl, c, dc1, _, rfl, ec1, no_known (by decide +kernel), _, rfl, _, rfl, c, dk, [], v, k, rfl, cD, hv, vs, hk, by decide, fun m1 mv1 ks1 H1 t1 => ?_⟩
    obtain ⟨dc2, ec2⟩ := t1.cls.1
    have kl1 := t1.klen
    simp only [List.length_nil] at kl1
    refine ⟨_, rfl, c, dc2, _, rfl, ec2, no_known (by decide +kernel), _, rfl, _, rfl, c, dk, ks1, w, k, rfl, t1.cls, hw, ws, hk, by omega, fun m2 mv2 ks2 H2 t2 => ?_⟩
    have n1k : m1 ≠ dk := fun e => by
      have := t1.new
      rw [e, cD.2] at this
      cases this
    have em1 : H2 m1 = some (.dT mv1) := t2.ext _ _ n1k t1.at_
    have em2 := t2.at_
    have ntk : tw ≠ dk := ne_of etw cD.2 (by intro z; cases z)
    have etw2 : H2 tw = some (.tup [.str (S v), .str (S w)]) := t2.ext _ _ ntk (t1.ext _ _ ntk etw)
    have ep2 : H2 p = some (.ins CS dx [("words", .ref tw)]) := t2.ext _ _ npk (t1.ext _ _ npk epD)
    refine ⟨by show 2 ≤ sizeLine; decide, fun tt htt => ?_⟩
    refine ⟨_, rfl, p, CS, dx, _, rfl, (Same.new htt) _ _ ep2, ST.cl, ST.nT, by show 1 < 1000; decide, ?_⟩
    rw [put_wt]
    have nwp : tw ≠ p := ne_of etw2 ep2 (by intro z; cases z)
    have n1p : m1 ≠ p := ne_of em1 ep2 (by intro z; cases z)
    have n2p : m2 ≠ p := ne_of em2 ep2 (by intro z; cases z)
    have ntp : tt ≠ p := fun e => by rw [e, ep2] at htt; cases htt
    refine kq _ (fun b o n e => ?_) ⟨dx, tw, tt, m1, m2, mv1, mv2, ks2, upd_same, ?_, ?_, ?_, ?_, ?_, fun k2 l h h1 h2 h3 => ?_, fun k2 l h h1 h2 h3 => t2.val k2 l h h1 h2 h3⟩
    · rw [upd_ne n]
      have nbk : b ≠ dk := ne_of_none e hdk2
      exact (Same.new htt) _ _ (t2.ext _ _ nbk (t1.ext _ _ nbk (xD _ _ n e)))
    · rw [upd_ne nwp]
      exact (Same.new htt) _ _ etw2
    · rw [upd_ne ntp, upd_same]
    · rw [upd_ne n1p]
      exact (Same.new htt) _ _ em1
    · rw [upd_ne n2p]
      exact (Same.new htt) _ _ em2
    · exact t2.grow.nd (t1.grow.nd List.nodup_nil)
    · obtain ⟨n, a1, a2⟩ := t1.val k2 l h h1 h2 h3
      exact ⟨n, a1, t2.grow.means a2⟩
abbrev s_AK : Stmt := (inClass (top 21) 1)
theorem sc_AK : FnScope ["self", "k", "one", "two"] ["self", "k", "one", "two"] (defScope s_AK) := ⟨rfl, rfl, rfl, by decide +kernel, rfl, by decide +kernel, by decide +kernel⟩
theorem ok_AK (ST : SdT K mg CS) (F : L2.Fun K "are_kept" "Sides.are_kept" s_AK f fd) : FnOk P w K mg base CX0 1 f fd ["self", "k", "one", "two"] (spAK K CS) := by
  refine F.ok sc_AK (fun vs H Q E h => ?_) (fun cdv A outer s H vs Q E hr h => ?_)
  · obtain ⟨sd, a, b, v, w, k0, k, l, h, l2, h2, rfl, _⟩ := h
    rfl
  · obtain ⟨sd, a, b, v, w, k0, k, l, h, l2, h2, rfl, SD, hk, ea, eb, q1, q2, q3, q4, kq⟩ := h
    have nd := sc_AK.nd
    have hu := hu_of hr
    refine ⟨_, (pss_one (ps_ret (pe_cmpR op_eq (pe_dget hu (pe_ix ix_tup (pe_fld (pv 0) rfl) pe_int (fun _ _ => rfl)) (pe_op op_catT (pe_tup (pa_cons (pv 1) pa_nil)) (pv 2)) (fun _ _ => rfl))
      (pe_dget hu (pe_ix ix_tup (pe_fld (pv 0) rfl) pe_int (fun _ _ => rfl)) (pe_op op_catT (pe_tup (pa_cons (pv 1) pa_nil)) (pv 3)) (fun _ _ => rfl)) (nomark _)))), ?_⟩
    obtain ⟨dx, tw, tt, m1, m2, mv1, mv2, ks, e1, e2, e3, e4, e5, nd2, f1, f2⟩ := SD.ex
    obtain ⟨n1, v1, M1⟩ := f1 k l h q1 q2 hk
    obtain ⟨n2, v2, M2⟩ := f2 k l2 h2 q3 q4 hk
    refine ⟨_, rfl, sd, CS, dx, _, _, rfl, e1, ST.cl, ST.nT, sd_tab, tt, _, 0, _, rfl, rfl, SqT.of e3, rfl, _, rfl, by show 1 ≤ sizeLine; decide, fun t ht => ?_⟩
    have s1 : Same H (upd H t (.tup [.int (k : Nat)])) := Same.new ht
    refine ⟨_, rfl, t, a, [.int (k : Nat)], [.int (l : Nat), .int (h : Nat)], rfl, rfl, SqT.of upd_same, SqT.of (s1 _ _ ea), by simp, by show 1 + 2 ≤ sizeLine; decide, (fun z => by cases z), fun _ p hp => ?_⟩
    have s2 := s1.trans (Same.new (o := .tup [.int (k : Nat), .int (l : Nat), .int (h : Nat)]) hp)
    refine ⟨m1, .int (n1 : Nat), rfl, ?_, ?_⟩
    · have g := DGet.t (b := p) (k := kk k l h) (s2 _ _ e4) (by rw [upd_same]; rfl)
      rw [v1] at g
      exact g
    refine ⟨_, rfl, sd, CS, dx, _, _, rfl, s2 _ _ e1, ST.cl, ST.nT, sd_tab, tt, _, 1, _, rfl, rfl, SqT.of (s2 _ _ e3), rfl, _, rfl, by show 1 ≤ sizeLine; decide, fun t2 ht2 => ?_⟩
    have s3 := s2.trans (Same.new (o := .tup [.int (k : Nat)]) ht2)
    refine ⟨_, rfl, t2, b, [.int (k : Nat)], [.int (l2 : Nat), .int (h2 : Nat)], rfl, rfl, SqT.of upd_same, SqT.of (s3 _ _ eb), by simp, by show 1 + 2 ≤ sizeLine; decide, (fun z => by cases z), fun _ p2 hp2 => ?_⟩
    have s4 := s3.trans (Same.new (o := .tup [.int (k : Nat), .int (l2 : Nat), .int (h2 : Nat)]) hp2)
    refine ⟨m2, .int (n2 : Nat), rfl, ?_, rfl, ?_⟩
    · have g := DGet.t (b := p2) (k := kk k l2 h2) (s4 _ _ e5) (by rw [upd_same]; rfl)
      rw [v2] at g
      exact g
    have ed : decide (V.int (n1 : Nat) = V.int (n2 : Nat)) = keptB k (seg v l h) (seg w l2 h2) := by
      unfold keptB
      refine decide_eq_decide.mpr ?_
      rw [← means_iff nd2 M1 M2]
      exact ⟨fun z => by have := V.int.inj z; omega, fun z => by rw [z]⟩
    rw [ed]
    exact kq _ s4
end
end Ws

/-! a game decided by its sorted marks (plain mathematics) -/
namespace Ws
abbrev pr0 : Nat × Nat := (0, 0)
def strictB (rs : List (Nat × Nat)) : Bool := (List.range (rs.length - 1)).all fun i => !(decide ((rs.getD i pr0).1 = (rs.getD (i + 1) pr0).1) || decide ((rs.getD (i + 1) pr0).2 ≤ (rs.getD i pr0).2))
def signB (v w : List Nat) (rs : List (Nat × Nat)) : Bool := rs.all fun p => decide (v.getD p.1 0 = w.getD p.2 0)
def hiL (v w : List Nat) (rs : List (Nat × Nat)) : List (Nat × Nat) := rs ++ [(v.length, w.length)]
noncomputable def gapB (k : Nat) (v w : List Nat) (rs : List (Nat × Nat)) : Bool := (List.range (rs.length + 1)).all fun i =>
  keptB k (seg v ((Lo rs).getD i pr0).1 ((hiL v w rs).getD i pr0).1) (seg w ((Lo rs).getD i pr0).2 ((hiL v w rs).getD i pr0).2)
def Lex (rs : List (Nat × Nat)) : Prop := rs.Pairwise fun p q => p.1 < q.1 ∨ (p.1 = q.1 ∧ p.2 < q.2)
/-- both coordinates rise -/
def Rise (rs : List (Nat × Nat)) : Prop := rs.Pairwise fun p q => p.1 < q.1 ∧ p.2 < q.2
theorem getD_lt {rs : List (Nat × Nat)} {i : Nat} (h : i < rs.length) : rs.getD i pr0 = rs[i] := by rw [List.getD_eq_getElem?_getD, List.getElem?_eq_getElem h]; rfl
theorem strict_iff : ∀ {rs : List (Nat × Nat)}, Lex rs → (strictB rs = true ↔ Rise rs)
  | [], _ => ⟨fun _ => .nil, fun _ => rfl⟩
  | [p], _ => ⟨fun _ => by simp [Rise], fun _ => rfl⟩
  | p :: q :: rs, hl => by
    have ih := strict_iff (rs := q :: rs) (List.pairwise_cons.mp hl).2
    have hpq := (List.pairwise_cons.mp hl).1 q (List.mem_cons_self ..)
    have e : strictB (p :: q :: rs) = ((!(decide (p.1 = q.1) || decide (q.2 ≤ p.2))) && strictB (q :: rs)) := by
      unfold strictB
      have : (p :: q :: rs).length - 1 = ((q :: rs).length - 1) + 1 := by simp
      rw [this, List.range_succ_eq_map, List.all_cons, List.all_map]
      rfl
    rw [e, Bool.and_eq_true, ih]
    constructor
    · rintro ⟨h1, h2⟩
      have h1 : ¬ p.1 = q.1 ∧ ¬ q.2 ≤ p.2 := by simpa using h1
      refine List.pairwise_cons.mpr ⟨fun r hr => ?_, h2⟩
      rcases
        List.mem_cons.mp hr with rfl | hr
      · omega
      · have := (List.pairwise_cons.mp h2).1 r hr
        omega
    · intro h
      obtain ⟨a, b⟩ := List.pairwise_cons.mp h
      have := a q (List.mem_cons_self ..)
      refine ⟨?_, b⟩
      have h1 : ¬ p.1 = q.1 := by omega
      have h2 : ¬ q.2 ≤ p.2 := by omega
      simp [h1, h2]
theorem rise_at {rs : List (Nat × Nat)} (h : Rise rs) {i j : Nat} (hij : i < j) (hj : j < rs.length) : (rs[i]).1 < (rs[j]).1 ∧ (rs[i]).2 < (rs[j]).2 := List.pairwise_iff_getElem.mp h i j (by omega) hj hij
theorem lo_at {rs : List (Nat × Nat)} {i : Nat} (hi : i < rs.length) : (Lo rs).getD (i + 1) pr0 = ((rs[i]).1 + 1, (rs[i]).2 + 1) := by
  unfold Lo
  rw [List.getD_cons_succ, List.getD_eq_getElem?_getD, List.getElem?_map, List.getElem?_eq_getElem hi]
  rfl
theorem hi_at {v w : List Nat} {rs : List (Nat × Nat)} {i : Nat} (hi : i < rs.length) : (hiL v w rs).getD i pr0 = rs[i] := by
  unfold hiL
  rw [List.getD_eq_getElem?_getD, List.getElem?_append_left hi, List.getElem?_eq_getElem hi]
  rfl
theorem hi_end {v w : List Nat} {rs : List (Nat × Nat)} : (hiL v w rs).getD rs.length pr0 = (v.length, w.length) := by
  unfold hiL
  rw [List.getD_eq_getElem?_getD, List.getElem?_append_right (Nat.le_refl _)]
  simp
theorem rows_wins {v w : List Nat} {rs ms : List (Nat × Nat)} {k : Nat} (hl : Lex rs) (hm : ∀ p, p ∈ rs ↔ p ∈ ms) (hI : Inb v w ms) : (strictB rs && (signB v w rs && gapB k v w rs)) = winsB v w k ms := by
  rw [Bool.eq_iff_iff, Bool.and_eq_true, Bool.and_eq_true, strict_iff hl, wins_iff hI]
  have sg : signB v w rs = true ↔ ∀ p ∈ ms, v.getD p.1 0 = w.getD p.2 0 := by
    simp only [signB, List.all_eq_true, decide_eq_true_eq]
    exact ⟨fun h p hp => h p ((hm p).mpr hp), fun h p hp => h p ((hm p).mp hp)⟩
  have inr : ∀ i (hi : i < rs.length), (rs[i]).1 < v.length ∧ (rs[i]).2 < w.length := fun i hi => hI _ ((hm _).mp (List.getElem_mem hi))
  rw [sg]
  have gp : gapB k v w rs = true ↔ ∀ i, i < rs.length + 1 → kept k (seg v ((Lo rs).getD i pr0).1 ((hiL v w rs).getD i pr0).1) (seg w ((Lo rs).getD i pr0).2 ((hiL v w rs).getD i pr0).2) := by
    simp only [gapB, List.all_eq_true, List.mem_range, keptB_iff]
  rw [gp]
  constructor
  · rintro ⟨hr, hs, hg⟩
    have F : Fair v w ms := by
      refine ⟨hs, fun p hp q hq => ?_, fun p hp q hq => ?_⟩ <;>
      · obtain ⟨i, hi, rfl⟩ := List.mem_iff_getElem.mp ((hm p).mpr hp)
        obtain ⟨j, hj, rfl⟩ := List.mem_iff_getElem.mp ((hm q).mpr hq)
        rcases Nat.lt_trichotomy i j with z | z | z
        · have := rise_at hr z hj; omega
        · subst z; simp
        · have := rise_at hr z hi; omega
    refine ⟨F, fun a ha s hs' h1 h2 n1 n2 => ?_⟩
    -- the places of a and s
    obtain ⟨i, hi, ea⟩ : ∃ i, i < rs.length + 1 ∧ a = (Lo rs).getD i pr0 := by
      rcases lo_iff.mp ha with e | ⟨p, hp, e⟩
      · exact ⟨0, by omega, e⟩
      · obtain ⟨i, hi, rfl⟩ := List.mem_iff_getElem.mp ((hm p).mpr hp)
        exact ⟨i + 1, by omega, by rw [lo_at hi, e]⟩
    obtain ⟨j, hj, es⟩ : ∃ j, j < rs.length + 1 ∧ s = (hiL v w rs).getD j pr0 := by
      rcases hi_iff.mp hs' with e | hp
      · exact ⟨rs.length, by omega, by rw [hi_end]; exact e⟩
      · obtain ⟨j, hj, rfl⟩ := List.mem_iff_getElem.mp ((hm s).mpr hp)
        exact ⟨j, by omega, (hi_at hj).symm⟩
    have eij : i = j := by
      rcases Nat.lt_trichotomy i j with z | z | z
      · -- the mark i stands between
        have hi' : i < rs.length := by omega
        have b := n1 _ ((hm _).mp (List.getElem_mem hi'))
        refine absurd ⟨?_, ?_⟩ b
        · rw [ea]
          cases i with
          | zero => exact Nat.zero_le _
          | succ i =>
            rw [lo_at (by omega)]
            exact (rise_at hr (Nat.lt_succ_self i) hi').1
        · rw [es]
          by_cases hjl : j < rs.length
          · rw [hi_at hjl]
            exact (rise_at hr z hjl).1
          · have : j = rs.length := by omega
            rw [this, hi_end]
            exact (inr i hi').1
      · exact z
      · have hj' : j < rs.length := by omega
        rw [ea, es, hi_at hj'] at h1
        cases i with
        | zero => omega
        | succ i =>
          rw [lo_at (by omega)] at h1
          have h1 : (rs[i]).1 + 1 ≤ (rs[j]).1 := h1
          by_cases e : i = j
          · subst e; omega
          · have := rise_at hr (show j < i by omega) (by omega)
            omega
    rw [ea, es, ← eij]
    exact hg i hi
  · rintro ⟨F, G⟩
    have hr : Rise rs := by
      refine List.Pairwise.imp_of_mem (fun {p q} hp hq h => ?_) hl
      have h1 := F.lt p ((hm p).mp hp) q ((hm q).mp hq)
      have h2 := F.eq p ((hm p).mp hp) q ((hm q).mp hq)
      omega
    refine ⟨hr, F.sg, fun i hi => ?_⟩
    refine G _ ?_ _ ?_ ?_ ?_ (fun p hp z => ?_) (fun p hp z => ?_)
    · cases i with
      | zero => exact lo_iff.mpr (.inl rfl)
      | succ i => rw [lo_at (by omega)]; exact lo_iff.mpr (.inr ⟨_, (hm _).mp (List.getElem_mem (by omega)), rfl⟩)
    · by_cases hil : i < rs.length
      · rw [hi_at hil]; exact hi_iff.mpr (.inr ((hm _).mp (List.getElem_mem hil)))
      · have : i = rs.length := by omega
        rw [this, hi_end]; exact hi_iff.mpr (.inl rfl)
    · cases i with
      | zero => exact Nat.zero_le _
      | succ i =>
        rw [lo_at (by omega)]
        by_cases hil : i + 1 < rs.length
        · rw [hi_at hil]; exact (rise_at hr (Nat.lt_succ_self i) hil).1
        · have : i + 1 = rs.length := by omega
          rw [this, hi_end]; exact (inr i (by omega)).1
    · cases i with
      | zero => exact Nat.zero_le _
      | succ i =>
        rw [lo_at (by omega)]
        by_cases hil : i + 1 < rs.length
        · rw [hi_at hil]; exact (rise_at hr (Nat.lt_succ_self i) hil).2
        · have : i + 1 = rs.length := by omega
          rw [this, hi_end]; exact (inr i (by omega)).2
    all_goals
      obtain ⟨t, ht, rfl⟩ := List.mem_iff_getElem.mp ((hm p).mpr hp)
      by_cases hti : t < i
      · cases i with
        | zero => omega
        | succ i =>
          rw [lo_at (by omega)] at z
          have z := z.1
          by_cases e : t = i
          · subst e
            first
              | (have z : (rs[t]).1 + 1 ≤ (rs[t]).1 := z; omega)
              | (have z : (rs[t]).2 + 1 ≤ (rs[t]).2 := z; omega)
          · have := rise_at hr (show t < i by omega) (by omega)
            first
              | (have z : (rs[i]).1 + 1 ≤ (rs[t]).1 := z; omega)
              | (have z : (rs[i]).2 + 1 ≤ (rs[t]).2 := z; omega)
      · have hil : i < rs.length := by omega
        rw [hi_at hil] at z
        by_cases e : t = i
        · subst e
          omega
        · have := rise_at hr (show i < t by omega) ht
          omega
end Ws

/-! marks that stand as tuples; the law's fair marks -/
namespace Ws
open PySem PySem.Spec PyProof.Rows L2
/-- marks that stand as tuples in a list -/
structure MarksAt (H : Hp) (m : Addr) (as : List Addr) (ms : List (Nat × Nat)) : Prop where
  at_ : H m = some (.lst (as.map V.ref))
  len : as.length = ms.length
  tup : ∀ (i : Nat) (a : Addr) (p : Nat × Nat), as[i]? = some a → ms[i]? = some p → H a = some (.tup [.int p.1, .int p.2])
theorem MarksAt.same {H H' : Hp} {m : Addr} {as : List Addr} {ms : List (Nat × Nat)} (h : MarksAt H m as ms) (s : L2.Same H H') : MarksAt H' m as ms := ⟨s _ _ h.at_, h.len, fun i a p ha hp => s _ _ (h.tup i a p ha hp)⟩
theorem MarksAt.ext {H H' : Hp} {m p : Addr} {as : List Addr} {ms : List (Nat × Nat)} {zs : List V} (h : MarksAt H m as ms) (s : Ext p H H') (ez : H p = some (.lst zs)) (n : m ≠ p) : MarksAt H' m as ms :=
  ⟨s _ _ n h.at_, h.len, fun i a q ha hq => by
    have et := h.tup i a q ha hq
    exact s _ _ (ne_of et ez (by intro z; cases z)) et⟩
theorem MarksAt.get {H : Hp} {m : Addr} {as : List Addr} {ms : List (Nat × Nat)} (h : MarksAt H m as ms) {i : Nat} {y : V} (e : (as.map V.ref)[i]? = some y) : ∃ (a : Addr) (p : Nat × Nat), y = .ref a ∧ ms[i]? = some p ∧ H a = some (.tup [.int p.1, .int p.2]) := by
  rw [List.getElem?_map] at e
  obtain ⟨a, ha, rfl⟩ := Option.map_eq_some_iff.mp e
  have hi := (List.getElem?_eq_some_iff.mp ha).1
  rw [h.len] at hi
  exact ⟨a, ms[i], rfl, List.getElem?_eq_getElem hi, h.tup i a _ ha (List.getElem?_eq_getElem hi)⟩
def spFair (K : PySem.W.Frag) : Sp := fun vs H Q _ => ∃ (v w : List Nat) (m : Addr) (as : List Addr) (ms : List (Nat × Nat)), vs = [.str (S v), .str (S w), .ref m] ∧ v.length ≤ 1000 ∧ w.length ≤ 1000 ∧ MarksAt H m as ms ∧ Inb v w ms ∧ Q (.bl (fairB v w ms)) H
theorem all_not {α : Type} {l : List α} {f : α → Bool} {i : Nat} {x : α} (h : l[i]? = some x) (hf : f x = false) : l.all f = false := by
  cases e : l.all f with
  | false => rfl
  | true =>
    rw [List.all_eq_true.mp e x (List.mem_of_getElem? h)] at hf
    cases hf
theorem all_upto {α : Type} {l : List α} {f : α → Bool} (h : ∀ i x, i < l.length → l[i]? = some x → f x = true) : l.all f = true := by
  rw [List.all_eq_true]
  intro x hx
  obtain
    ⟨i, hi⟩ := List.mem_iff_getElem?.mp hx
  exact h i x (List.getElem?_eq_some_iff.mp hi).1 hi
section
variable {P : Program} {w : World} {K : PySem.W.Frag} {mg : Str → Option Value} {base : Heap} {f : Addr} {fd : FuncData}
abbrev s_fair : Stmt := (top 30)
abbrev N_fair : List Str := ["v", "w", "marks", "x", "y", "s", "r"]
theorem sc_fair : FnScope N_fair ["v", "w", "marks"] (defScope s_fair) := ⟨rfl, rfl, rfl, by decide +kernel, rfl, by decide +kernel, by decide +kernel⟩
theorem S_ix2 {l : List Nat} {i : Nat} (h : i < l.length) : atI (S l).cps.toList (i : Int) = some (l.getD i 0) := by
  have z := atI_nat (xs := l) (j := i) (v := l[i]) (by simp [h])
  have e : l.getD i 0 = l[i] := by rw [List.getD_eq_getElem?_getD, List.getElem?_eq_getElem h]; rfl
  rw [e]
  simpa [S, SX.S] using z
theorem ne_bl {a b : Bool} : (!decide (V.bl a = V.bl b)) = !(a == b) := by cases a <;> cases b <;> rfl
theorem lt_nat {a b : Nat} : decide (((a : Nat) : Int) < ((b : Nat) : Int)) = decide (a < b) := decide_eq_decide.mpr (by omega)
theorem eq_nat {a b : Nat} : decide (V.int ((a : Nat) : Int) = V.int ((b : Nat) : Int)) = decide (a = b) := decide_eq_decide.mpr ⟨fun h => by have := V.int.inj h; omega, fun h => by rw [h]⟩
theorem ok_fair (T : Bl mg) (D : Def K mg "_law_fair" s_fair f fd ["v", "w", "marks"]) : Cal P w K mg base 1 "_law_fair" (spFair K) := by
  refine D.cal (D.fn.ok sc_fair (fun vs H Q E h => ?_) (fun cdv A outer s H vs Q E hr h => ?_))
  · obtain ⟨v, w, m, as, ms, rfl, _⟩ := h
    rfl
  · obtain ⟨v, w, m, as, ms, rfl, hv, hw, M, hI, k⟩ := h
    have nd := sc_fair.nd
    refine ⟨_, (pss_cons (ps_for PassesOwn.never rfl (pi_list (pv 2)) (pg_tup (n := 2) rfl (pgs_cons (pg_name (i := 3) nd rfl (.inl rfl)) (pgs_cons (pg_name (i := 4) nd rfl (.inl rfl)) pgs_nil)))
      (pss_cons (ps_if (pt_cmpR op_ne (pe_ix ix_str (pv 0) (pv 3) (fun _ _ => rfl)) (pe_ix ix_str (pv 1) (pv 4) (fun _ _ => rfl)) (nomark _))
      (pss_one (ps_ret pe_bl))
      pss_nil)
      (pss_one (ps_for PassesOwn.never rfl (pi_list (pv 2)) (pg_tup (n := 2) rfl (pgs_cons (pg_name (i := 5) nd rfl (.inl rfl)) (pgs_cons (pg_name (i := 6) nd rfl (.inl rfl)) pgs_nil)))
      (pss_one (ps_if (PW.pt (pw_or (pt_cmpR op_ne (pe_cmpR op_lt (pv 3) (pv 5) (nomark _)) (pe_cmpR op_lt (pv 4) (pv 6) (nomark _)) (nomark _)) (pw_or1 (pt_cmpR op_ne (pe_cmpR op_eq (pv 3) (pv 5) (nomark _)) (pe_cmpR op_eq (pv 4) (pv 6) (nomark _)) (nomark _)))))
      (pss_one (ps_ret pe_bl))
      pss_nil))))))
      (pss_one (ps_ret pe_bl))), ?_⟩
    have hz1 : (S v).length ≤ sizeLine := S_le (by omega)
    have hz2 : (S w).length ≤ sizeLine := S_le (by omega)
    have lenE : (as.map V.ref).length = ms.length := by rw [List.length_map, M.len]
    refine ⟨_, rfl, m, rfl, ⟨_, SqL.of M.at_⟩, for_list (K := K) (a := m) (xs := as.map V.ref) (fun i σ H' => ∃ z3 z4 z5 z6, σ = [some (.str (S v)), some (.str (S w)), some (.ref m), z3, z4, z5, z6] ∧ H' = H ∧
        ∀ j p, j < i → ms[j]? = some p → (decide (v.getD p.1 0 = w.getD p.2 0) && ms.all fun q => okP p.1 p.2 q.1 q.2) = true)
      ⟨none, none, none, none, rfl, rfl, fun j p h => absurd h (Nat.not_lt_zero _)⟩ (fun i σ H' _ q => ?_) ?_ ?_⟩
    · obtain ⟨_, _, _, _, _, e, _⟩ := q
      rw [e]; exact SqL.of M.at_
    · rintro i y σ H' hi ⟨z3, z4, z5, z6, rfl, rfl, hj⟩
      obtain ⟨a, p, rfl, hp, ea⟩ := M.get hi
      obtain ⟨b1, b2⟩ := hI p (List.mem_of_getElem? hp)
      refine ⟨a, _, rfl, SqT.of ea, rfl, _, _, rfl, _, _, rfl, rfl, ?_⟩
      refine ⟨_, rfl, _, rfl, _, _, _, rfl, rfl, hz1, S_ix2 b1, _, rfl, _, rfl, _, _, _, rfl, rfl, hz2, S_ix2 b2, rfl, _, rfl, ?_⟩
      refine iteB (fun h => ?_) (fun h => ?_)
      · have e : decide (v.getD p.1 0 = w.getD p.2 0) = false := by
          rw [decide_eq_false_iff_not]
          intro z
          rw [z] at h
          simp at h
        have e2 : fairB v w ms = false := all_not hp (by rw [e, Bool.false_and])
        rw [e2] at k
        exact k
      · have e : decide (v.getD p.1 0 = w.getD p.2 0) = true := by
          rw [decide_eq_true_iff]
          have h : decide (V.str (S [v.getD p.1 0]) = V.str (S [w.getD p.2 0])) = true := by simpa using h
          have h := SX.S_inj (V.str.inj (of_decide_eq_true h))
          injection h
        refine ⟨_, rfl, m, rfl, ⟨_, SqL.of M.at_⟩, for_list (K := K) (a := m) (xs := as.map V.ref) (fun i σ H'' => ∃ z5 z6, σ = [some (.str (S v)), some (.str (S w)), some (.ref m), some (.int (p.1 : Nat)), some (.int (p.2 : Nat)), z5, z6] ∧ H'' = H' ∧
            ∀ j q, j < i → ms[j]? = some q → okP p.1 p.2 q.1 q.2 = true)
          ⟨z5, z6, rfl, rfl, fun j p h => absurd h (Nat.not_lt_zero _)⟩ (fun i σ H'' _ q => ?_) ?_ ?_⟩
        · obtain ⟨_, _, _, e, _⟩ := q
          rw [e]; exact SqL.of M.at_
        · rintro i2 y σ H'' hi2 ⟨z5, z6, rfl, rfl, hj2⟩
          obtain ⟨a2, q, rfl, hq, ea2⟩ := M.get hi2
          refine ⟨a2, _, rfl, SqT.of ea2, rfl, _, _, rfl, _, _, rfl, rfl, ?_⟩
          refine ⟨_, rfl, _, rfl, _, _, rfl, rfl, _, rfl, _, rfl, _, _, rfl, rfl, rfl, _, rfl, ?_⟩
          rw [ne_bl, lt_nat, lt_nat]
          have no : okP p.1 p.2 q.1 q.2 = false → Q (.bl false) H'' := fun z => by
            have e2 : fairB v w ms = false := all_not hp (by
              have : (ms.all fun q => okP p.1 p.2 q.1 q.2) = false := all_not hq z
              rw [this, Bool.and_false])
            rw [e2] at k
            exact k
          refine iteB (fun h1 => ?_) (fun h1 => ?_)
          · refine iteT ?_
            exact no (by
              have : (decide (p.1 < q.1) == decide (p.2 < q.2)) = false := by simpa using h1
              unfold okP
              rw [this, Bool.false_and])
          · refine ⟨_, rfl, _, rfl, rfl, _, rfl, _, rfl, rfl, rfl, _, rfl, ?_⟩
            rw [ne_bl, eq_nat, eq_nat]
            refine iteB (fun h2 => ?_) (fun h2 => ?_)
            · exact no (by
                have : (decide (p.1 = q.1) == decide (p.2 = q.2)) = false := by simpa using h2
                unfold okP
                rw [this, Bool.and_false])
            · refine ⟨_, _, rfl, rfl, fun j q' hjl hq' => ?_⟩
              by_cases ej : j = i2
              · subst ej
                rw [hq] at hq'
                cases hq'
                have e1 : (decide (p.1 < q.1) == decide (p.2 < q.2)) = true := by simpa using h1
                have e2 : (decide (p.1 = q.1) == decide (p.2 = q.2)) = true := by simpa using h2
                unfold okP
                rw [e1, e2]
                rfl
              · exact hj2 j q' (by omega) hq'
        · rintro σ H'' ⟨z5, z6, rfl, rfl, hj2⟩
          refine ⟨_, _, _, _, rfl, rfl, fun j p' hjl hp' => ?_⟩
          by_cases ej : j = i
          · subst ej
            rw [hp] at hp'
            cases hp'
            rw [e, Bool.true_and]
            exact all_upto fun i3 q hi3 hq => hj2 i3 q (by rw [lenE]; exact hi3) hq
          · exact hj j p' (by omega) hp'
    · rintro σ H' ⟨z3, z4, z5, z6, rfl, rfl, hj⟩
      have e : fairB v w ms = true := all_upto fun i p hi hp => hj i p (by rw [lenE]; exact hi) hp
      rw [e] at k
      exact k

theorem marks_snoc {H : Hp} {m : Addr} {as : List Addr} {ms : List (Nat × Nat)} {x y : Nat} {t l p : Addr} (M : MarksAt H m as ms) (ht : H t = none) (hl : upd H t (.tup [.int x, .int y]) l = none) (hp : upd (upd H t (.tup [.int x, .int y])) l (.lst [.ref t]) p = none) :
    MarksAt (upd (upd (upd H t (.tup [.int x, .int y])) l (.lst [.ref t])) p (.lst (as.map V.ref ++ [.ref t]))) p (as ++ [t]) (ms ++ [(x, y)]) := by
  have s1 : Same H (upd H t (.tup [.int x, .int y])) := Same.new ht
  have s2 : Same (upd H t (.tup [.int x, .int y])) (upd (upd H t (.tup [.int x, .int y])) l (.lst [.ref t])) := Same.new hl
  have s3 : Same (upd (upd H t (.tup [.int x, .int y])) l (.lst [.ref t])) (upd (upd (upd H t (.tup [.int x, .int y])) l (.lst [.ref t])) p (.lst (as.map V.ref ++ [.ref t]))) := Same.new hp
  refine ⟨by rw [upd_same, List.map_append]; rfl, by simp [M.len], fun i a q ha hq => ?_⟩
  by_cases hi : i < as.length
  · rw [List.getElem?_append_left hi] at ha
    rw [List.getElem?_append_left (by rw [← M.len]; exact hi)] at hq
    exact s3 _ _ (s2 _ _ (s1 _ _ (M.tup i a q ha hq)))
  · have e1 : i = as.length := by
      have := (List.getElem?_eq_some_iff.mp ha).1
      simp at this
      omega
    subst e1
    rw [List.getElem?_append_right (Nat.le_refl _)] at ha
    rw [List.getElem?_append_right (by rw [M.len]; exact Nat.le_refl _)] at hq
    simp at ha
    simp [M.len] at hq
    subst ha hq
    exact s3 _ _ (s2 _ _ upd_same)
end
end Ws

/-! the program's game: its state, its small methods -/
namespace Ws
open PySem PySem.Spec PyProof.Rows L2
def gmF (k : Nat) (tw sd ml : Addr) : List (Str × V) := [("_rounds", .int k), ("_words", .ref tw), ("_sides", .ref sd), ("_marks", .ref ml)]
theorem gm_r {k : Nat} {tw sd ml : Addr} : List.lookup ("_rounds" : Str) (gmF k tw sd ml) = some (.int k) := by
  simp [gmF, List.lookup]
theorem gm_w {k : Nat} {tw sd ml : Addr} : List.lookup ("_words" : Str) (gmF k tw sd ml) = some (.ref tw) := by
  have h1 : (("_words" : Str) == "_rounds") = false := by decide +kernel
  simp [gmF, List.lookup, h1]
theorem gm_s {k : Nat} {tw sd ml : Addr} : List.lookup ("_sides" : Str) (gmF k tw sd ml) = some (.ref sd) := by
  have h1 : (("_sides" : Str) == "_rounds") = false := by decide +kernel
  have h2 : (("_sides" : Str) == "_words") = false := by decide +kernel
  simp [gmF, List.lookup, h1, h2]
theorem gm_m {k : Nat} {tw sd ml : Addr} : List.lookup ("_marks" : Str) (gmF k tw sd ml) = some (.ref ml) := by
  have h1 : (("_marks" : Str) == "_rounds") = false := by decide +kernel
  have h2 : (("_marks" : Str) == "_words") = false := by decide +kernel
  have h3 : (("_marks" : Str) == "_sides") = false := by decide +kernel
  simp [gmF, List.lookup, h1, h2, h3]
theorem gm_no {k : Nat} {tw sd ml : Addr} {m : Str} (h1 : (m == ("_rounds" : Str)) = false) (h2 : (m == ("_words" : Str)) = false) (h3 : (m == ("_sides" : Str)) = false) (h4 : (m == ("_marks" : Str)) = false) : List.lookup m (gmF k tw sd ml) = none := by
  simp [gmF, List.lookup, h1, h2, h3, h4]
/-- the game at g: the marks raw as (which, place) -/
structure GmAt (CG CS : Addr) (H : Hp) (g ml : Addr) (v w : List Nat) (k : Nat) (as : List Addr) (raw : List (Nat × Nat)) : Prop where
  ex : ∃ (dx tw sd : Addr), H g = some (.ins CG dx (gmF k tw sd ml)) ∧ H tw = some (.tup [.str (S v), .str (S w)]) ∧ SdAt CS H sd v w k
  mks : MarksAt H ml as raw
theorem GmAt.same {CG CS : Addr} {H H' : Hp} {g ml : Addr} {v w : List Nat} {k : Nat} {as : List Addr} {raw : List (Nat × Nat)} (h : GmAt CG CS H g ml v w k as raw) (s : L2.Same H H') : GmAt CG CS H' g ml v w k as raw := by
  obtain ⟨dx, tw, sd, a, b, c⟩ := h.ex
  exact ⟨⟨dx, tw, sd, s _ _ a, s _ _ b, c.same s⟩, h.mks.same s⟩
structure GmT (K : PySem.W.Frag) (mg : Str → Option Value) (CG : Addr) : Prop where
  cl : Cls K CG
  nR : NoAttr K CG "_rounds"
  nW : NoAttr K CG "_words"
  nS : NoAttr K CG "_sides"
  nM : NoAttr K CG "_marks"
  mgC : mg "Game" = some (.ref CG)
theorem pe_m0 {X : Cx} {C : Addr} {m : Str} {k j : Nat} {sp : Sp} {o : Expr} {ta : TE} {pos apos : Pos} {pl : Sem Bool} (c : MCal X.prog X.w X.K X.mg X.base C m k sp) (cl : Cls X.K C) (hr : Room j X.A) (hk : k ≤ j) (he : PE X o ta)
    (ht :
        eval (.Call (.Attribute o m apos) [] [] pos) X.env = (do
      let ov ← eval o X.env
      standAt apos.atName
      let (f, first) ← holding [ov] (getMethod ov m pl)
      callWith pos f first (backTo pos (starEach [] X.env))
          (backToKw pos (keywordEach [] X.env))) := by rfl) :
    PE X (.Call (.Attribute o m apos) [] [] pos) (tMeth C m sp [] E0 ta tNil) := by
  obtain ⟨f, fd, ps, F, M, b⟩ := c.ex
  exact pe_meth0 he cl M F (hr.mono hk) b .nil pass0 ht
def spBeg (CG CS : Addr) (r : Nat → Nat → V) : Sp := fun vs H Q _ => ∃ (g ml : Addr) (v w : List Nat) (k : Nat) (as : List Addr) (raw : List (Nat × Nat)), vs = [.ref g] ∧ GmAt CG CS H g ml v w k as raw ∧ raw.length ≤ 1000 ∧ Q (r k raw.length) H
def spCpl : Sp := fun vs H Q _ => ∃ (g : V) (i x y : Nat), vs = [g, .int i, .int x, .int y] ∧ ∀ t H', Same H H' → H' t = some (.tup (if i = 0 then [.int x, .int y] else [.int y, .int x])) → H t = none → Q (.ref t) H'
section
variable {P : Program} {w : World} {K : PySem.W.Frag} {mg : Str → Option Value} {base : Heap} {f CG CS : Addr} {fd : FuncData}
abbrev s_Gb : Stmt := (inClass (top 23) 1)
theorem sc_Gb : FnScope ["self"] ["self"] (defScope s_Gb) := ⟨rfl, rfl, rfl, by decide +kernel, rfl, by decide +kernel, by decide +kernel⟩
theorem ok_Gb (T : Bl mg) (GT : GmT K mg CG) (F : L2.Fun K "_begun" "Game._begun" s_Gb f fd) : FnOk P w K mg base CX0 1 f fd ["self"] (spBeg CG CS fun _ n => .int (((n + 1) / 2 : Nat) : Int)) := by
  refine F.ok sc_Gb (fun vs H Q E h => ?_) (fun cdv A outer s H vs Q E hr h => ?_)
  · obtain ⟨g, ml, v, w, k, as, raw, rfl, _⟩ := h
    rfl
  · obtain ⟨g, ml, v, w, k, as, raw, rfl, G, hn, kq⟩ := h
    refine ⟨_, (pss_one (ps_ret (pe_op op_fdiv (pe_op op_add (pe_callB call_len_seq (by rfl) T.len PySem.boot_len (pa_cons (pe_fld (pv 0) rfl) pa_nil)) pe_int) pe_int))), ?_⟩
    obtain ⟨dx, tw, sd, e1, e2, e3⟩ := G.ex
    refine ⟨_, rfl, g, CG, dx, _, _, rfl, e1, GT.cl, GT.nM, gm_m, ml, _, rfl, .inl (SqL.of G.mks.at_), ?_⟩
    rw [List.length_map, G.mks.len]
    refine ⟨_, _, rfl, rfl, _, _, rfl, rfl, ⟨by decide, by decide⟩, ?_⟩
    have e : (((raw.length : Nat) : Int) + 1) / 2 = (((raw.length + 1) / 2 : Nat) : Int) := by omega
    show Q (.int ((((raw.length : Nat) : Int) + 1) / 2)) H
    rw [e]
    exact kq
abbrev s_Go : Stmt := (inClass (top 23) 2)
theorem sc_Go : FnScope ["self"] ["self"] (defScope s_Go) := ⟨rfl, rfl, rfl, by decide +kernel, rfl, by decide +kernel, by decide +kernel⟩
theorem ok_Go (T : Bl mg) (GT : GmT K mg CG) (F : L2.Fun K "_is_open" "Game._is_open" s_Go f fd) : FnOk P w K mg base CX0 1 f fd ["self"] (spBeg CG CS fun _ n => .bl (decide (n % 2 = 1))) := by
  refine F.ok sc_Go (fun vs H Q E h => ?_) (fun cdv A outer s H vs Q E hr h => ?_)
  · obtain ⟨g, ml, v, w, k, as, raw, rfl, _⟩ := h
    rfl
  · obtain ⟨g, ml, v, w, k, as, raw, rfl, G, hn, kq⟩ := h
    refine ⟨_, (pss_one (ps_ret (pe_cmpR op_eq (pe_op op_mod (pe_callB call_len_seq (by rfl) T.len PySem.boot_len (pa_cons (pe_fld (pv 0) rfl) pa_nil)) pe_int) pe_int (nomark _)))), ?_⟩
    obtain ⟨dx, tw, sd, e1, e2, e3⟩ := G.ex
    refine ⟨_, rfl, g, CG, dx, _, _, rfl, e1, GT.cl, GT.nM, gm_m, ml, _, rfl, .inl (SqL.of G.mks.at_), ?_⟩
    rw [List.length_map, G.mks.len]
    refine ⟨_, _, rfl, rfl, by show (0 : Int) < 2; decide, rfl, ?_⟩
    have e : decide (V.int (((raw.length : Nat) : Int) % 2) = V.int 1) = decide (raw.length % 2 = 1) := decide_eq_decide.mpr ⟨fun h => by have := V.int.inj h; omega, fun h => by congr 1; omega⟩
    rw [e]
    exact kq
abbrev s_Gl : Stmt := (inClass (top 23) 7)
theorem sc_Gl : FnScope ["self"] ["self"] (defScope s_Gl) := ⟨rfl, rfl, rfl, by decide +kernel, rfl, by decide +kernel, by decide +kernel⟩
theorem ok_Gl (GT : GmT K mg CG) (c_beg : MCal P w K mg base CG "_begun" 1 (spBeg CG CS fun _ n => .int (((n + 1) / 2 : Nat) : Int))) (F : L2.Fun K "rounds_left" "Game.rounds_left" s_Gl f fd) :
    FnOk P w K mg base CX0 2 f fd ["self"] (spBeg CG CS fun k n => .int ((k : Int) - (((n + 1) / 2 : Nat) : Int))) := by
  refine F.ok sc_Gl (fun vs H Q E h => ?_) (fun cdv A outer s H vs Q E hr h => ?_)
  · obtain ⟨g, ml, v, w, k, as, raw, rfl, _⟩ := h
    rfl
  · obtain ⟨g, ml, v, w, k, as, raw, rfl, G, hn, kq⟩ := h
    refine ⟨_, (pss_one (ps_ret (pe_op op_sub (pe_fld (pv 0) rfl) (pe_m0 c_beg GT.cl hr (by decide) (pv 0))))), ?_⟩
    obtain ⟨dx, tw, sd, e1, e2, e3⟩ := G.ex
    refine ⟨_, rfl, g, CG, dx, _, _, rfl, e1, GT.cl, GT.nR, gm_r, _, rfl, g, dx, _, rfl, e1, gm_no (by decide +kernel) (by decide +kernel) (by decide +kernel) (by decide +kernel), ?_⟩
    dsimp only [tNil]
    exact ⟨g, ml, v, w, k, as, raw, rfl, G, hn, _, _, rfl, rfl, kq⟩
abbrev s_Gc : Stmt := (inClass (top 23) 9)
abbrev N_Gc : List Str := ["self", "which", "place", "other"]
theorem sc_Gc : FnScope N_Gc N_Gc (defScope s_Gc) := ⟨rfl, rfl, rfl, by decide +kernel, rfl, by decide +kernel, by decide +kernel⟩
theorem ok_Gc (F : L2.Fun K "_couple" "Game._couple" s_Gc f fd) : FnOk P w K mg base CX0 1 f fd N_Gc spCpl := by
  refine F.ok sc_Gc (fun vs H Q E h => ?_) (fun cdv A outer s H vs Q E hr h => ?_)
  · obtain ⟨g, i, x, y, rfl, _⟩ := h
    rfl
  · obtain ⟨g, i, x, y, rfl, kq⟩ := h
    refine ⟨_, (pss_one (ps_ret (pe_ifExp (pt_cmpR op_eq (pv 1) pe_int (nomark _)) (pe_tup (pa_cons (pv 2) (pa_cons (pv 3) pa_nil))) (pe_tup (pa_cons (pv 3) (pa_cons (pv 2) pa_nil)))))), ?_⟩
    refine ⟨_, rfl, rfl, _, rfl, ?_⟩
    refine iteV (fun h => ?_) (fun h => ?_)
    · have e0 : i = 0 := by
        have := V.int.inj h
        omega
      refine ⟨_, rfl, _, rfl, by show 2 ≤ sizeLine; decide, fun t ht => ?_⟩
      exact kq t _ (Same.new ht) (by rw [upd_same, if_pos e0]) ht
    · have e0 : i ≠ 0 := fun e => h (by rw [e]; rfl)
      refine ⟨_, rfl, _, rfl, by show 2 ≤ sizeLine; decide, fun t ht => ?_⟩
      exact kq t _ (Same.new ht) (by rw [upd_same, if_neg e0]) ht
end
end Ws

/-! the program's game: marks_made -/
namespace Ws
open PySem PySem.Spec PyProof.Rows L2
/-- one round played: who was first, the couple -/
def pr1 (q : Nat × (Nat × Nat)) : List (Nat × Nat) := if q.1 = 0 then [(0, q.2.1), (1, q.2.2)] else [(1, q.2.2), (0, q.2.1)]
def rawOf (rs : List (Nat × (Nat × Nat))) (op : List (Nat × Nat)) : List (Nat × Nat) := rs.flatMap pr1 ++ op
theorem pr1_len {q : Nat × (Nat × Nat)} : (pr1 q).length = 2 := by unfold pr1; split <;> rfl
theorem raw_len : ∀ {rs : List (Nat × (Nat × Nat))} {op : List (Nat × Nat)}, (rawOf rs op).length = 2 * rs.length + op.length
  | [], op => by simp [rawOf]
  | q :: rs, op => by
    have ih := raw_len (rs := rs) (op := op)
    unfold rawOf at ih ⊢
    rw [List.flatMap_cons, List.append_assoc, List.length_append, pr1_len, ih, List.length_cons]
    omega
theorem raw_at : ∀ {rs : List (Nat × (Nat × Nat))} {op : List (Nat × Nat)} {j : Nat} {q : Nat × (Nat × Nat)}, rs[j]? = some q → (rawOf rs op)[2 * j]? = (pr1 q)[0]? ∧ (rawOf rs op)[2 * j + 1]? = (pr1 q)[1]?
  | [], op, j, q, h => by simp at h
  | p :: rs, op, 0, q, h => by
    have e : p = q := by simpa using h
    subst e
    unfold rawOf
    rw [List.flatMap_cons, List.append_assoc]
    refine ⟨?_, ?_⟩
    · rw [List.getElem?_append_left (by rw [pr1_len]; omega)]
    · rw [List.getElem?_append_left (by rw [pr1_len]; omega)]
  | p :: rs, op, j + 1, q, h => by
    have ih := raw_at (rs := rs) (op := op) (j := j) (q := q) (by simpa using h)
    unfold rawOf at ih ⊢
    rw [List.flatMap_cons, List.append_assoc]
    refine ⟨?_, ?_⟩
    · rw [List.getElem?_append_right (by rw [pr1_len]; omega), pr1_len, show 2 * (j + 1) - 2 = 2 * j by omega]
      exact ih.1
    · rw [List.getElem?_append_right (by rw [pr1_len]; omega), pr1_len, show 2 * (j + 1) + 1 - 2 = 2 * j + 1 by omega]
      exact ih.2
theorem cut_two {xs : List V} {i : Nat} {a b : V} (ha : xs[i]? = some a) (hb : xs[i + 1]? = some b) : cutV xs (some ((i : Nat) : Int)) (some (((i + 2 : Nat)) : Int)) = [a, b] := by
  have hi : i + 1 < xs.length := (List.getElem?_eq_some_iff.mp hb).1
  unfold cutV
  rw [HT.sIx_nat, HT.sIx_nat, Nat.min_eq_left (by omega), Nat.min_eq_left (by omega), show i + 2 - i = 2 by omega]
  rw [List.drop_eq_getElem_cons (by omega), List.drop_eq_getElem_cons (by omega)]
  rw [List.getElem?_eq_getElem (by omega)] at ha hb
  cases ha
  cases hb
  rfl
theorem rg_two {n m : Nat} (hn : n ≤ 400) (hm : m ≤ 1) : RgC 0 (((2 * n + m : Nat) : Int) - 1) 2 n := by
  have e : Builtin.Range.rangeSize 0 (((2 * n + m : Nat) : Int) - 1) 2 = n := by
    unfold
      Builtin.Range.rangeSize
    rw [if_pos (by decide)]
    split <;> omega
  refine ⟨by decide, by decide, ?_, e⟩
  unfold Builtin.Range.small
  rw [e]
  simp only [Builtin.Range.rangeFitsLong, Bool.and_eq_true, Bool.or_eq_true, decide_eq_true_eq, beq_iff_eq, show (2 : Int) > 0 by decide, if_true]
  omega
theorem dict01 {x y : V} : valV (mergeK [] [((.inl 0 : Key), x), (.inl 1, y)]) (.inl 0) = some x ∧ valV (mergeK [] [((.inl 0 : Key), x), (.inl 1, y)]) (.inl 1) = some y := ⟨rfl, rfl⟩
theorem dict10 {x y : V} : valV (mergeK [] [((.inl 1 : Key), y), (.inl 0, x)]) (.inl 0) = some x ∧ valV (mergeK [] [((.inl 1 : Key), y), (.inl 0, x)]) (.inl 1) = some y := ⟨rfl, rfl⟩
theorem MarksAt.push {H : Hp} {m t : Addr} {as : List Addr} {ms : List (Nat × Nat)} {x y : Nat} (M : MarksAt H m as ms) (et : H t = some (.tup [.int x, .int y])) : MarksAt (upd H m (.lst (as.map V.ref ++ [.ref t]))) m (as ++ [t]) (ms ++ [(x, y)]) := by
  refine ⟨by rw [upd_same, List.map_append]; rfl, by simp [M.len], fun i a q ha hq => ?_⟩
  by_cases hi : i < as.length
  · rw [List.getElem?_append_left hi] at ha
    rw [List.getElem?_append_left (by rw [← M.len]; exact hi)] at hq
    have e := M.tup i a q ha hq
    rw [upd_ne (ne_of e M.at_ (by intro z; cases z))]
    exact e
  · have e1 : i = as.length := by
      have := (List.getElem?_eq_some_iff.mp ha).1
      simp at this
      omega
    subst e1
    rw [List.getElem?_append_right (Nat.le_refl _)] at ha
    rw [List.getElem?_append_right (by rw [M.len]; exact Nat.le_refl _)] at hq
    simp at ha
    simp [M.len] at hq
    subst ha hq
    rw [upd_ne (ne_of et M.at_ (by intro z; cases z))]
    exact et
def spMM (CG CS : Addr) : Sp := fun vs H Q _ => ∃ (g ml : Addr) (v w : List Nat) (k : Nat) (as : List Addr) (rs : List (Nat × (Nat × Nat))) (op : List (Nat × Nat)), vs = [.ref g] ∧ GmAt CG CS H g ml v w k as (rawOf rs op) ∧ rs.length ≤ 400 ∧ op.length ≤ 1 ∧
  ∀ d ts H', Same H H' → H d = none → MarksAt H' d ts (rs.map (·.2)) → Q (.ref d) H'
section
variable {P : Program} {w : World} {K : PySem.W.Frag} {mg : Str → Option Value} {base : Heap} {f CG CS : Addr} {fd : FuncData}
abbrev s_MM : Stmt := (inClass (top 23) 6)
abbrev N_MM : List Str := ["self", "made", "spot", "rows"]
theorem sc_MM : FnScope N_MM ["self"] (defScope s_MM) := ⟨rfl, rfl, rfl, by decide +kernel, rfl, by decide +kernel, by decide +kernel⟩
theorem ok_MM (T : Bl mg) (hd0 : mg "dict" = none) (GT : GmT K mg CG) (F : L2.Fun K "marks_made" "Game.marks_made" s_MM f fd) : FnOk P w K mg base CX0 1 f fd ["self"] (spMM CG CS) := by
  refine F.ok sc_MM (fun vs H Q E h => ?_) (fun cdv A outer s H vs Q E hr h => ?_)
  · obtain ⟨g, ml, v, w, k, as, rs, op, rfl, _⟩ := h
    rfl
  · obtain ⟨g, ml, v, w, k, as, rs, op, rfl, G, hn, ho, kq⟩ := h
    have nd := sc_MM.nd
    have hu := hu_of hr
    refine ⟨_, (pss_cons (ps_set (i := 1) nd rfl (.inl rfl) (pe_lst pa_nil))
      (pss_cons (ps_for PassesOwn.never rfl (pi_range3 (by rfl) T.range (pa_cons pe_int (pa_cons (pe_op op_sub (pe_callB call_len_seq (by rfl) T.len PySem.boot_len (pa_cons (pe_fld (pv 0) rfl) pa_nil)) pe_int) (pa_cons pe_int pa_nil)))) (pg_name (i := 2) nd rfl (.inl rfl))
      (pss_cons (ps_set (i := 3) nd rfl (.inl rfl) (pe_callTy (call_dictP rfl) (by rfl) hd0 (by decide +kernel) (pa_cons (pe_slice sl_list (pe_fld (pv 0) rfl) (po_some (pv 2)) (po_some (pe_op op_add (pv 2) pe_int))) pa_nil)))
      (pss_one (ps_expr (pe_bm PySem.F.plainAttrs_list PySem.F.slot_list_append PySem.F.type_list_append mt_append (pv 1) (pa_cons (pe_tup (pa_cons (pe_dget hu (pv 3) pe_int (fun _ _ => rfl)) (pa_cons (pe_dget hu (pv 3) pe_int (fun _ _ => rfl)) pa_nil))) pa_nil))))))
      (pss_one (ps_ret (pv 1))))), ?_⟩
    obtain ⟨dx, tw, sd, e1, e2, e3⟩ := G.ex
    refine ⟨by show 0 ≤ sizeLine; decide, fun d hd => ?_⟩
    have s0 : Same H (upd H d (.lst [])) := Same.new hd
    refine ⟨_, rfl, g, CG, dx, _, _, rfl, s0 _ _ e1, GT.cl, GT.nM, gm_m, ml, _, rfl, .inl (SqL.of (s0 _ _ G.mks.at_)), ?_⟩
    rw [List.length_map, G.mks.len, raw_len]
    refine ⟨_, _, rfl, rfl, _, _, _, rs.length, rfl, ?_, ?_⟩
    · exact rg_two hn ho
    refine for_it walk_rangeC (fun i σ H' => ∃ z2 z3 ts, σ = [some (.ref g), some (.ref d), z2, z3] ∧ Same H H' ∧ MarksAt H' d ts ((rs.map (·.2)).take i))
      ⟨none, none, [], rfl, s0, ⟨upd_same, rfl, fun i a p h => by simp at h⟩⟩ (fun _ _ _ _ _ => True.intro) ?_ ?_
    · rintro i x σ H1 H1' hi ⟨z2, z3, ts, rfl, s1, M⟩ ⟨rfl, hx⟩
      have hx : x = V.int ((2 * i : Nat) : Int) := hx.trans (by show V.int (0 + ((i : Nat) : Int) * 2) = _; congr 1; omega)
      subst hx
      have hi' : i < rs.length := hi
      have hq : rs[i]? = some rs[i] := List.getElem?_eq_getElem hi'
      obtain ⟨r1, r2⟩ := raw_at (op := op) hq
      have hl : 2 * i + 1 < as.length := by rw [G.mks.len, raw_len]; omega
      have ha0 : as[2 * i]? = some as[2 * i] := List.getElem?_eq_getElem (by omega)
      have ha1 : as[2 * i + 1]? = some as[2 * i + 1] := List.getElem?_eq_getElem hl
      generalize as[2 * i] = a0 at ha0
      generalize as[2 * i + 1] = a1 at ha1
      refine ⟨_, rfl, g, CG, dx, _, _, rfl, s1 _ _ e1, GT.cl, GT.nM, gm_m, ?_⟩
      refine ⟨_, rfl, _, rfl, _, rfl, _, _, rfl, rfl, _, rfl, ml, as.map V.ref, rfl, SqL.of (s1 _ _ G.mks.at_), fun c hc => ?_⟩
      have ecut : cutV (as.map V.ref) (some ((2 * i : Nat) : Int)) (some (((2 * i : Nat) : Int) + 2)) = [.ref a0, .ref a1] := by
        rw [show ((2 * i : Nat) : Int) + 2 = ((2 * i + 2 : Nat) : Int) by omega]
        exact cut_two (by rw [List.getElem?_map, ha0]; rfl) (by rw [List.getElem?_map, ha1]; rfl)
      have key : ∃ (kvs : List (Key × V)), Paired (fun p kv => SqT K (upd H1' c (.lst [.ref a0, .ref a1])) p [kV kv.1, kv.2]) [a0, a1] kvs ∧ valV (mergeK [] kvs) (.inl 0) = some (.int (rs[i].2.1 : Nat)) ∧ valV (mergeK [] kvs) (.inl 1) = some (.int (rs[i].2.2 : Nat)) := by
        have s2 : Same H1' (upd H1' c (.lst [.ref a0, .ref a1])) := Same.new hc
        by_cases hz : rs[i].1 = 0
        · unfold pr1 at r1 r2
          rw [if_pos hz] at r1 r2
          have t0 := s2 _ _ (s1 _ _ (G.mks.tup _ _ _ ha0 r1))
          have t1 := s2 _ _ (s1 _ _ (G.mks.tup _ _ _ ha1 r2))
          exact ⟨[(.inl 0, .int (rs[i].2.1 : Nat)), (.inl 1, .int (rs[i].2.2 : Nat))], .cons (SqT.of t0) (.cons (SqT.of t1) .nil), dict01⟩
        · unfold pr1 at r1 r2
          rw [if_neg hz] at r1 r2
          have t0 := s2 _ _ (s1 _ _ (G.mks.tup _ _ _ ha0 r1))
          have t1 := s2 _ _ (s1 _ _ (G.mks.tup _ _ _ ha1 r2))
          exact ⟨[(.inl 1, .int (rs[i].2.2 : Nat)), (.inl 0, .int (rs[i].2.1 : Nat))], .cons (SqT.of t0) (.cons (SqT.of t1) .nil), dict10⟩
      obtain ⟨kvs, P1, v0, v1⟩ := key
      rw [ecut]
      refine ⟨c, [a0, a1], kvs, rfl, SqL.of upd_same, P1, fun q hq2 => ?_⟩
      have s3 : Same H1' (upd (upd H1' c (.lst [.ref a0, .ref a1])) q (.dK (mergeK [] kvs))) := (Same.new hc).trans (Same.new hq2)
      have M3 := M.same s3
      have g0 : DGet (upd (upd H1' c (.lst [.ref a0, .ref a1])) q (.dK (mergeK [] kvs))) q (kV (.inl 0)) (valV (mergeK [] kvs) (.inl 0)) := DGet.k upd_same
      have g1 : DGet (upd (upd H1' c (.lst [.ref a0, .ref a1])) q (.dK (mergeK [] kvs))) q (kV (.inl 1)) (valV (mergeK [] kvs) (.inl 1)) := DGet.k upd_same
      rw [v0] at g0
      rw [v1] at g1
      refine ⟨_, rfl, .inl ⟨rfl, _, SqL.of M3.at_⟩, _, rfl, q, _, rfl, g0, _, rfl, q, _, rfl, g1, by show 2 ≤ sizeLine; decide, fun t ht => ?_⟩
      have s4 := s3.trans (Same.new (o := .tup [.int (rs[i].2.1 : Nat), .int (rs[i].2.2 : Nat)]) ht)
      have M4 := M.same s4
      have hml : ts.length ≤ i := by rw [M.len, List.length_take]; omega
      refine ⟨d, ts.map V.ref, .ref t, rfl, rfl, M4.at_, by rw [List.length_map, sizeLine_eq]; omega, ?_⟩
      refine ⟨_, _, ts ++ [t], rfl, fun b o e => ?_, ?_⟩
      · rw [upd_ne (ne_of_none e hd)]
        exact s4 _ _ (s1 _ _ e)
      · rw [List.take_succ, List.getElem?_map, hq]
        exact M4.push upd_same
    · rintro σ H1 ⟨z2, z3, ts, rfl, s1, M⟩
      rw [List.take_of_length_le (by rw [List.length_map]; exact Nat.le_refl _)] at M
      exact ⟨_, rfl, kq d ts _ s1 hd M⟩
end
end Ws

/-! the program's game: _kept -/
namespace Ws
open PySem PySem.Spec PyProof.Rows L2
abbrev BG : Int := 16777216
def nat2 (q : Nat × Nat) : List Int := [(q.1 : Int), (q.2 : Int)]
theorem sort_lex : ∀ {L' : List (Addr × List Int)} {ms : List (Nat × Nat)}, (∀ p ∈ L', ∃ q ∈ ms, p.2 = nat2 q) → (L'.map (·.2)).Nodup → L'.Pairwise (fun q r => TS.code BG q.2 ≤ TS.code BG r.2) → (∀ q ∈ ms, q.1 < 1000 ∧ q.2 < 1000) →
    ∃ rs : List (Nat × Nat), L'.map (·.2) = rs.map nat2 ∧ Lex rs ∧ ∀ p ∈ rs, p ∈ ms
  | [], ms, _, _, _, _ => ⟨[], rfl, .nil, fun p h => nomatch h⟩
  | p :: L', ms, hm, nd, pw, hb => by
    obtain ⟨rs, e, lx, sub⟩ := sort_lex (L' := L') (ms := ms) (fun q hq => hm q (List.mem_cons_of_mem _ hq)) (List.nodup_cons.mp nd).2 (List.pairwise_cons.mp pw).2 hb
    obtain ⟨q, hq, ep⟩ := hm p (List.mem_cons_self ..)
    refine ⟨q :: rs, by rw [List.map_cons, List.map_cons, e, ep], List.pairwise_cons.mpr ⟨fun r hr => ?_, lx⟩, fun x hx => ?_⟩
    · have hin : nat2 r ∈ L'.map (·.2) := by rw [e]; exact List.mem_map_of_mem hr
      obtain ⟨z, hz, ez⟩ := List.mem_map.mp hin
      have c := (List.pairwise_cons.mp pw).1 z hz
      rw [ep, ez] at c
      have bd : ∀ x ∈ ms, TS.Bd BG (nat2 x) := fun x hx m hm => by
        obtain ⟨b1, b2⟩ := hb x hx
        show 0 ≤ m ∧ m < 16777216
        simp only [nat2, List.mem_cons, List.not_mem_nil, or_false] at hm
        rcases hm with rfl | rfl <;> omega
      have d := code_lex (bd q hq) (bd r (sub r hr)) c
      have ne : q ≠ r := fun h => (List.nodup_cons.mp nd).1 (by
        show p.2 ∈ L'.map (·.2)
        rw [ep, h]
        exact hin)
      rcases d with d | ⟨d1, d2⟩
      · exact .inl (by omega)
      · refine .inr ⟨by omega, ?_⟩
        have h3 : q.2 ≠ r.2 := fun h => ne (Prod.ext (by omega) h)
        omega
    · rcases List.mem_cons.mp hx with rfl | hx
      · exact hq
      · exact sub x hx
theorem nat2_inj {p q : Nat × Nat} (h : nat2 p = nat2 q) : p = q := by
  simp only [nat2, List.cons.injEq, and_true] at h
  exact Prod.ext (by omega) (by omega)
/-- the marks as rows of numbers -/
theorem kept_rows {H : Hp} {m : Addr} {ts : List Addr} {ms : List (Nat × Nat)} (M : MarksAt H m ts ms) : ∃ ks : List (Addr × List Int), (ks.map fun p => V.ref p.1) = ts.map V.ref ∧ ks.length = ms.length ∧
    (∀ p ∈ ks, H p.1 = some (.tup (p.2.map V.int)) ∧ ∃ q ∈ ms, p.2 = nat2 q) ∧ ∀ q ∈ ms, ∃ p ∈ ks, p.2 = nat2 q := by
  have hl := M.len
  refine ⟨(List.range ts.length).map fun i => (ts.getD i 0, nat2 (ms.getD i pr0)), ?_, by simp [hl], fun p hp => ?_, fun q hq => ?_⟩
  · refine List.ext_getElem (by simp) fun i h1 h2 => ?_
    have hi : i < ts.length := by simpa using h2
    simp [List.getD_eq_getElem?_getD, List.getElem?_eq_getElem hi]
  · obtain ⟨i, hi, rfl⟩ := List.mem_map.mp hp
    have hi : i < ts.length := List.mem_range.mp hi
    have hi2 : i < ms.length := by omega
    have e1 : ts.getD i 0 = ts[i] := by rw [List.getD_eq_getElem?_getD, List.getElem?_eq_getElem hi]; rfl
    have e2 : ms.getD i pr0 = ms[i] := getD_lt hi2
    refine ⟨?_, ms[i], List.getElem_mem hi2, by rw [← e2]⟩
    show H (ts.getD i 0) = some (.tup ((nat2 (ms.getD i pr0)).map V.int))
    rw [e1, e2]
    exact M.tup i _ _ (List.getElem?_eq_getElem hi) (List.getElem?_eq_getElem hi2)
  · obtain ⟨i, hi, rfl⟩ := List.getElem_of_mem hq
    exact ⟨_, List.mem_map.mpr ⟨i, List.mem_range.mpr (by omega), rfl⟩, by show nat2 (ms.getD i pr0) = _; rw [getD_lt hi]⟩
theorem rows_at {H : Hp} {p : Addr} {L' : List (Addr × List Int)} {rs : List (Nat × Nat)} (e : L'.map (·.2) = rs.map nat2) (h : ∀ q ∈ L', H q.1 = some (.tup (q.2.map V.int))) (hp : H p = some (.lst (L'.map fun q => V.ref q.1))) : MarksAt H p (L'.map (·.1)) rs := by
  have hl : L'.length = rs.length := by simpa using congrArg List.length e
  refine ⟨by rw [hp, List.map_map]; rfl, by rw [List.length_map, hl], fun i a q ha hq => ?_⟩
  rw [List.getElem?_map] at ha
  obtain ⟨z, hz, rfl⟩ := Option.map_eq_some_iff.mp ha
  have e1 : (L'.map (·.2))[i]? = (rs.map nat2)[i]? := by rw [e]
  rw [List.getElem?_map, List.getElem?_map, hz, hq] at e1
  have e2 : z.2 = nat2 q := by simpa using e1
  have := h z (List.mem_of_getElem? hz)
  rw [e2] at this
  exact this
theorem sgn_eq {a b : Nat} : (!decide (V.str (S [a]) = V.str (S [b]))) = !decide (a = b) := by
  congr 1
  refine decide_eq_decide.mpr ⟨fun h => ?_, fun h => by rw [h]⟩
  have h := SX.S_inj (V.str.inj h)
  injection h
theorem gap_ok {v w : List Nat} {rs : List (Nat × Nat)} (hr : Rise rs) (hI : Inb v w rs) {i : Nat} (hi : i < rs.length + 1) :
    ((Lo rs).getD i pr0).1 ≤ ((hiL v w rs).getD i pr0).1 ∧ ((hiL v w rs).getD i pr0).1 ≤ v.length ∧ ((Lo rs).getD i pr0).2 ≤ ((hiL v w rs).getD i pr0).2 ∧ ((hiL v w rs).getD i pr0).2 ≤ w.length := by
  have up : ((hiL v w rs).getD i pr0).1 ≤ v.length ∧ ((hiL v w rs).getD i pr0).2 ≤ w.length := by
    by_cases h : i < rs.length
    · rw [hi_at h]
      have := hI rs[i] (List.getElem_mem h)
      omega
    · obtain rfl : i = rs.length := by omega
      rw [hi_end]
      exact ⟨Nat.le_refl _, Nat.le_refl _⟩
  have dn : ((Lo rs).getD i pr0).1 ≤ ((hiL v w rs).getD i pr0).1 ∧ ((Lo rs).getD i pr0).2 ≤ ((hiL v w rs).getD i pr0).2 := by
    cases i with
    | zero => exact ⟨Nat.zero_le _, Nat.zero_le _⟩
    | succ j =>
      have hj : j < rs.length := by omega
      rw [lo_at hj]
      by_cases h : j + 1 < rs.length
      · rw [hi_at h]
        have := rise_at hr (show j < j + 1 by omega) h
        exact ⟨by show rs[j].1 + 1 ≤ _; omega, by show rs[j].2 + 1 ≤ _; omega⟩
      · obtain e : j + 1 = rs.length := by omega
        rw [e, hi_end]
        have := hI rs[j] (List.getElem_mem hj)
        exact ⟨by show rs[j].1 + 1 ≤ v.length; omega, by show rs[j].2 + 1 ≤ w.length; omega⟩
  exact ⟨dn.1, up.1, dn.2, up.2⟩
theorem sd_no {x y : V} {m : Str} (h1 : (m == ("words" : Str)) = false) (h2 : (m == ("tables" : Str)) = false) : List.lookup m ([("words", x), ("tables", y)] : List (Str × V)) = none := by
  simp [List.lookup, h1, h2]
def spKp (CG CS : Addr) : Sp := fun vs H Q _ => ∃ (g ml m : Addr) (v w : List Nat) (k k2 : Nat) (as ts : List Addr) (raw ms : List (Nat × Nat)), vs = [.ref g, .ref m, .int k2] ∧ GmAt CG CS H g ml v w k as raw ∧ k2 ≤ k ∧ MarksAt H m ts ms ∧ Inb v w ms ∧ ms.length < 60 ∧ v.length ≤ 60 ∧ w.length ≤ 60 ∧
  ∀ H', Same H H' → Q (.bl (winsB v w k2 ms)) H'
section
variable {P : Program} {W0 : World} {K : PySem.W.Frag} {mg : Str → Option Value} {base : Heap} {f CG CS : Addr} {fd : FuncData}
abbrev s_Kp : Stmt := (inClass (top 23) 8)
abbrev N_Kp : List Str := ["self", "marks", "left", "rows", "one", "two", "s", "r", "lows", "highs", "low", "high"]
theorem sc_Kp : FnScope N_Kp ["self", "marks", "left"] (defScope s_Kp) := ⟨rfl, rfl, rfl, by decide +kernel, rfl, by decide +kernel, by decide +kernel⟩
theorem ok_Kp (T : Bl mg) (hset : mg "set" = none) (GT : GmT K mg CG) (ST : SdT K mg CS) (c_ak : MCal P W0 K mg base CS "are_kept" 1 (spAK K CS)) (F : L2.Fun K "_kept" "Game._kept" s_Kp f fd) : FnOk P W0 K mg base CX0 2 f fd ["self", "marks", "left"] (spKp CG CS) := by
  refine F.ok sc_Kp (fun vs H Q E h => ?_) (fun cdv A outer s H vs Q E hr h => ?_)
  · obtain ⟨g, ml, m, v, w, k, k2, as, ts, raw, ms, rfl, _⟩ := h
    rfl
  · obtain ⟨g, ml, m, v, w, k, k2, as, ts, raw, ms, rfl, G, hk2, M, hI, hn, hv, hw, kq⟩ := h
    have nd := sc_Kp.nd
    have hu := hu_of hr
    refine ⟨_, (pss_cons (ps_set (i := 3) nd rfl (.inl rfl) (pe_callB (cr_sortedT rfl) (by rfl) T.sorted (by decide +kernel) (pa_cons (pe_callTy (cr_setOfT rfl hr.units) (by rfl) hset (by decide +kernel) (pa_cons (pv 1) pa_nil)) pa_nil)))
      (pss_cons (ps_for PassesOwn.never rfl (pi_zip (by rfl) T.zip (pa_cons (pv 3) (pa_cons (pe_slice sl_list (pv 3) (po_some pe_int) po_none) pa_nil))) (pg_tup (n := 2) rfl (pgs_cons (pg_name (i := 4) nd rfl (.inl rfl)) (pgs_cons (pg_name (i := 5) nd rfl (.inl rfl)) pgs_nil)))
      (pss_one (ps_if (PW.pt (pw_or (pt_cmpR op_eq (pe_ix ix_tup (pv 4) pe_int (fun _ _ => rfl)) (pe_ix ix_tup (pv 5) pe_int (fun _ _ => rfl)) (nomark _)) (pw_or1 (pt_cmpR op_ge (pe_ix ix_tup (pv 4) pe_int (fun _ _ => rfl)) (pe_ix ix_tup (pv 5) pe_int (fun _ _ => rfl)) (nomark _)))))
      (pss_one (ps_ret pe_bl))
      pss_nil)))
      (pss_cons (ps_if (pt_val (pe_callB (cr_any rfl) (by rfl) T.any (by decide +kernel) (pa_cons (pe_lc (own := [("s", 6), ("r", 7)]) (g := gTup K 2 (gCons (gName 6) (gCons (gName 7) gNil))) rfl nd (pi_list (pv 3)) (blkOk_by (N := N_Kp) rfl) (fun _ _ _ _ _ => (pg_tup (n := 2) rfl (pgs_cons (pg_name (i := 6) nd rfl (.inl rfl)) (pgs_cons (pg_name (i := 7) nd rfl (.inl rfl)) pgs_nil)))) (fun _ _ _ _ _ => pts_nil) (fun _ _ _ _ _ => (pe_cmpR op_ne (pe_ix (r := rIxS) ix_str (pe_ix (r := rIxT K) (ta := tFld K (tVar 0) "_words") ix_tup (pe_fld (pv 0) rfl) pe_int (fun _ _ => rfl)) (pv 6) (fun _ _ => rfl)) (pe_ix (r := rIxS) ix_str (pe_ix (r := rIxT K) (ta := tFld K (tVar 0) "_words") ix_tup (pe_fld (pv 0) rfl) pe_int (fun _ _ => rfl)) (pv 7) (fun _ _ => rfl)) (nomark _)))) pa_nil)))
      (pss_one (ps_ret pe_bl))
      pss_nil)
      (pss_cons (ps_set (i := 8) nd rfl (.inl rfl) (pe_op op_cat (pe_lst (pa_cons (pe_tup (pa_cons pe_int (pa_cons pe_int pa_nil))) pa_nil)) (pe_lc (own := [("s", 6), ("r", 7)]) (g := gTup K 2 (gCons (gName 6) (gCons (gName 7) gNil))) rfl nd (pi_list (pv 3)) (blkOk_by (N := N_Kp) rfl) (fun _ _ _ _ _ => (pg_tup (n := 2) rfl (pgs_cons (pg_name (i := 6) nd rfl (.inl rfl)) (pgs_cons (pg_name (i := 7) nd rfl (.inl rfl)) pgs_nil)))) (fun _ _ _ _ _ => pts_nil) (fun _ _ _ _ _ => (pe_tup (pa_cons (pe_op op_add (pv 6) pe_int) (pa_cons (pe_op op_add (pv 7) pe_int) pa_nil)))))))
      (pss_cons (ps_set (i := 9) nd rfl (.inl rfl) (pe_op op_cat (pv 3) (pe_lst (pa_cons (pe_tup (pa_cons (pe_callB call_len_str (by rfl) T.len PySem.boot_len (pa_cons (pe_ix ix_tup (pe_fld (pv 0) rfl) pe_int (fun _ _ => rfl)) pa_nil)) (pa_cons (pe_callB call_len_str (by rfl) T.len PySem.boot_len (pa_cons (pe_ix ix_tup (pe_fld (pv 0) rfl) pe_int (fun _ _ => rfl)) pa_nil)) pa_nil))) pa_nil))))
      (pss_cons (ps_for PassesOwn.never rfl (pi_zip (by rfl) T.zip (pa_cons (pv 8) (pa_cons (pv 9) pa_nil))) (pg_tup (n := 2) rfl (pgs_cons (pg_name (i := 10) nd rfl (.inl rfl)) (pgs_cons (pg_name (i := 11) nd rfl (.inl rfl)) pgs_nil)))
      (pss_one (ps_if (pt_not (pt_val (pe_m c_ak ST.cl hr (by decide) (pe_fld (pv 0) rfl) (pa_cons (pv 2) (pa_cons (pe_tup (pa_cons (pe_ix ix_tup (pv 10) pe_int (fun _ _ => rfl)) (pa_cons (pe_ix ix_tup (pv 11) pe_int (fun _ _ => rfl)) pa_nil))) (pa_cons (pe_tup (pa_cons (pe_ix ix_tup (pv 10) pe_int (fun _ _ => rfl)) (pa_cons (pe_ix ix_tup (pv 11) pe_int (fun _ _ => rfl)) pa_nil))) pa_nil))))))
      (pss_one (ps_ret pe_bl))
      pss_nil)))
      (pss_one (ps_ret pe_bl)))))))), ?_⟩
    obtain ⟨ks, k1, k2', k3, k4⟩ := kept_rows M
    have hb : ∀ q ∈ ms, q.1 < 1000 ∧ q.2 < 1000 := fun q hq => by
      have := hI q hq
      omega
    refine ⟨_, rfl, m, ks, rfl, SqL.of (by rw [k1]; exact M.at_), fun p hp => SqT.of (k3 p hp).1, by omega, fun a L ha hsub hall => ?_⟩
    have len2 : ∀ p ∈ ks, p.2.length = 2 ∧ TS.Bd BG p.2 := fun p hp => by
      obtain ⟨_, q, hq, e⟩ := k3 p hp
      have := hb q hq
      rw [e]
      refine ⟨rfl, fun z hz => ?_⟩
      simp only [nat2, List.mem_cons, List.not_mem_nil, or_false] at hz
      show 0 ≤ z ∧ z < 16777216
      rcases hz with rfl | rfl <;> omega
    have sa : Same H (upd H a (SetTO P W0 a L)) := Same.new ha
    refine ⟨a, L, 2, BG, rfl, upd_same, fun p hp => SqT.of (sa _ _ (k3 p (hsub p hp)).1), by decide, fun p hp => len2 p (hsub p hp), fun L' p perm nodup few pw hp => ?_⟩
    have sub' : ∀ q ∈ L', q ∈ ks := fun q hq => hsub q (perm.mem_iff.mp hq)
    obtain ⟨rs, er, lx, srs⟩ := sort_lex (fun q hq => (k3 q (sub' q hq)).2) nodup pw hb
    have mrs : ∀ q, q ∈ rs ↔ q ∈ ms := fun q => ⟨srs q, fun hq => by
      obtain ⟨z, hz, ez⟩ := k4 q hq
      have h1 : nat2 q ∈ L'.map (·.2) := by
        rw [← ez]
        exact (perm.map (·.2)).mem_iff.mpr (hall z hz)
      rw [er] at h1
      obtain ⟨q2, hq2, e2⟩ := List.mem_map.mp h1
      rw [← nat2_inj e2]
      exact hq2⟩
    rw [← rows_wins lx mrs hI] at kq
    have sb : Same H (upd (upd H a (SetTO P W0 a L)) p (.lst (L'.map fun q => V.ref q.1))) := sa.trans (Same.new hp)
    let H1 := upd (upd H a (SetTO P W0 a L)) p (.lst (L'.map fun q => V.ref q.1))
    obtain ⟨us, R⟩ : ∃ us, MarksAt H1 p us rs := ⟨L'.map (·.1), rows_at er (fun q hq => sb _ _ (k3 q (sub' q hq)).1) upd_same⟩
    have hI2 : Inb v w rs := fun q hq => hI q (srs q hq)
    have hrl : rs.length < 64 := by
      have := congrArg List.length er
      rw [List.length_map, List.length_map] at this
      omega
    have usl : us.length = rs.length := R.len
    refine ⟨_, rfl, _, rfl, _, rfl, p, us.map V.ref, rfl, SqL.of R.at_, fun c hc => ?_⟩
    have ecut : cutV (us.map V.ref) (some 1) none = (us.map V.ref).drop 1 := by
      unfold cutV
      rw [HT.sIx_none, show (1 : Int) = ((1 : Nat) : Int) from rfl, HT.sIx_nat]
      rw [List.take_of_length_le (by rw [List.length_drop]; omega)]
      by_cases h1 : 1 ≤ (us.map V.ref).length
      · rw [Nat.min_eq_left h1]
      · rw [Nat.min_eq_right (by omega), List.drop_of_length_le (by omega), List.drop_of_length_le (by omega)]
    rw [ecut]
    let H2 := upd H1 c (.lst ((us.map V.ref).drop 1))
    have sc : Same H1 H2 := Same.new hc
    have R2 := R.same sc
    have ec : H2 c = some (.lst ((us.map V.ref).drop 1)) := upd_same
    have s2 : Same H H2 := sb.trans sc
    have hn1 : rs.length - 1 = min (us.map V.ref).length ((us.map V.ref).drop 1).length := by
      rw [List.length_drop, List.length_map, usl]
      omega
    refine ⟨p, c, us.map V.ref, (us.map V.ref).drop 1, rfl, SqL.of R2.at_, SqL.of ec, for_it (walk_zip (n := rs.length - 1) hn1)
      (fun i σ H' => ∃ z4 z5, σ = [some (.ref g), some (.ref m), some (.int (k2 : Nat)), some (.ref p), z4, z5, none, none, none, none, none, none] ∧ Same H2 H' ∧
        ∀ j, j < i → (!(decide ((rs.getD j pr0).1 = (rs.getD (j + 1) pr0).1) || decide ((rs.getD (j + 1) pr0).2 ≤ (rs.getD j pr0).2))) = true)
      ⟨none, none, rfl, refl_same _, fun j h => absurd h (Nat.not_lt_zero _)⟩ (fun i σ H' _ q => ?_) ?_ ?_⟩
    · obtain ⟨_, _, _, s, _⟩ := q
      exact ⟨SqL.of (s _ _ R2.at_), SqL.of (s _ _ ec)⟩
    · rintro i x σ H3 H3' hi ⟨z4, z5, rfl, s3, hj⟩ ⟨t, x1, y1, rfl, ht, rfl, hx, hy⟩
      have R3 := R2.same s3
      have hy : ((us.map V.ref).drop 1)[i]? = some y1 := hy
      rw [List.getElem?_drop, Nat.add_comm] at hy
      obtain ⟨a4, q4, rfl, hq4, e4⟩ := R3.get hx
      obtain ⟨a5, q5, rfl, hq5, e5⟩ := R3.get hy
      have g4 : rs.getD i pr0 = q4 := by rw [List.getD_eq_getElem?_getD, hq4]; rfl
      have g5 : rs.getD (i + 1) pr0 = q5 := by rw [List.getD_eq_getElem?_getD, hq5]; rfl
      have sN : Same H3 (upd H3 t (.tup [.ref a4, .ref a5])) := Same.new ht
      refine ⟨t, _, rfl, SqT.of upd_same, rfl, _, _, rfl, _, _, rfl, rfl, ?_⟩
      refine ⟨_, rfl, a4, _, 0, _, rfl, rfl, SqT.of (sN _ _ e4), rfl, _, rfl, a5, _, 0, _, rfl, rfl, SqT.of (sN _ _ e5), rfl, rfl, _, rfl, ?_⟩
      have no : (decide (q4.1 = q5.1) || decide (q5.2 ≤ q4.2)) = true → Q (.bl false) (upd H3 t (.tup [.ref a4, .ref a5])) := fun h => by
        have e : strictB rs = false := by
          refine all_not (i := i) (x := i) (by simp [hi]) ?_
          show (!(decide ((rs.getD i pr0).1 = (rs.getD (i + 1) pr0).1) || decide ((rs.getD (i + 1) pr0).2 ≤ (rs.getD i pr0).2))) = false
          rw [g4, g5, h]
          rfl
        rw [e, Bool.false_and] at kq
        exact kq _ (s2.trans (s3.trans sN))
      refine iteV (fun h => ?_) (fun h => ?_)
      · have e : q4.1 = q5.1 := by
          have := V.int.inj h
          omega
        refine iteT ?_
        exact no (by rw [decide_eq_true e, Bool.true_or])
      · have n1 : decide (q4.1 = q5.1) = false := decide_eq_false fun e => h (by rw [e])
        refine ⟨_, rfl, a4, _, 1, _, rfl, rfl, SqT.of (sN _ _ e4), rfl, _, rfl, a5, _, 1, _, rfl, rfl, SqT.of (sN _ _ e5), rfl, _, _, rfl, rfl, _, rfl, ?_⟩
        refine iteD rfl (fun h2 => ?_) (fun h2 => ?_)
        · exact no (by rw [decide_eq_true (show q5.2 ≤ q4.2 by omega), Bool.or_true])
        · refine ⟨_, _, rfl, s3.trans sN, fun j hjl => ?_⟩
          by_cases ej : j = i
          · subst ej
            rw [g4, g5, n1, decide_eq_false (show ¬ q5.2 ≤ q4.2 by omega)]
            rfl
          · exact hj j (by omega)
    · rintro σ H3 ⟨z4, z5, rfl, s3, hj⟩
      have e : strictB rs = true := all_upto fun i x hi hx => by
        have hi : i < rs.length - 1 := by simpa using hi
        obtain rfl : i = x := by
          have := hx
          rw [List.getElem?_range hi] at this
          exact Option.some.inj this
        exact hj i hi
      rw [e, Bool.true_and] at kq
      have hrise : Rise rs := (strict_iff lx).mp e
      have R3 := R2.same s3
      have s4 := s2.trans s3
      obtain ⟨dx, tw, sd, e1, e2, e3⟩ := (G.same s4).ex
      have hz1 : (S v).length ≤ sizeLine := S_le (by omega)
      have hz2 : (S w).length ≤ sizeLine := S_le (by omega)
      refine ⟨_, rfl, p, rfl, ⟨_, SqL.of R3.at_⟩, fun D hD => ?_⟩
      refine lcP (walk_list (K := K) (a := p) (xs := us.map V.ref)) hD (by rw [List.length_map, usl, sizeLine_eq]; omega) (fun i => .bl (!decide (v.getD (rs.getD i pr0).1 0 = w.getD (rs.getD i pr0).2 0))) (fun H' s' => SqL.of (s' _ _ R3.at_)) (fun i y H4 H4' hi s5 yy Qy qy => ?_) (fun H4 s5 e5 => ?_)
      · obtain ⟨rfl, hx⟩ := yy
        have s6 := s4.trans s5
        obtain ⟨a, q, rfl, hq, ea⟩ := (R3.same s5).get hx
        obtain ⟨b1, b2⟩ := hI2 q (List.mem_of_getElem? hq)
        have gq : rs.getD i pr0 = q := by rw [List.getD_eq_getElem?_getD, hq]; rfl
        refine ⟨a, _, rfl, SqT.of ea, rfl, _, _, rfl, _, _, rfl, rfl, rfl, ?_⟩
        refine ⟨_, rfl, g, CG, dx, _, _, rfl, s5 _ _ e1, GT.cl, GT.nW, gm_w, tw, _, 0, _, rfl, rfl, SqT.of (s5 _ _ e2), rfl, _, rfl, _, _, _, rfl, rfl, hz1, S_ix2 b1, ?_⟩
        refine ⟨_, rfl, g, CG, dx, _, _, rfl, s5 _ _ e1, GT.cl, GT.nW, gm_w, tw, _, 1, _, rfl, rfl, SqT.of (s5 _ _ e2), rfl, _, rfl, _, _, _, rfl, rfl, hz2, S_ix2 b2, ?_⟩
        have z := qy _ (refl_same _)
        rw [gq] at z
        rw [← sgn_eq] at z
        exact ⟨rfl, z⟩
      · refine ⟨D, (List.range rs.length).map fun i => !decide (v.getD (rs.getD i pr0).1 0 = w.getD (rs.getD i pr0).2 0), rfl, SqL.of (by rw [bl_map]; rw [List.length_map, usl] at e5; exact e5), _, rfl, ?_⟩
        refine iteB (fun h => ?_) (fun h => ?_)
        · have e : signB v w rs = false := by
            cases e : signB v w rs with
            | false => rfl
            | true =>
              obtain ⟨z, hz, hz2⟩ := List.any_eq_true.mp h
              obtain ⟨i, hi, rfl⟩ := List.mem_map.mp hz
              have hi := List.mem_range.mp hi
              have y := List.all_eq_true.mp e rs[i] (List.getElem_mem hi)
              rw [getD_lt hi] at hz2
              simp only [id, y] at hz2
              cases hz2
          rw [e, Bool.false_and] at kq
          exact kq _ (s4.trans s5)
        have e : signB v w rs = true := all_upto fun i x hi hx => by
          cases hb2 : decide (v.getD x.1 0 = w.getD x.2 0) with
          | true => rfl
          | false =>
            have gx : rs.getD i pr0 = x := by rw [List.getD_eq_getElem?_getD, hx]; rfl
            have : ((List.range rs.length).map fun i => !decide (v.getD (rs.getD i pr0).1 0 = w.getD (rs.getD i pr0).2 0)).any id = true := List.any_eq_true.mpr ⟨_, List.mem_map.mpr ⟨i, List.mem_range.mpr hi, rfl⟩, by rw [gx, hb2]; rfl⟩
            rw [this] at h
            cases h
        rw [e, Bool.true_and] at kq
        have R4 := R3.same s5
        have s6 := s4.trans s5
        have e1 := s5 _ _ e1
        have e2 := s5 _ _ e2
        have e3 := e3.same s5
        -- lows
        refine ⟨by show 2 ≤ sizeLine; decide, fun t0 ht0 => ⟨by show 1 ≤ sizeLine; decide, fun l0 hl0 => ?_⟩⟩
        let H5 := upd (upd H4 t0 (.tup [.int 0, .int 0])) l0 (.lst [.ref t0])
        have s7 : Same H4 H5 := (Same.new ht0).trans (Same.new hl0)
        have R5 := R4.same s7
        have el0 : H5 l0 = some (.lst [.ref t0]) := upd_same
        have et0 : H5 t0 = some (.tup [.int 0, .int 0]) := (Same.new hl0) _ _ upd_same
        refine ⟨_, rfl, p, rfl, ⟨_, SqL.of R5.at_⟩, fun D2 hD2 => ?_⟩
        refine lcR (walk_list (K := K) (a := p) (xs := us.map V.ref)) hD2 (by rw [List.length_map, usl, sizeLine_eq]; omega) (fun i y H' => ∃ t, y = .ref t ∧ H' t = some (.tup [.int ((rs.getD i pr0).1 + 1 : Nat), .int ((rs.getD i pr0).2 + 1 : Nat)]))
          (fun i y Ha Hb x hx r => ?_) (fun H' s' => SqL.of (s' _ _ R5.at_)) (fun i y H6 H6' hi s8 hx6 yy Qy qy => ?_) (fun ys H6 s8 e8 hl8 hr8 => ?_)
        · obtain ⟨t, rfl, et⟩ := r
          obtain ⟨xs, hx⟩ := hx
          exact ⟨t, rfl, x _ _ (ne_of et hx (by intro z; cases z)) et⟩
        · obtain ⟨rfl, hx⟩ := yy
          obtain ⟨a, q, rfl, hq, ea⟩ := (R5.same s8).get hx
          have gq : rs.getD i pr0 = q := by rw [List.getD_eq_getElem?_getD, hq]; rfl
          refine ⟨a, _, rfl, SqT.of ea, rfl, _, _, rfl, _, _, rfl, rfl, rfl, ?_⟩
          refine ⟨_, rfl, _, _, rfl, rfl, _, rfl, _, _, rfl, rfl, by show 2 ≤ sizeLine; decide, fun t ht => ?_⟩
          refine qy _ _ (Same.new ht) ⟨t, rfl, ?_⟩
          rw [upd_same, gq]
          rfl
        · rw [List.length_map, usl] at hl8
          refine ⟨l0, D2, [.ref t0], ys, rfl, rfl, s8 _ _ el0, e8, by rw [sizeLine_eq]; simp only [List.length_cons, List.length_nil]; omega, fun lo hlo => ?_⟩
          let H7 := upd H6 lo (.lst ([.ref t0] ++ ys))
          have s9 : Same H6 H7 := Same.new hlo
          have s10 : Same H4 H7 := s7.trans (s8.trans s9)
          refine ⟨_, rfl, _, rfl, g, CG, dx, _, _, rfl, s10 _ _ e1, GT.cl, GT.nW, gm_w, tw, _, 0, _, rfl, rfl, SqT.of (s10 _ _ e2), rfl, _, rfl, hz1, ?_⟩
          refine ⟨_, rfl, g, CG, dx, _, _, rfl, s10 _ _ e1, GT.cl, GT.nW, gm_w, tw, _, 1, _, rfl, rfl, SqT.of (s10 _ _ e2), rfl, _, rfl, hz2, ?_⟩
          refine ⟨by show 2 ≤ sizeLine; decide, fun t1 ht1 => ⟨by show 1 ≤ sizeLine; decide, fun l1 hl1 => ?_⟩⟩
          let H8 := upd (upd H7 t1 (.tup [.int ((S v).length : Nat), .int ((S w).length : Nat)])) l1 (.lst [.ref t1])
          have s11 : Same H7 H8 := (Same.new ht1).trans (Same.new hl1)
          have et1 : H8 t1 = some (.tup [.int ((S v).length : Nat), .int ((S w).length : Nat)]) := (Same.new hl1) _ _ upd_same
          have R8 := R4.same (s10.trans s11)
          refine ⟨p, l1, us.map V.ref, [.ref t1], rfl, rfl, R8.at_, upd_same, by rw [List.length_map, usl, sizeLine_eq]; simp only [List.length_cons, List.length_nil]; omega, fun hA hhA => ?_⟩
          let H9 := upd H8 hA (.lst (us.map V.ref ++ [.ref t1]))
          have s12 : Same H8 H9 := Same.new hhA
          have R9 := R8.same s12
          have s13 : Same H H9 := s6.trans (s10.trans (s11.trans s12))
          have s14 : Same H4 H9 := s10.trans (s11.trans s12)
          have elo : H9 lo = some (.lst ([.ref t0] ++ ys)) := s12 _ _ (s11 _ _ upd_same)
          have ehA : H9 hA = some (.lst (us.map V.ref ++ [.ref t1])) := upd_same
          have fLo : ∀ i x, ([V.ref t0] ++ ys)[i]? = some x → ∃ t, x = .ref t ∧ H9 t = some (.tup [.int (((Lo rs).getD i pr0).1 : Nat), .int (((Lo rs).getD i pr0).2 : Nat)]) := fun i x hx => by
            cases i with
            | zero =>
              cases (Option.some.inj hx)
              exact ⟨t0, rfl, s12 _ _ (s11 _ _ (s9 _ _ (s8 _ _ et0)))⟩
            | succ j =>
              have hx : ys[j]? = some x := hx
              have hj : j < rs.length := by
                have := (List.getElem?_eq_some_iff.mp hx).1
                omega
              obtain ⟨t, rfl, et⟩ := hr8 j x hx
              refine ⟨t, rfl, ?_⟩
              rw [s12 _ _ (s11 _ _ (s9 _ _ et)), lo_at hj, getD_lt hj]
          have fHi : ∀ i x, (us.map V.ref ++ [V.ref t1])[i]? = some x → ∃ t, x = .ref t ∧ H9 t = some (.tup [.int (((hiL v w rs).getD i pr0).1 : Nat), .int (((hiL v w rs).getD i pr0).2 : Nat)]) := fun i x hx => by
            by_cases hi : i < rs.length
            · rw [List.getElem?_append_left (by rw [List.length_map, usl]; exact hi)] at hx
              obtain ⟨a, q, rfl, hq, ea⟩ := R9.get hx
              have : rs[i] = q := by
                rw [List.getElem?_eq_getElem hi] at hq
                exact Option.some.inj hq
              exact ⟨a, rfl, by rw [ea, hi_at hi, this]⟩
            · rw [List.getElem?_append_right (by rw [List.length_map, usl]; omega), List.length_map, usl] at hx
              have h0 : i - rs.length = 0 := by
                have := (List.getElem?_eq_some_iff.mp hx).1
                simpa using this
              rw [h0] at hx
              cases (Option.some.inj hx)
              obtain rfl : i = rs.length := by omega
              refine ⟨t1, rfl, ?_⟩
              rw [s12 _ _ et1, hi_end, SX.S_len, SX.S_len]
          have e1 := s14 _ _ e1
          have e2 := s14 _ _ e2
          have e3 := e3.same s14
          have ylen : ys.length = rs.length := hl8
          have hn2 : rs.length + 1 = min ([V.ref t0] ++ ys).length (us.map V.ref ++ [V.ref t1]).length := by
            rw [List.length_append, List.length_append, List.length_map, usl, ylen]
            simp only
              [List.length_cons, List.length_nil]
            omega
          refine ⟨_, rfl, _, rfl, lo, hA, [V.ref t0] ++ ys, us.map V.ref ++ [V.ref t1], rfl, SqL.of elo, SqL.of ehA, for_it (walk_zip (n := rs.length + 1) hn2)
            (fun i σ H' => ∃ za zb, σ = [some (.ref g), some (.ref m), some (.int (k2 : Nat)), some (.ref p), z4, z5, none, none, some (.ref lo), some (.ref hA), za, zb] ∧ Same H9 H' ∧
              ∀ j, j < i → keptB k2 (seg v ((Lo rs).getD j pr0).1 ((hiL v w rs).getD j pr0).1) (seg w ((Lo rs).getD j pr0).2 ((hiL v w rs).getD j pr0).2) = true)
            ⟨none, none, rfl, refl_same _, fun j h => absurd h (Nat.not_lt_zero _)⟩ (fun i σ H' _ q => ?_) ?_ ?_⟩
          · obtain ⟨_, _, _, s, _⟩ := q
            exact ⟨SqL.of (s _ _ elo), SqL.of (s _ _ ehA)⟩
          · rintro i x σ Ha Ha' hi ⟨za, zb, rfl, sA, hj⟩ ⟨t, x1, y1, rfl, ht, rfl, hx, hy⟩
            obtain ⟨ta, rfl, eta⟩ := fLo i x1 hx
            obtain ⟨tb, rfl, etb⟩ := fHi i y1 hy
            obtain ⟨q1, q2, q3, q4⟩ := gap_ok hrise hI2 hi
            have sN : Same Ha (upd Ha t (.tup [.ref ta, .ref tb])) := Same.new ht
            have sB := sA.trans sN
            have eta := sB _ _ eta
            have etb := sB _ _ etb
            obtain ⟨dxs, tws, tts, m1, m2, mv1, mv2, kss, eSd, _⟩ := (e3.same sB).ex
            refine ⟨t, _, rfl, SqT.of upd_same, rfl, _, _, rfl, _, _, rfl, rfl, ?_⟩
            refine ⟨_, rfl, g, CG, dx, _, _, rfl, sB _ _ e1, GT.cl, GT.nS, gm_s, sd, dxs, _, rfl, eSd, sd_no (by decide +kernel) (by decide +kernel), ?_⟩
            refine ⟨_, rfl, _, rfl, ta, _, 0, _, rfl, rfl, SqT.of eta, rfl, _, rfl, tb, _, 0, _, rfl, rfl, SqT.of etb, rfl, by show 2 ≤ sizeLine; decide, fun c1 hc1 => ?_⟩
            have sC := Same.new (o := .tup [.int (((Lo rs).getD i pr0).1 : Nat), .int (((hiL v w rs).getD i pr0).1 : Nat)]) hc1
            refine ⟨_, rfl, ta, _, 1, _, rfl, rfl, SqT.of (sC _ _ eta), rfl, _, rfl, tb, _, 1, _, rfl, rfl, SqT.of (sC _ _ etb), rfl, by show 2 ≤ sizeLine; decide, fun c2 hc2 => ?_⟩
            have sD := Same.new (o := .tup [.int (((Lo rs).getD i pr0).2 : Nat), .int (((hiL v w rs).getD i pr0).2 : Nat)]) hc2
            dsimp only [tNil]
            refine ⟨sd, c1, c2, v, w, k, k2, _, _, _, _, rfl, e3.same (sB.trans (sC.trans sD)), hk2, sD _ _ upd_same, upd_same, q1, q2, q3, q4, fun HB sE => ⟨_, rfl, ?_⟩⟩
            have sF := sB.trans (sC.trans (sD.trans sE))
            refine iteB (fun h => ?_) (fun h => ?_)
            · have e : gapB k2 v w rs = false := all_not (i := i) (x := i) (by simp [hi]) (by simpa using h)
              rw [e] at kq
              exact kq _ (s13.trans sF)
            · refine ⟨_, _, rfl, sF, fun j hjl => ?_⟩
              by_cases ej : j = i
              · subst ej
                simpa using h
              · exact hj j (by omega)
          · rintro σ Ha ⟨za, zb, rfl, sA, hj⟩
            have e : gapB k2 v w rs = true := all_upto fun i x hi hx => by
              have hi : i < rs.length + 1 := by simpa using hi
              obtain rfl : i = x := by
                have := hx
                rw [List.getElem?_range hi] at this
                exact Option.some.inj this
              exact hj i hi
            rw [e] at kq
            exact kq _ (s13.trans sA)
end
end Ws

/-! the program's game: answers, who wins, the best marks -/
namespace Ws
open PySem PySem.Spec PyProof.Rows L2
def cpl (i x y : Nat) : Nat × Nat := if i = 0 then (x, y) else (y, x)
def wd (v w : List Nat) (i : Nat) : List Nat := if i = 0 then v else w
/-- the keeper's first good place -/
def ansO (v w : List Nat) (k : Nat) (ms : List (Nat × Nat)) (i x : Nat) : Option Nat := (List.range (wd v w (1 - i)).length).find? fun y => winsB v w k (ms ++ [cpl i x y])
def optV : Option Nat → V
  | none => .non
  | some y => .int y
theorem MarksAt.cat {H : Hp} {d p t : Addr} {ts : List Addr} {ms : List (Nat × Nat)} {q : Nat × Nat} (M : MarksAt H d ts ms) (et : H t = some (.tup [.int q.1, .int q.2])) (ep : H p = some (.lst (ts.map V.ref ++ [.ref t]))) : MarksAt H p (ts ++ [t]) (ms ++ [q]) := by
  refine ⟨by rw [ep, List.map_append]; rfl, by simp [M.len], fun i a z ha hz => ?_⟩
  by_cases hi : i < ts.length
  · rw [List.getElem?_append_left hi] at ha
    rw [List.getElem?_append_left (by rw [← M.len]; exact hi)] at hz
    exact M.tup i a z ha hz
  · have e1 : i = ts.length := by
      have := (List.getElem?_eq_some_iff.mp ha).1
      simp at this
      omega
    subst e1
    rw [List.getElem?_append_right (Nat.le_refl _)] at ha
    rw [List.getElem?_append_right (by rw [M.len]; exact Nat.le_refl _)] at hz
    simp at ha
    simp [M.len] at hz
    subst ha hz
    exact et
theorem inb_cpl {v w : List Nat} {ms : List (Nat × Nat)} {i x y : Nat} (hI : Inb v w ms) (hx : x < (wd v w i).length) (hy : y < (wd v w (1 - i)).length) (hi : i ≤ 1) : Inb v w (ms ++ [cpl i x y]) := by
  intro p hp
  rcases
    List.mem_append.mp hp with h | h
  · exact hI p h
  · obtain rfl := List.mem_singleton.mp h
    rcases (show i = 0 ∨ i = 1 by omega) with rfl | rfl
    · exact ⟨hx, hy⟩
    · exact ⟨hy, hx⟩
theorem wd_at {v w : List Nat} {i : Nat} (hi : i ≤ 1) : atI ([.str (S v), .str (S w)] : List V) (i : Nat) = some (.str (S (wd v w i))) := by
  rcases (show i = 0 ∨ i = 1 by omega) with rfl | rfl <;> rfl
theorem wd_at1 {v w : List Nat} {i : Nat} (hi : i ≤ 1) : atI ([.str (S v), .str (S w)] : List V) (1 - (i : Nat)) = some (.str (S (wd v w (1 - i)))) := by
  rcases (show i = 0 ∨ i = 1 by omega) with rfl | rfl <;> rfl
theorem wd_len {v w : List Nat} {i : Nat} (hv : v.length ≤ 60) (hw : w.length ≤ 60) : (wd v w i).length ≤ 60 := by
  unfold wd
  split
  · exact hv
  · exact hw
/-- the program's game in play -/
structure Play (CG CS : Addr) (H : Hp) (g : Addr) (v w : List Nat) (k : Nat) (rs : List (Nat × (Nat × Nat))) (op : List (Nat × Nat)) : Prop where
  at_ : ∃ ml as, GmAt CG CS H g ml v w k as (rawOf rs op)
  inb : Inb v w (rs.map (·.2))
  opn : op.length ≤ 1
  opi : ∀ q ∈ op, q.1 ≤ 1 ∧ q.2 < (wd v w q.1).length
  hv : v.length ≤ 60
  hw : w.length ≤ 60
  hk : rs.length + op.length ≤ k
  hk2 : k ≤ 50
theorem Play.same {CG CS : Addr} {H H' : Hp} {g : Addr} {v w : List Nat} {k : Nat} {rs : List (Nat × (Nat × Nat))} {op : List (Nat × Nat)} (p : Play CG CS H g v w k rs op) (s : L2.Same H H') : Play CG CS H' g v w k rs op := by
  obtain ⟨ml, as, G⟩ := p.at_
  exact ⟨⟨ml, as, G.same s⟩, p.inb, p.opn, p.opi, p.hv, p.hw, p.hk, p.hk2⟩
def spAn (CG CS : Addr) : Sp := fun vs H Q _ => ∃ (g : Addr) (v w : List Nat) (k : Nat) (rs : List (Nat × (Nat × Nat))) (op : List (Nat × Nat)) (i x l : Nat), vs = [.ref g, .int i, .int x, .int l] ∧ Play CG CS H g v w k rs op ∧ i ≤ 1 ∧ x < (wd v w i).length ∧ l ≤ k ∧
  ∀ H', Same H H' → Q (optV (ansO v w l (rs.map (·.2)) i x)) H'
section
variable {P : Program} {W0 : World} {K : PySem.W.Frag} {mg : Str → Option Value} {base : Heap} {f CG CS : Addr} {fd : FuncData}
abbrev s_An : Stmt := (inClass (top 23) 10)
abbrev N_An : List Str := ["self", "which", "place", "left", "other"]
theorem sc_An : FnScope N_An ["self", "which", "place", "left"] (defScope s_An) := ⟨rfl, rfl, rfl, by decide +kernel, rfl, by decide +kernel, by decide +kernel⟩
theorem ok_An (T : Bl mg) (GT : GmT K mg CG) (c_mm : MCal P W0 K mg base CG "marks_made" 1 (spMM CG CS)) (c_cp : MCal P W0 K mg base CG "_couple" 1 spCpl) (c_kp : MCal P W0 K mg base CG "_kept" 2 (spKp CG CS)) (F : L2.Fun K "_answer" "Game._answer" s_An f fd) :
    FnOk P W0 K mg base CX0 3 f fd ["self", "which", "place", "left"] (spAn CG CS) := by
  refine F.ok sc_An (fun vs H Q E h => ?_) (fun cdv A outer s H vs Q E hr h => ?_)
  · obtain ⟨g, v, w, k, rs, op, i, x, l, rfl, _⟩ := h
    rfl
  · obtain ⟨g, v, w, k, rs, op, i, x, l, rfl, PL, hi, hx, hl, kq⟩ := h
    have nd := sc_An.nd
    refine ⟨_, (pss_cons (ps_for PassesOwn.never rfl (pi_range1 (by rfl) T.range (pa_cons (pe_callB call_len_str (by rfl) T.len PySem.boot_len (pa_cons (pe_ix ix_tup (pe_fld (pv 0) rfl) (pe_op op_sub pe_int (pv 1)) (fun _ _ => rfl)) pa_nil)) pa_nil)) (pg_name (i := 4) nd rfl (.inl rfl))
      (pss_one (ps_if (pt_val (pe_m c_kp GT.cl hr (by decide) (pv 0) (pa_cons (pe_op op_cat (pe_m0 c_mm GT.cl hr (by decide) (pv 0)) (pe_lst (pa_cons (pe_m c_cp GT.cl hr (by decide) (pv 0) (pa_cons (pv 1) (pa_cons (pv 2) (pa_cons (pv 4) pa_nil)))) pa_nil))) (pa_cons (pv 3) pa_nil))))
      (pss_one (ps_ret (pv 4)))
      pss_nil)))
      (pss_one (ps_ret pe_non))), ?_⟩
    obtain ⟨ml, as, G⟩ := PL.at_
    obtain ⟨dx, tw, sd, e1, e2, e3⟩ := G.ex
    have wl := wd_len (i := 1 - i) PL.hv PL.hw
    have hz : (S (wd v w (1 - i))).length ≤ sizeLine := S_le (by omega)
    have nl : ((((S (wd v w (1 - i))).length : Nat) : Int)).toNat = (wd v w (1 - i)).length := by rw [SX.S_len]; omega
    refine ⟨_, rfl, g, CG, dx, _, _, rfl, e1, GT.cl, GT.nW, gm_w, _, rfl, _, _, rfl, rfl, tw, _, _, _, rfl, rfl, SqT.of e2, wd_at1 hi, _, rfl, hz, _, rfl, by rw [SX.S_len]; omega, by rw [SX.S_len]; omega, ?_⟩
    rw [nl]
    refine for_range (lo := 0) (n := (wd v w (1 - i)).length) (fun j σ H' => ∃ z4, σ = [some (.ref g), some (.int (i : Nat)), some (.int (x : Nat)), some (.int (l : Nat)), z4] ∧ Same H H' ∧ ∀ y, y < j → winsB v w l (rs.map (·.2) ++ [cpl i x y]) = false)
      ⟨none, rfl, refl_same _, fun y h => absurd h (Nat.not_lt_zero _)⟩ ?_ ?_
    · rintro y σ H1 hy ⟨z4, rfl, s1, hall⟩
      rw [show (0 : Int) + (y : Int) = ((y : Nat) : Int) from Int.zero_add _]
      have gno : List.lookup ("_kept" : Str) (gmF k tw sd ml) = none := gm_no (by decide +kernel) (by decide +kernel) (by decide +kernel) (by decide +kernel)
      have gno2 : List.lookup ("marks_made" : Str) (gmF k tw sd ml) = none := gm_no (by decide +kernel) (by decide +kernel) (by decide +kernel) (by decide +kernel)
      have gno3 : List.lookup ("_couple" : Str) (gmF k tw sd ml) = none := gm_no (by decide +kernel) (by decide +kernel) (by decide +kernel) (by decide +kernel)
      refine ⟨_, rfl, g, dx, _, rfl, s1 _ _ e1, gno, _, rfl, g, dx, _, rfl, s1 _ _ e1, gno2, ?_⟩
      dsimp only [tNil]
      have hrk := PL.hk
      have hk2 := PL.hk2
      refine ⟨g, ml, v, w, k, as, rs, op, rfl, G.same s1, by omega, PL.opn, fun d ts H2 s2 hd M => ?_⟩
      have s3 := s1.trans s2
      refine ⟨_, rfl, g, dx, _, rfl, s3 _ _ e1, gno3, _, rfl, _, rfl, _, rfl, ?_⟩
      dsimp only [tNil]
      refine ⟨.ref g, i, x, y, rfl, fun t H3 s4 et ht => ⟨by show 1 ≤ sizeLine; decide, fun la hla => ?_⟩⟩
      have s5 := Same.new (o := .lst [.ref t]) hla
      have M5 := M.same (s4.trans s5)
      refine ⟨d, la, ts.map V.ref, [.ref t], rfl, rfl, M5.at_, upd_same, by rw [List.length_map, M.len, List.length_map, sizeLine_eq]; simp only [List.length_cons, List.length_nil]; omega, fun p hp => ?_⟩
      have s6 := Same.new (o := .lst (ts.map V.ref ++ [.ref t])) hp
      refine ⟨_, rfl, ?_⟩
      dsimp only [tNil]
      have sG := s3.trans (s4.trans (s5.trans s6))
      have et2 : (upd (upd H3 la (.lst [.ref t])) p (.lst (ts.map V.ref ++ [.ref t]))) t = some (.tup [.int (cpl i x y).1, .int (cpl i x y).2]) := by
        rw [s6 _ _ (s5 _ _ et)]
        unfold cpl
        split <;> rfl
      refine ⟨g, ml, p, v, w, k, l, as, ts ++ [t], rawOf rs op, rs.map (·.2) ++ [cpl i x y], rfl, G.same sG, hl, (M5.same s6).cat et2 upd_same, inb_cpl PL.inb hx hy hi, by rw [List.length_append, List.length_map]; simp only [List.length_cons, List.length_nil]; omega, PL.hv, PL.hw, fun H7 s7 => ⟨_, rfl, ?_⟩⟩
      refine iteB (fun h => ?_) (fun h => ?_)
      · have e : ansO v w l (rs.map (·.2)) i x = some y := by
          refine List.find?_range_eq_some.mpr ⟨h, List.mem_range.mpr hy, fun j hj => ?_⟩
          rw [hall j hj]
          rfl
        rw [e] at kq
        exact ⟨_, rfl, kq _ (sG.trans s7)⟩
      · refine ⟨_, rfl, sG.trans s7, fun y2 hy2 => ?_⟩
        by_cases ej : y2 = y
        · subst ej
          simpa using h
        · exact hall y2 (by omega)
    · rintro σ H1 ⟨z4, rfl, s1, hall⟩
      have e : ansO v w l (rs.map (·.2)) i x = none := List.find?_eq_none.mpr fun y hy => by
        rw [hall y (List.mem_range.mp hy)]
        decide
      rw [e] at kq
      exact kq _ s1
theorem raw_open {rs : List (Nat × (Nat × Nat))} {op : List (Nat × Nat)} (h : op.length ≤ 1) : ((rawOf rs op).length % 2 = 1 ↔ op ≠ []) ∧ ((rawOf rs op).length + 1) / 2 = rs.length + op.length := by
  rw [raw_len]
  cases op with
  | nil => simp; omega
  | cons q op =>
    have : op.length = 0 := by simpa using h
    simp only [List.length_cons, this, ne_eq, reduceCtorEq, not_false_eq_true, iff_true]
    omega
def spPl (CG CS : Addr) (r : List Nat → List Nat → Nat → List (Nat × (Nat × Nat)) → List (Nat × Nat) → V) : Sp := fun vs H Q _ => ∃ (g : Addr) (v w : List Nat) (k : Nat) (rs : List (Nat × (Nat × Nat))) (op : List (Nat × Nat)), vs = [.ref g] ∧ Play CG CS H g v w k rs op ∧
  ∀ H', Same H H' → Q (r v w k rs op) H'
def bbV (v w : List Nat) (k : Nat) (rs : List (Nat × (Nat × Nat))) : List (Nat × Nat) → V
  | [] => .non
  | q :: _ => optV (ansO v w (k - rs.length - 1) (rs.map (·.2)) q.1 q.2)
abbrev s_BB : Stmt := (inClass (top 23) 13)
abbrev N_BB : List Str := ["self", "which", "place"]
theorem sc_BB : FnScope N_BB ["self"] (defScope s_BB) := ⟨rfl, rfl, rfl, by decide +kernel, rfl, by decide +kernel, by decide +kernel⟩
theorem ok_BB (T : Bl mg) (GT : GmT K mg CG) (c_op : MCal P W0 K mg base CG "_is_open" 1 (spBeg CG CS fun _ n => .bl (decide (n % 2 = 1)))) (c_rl : MCal P W0 K mg base CG "rounds_left" 2 (spBeg CG CS fun k n => .int ((k : Int) - (((n + 1) / 2 : Nat) : Int))))
    (c_an : MCal P W0 K mg base CG "_answer" 3 (spAn CG CS)) (F : L2.Fun K "best_back" "Game.best_back" s_BB f fd) : FnOk P W0 K mg base CX0 4 f fd ["self"] (spPl CG CS fun v w k rs op => bbV v w k rs op) := by
  refine F.ok sc_BB (fun vs H Q E h => ?_) (fun cdv A outer s H vs Q E hr h => ?_)
  · obtain ⟨g, v, w, k, rs, op, rfl, _⟩ := h
    rfl
  · obtain ⟨g, v, w, k, rs, op, rfl, PL, kq⟩ := h
    have nd := sc_BB.nd
    refine ⟨_, (pss_cons (ps_if (pt_not (pt_val (pe_m0 c_op GT.cl hr (by decide) (pv 0))))
      (pss_one (ps_ret pe_non))
      pss_nil)
      (pss_cons (ps_asg (pe_ix ix_list (pe_fld (pv 0) rfl) (pe_un un_neg pe_int) (fun _ _ => rfl)) (pg_tup (n := 2) rfl (pgs_cons (pg_name (i := 1) nd rfl (.inl rfl)) (pgs_cons (pg_name (i := 2) nd rfl (.inl rfl)) pgs_nil))))
      (pss_one (ps_ret (pe_m c_an GT.cl hr (by decide) (pv 0) (pa_cons (pv 1) (pa_cons (pv 2) (pa_cons (pe_m0 c_rl GT.cl hr (by decide) (pv 0)) pa_nil)))))))), ?_⟩
    obtain ⟨ml, as, G⟩ := PL.at_
    obtain ⟨dx, tw, sd, e1, e2, e3⟩ := G.ex
    have gno : List.lookup ("_is_open" : Str) (gmF k tw sd ml) = none := gm_no (by decide +kernel) (by decide +kernel) (by decide +kernel) (by decide +kernel)
    have gno2 : List.lookup ("_answer" : Str) (gmF k tw sd ml) = none := gm_no (by decide +kernel) (by decide +kernel) (by decide +kernel) (by decide +kernel)
    have gno3 : List.lookup ("rounds_left" : Str) (gmF k tw sd ml) = none := gm_no (by decide +kernel) (by decide +kernel) (by decide +kernel) (by decide +kernel)
    obtain ⟨o1, o2⟩ := raw_open (rs := rs) PL.opn
    have hk := PL.hk
    have hk2 := PL.hk2
    have hop := PL.opn
    have hrl : (rawOf rs op).length ≤ 1000 := by rw [raw_len]; omega
    refine ⟨_, rfl, g, dx, _, rfl, e1, gno, ?_⟩
    dsimp only [tNil]
    refine ⟨g, ml, v, w, k, as, rawOf rs op, rfl, G, hrl, _, rfl, ?_⟩
    refine iteB (fun h => ?_) (fun h => ?_)
    · have hn : op = [] := by
        by_cases hn : op = []
        · exact hn
        · rw [decide_eq_true (o1.mpr hn)] at h
          cases h
      subst hn
      exact kq _ (refl_same _)
    · have hn : op ≠ [] := fun hn => by
        have : ¬ (rawOf rs op).length % 2 = 1 := fun z => (o1.mp z) hn
        rw [decide_eq_false this] at h
        cases h
      obtain ⟨q, rfl⟩ : ∃ q, op = [q] := by
        cases op with
        | nil => exact absurd rfl hn
        | cons q op =>
          cases op with
          | nil => exact ⟨q, rfl⟩
          | cons _ _ => simp at hop
      obtain ⟨b1, b2⟩ := PL.opi q (List.mem_singleton.mpr rfl)
      have hrk : rs.length + 1 ≤ k := hk
      have hlast : (rawOf rs [q])[2 * rs.length]? = some q := by
        have e : (rs.flatMap pr1).length = 2 * rs.length := by
          have := raw_len (rs := rs) (op := [])
          unfold rawOf at this
          rw [List.append_nil] at this
          simpa using this
        unfold rawOf
        rw [List.getElem?_append_right (by omega), e, Nat.sub_self]
        rfl
      have hal : as.length = 2 * rs.length + 1 := by rw [G.mks.len, raw_len]; rfl
      obtain ⟨a, ea⟩ : ∃ a, as[2 * rs.length]? = some a := ⟨_, List.getElem?_eq_getElem (by omega)⟩
      have eat := G.mks.tup _ _ _ ea hlast
      have hneg : atI (as.map V.ref) (-1) = some (.ref a) := by
        have e : (as.map V.ref)[2 * rs.length]? = some (V.ref a) := by rw [List.getElem?_map, ea]; rfl
        have ei : ixN (as.map V.ref).length (-1) = some (2 * rs.length) := by
          rw [List.length_map, hal]
          unfold ixN
          rw [if_neg (by decide), if_pos (by omega)]
          congr 1
          omega
        unfold atI
        rw [ei]
        exact e
      refine ⟨_, rfl, g, CG, dx, _, _, rfl, e1, GT.cl, GT.nM, gm_m, _, rfl, ml, _, _, _, rfl, rfl, SqL.of G.mks.at_, hneg, ?_⟩
      refine ⟨a, _, rfl, SqT.of eat, rfl, _, _, rfl, _, _, rfl, rfl, ?_⟩
      refine ⟨_, rfl, g, dx, _, rfl, e1, gno2, _, rfl, _, rfl, _, rfl, g, dx, _, rfl, e1, gno3, ?_⟩
      dsimp only [tNil]
      refine ⟨g, ml, v, w, k, as, rawOf rs [q], rfl, G, hrl, ?_⟩
      have el : ((k : Int) - ((((rawOf rs [q]).length + 1) / 2 : Nat) : Int)) = ((k - rs.length - 1 : Nat) : Int) := by
        rw [o2]
        simp only
          [List.length_cons, List.length_nil]
        omega
      show spAn CG CS [V.ref g, V.int (q.1 : Nat), V.int (q.2 : Nat), V.int ((k : Int) - ((((rawOf rs [q]).length + 1) / 2 : Nat) : Int))] H Q E0
      rw [el]
      exact ⟨g, v, w, k, rs, [q], q.1, q.2, k - rs.length - 1, rfl, PL, b1, b2, by omega, fun H' s => kq _ s⟩
theorem last_mark {H : Hp} {ml : Addr} {as : List Addr} {rs : List (Nat × (Nat × Nat))} {q : Nat × Nat} (M : MarksAt H ml as (rawOf rs [q])) : ∃ a, atI (as.map V.ref) (-1) = some (.ref a) ∧ H a = some (.tup [.int q.1, .int q.2]) := by
  have hlast : (rawOf rs [q])[2 * rs.length]? = some q := by
    have e : (rs.flatMap pr1).length = 2 * rs.length := by
      have := raw_len (rs := rs) (op := [])
      unfold rawOf at this
      rw [List.append_nil] at this
      simpa using this
    unfold rawOf
    rw [List.getElem?_append_right (by omega), e, Nat.sub_self]
    rfl
  have hal : as.length = 2 * rs.length + 1 := by rw [M.len, raw_len]; rfl
  obtain ⟨a, ea⟩ : ∃ a, as[2 * rs.length]? = some a := ⟨_, List.getElem?_eq_getElem (by omega)⟩
  refine ⟨a, ?_, M.tup _ _ _ ea hlast⟩
  have e : (as.map V.ref)[2 * rs.length]? = some (V.ref a) := by rw [List.getElem?_map, ea]; rfl
  have ei : ixN (as.map V.ref).length (-1) = some (2 * rs.length) := by
    rw [List.length_map, hal]
    unfold ixN
    rw [if_neg (by decide), if_pos (by omega)]
    congr 1
    omega
  unfold atI
  rw [ei]
  exact e
def keepB (v w : List Nat) (k : Nat) (rs : List (Nat × (Nat × Nat))) : List (Nat × Nat) → Bool
  | [] => winsB v w (k - rs.length) (rs.map (·.2))
  | q :: _ => (ansO v w (k - rs.length - 1) (rs.map (·.2)) q.1 q.2).isSome
def whoV (b : Bool) : V := if b = true then .str "keeper" else .str "parter"
abbrev s_WW : Stmt := (inClass (top 23) 11)
abbrev N_WW : List Str := ["self", "which", "place"]
theorem sc_WW : FnScope N_WW ["self"] (defScope s_WW) := ⟨rfl, rfl, rfl, by decide +kernel, rfl, by decide +kernel, by decide +kernel⟩
theorem ok_WW (T : Bl mg) (GT : GmT K mg CG) (c_op : MCal P W0 K mg base CG "_is_open" 1 (spBeg CG CS fun _ n => .bl (decide (n % 2 = 1)))) (c_rl : MCal P W0 K mg base CG "rounds_left" 2 (spBeg CG CS fun k n => .int ((k : Int) - (((n + 1) / 2 : Nat) : Int))))
    (c_an : MCal P W0 K mg base CG "_answer" 3 (spAn CG CS)) (c_mm : MCal P W0 K mg base CG "marks_made" 1 (spMM CG CS)) (c_kp : MCal P W0 K mg base CG "_kept" 2 (spKp CG CS)) (F : L2.Fun K "who_wins" "Game.who_wins" s_WW f fd) :
    FnOk P W0 K mg base CX0 4 f fd ["self"] (spPl CG CS fun v w k rs op => whoV (keepB v w k rs op)) := by
  refine F.ok sc_WW (fun vs H Q E h => ?_) (fun cdv A outer s H vs Q E hr h => ?_)
  · obtain ⟨g, v, w, k, rs, op, rfl, _⟩ := h
    rfl
  · obtain ⟨g, v, w, k, rs, op, rfl, PL, kq⟩ := h
    have nd := sc_WW.nd
    refine ⟨_, (pss_cons (ps_if (pt_val (pe_m0 c_op GT.cl hr (by decide) (pv 0)))
      (pss_cons (ps_asg (pe_ix ix_list (pe_fld (pv 0) rfl) (pe_un un_neg pe_int) (fun _ _ => rfl)) (pg_tup (n := 2) rfl (pgs_cons (pg_name (i := 1) nd rfl (.inl rfl)) (pgs_cons (pg_name (i := 2) nd rfl (.inl rfl)) pgs_nil))))
      (pss_one (ps_ret (pe_ifExp (pt_cmpR op_isN (pe_m c_an GT.cl hr (by decide) (pv 0) (pa_cons (pv 1) (pa_cons (pv 2) (pa_cons (pe_m0 c_rl GT.cl hr (by decide) (pv 0)) pa_nil)))) pe_non (nomark _)) pe_str pe_str))))
      pss_nil)
      (pss_one (ps_ret (pe_ifExp (pt_val (pe_m c_kp GT.cl hr (by decide) (pv 0) (pa_cons (pe_m0 c_mm GT.cl hr (by decide) (pv 0)) (pa_cons (pe_m0 c_rl GT.cl hr (by decide) (pv 0)) pa_nil)))) pe_str pe_str)))), ?_⟩
    obtain ⟨ml, as, G⟩ := PL.at_
    obtain ⟨dx, tw, sd, e1, e2, e3⟩ := G.ex
    have gno : List.lookup ("_is_open" : Str) (gmF k tw sd ml) = none := gm_no (by decide +kernel) (by decide +kernel) (by decide +kernel) (by decide +kernel)
    have gno2 : List.lookup ("_answer" : Str) (gmF k tw sd ml) = none := gm_no (by decide +kernel) (by decide +kernel) (by decide +kernel) (by decide +kernel)
    have gno3 : List.lookup ("rounds_left" : Str) (gmF k tw sd ml) = none := gm_no (by decide +kernel) (by decide +kernel) (by decide +kernel) (by decide +kernel)
    obtain ⟨o1, o2⟩ := raw_open (rs := rs) PL.opn
    have hk := PL.hk
    have hk2 := PL.hk2
    have hop := PL.opn
    have hrl : (rawOf rs op).length ≤ 1000 := by rw [raw_len]; omega
    refine ⟨_, rfl, g, dx, _, rfl, e1, gno, ?_⟩
    dsimp only [tNil]
    refine ⟨g, ml, v, w, k, as, rawOf rs op, rfl, G, hrl, _, rfl, ?_⟩
    refine iteB (fun h => ?_) (fun h => ?_)
    · have hn : op ≠ [] := fun hn => by
        have : ¬ (rawOf rs op).length % 2 = 1 := fun z => (o1.mp z) hn
        rw [decide_eq_false this] at h
        cases h
      obtain ⟨q, rfl⟩ : ∃ q, op = [q] := by
        cases op with
        | nil => exact absurd rfl hn
        | cons q op =>
          cases op with
          | nil => exact ⟨q, rfl⟩
          | cons _ _ => simp at hop
      obtain ⟨b1, b2⟩ := PL.opi q (List.mem_singleton.mpr rfl)
      have hrk : rs.length + 1 ≤ k := hk
      obtain ⟨a, hneg, eat⟩ := last_mark G.mks
      refine ⟨_, rfl, g, CG, dx, _, _, rfl, e1, GT.cl, GT.nM, gm_m, _, rfl, ml, _, _, _, rfl, rfl, SqL.of G.mks.at_, hneg, ?_⟩
      refine ⟨a, _, rfl, SqT.of eat, rfl, _, _, rfl, _, _, rfl, rfl, ?_⟩
      refine ⟨_, rfl, g, dx, _, rfl, e1, gno2, _, rfl, _, rfl, _, rfl, g, dx, _, rfl, e1, gno3, ?_⟩
      dsimp only [tNil]
      refine ⟨g, ml, v, w, k, as, rawOf rs [q], rfl, G, hrl, ?_⟩
      have el : ((k : Int) - ((((rawOf rs [q]).length + 1) / 2 : Nat) : Int)) = ((k - rs.length - 1 : Nat) : Int) := by
        rw [o2]
        simp only
          [List.length_cons, List.length_nil]
        omega
      refine ⟨g, v, w, k, rs, [q], q.1, q.2, k - rs.length - 1, by show [V.ref g, V.int (q.1 : Nat), V.int (q.2 : Nat), V.int ((k : Int) - ((((rawOf rs [q]).length + 1) / 2 : Nat) : Int))] = _; rw [el], PL, b1, b2, by omega, fun H' s => ?_⟩
      have kq' : Q (whoV (ansO v w (k - rs.length - 1) (rs.map (·.2)) q.1 q.2).isSome) H' := kq H' s
      cases ho : ansO v w (k - rs.length - 1) (rs.map (·.2)) q.1 q.2 with
      | none =>
        rw [ho] at kq'
        exact ⟨rfl, _, rfl, iteV (fun _ => kq') (fun z => absurd rfl z)⟩
      | some y =>
        rw [ho] at kq'
        exact ⟨rfl, _, rfl, iteV (fun z => nomatch z) (fun _ => kq')⟩
    · have hn : op = [] := by
        by_cases hn : op = []
        · exact hn
        · rw [decide_eq_true (o1.mpr hn)] at h
          cases h
      subst hn
      have gno4 : List.lookup ("_kept" : Str) (gmF k tw sd ml) = none := gm_no (by decide +kernel) (by decide +kernel) (by decide +kernel) (by decide +kernel)
      have gno5 : List.lookup ("marks_made" : Str) (gmF k tw sd ml) = none := gm_no (by decide +kernel) (by decide +kernel) (by decide +kernel) (by decide +kernel)
      have hrk : rs.length + 0 ≤ k := hk
      refine ⟨_, rfl, g, dx, _, rfl, e1, gno4, _, rfl, g, dx, _, rfl, e1, gno5, ?_⟩
      dsimp only [tNil]
      refine ⟨g, ml, v, w, k, as, rs, [], rfl, G, by omega, by simp, fun d ts H2 s2 hd M => ?_⟩
      refine ⟨_, rfl, g, dx, _, rfl, s2 _ _ e1, gno3, ?_⟩
      dsimp only [tNil]
      refine ⟨g, ml, v, w, k, as, rawOf rs [], rfl, G.same s2, hrl, ?_⟩
      have el : ((k : Int) - ((((rawOf rs []).length + 1) / 2 : Nat) : Int)) = ((k - rs.length : Nat) : Int) := by
        rw [o2]
        simp only [List.length_nil]
        omega
      refine ⟨g, ml, d, v, w, k, k - rs.length, as, ts, rawOf rs [], rs.map (·.2), by show [V.ref g, V.ref d, V.int ((k : Int) - ((((rawOf rs []).length + 1) / 2 : Nat) : Int))] = _; rw [el], G.same s2, by omega, M, PL.inb, by rw [List.length_map]; omega, PL.hv, PL.hw, fun H3 s3 => ⟨_, rfl, ?_⟩⟩
      have kq' : Q (whoV (winsB v w (k - rs.length) (rs.map (·.2)))) H3 := kq H3 (s2.trans s3)
      refine iteB (fun h => ?_) (fun h => ?_)
      · rw [h] at kq'
        exact kq'
      · rw [h] at kq'
        exact kq'
end
end Ws

/-! the program's game: best_first -/
namespace Ws
open PySem PySem.Spec PyProof.Rows L2
/-- the first place of the word i without an answer -/
def firO (v w : List Nat) (l : Nat) (ms : List (Nat × Nat)) (i : Nat) : Option Nat := (List.range (wd v w i).length).find? fun x => (ansO v w l ms i x).isNone
def bfO (v w : List Nat) (k : Nat) (rs : List (Nat × (Nat × Nat))) (op : List (Nat × Nat)) : Option (Nat × Nat) :=
  if op ≠ [] ∨ k ≤ rs.length then none else
    match firO v w (k - rs.length - 1) (rs.map (·.2)) 0 with
    | some x => some (0, x)
    | none => (firO v w (k - rs.length - 1) (rs.map (·.2)) 1).map fun x => (1, x)
def spBF (CG CS : Addr) : Sp := fun vs H Q _ => ∃ (g : Addr) (v w : List Nat) (k : Nat) (rs : List (Nat × (Nat × Nat))) (op : List (Nat × Nat)), vs = [.ref g] ∧ Play CG CS H g v w k rs op ∧
  (bfO v w k rs op = none → ∀ H', Same H H' → Q .non H') ∧ ∀ q, bfO v w k rs op = some q → ∀ t H', Same H H' → H' t = some (.tup [.int q.1, .int q.2]) → Q (.ref t) H'
section
variable {P : Program} {W0 : World} {K : PySem.W.Frag} {mg : Str → Option Value} {base : Heap} {f CG CS : Addr} {fd : FuncData}
abbrev s_BF : Stmt := (inClass (top 23) 12)
abbrev N_BF : List Str := ["self", "left", "which", "place"]
theorem sc_BF : FnScope N_BF ["self"] (defScope s_BF) := ⟨rfl, rfl, rfl, by decide +kernel, rfl, by decide +kernel, by decide +kernel⟩
theorem ok_BF (T : Bl mg) (GT : GmT K mg CG) (c_op : MCal P W0 K mg base CG "_is_open" 1 (spBeg CG CS fun _ n => .bl (decide (n % 2 = 1)))) (c_rl : MCal P W0 K mg base CG "rounds_left" 2 (spBeg CG CS fun k n => .int ((k : Int) - (((n + 1) / 2 : Nat) : Int))))
    (c_an : MCal P W0 K mg base CG "_answer" 3 (spAn CG CS)) (F : L2.Fun K "best_first" "Game.best_first" s_BF f fd) : FnOk P W0 K mg base CX0 4 f fd ["self"] (spBF CG CS) := by
  refine F.ok sc_BF (fun vs H Q E h => ?_) (fun cdv A outer s H vs Q E hr h => ?_)
  · obtain ⟨g, v, w, k, rs, op, rfl, _⟩ := h
    rfl
  · obtain ⟨g, v, w, k, rs, op, rfl, PL, kn, ks⟩ := h
    have nd := sc_BF.nd
    refine ⟨_, (pss_cons (ps_set (i := 1) nd rfl (.inl rfl) (pe_op op_sub (pe_m0 c_rl GT.cl hr (by decide) (pv 0)) pe_int))
      (pss_cons (ps_if (PW.pt (pw_or (pt_val (pe_m0 c_op GT.cl hr (by decide) (pv 0))) (pw_or1 (pt_cmpR op_lt (pv 1) pe_int (nomark _)))))
      (pss_one (ps_ret pe_non))
      pss_nil)
      (pss_cons (ps_for PassesOwn.never rfl (pi_tup (pe_tup (pa_cons pe_int (pa_cons pe_int pa_nil)))) (pg_name (i := 2) nd rfl (.inl rfl))
      (pss_one (ps_for PassesOwn.never rfl (pi_range1 (by rfl) T.range (pa_cons (pe_callB call_len_str (by rfl) T.len PySem.boot_len (pa_cons (pe_ix ix_tup (pe_fld (pv 0) rfl) (pv 2) (fun _ _ => rfl)) pa_nil)) pa_nil)) (pg_name (i := 3) nd rfl (.inl rfl))
      (pss_one (ps_if (pt_cmpR op_isN (pe_m c_an GT.cl hr (by decide) (pv 0) (pa_cons (pv 2) (pa_cons (pv 3) (pa_cons (pv 1) pa_nil)))) pe_non (nomark _))
      (pss_one (ps_ret (pe_tup (pa_cons (pv 2) (pa_cons (pv 3) pa_nil)))))
      pss_nil)))))
      (pss_one (ps_ret pe_non))))), ?_⟩
    obtain ⟨ml, as, G⟩ := PL.at_
    obtain ⟨dx, tw, sd, e1, e2, e3⟩ := G.ex
    have gno : List.lookup ("_is_open" : Str) (gmF k tw sd ml) = none := gm_no (by decide +kernel) (by decide +kernel) (by decide +kernel) (by decide +kernel)
    have gno2 : List.lookup ("_answer" : Str) (gmF k tw sd ml) = none := gm_no (by decide +kernel) (by decide +kernel) (by decide +kernel) (by decide +kernel)
    have gno3 : List.lookup ("rounds_left" : Str) (gmF k tw sd ml) = none := gm_no (by decide +kernel) (by decide +kernel) (by decide +kernel) (by decide +kernel)
    obtain ⟨o1, o2⟩ := raw_open (rs := rs) PL.opn
    have hk := PL.hk
    have hk2 := PL.hk2
    have hop := PL.opn
    have hrl : (rawOf rs op).length ≤ 1000 := by rw [raw_len]; omega
    refine ⟨_, rfl, g, dx, _, rfl, e1, gno3, ?_⟩
    dsimp only [tNil]
    refine ⟨g, ml, v, w, k, as, rawOf rs op, rfl, G, hrl, _, _, rfl, rfl, ?_⟩
    refine ⟨_, rfl, g, dx, _, rfl, e1, gno, ?_⟩
    dsimp only [tNil]
    refine ⟨g, ml, v, w, k, as, rawOf rs op, rfl, G, hrl, _, rfl, ?_⟩
    refine iteB (fun h => ?_) (fun h => ?_)
    · have hn : op ≠ [] := o1.mp (of_decide_eq_true h)
      refine iteT ?_
      exact kn (by unfold bfO; rw [if_pos (.inl hn)]) _ (refl_same _)
    · have hn : op = [] := by
        by_cases hn : op = []
        · exact hn
        · rw [decide_eq_true (o1.mpr hn)] at h
          cases h
      subst hn
      refine ⟨_, rfl, _, _, rfl, rfl, _, rfl, ?_⟩
      have o3 : (((rawOf rs []).length + 1) / 2) = rs.length := o2
      rw [o3]
      refine iteD rfl (fun h2 => ?_) (fun h2 => ?_)
      · exact kn (by unfold bfO; rw [if_pos (.inr (by omega))]) _ (refl_same _)
      · have hlt : rs.length + 1 ≤ k := by omega
        refine ⟨by show 2 ≤ sizeLine; decide, fun tt htt => ?_⟩
        have s0 : Same H (upd H tt (.tup [.int 0, .int 1])) := Same.new htt
        refine ⟨tt, rfl, ⟨_, SqT.of upd_same⟩, for_tup (K := K) (a := tt) (xs := [.int 0, .int 1]) (fun i σ H' => ∃ z2 z3, σ = [some (.ref g), some (.int ((k : Int) - ((rs.length : Nat) : Int) - 1)), z2, z3] ∧ Same (upd H tt (.tup [.int 0, .int 1])) H' ∧
            ∀ j, j < i → firO v w (k - rs.length - 1) (rs.map (·.2)) j = none)
          ⟨none, none, rfl, refl_same _, fun j h => absurd h (Nat.not_lt_zero _)⟩ (fun i σ H' _ q => ?_) ?_ ?_⟩
        · obtain ⟨_, _, _, s, _⟩ := q
          exact SqT.of (s _ _ upd_same)
        · rintro i xi σ H1 hxi ⟨z2, z3, rfl, s1, hall⟩
          obtain ⟨hi, rfl⟩ : i ≤ 1 ∧ xi = V.int (i : Nat) := by
            have h1 := (List.getElem?_eq_some_iff.mp hxi).1
            have h1 : i < 2 := h1
            rcases (show i = 0 ∨ i = 1 by omega) with rfl | rfl
            · exact ⟨by omega, (Option.some.inj hxi).symm⟩
            · exact ⟨by omega, (Option.some.inj hxi).symm⟩
          have s2 := s0.trans s1
          have wl := wd_len (i := i) PL.hv PL.hw
          have hz : (S (wd v w i)).length ≤ sizeLine := S_le (by omega)
          have nl : ((((S (wd v w i)).length : Nat) : Int)).toNat = (wd v w i).length := by rw [SX.S_len]; omega
          refine ⟨_, rfl, g, CG, dx, _, _, rfl, s2 _ _ e1, GT.cl, GT.nW, gm_w, _, rfl, tw, _, _, _, rfl, rfl, SqT.of (s2 _ _ e2), wd_at hi, _, rfl, hz, _, rfl, by rw [SX.S_len]; omega, by rw [SX.S_len]; omega, ?_⟩
          rw [nl]
          refine for_range (lo := 0) (n := (wd v w i).length) (fun j σ H' => ∃ z3, σ = [some (.ref g), some (.int ((k : Int) - ((rs.length : Nat) : Int) - 1)), some (.int (i : Nat)), z3] ∧ Same H1 H' ∧ ∀ x, x < j → (ansO v w (k - rs.length - 1) (rs.map (·.2)) i x).isNone = false)
            ⟨z3, rfl, refl_same _, fun y h => absurd h (Nat.not_lt_zero _)⟩ ?_ ?_
          · rintro x σ H2 hx ⟨z4, rfl, s3, hx2⟩
            rw [show (0 : Int) + (x : Int) = ((x : Nat) : Int) from Int.zero_add _]
            have s4 := s2.trans s3
            refine ⟨_, rfl, g, dx, _, rfl, s4 _ _ e1, gno2, _, rfl, _, rfl, _, rfl, ?_⟩
            dsimp only [tNil]
            have el : (k : Int) - ((rs.length : Nat) : Int) - 1 = ((k - rs.length - 1 : Nat) : Int) := by omega
            refine ⟨g, v, w, k, rs, [], i, x, k - rs.length - 1, by show [V.ref g, V.int (i : Nat), V.int (x : Nat), V.int ((k : Int) - ((rs.length : Nat) : Int) - 1)] = _; rw [el], PL.same s4, hi, hx, by omega, fun H3 s5 => ?_⟩
            cases ho : ansO v w (k - rs.length - 1) (rs.map (·.2)) i x with
            | none =>
              refine ⟨rfl, _, rfl, iteV (fun _ => ?_) (fun z => absurd rfl z)⟩
              refine ⟨_, rfl, _, rfl, by show 2 ≤ sizeLine; decide, fun t ht => ?_⟩
              have hf : firO v w (k - rs.length - 1) (rs.map (·.2)) i = some x := List.find?_range_eq_some.mpr ⟨by rw [ho]; rfl, List.mem_range.mpr hx, fun j hj => by rw [hx2 j hj]; rfl⟩
              refine ks (i, x) ?_ t _ (s4.trans (s5.trans (Same.new ht))) upd_same
              unfold bfO
              rw [if_neg (by simp; omega)]
              rcases (show i = 0 ∨ i = 1 by omega) with rfl | rfl
              · rw [hf]
              · rw [hall 0 (by decide), hf]
                rfl
            | some y =>
              refine ⟨rfl, _, rfl, iteV (fun z => nomatch z) (fun _ => ⟨_, rfl, s3.trans s5, fun x2 hx3 => ?_⟩)⟩
              by_cases ej : x2 = x
              · subst ej
                rw [ho]
                rfl
              · exact hx2 x2 (by omega)
          · rintro σ H2 ⟨z4, rfl, s3, hx2⟩
            refine ⟨_, _, rfl, s1.trans s3, fun j hj => ?_⟩
            by_cases ej : j = i
            · subst ej
              refine List.find?_eq_none.mpr fun x hx => ?_
              rw [hx2 x (List.mem_range.mp hx)]
              decide
            · exact hall j (by omega)
        · rintro σ H1 ⟨z2, z3, rfl, s1, hall⟩
          refine kn ?_ _ (s0.trans s1)
          unfold bfO
          rw [if_neg (by simp; omega), hall 0 (by decide), hall 1 (by decide)]
          rfl
end
end Ws

/-! the program's game: marks made and taken back, with their errors -/
namespace Ws
open PySem PySem.Spec PyProof.Rows L2
/-- methods that may raise -/
structure MCalX (P : Program) (w : World) (K : PySem.W.Frag) (mg : Str → Option Value) (base : Heap) (C : Addr) (m : Str) (k : Nat) (sp : Sp) : Prop where
  ex : ∃ (f : Addr) (fd : FuncData) (ps : List Str), FnOk P w K mg base (L2.CX P w) k f fd ps sp ∧ Meth K C m f ∧ Binds K fd ps []
section
variable {X : Cx} {C : Addr} {m : Str} {k j : Nat} {sp : Sp} {o e : Expr} {es : List Expr} {ta : TE} {t : TA} {pos apos : Pos} {pl : Sem Bool}
theorem pe_mX {E : XK} (c : MCalX X.prog X.w X.K X.mg X.base C m k sp) (hx : Passes (L2.CX X.prog X.w) X E) (cl : Cls X.K C) (hr : Room j X.A) (hk : k ≤ j) (he : PE X o ta) (ha : PA X (e :: es) t)
    (hst : starEach (e :: es) X.env = (false, eval e X.env) :: starEach es X.env := by rfl) (hpl : (backTo pos (starEach es X.env)).any (·.1) = false := by rfl)
    (ht : eval (.Call (.Attribute o m apos) (e :: es) [] pos) X.env = (do
      let ov ← eval o X.env
      standAt apos.atName
      let (f, first) ← holding [ov] (getMethod ov m pl)
      callWith pos f first (backTo pos (starEach (e :: es) X.env)) (backToKw pos (keywordEach [] X.env))) := by rfl) :
    PE X (.Call (.Attribute o m apos) (e :: es) [] pos) (tMeth C m sp [] E ta t) := by
  obtain ⟨f, fd, ps, F, M, b⟩ := c.ex
  exact pe_meth he cl M F (hr.mono hk) b .nil hx ha hst hpl ht
theorem pe_mS {W : WX} (c : MCalX X.prog X.w X.K X.mg X.base C m k sp) (tk : Takes X W) (cl : Cls X.K C) (hr : Room j X.A) (hk : k ≤ j) (he : PE X o ta) (ha : PA X (e :: es) t)
    (hst : starEach (e :: es) X.env = (false, eval e X.env) :: starEach es X.env := by rfl) (hpl : (backTo pos (starEach es X.env)).any (·.1) = false := by rfl)
    (ht : eval (.Call (.Attribute o m apos) (e :: es) [] pos) X.env = (do
      let ov ← eval o X.env
      standAt apos.atName
      let (f, first) ← holding [ov] (getMethod ov m pl)
      callWith pos f first (backTo pos (starEach (e :: es) X.env)) (backToKw pos (keywordEach [] X.env))) := by rfl) :
    PE X (.Call (.Attribute o m apos) (e :: es) [] pos) (tMT C m sp (WE W) ta t) := by
  obtain ⟨f, fd, ps, F, M, b⟩ := c.ex
  exact pe_mT he cl M F (hr.mono hk) b (fun σ => passAt tk σ) ha hst hpl ht
theorem pe_mS0 {W : WX} (c : MCalX X.prog X.w X.K X.mg X.base C m k sp) (tk : Takes X W) (cl : Cls X.K C) (hr : Room j X.A) (hk : k ≤ j) (he : PE X o ta)
    (ht :
        eval (.Call (.Attribute o m apos) [] [] pos) X.env = (do
      let ov ← eval o X.env
      standAt apos.atName
      let (f, first) ← holding [ov] (getMethod ov m pl)
      callWith pos f first (backTo pos (starEach [] X.env))
          (backToKw pos (keywordEach [] X.env))) := by rfl) :
    PE X (.Call (.Attribute o m apos) [] [] pos) (tMT C m sp (WE W) ta tNil) := by
  obtain ⟨f, fd, ps, F, M, b⟩ := c.ex
  exact pe_mT0 he cl M F (hr.mono hk) b (fun σ => passAt tk σ) ht
end
/-- an error whose default fills up -/
structure ErD (P : Program) (w : World) (K : PySem.W.Frag) (mg : Str → Option Value) (base : Heap) (nm : Str) (C : Addr) : Prop where
  er : ErC P w K mg base nm C
  ini : ∃ (fI : Addr) (fd : FuncData), PySem.W.findIn K (.ref C) "__init__" = some (some (.ref fI)) ∧ PySem.W.typeIn K (.ref fI) = some (.type "function") ∧
    FnOk P w K mg base CX0 2 fI fd ["self", "place"] (spEr C nm) ∧ Binds K fd ["self", "place"] [.none]
/-- the int of a value, in every heap -/
def IntA (K : PySem.W.Frag) (x : V) (o : Option Int) : Prop := ∀ H, IntO K H x o
theorem cnt_int {K : PySem.W.Frag} {x : V} {o : Option Int} {lo hi : Int} (h : IntA K x o) (c : cntOk lo hi o = true) : ∃ i, o = some i ∧ x = .int i ∧ lo ≤ i ∧ i ≤ hi := by
  cases o with
  | none => cases c
  | some i =>
    have c : (decide (lo ≤ i) && decide (i ≤ hi)) = true := c
    simp only [Bool.and_eq_true, decide_eq_true_eq] at c
    rcases h (fun _ => none) with ⟨j, e, rfl⟩ | ⟨e, _⟩
    · cases e
      exact ⟨i, rfl, rfl, c.1, c.2⟩
    · cases e
/-- the game in play, its marks at ml -/
structure PlayM (CG CS : Addr) (H : Hp) (g ml : Addr) (v w : List Nat) (k : Nat) (rs : List (Nat × (Nat × Nat))) (op : List (Nat × Nat)) : Prop where
  at_ : ∃ as, GmAt CG CS H g ml v w k as (rawOf rs op)
  inb : Inb v w (rs.map (·.2))
  rs1 : ∀ q ∈ rs, q.1 ≤ 1
  opn : op.length ≤ 1
  opi : ∀ q ∈ op, q.1 ≤ 1 ∧ q.2 < (wd v w q.1).length
  hv : v.length ≤ 60
  hw : w.length ≤ 60
  hk : rs.length + op.length ≤ k
  hk2 : k ≤ 50
section
variable {CG CS : Addr} {H H' : Hp} {g ml : Addr} {v w : List Nat} {k : Nat} {rs : List (Nat × (Nat × Nat))} {op : List (Nat × Nat)}
theorem PlayM.play (p : PlayM CG CS H g ml v w k rs op) : Play CG CS H g v w k rs op := by
  obtain ⟨as, G⟩ := p.at_
  exact ⟨⟨ml, as, G⟩, p.inb, p.opn, p.opi, p.hv, p.hw, p.hk, p.hk2⟩
theorem PlayM.same (p : PlayM CG CS H g ml v w k rs op) (s : L2.Same H H') : PlayM CG CS H' g ml v w k rs op := by
  obtain ⟨as, G⟩ := p.at_
  exact ⟨⟨as, G.same s⟩, p.inb, p.rs1, p.opn, p.opi, p.hv, p.hw, p.hk, p.hk2⟩
theorem PlayM.lst (p : PlayM CG CS H g ml v w k rs op) : ∃ xs, H ml = some (.lst xs) := by
  obtain ⟨as, G⟩ := p.at_
  exact ⟨_, G.mks.at_⟩
/-- a change at another list -/
theorem PlayM.ext {p0 : Addr} {xs : List V} (p : PlayM CG CS H g ml v w k rs op) (s : Ext p0 H H') (e : H p0 = some (.lst xs)) (n : ml ≠ p0) : PlayM CG CS H' g ml v w k rs op := by
  obtain ⟨as, G⟩ := p.at_
  obtain ⟨dx, tw, sd, e1, e2, e3⟩ := G.ex
  have nt : ∀ b o, H b = some o → (∀ ys, o ≠ .lst ys) → b ≠ p0 := fun b o eb hn z => by
    rw [z, e] at eb
    cases eb
    exact hn _ rfl
  refine ⟨⟨as, ⟨dx, tw, sd, s _ _ (nt _ _ e1 (by intro ys z; cases z)) e1, s _ _ (nt _ _ e2 (by intro ys z; cases z)) e2, e3.ext s e⟩, ⟨s _ _ n G.mks.at_, G.mks.len, fun i a q ha hq => ?_⟩⟩, p.inb, p.rs1, p.opn, p.opi, p.hv, p.hw, p.hk, p.hk2⟩
  have et := G.mks.tup i a q ha hq
  exact s _ _ (nt _ _ et (by intro ys z; cases z)) et
theorem PlayM.move {as' : List Addr} {rs' : List (Nat × (Nat × Nat))} {op' : List (Nat × Nat)} (p : PlayM CG CS H g ml v w k rs op) (s : Ext ml H H') (M : MarksAt H' ml as' (rawOf rs' op'))
    (inb : Inb v w (rs'.map (·.2))) (rs1 : ∀ q ∈ rs', q.1 ≤ 1) (opn : op'.length ≤ 1) (opi : ∀ q ∈ op', q.1 ≤ 1 ∧ q.2 < (wd v w q.1).length) (hk : rs'.length + op'.length ≤ k) : PlayM CG CS H' g ml v w k rs' op' := by
  obtain ⟨as, G⟩ := p.at_
  obtain ⟨dx, tw, sd, e1, e2, e3⟩ := G.ex
  exact ⟨⟨as', ⟨dx, tw, sd, s _ _ (ne_of e1 G.mks.at_ (by intro z; cases z)) e1, s _ _ (ne_of e2 G.mks.at_ (by intro z; cases z)) e2, e3.ext s G.mks.at_⟩, M⟩, inb, rs1, opn, opi, p.hv, p.hw, hk, p.hk2⟩
end
/-! what the marking methods do -/
def mfE (v w : List Nat) (k : Nat) (rs : List (Nat × (Nat × Nat))) (op : List (Nat × Nat)) (x y : V) (ox oy : Option Int) : Option (Nat × V) :=
  if cntOk 0 1 ox = true then
    if cntOk 0 ((((wd v w (ox.getD 0).toNat).length : Nat) : Int) - 1) oy = true then
      if op = [] then (if rs.length = k then some (2, .non) else none) else some (1, .non)
    else some (0, y)
  else some (0, x)
def mbE (v w : List Nat) (op : List (Nat × Nat)) (x : V) (ox : Option Int) : Option (Nat × V) :=
  match op with
  | [] => some (1, .non)
  | q :: _ => if cntOk 0 ((((wd v w (1 - q.1)).length : Nat) : Int) - 1) ox = true then none else some (0, x)
def mbS (rs : List (Nat × (Nat × Nat))) (op : List (Nat × Nat)) (ox : Option Int) : List (Nat × (Nat × Nat)) :=
  match op with
  | [] => rs
  | q :: _ => rs ++ [(q.1, cpl q.1 q.2 (ox.getD 0).toNat)]
def tbE (rs : List (Nat × (Nat × Nat))) (op : List (Nat × Nat)) : Option (Nat × V) := if rs = [] ∧ op = [] then some (2, .non) else none
def lastMk (q : Nat × (Nat × Nat)) : Nat × Nat := (q.1, if q.1 = 0 then q.2.1 else q.2.2)
def tbR (rs : List (Nat × (Nat × Nat))) (op : List (Nat × Nat)) : List (Nat × (Nat × Nat)) := if op = [] then rs.dropLast else rs
def tbO (rs : List (Nat × (Nat × Nat))) (op : List (Nat × Nat)) : List (Nat × Nat) := if op = [] then (rs.map lastMk).getLast?.toList else []
def nmF (b : Nat) : Str := if b = 0 then "BadNumber" else if b = 1 then "Unlike" else "NothingThere"
def clF (CB CU CN : Addr) (b : Nat) : Addr := if b = 0 then CB else if b = 1 then CU else CN
def FaultG (CB CU CN : Addr) (H : Hp) (o : Option (Nat × V)) (E : XK) : Prop := ∀ b u, o = some (b, u) → ∀ d H', Same H H' → H' d = some (.xd [("place", u), ("word", .str (nmF b))]) → E (.ref (clF CB CU CN b)) (some d) H'
def spCP (K : PySem.W.Frag) (CG CS CB : Addr) : Sp := fun vs H Q E => ∃ (g ml : Addr) (v w : List Nat) (k : Nat) (rs : List (Nat × (Nat × Nat))) (op : List (Nat × Nat)) (i : Nat) (x : V) (o : Option Int), vs = [.ref g, .int i, x] ∧ PlayM CG CS H g ml v w k rs op ∧ i ≤ 1 ∧ IntA K x o ∧
  (cntOk 0 ((((wd v w i).length : Nat) : Int) - 1) o = true → Q .non H) ∧ (cntOk 0 ((((wd v w i).length : Nat) : Int) - 1) o = false → ∀ d H', Same H H' → H' d = some (.xd [("place", x), ("word", .str "BadNumber")]) → E (.ref CB) (some d) H')
def spMF (K : PySem.W.Frag) (CG CS CB CU CN : Addr) : Sp := fun vs H Q E => ∃ (g ml : Addr) (v w : List Nat) (k : Nat) (rs : List (Nat × (Nat × Nat))) (op : List (Nat × Nat)) (x y : V) (ox oy : Option Int), vs = [.ref g, x, y] ∧ PlayM CG CS H g ml v w k rs op ∧ IntA K x ox ∧ IntA K y oy ∧
  (mfE v w k rs op x y ox oy = none → ∀ H', Ext ml H H' → PlayM CG CS H' g ml v w k rs [((ox.getD 0).toNat, (oy.getD 0).toNat)] → Q .non H') ∧ FaultG CB CU CN H (mfE v w k rs op x y ox oy) E
def spMB (K : PySem.W.Frag) (CG CS CB CU CN : Addr) : Sp := fun vs H Q E => ∃ (g ml : Addr) (v w : List Nat) (k : Nat) (rs : List (Nat × (Nat × Nat))) (op : List (Nat × Nat)) (x : V) (ox : Option Int), vs = [.ref g, x] ∧ PlayM CG CS H g ml v w k rs op ∧ IntA K x ox ∧
  (mbE v w op x ox = none → ∀ H', Ext ml H H' → PlayM CG CS H' g ml v w k (mbS rs op ox) [] → Q .non H') ∧ FaultG CB CU CN H (mbE v w op x ox) E
def spTB (CG CS CB CU CN : Addr) : Sp := fun vs H Q E => ∃ (g ml : Addr) (v w : List Nat) (k : Nat) (rs : List (Nat × (Nat × Nat))) (op : List (Nat × Nat)), vs = [.ref g] ∧ PlayM CG CS H g ml v w k rs op ∧
  (tbE rs op = none → ∀ H', Ext ml H H' → PlayM CG CS H' g ml v w k (tbR rs op) (tbO rs op) → Q .non H') ∧ FaultG CB CU CN H (tbE rs op) E
theorem raw_snoc {rs : List (Nat × (Nat × Nat))} {i x y : Nat} (hi : i ≤ 1) : rawOf rs [(i, x)] ++ [(1 - i, y)] = rawOf (rs ++ [(i, cpl i x y)]) [] := by
  unfold rawOf
  rw [List.flatMap_append, List.append_nil, List.append_assoc]
  congr 1
  rcases (show i = 0 ∨ i = 1 by omega) with rfl | rfl <;> rfl
theorem raw_drop1 {rs : List (Nat × (Nat × Nat))} {q : Nat × Nat} : (rawOf rs [q]).dropLast = rawOf rs [] := by
  unfold rawOf
  rw [List.dropLast_concat, List.append_nil]
theorem raw_drop2 {rs : List (Nat × (Nat × Nat))} {q : Nat × (Nat × Nat)} (h : q.1 ≤ 1) : (rawOf (rs ++ [q]) []).dropLast = rawOf rs [lastMk q] := by
  obtain ⟨i, x, y⟩ := q
  unfold rawOf
  rw [List.flatMap_append, List.append_nil]
  rcases (show i = 0 ∨ i = 1 by simp only at h; omega) with rfl | rfl
  · show (rs.flatMap pr1 ++ ([(0, x), (1, y)] ++ [])).dropLast = rs.flatMap pr1 ++ [(0, x)]
    rw [show (rs.flatMap pr1 ++ ([(0, x), (1, y)] ++ [])) = (rs.flatMap pr1 ++ [(0, x)]) ++ [(1, y)] by simp, List.dropLast_concat]
  · show (rs.flatMap pr1 ++ ([(1, y), (0, x)] ++ [])).dropLast = rs.flatMap pr1 ++ [(1, y)]
    rw [show (rs.flatMap pr1 ++ ([(1, y), (0, x)] ++ [])) = (rs.flatMap pr1 ++ [(1, y)]) ++ [(0, x)] by simp, List.dropLast_concat]
theorem MarksAt.pop {H : Hp} {m : Addr} {as : List Addr} {ms : List (Nat × Nat)} (M : MarksAt H m as ms) : MarksAt (upd H m (.lst (as.map V.ref).dropLast)) m as.dropLast ms.dropLast := by
  refine ⟨by rw [upd_same, List.map_dropLast], by rw [List.length_dropLast, List.length_dropLast, M.len], fun i a q ha hq => ?_⟩
  have ha' : as[i]? = some a := by
    rw [List.getElem?_dropLast] at ha
    split at ha
    · exact ha
    · cases ha
  have hq' : ms[i]? = some q := by
    rw [List.getElem?_dropLast] at hq
    split at hq
    · exact hq
    · cases hq
  have e := M.tup i a q ha' hq'
  rw [upd_ne (ne_of e M.at_ (by intro z; cases z))]
  exact e
section
variable {P : Program} {W0 : World} {K : PySem.W.Frag} {mg : Str → Option Value} {base : Heap} {f CG CS CB CU CN : Addr} {fd : FuncData}
abbrev s_CP : Stmt := (inClass (top 23) 3)
theorem sc_CP : FnScope ["self", "which", "place"] ["self", "which", "place"] (defScope s_CP) := ⟨rfl, rfl, rfl, by decide +kernel, rfl, by decide +kernel, by decide +kernel⟩
theorem ok_CP (T : Bl mg) (GT : GmT K mg CG) (EB : ErC P W0 K mg base "BadNumber" CB) (c_cnt : Cal P W0 K mg base 2 "is_count" (spCount K)) (F : L2.Fun K "_check_place" "Game._check_place" s_CP f fd) :
    FnOk P W0 K mg base (L2.CX P W0) 5 f fd ["self", "which", "place"] (spCP K CG CS CB) := by
  refine F.okX sc_CP (fun vs H Q E h => ?_) (fun cdv A outer s H vs Q E hr h => ?_)
  · obtain ⟨g, ml, v, w, k, rs, op, i, x, o, rfl, _⟩ := h
    rfl
  · obtain ⟨g, ml, v, w, k, rs, op, i, x, o, rfl, PL, hi, ix, kq, kf⟩ := h
    have nd := sc_CP.nd
    obtain ⟨fI, fdI, i1, i2, FI, bI⟩ := EB.ini
    refine ⟨_, (pss_one (ps_if (pt_not (pt_val (pe_c c_cnt hr (by decide) rfl (pa_cons (pv 2) (pa_cons pe_int (pa_cons (pe_op op_sub (pe_callB call_len_str (by rfl) T.len PySem.boot_len (pa_cons (pe_ix ix_tup (pe_fld (pv 0) rfl) (pv 1) (fun _ _ => rfl)) pa_nil)) pe_int) pa_nil))))))
      (pss_one (ps_raise rfl (takes_of rfl rfl rfl rfl) (pmk_oex EB.oex i1 i2 FI (hr.mono (by decide)) bI .nil pass0 rfl EB.mgC (pa_cons (pv 2) pa_nil))))
      pss_nil)), ?_⟩
    obtain ⟨as, G⟩ := PL.at_
    obtain ⟨dx, tw, sd, e1, e2, e3⟩ := G.ex
    have wl := wd_len (i := i) PL.hv PL.hw
    have hz : (S (wd v w i)).length ≤ sizeLine := S_le (by omega)
    refine ⟨_, rfl, _, rfl, g, CG, dx, _, _, rfl, e1, GT.cl, GT.nW, gm_w, _, rfl, tw, _, _, _, rfl, rfl, SqT.of e2, wd_at hi, _, rfl, hz, _, _, rfl, rfl, ?_⟩
    rw [SX.S_len]
    dsimp only [tNil]
    refine ⟨x, o, _, _, rfl, ix H, _, rfl, ?_⟩
    refine iteB (fun h => ?_) (fun h => ?_)
    · have h : cntOk 0 ((((wd v w i).length : Nat) : Int) - 1) o = false := by simpa using h
      exact ⟨_, rfl, er_mk fun d H' s2 hd e => kf h d H' s2 e⟩
    · have h : cntOk 0 ((((wd v w i).length : Nat) : Int) - 1) o = true := by simpa using h
      exact kq h
abbrev s_MF : Stmt := (inClass (top 23) 4)
theorem sc_MF : FnScope ["self", "which", "place"] ["self", "which", "place"] (defScope s_MF) := ⟨rfl, rfl, rfl, by decide +kernel, rfl, by decide +kernel, by decide +kernel⟩
theorem ok_MF (T : Bl mg) (GT : GmT K mg CG) (EB : ErC P W0 K mg base "BadNumber" CB) (EU : ErD P W0 K mg base "Unlike" CU) (EN : ErD P W0 K mg base "NothingThere" CN) (c_cnt : Cal P W0 K mg base 2 "is_count" (spCount K))
    (c_cp : MCalX P W0 K mg base CG "_check_place" 5 (spCP K CG CS CB)) (c_op : MCal P W0 K mg base CG "_is_open" 1 (spBeg CG CS fun _ n => .bl (decide (n % 2 = 1)))) (c_rl : MCal P W0 K mg base CG "rounds_left" 2 (spBeg CG CS fun k n => .int ((k : Int) - (((n + 1) / 2 : Nat) : Int))))
    (F : L2.Fun K "mark_first" "Game.mark_first" s_MF f fd) : FnOk P W0 K mg base (L2.CX P W0) 6 f fd ["self", "which", "place"] (spMF K CG CS CB CU CN) := by
  refine F.okX sc_MF (fun vs H Q E h => ?_) (fun cdv A outer s H vs Q E hr h => ?_)
  · obtain ⟨g, ml, v, w, k, rs, op, x, y, ox, oy, rfl, _⟩ := h
    rfl
  · obtain ⟨g, ml, v, w, k, rs, op, x, y, ox, oy, rfl, PL, ix, iy, kq, kf⟩ := h
    have nd := sc_MF.nd
    obtain ⟨fI, fdI, i1, i2, FI, bI⟩ := EB.ini
    obtain ⟨fU, fdU, u1, u2, FU, bU⟩ := EU.ini
    obtain ⟨fN, fdN, n1, n2, FN, bN⟩ := EN.ini
    refine ⟨_, (pss_cons (ps_if (pt_not (pt_val (pe_c c_cnt hr (by decide) rfl (pa_cons (pv 1) (pa_cons pe_int (pa_cons pe_int pa_nil))))))
      (pss_one (ps_raise rfl (takes_of rfl rfl rfl rfl) (pmk_oex EB.oex i1 i2 FI (hr.mono (by decide)) bI .nil pass0 rfl EB.mgC (pa_cons (pv 1) pa_nil))))
      pss_nil)
      (pss_cons (ps_expr (pe_mX c_cp (passes_call (takes_of rfl rfl rfl rfl) (fun _ _ _ _ h => h)) GT.cl hr (by decide) (pv 0) (pa_cons (pv 1) (pa_cons (pv 2) pa_nil))))
      (pss_cons (ps_if (pt_val (pe_m0 c_op GT.cl hr (by decide) (pv 0)))
      (pss_one (ps_raise rfl (takes_of rfl rfl rfl rfl) (pmk_oex0 (dvs := [.non]) EU.er.oex u1 u2 FU (hr.mono (by decide)) bU (.cons rfl .nil) pass0 rfl EU.er.mgC)))
      pss_nil)
      (pss_cons (ps_if (pt_cmpR op_eq (pe_m0 c_rl GT.cl hr (by decide) (pv 0)) pe_int (nomark _))
      (pss_one (ps_raise rfl (takes_of rfl rfl rfl rfl) (pmk_oex0 (dvs := [.non]) EN.er.oex n1 n2 FN (hr.mono (by decide)) bN (.cons rfl .nil) pass0 rfl EN.er.mgC)))
      pss_nil)
      (pss_one (ps_expr (pe_bm PySem.F.plainAttrs_list PySem.F.slot_list_append PySem.F.type_list_append mt_append (pe_fld (pv 0) rfl) (pa_cons (pe_tup (pa_cons (pv 1) (pa_cons (pv 2) pa_nil))) pa_nil)))))))), ?_⟩
    obtain ⟨as, G⟩ := PL.at_
    obtain ⟨dx, tw, sd, e1, e2, e3⟩ := G.ex
    have hk := PL.hk
    have hk2 := PL.hk2
    have hop := PL.opn
    have hrl : (rawOf rs op).length ≤ 1000 := by rw [raw_len]; omega
    have gno : ∀ {m : Str}, (m == ("_rounds" : Str)) = false → (m == ("_words" : Str)) = false → (m == ("_sides" : Str)) = false → (m == ("_marks" : Str)) = false → List.lookup m (gmF k tw sd ml) = none := fun a b c d => gm_no a b c d
    refine ⟨_, rfl, ?_⟩
    dsimp only [tNil]
    refine ⟨x, ox, 0, 1, rfl, ix H, _, rfl, ?_⟩
    refine iteB (fun h => ?_) (fun h => ?_)
    · have h : cntOk 0 1 ox = false := by simpa using h
      refine ⟨_, rfl, er_mk fun d H' s2 hd e => kf 0 x ?_ d H' s2 e⟩
      unfold mfE
      rw [if_neg (by rw [h]; decide)]
    have hx : cntOk 0 1 ox = true := by simpa using h
    obtain ⟨i, rfl, rfl, i0, i1'⟩ := cnt_int ix hx
    obtain ⟨i, rfl⟩ := Int.eq_ofNat_of_zero_le i0
    have hi : i ≤ 1 := by omega
    have e0 : (((some ((i : Nat) : Int)) : Option Int).getD 0).toNat = i := by show (((i : Nat) : Int)).toNat = i; omega
    unfold mfE at kq kf
    rw [if_pos hx, e0] at kq kf
    refine ⟨_, rfl, g, dx, _, rfl, e1, gno (by decide +kernel) (by decide +kernel) (by decide +kernel) (by decide +kernel), _, rfl, _, rfl, ?_⟩
    dsimp only [tNil]
    refine ⟨g, ml, v, w, k, rs, op, i, y, oy, rfl, PL, hi, iy, fun hy => ?_, fun hy d H' s2 e => ?_⟩
    · obtain ⟨j, rfl, rfl, j0, j1⟩ := cnt_int iy hy
      obtain ⟨j, rfl⟩ := Int.eq_ofNat_of_zero_le j0
      have hj : j < (wd v w i).length := by omega
      have e0' : (((some ((j : Nat) : Int)) : Option Int).getD 0).toNat = j := by show (((j : Nat) : Int)).toNat = j; omega
      rw [if_pos hy] at kq kf
      rw [e0'] at kq
      obtain ⟨o1, o2⟩ := raw_open (rs := rs) PL.opn
      refine ⟨_, rfl, g, dx, _, rfl, e1, gno (by decide +kernel) (by decide +kernel) (by decide +kernel) (by decide +kernel), ?_⟩
      dsimp only [tNil]
      refine ⟨g, ml, v, w, k, as, rawOf rs op, rfl, G, hrl, _, rfl, ?_⟩
      refine iteB (fun h => ?_) (fun h => ?_)
      · have hn : op ≠ [] := o1.mp (of_decide_eq_true h)
        refine er_mk0 fun d H' s2 hd e => kf 1 .non ?_ d H' s2 e
        rw [if_neg hn]
      have hn : op = [] := by
        by_cases hn : op = []
        · exact hn
        · rw [decide_eq_true (o1.mpr hn)] at h
          cases h
      subst hn
      rw [if_pos rfl] at kq kf
      refine ⟨_, rfl, g, dx, _, rfl, e1, gno (by decide +kernel) (by decide +kernel) (by decide +kernel) (by decide +kernel), ?_⟩
      dsimp only [tNil]
      refine ⟨g, ml, v, w, k, as, rawOf rs [], rfl, G, hrl, rfl, _, rfl, ?_⟩
      have o3 : (((rawOf rs []).length + 1) / 2) = rs.length := o2
      dsimp only
      refine iteV (fun h => ?_) (fun h => ?_)
      · have h : ((k : Int) - (((((rawOf rs []).length + 1) / 2 : Nat)) : Int)) = 0 := V.int.inj h
        rw [o3] at h
        refine er_mk0 fun d H' s2 hd e => kf 2 .non ?_ d H' s2 e
        rw [if_pos (by omega)]
      · have hne : rs.length ≠ k := fun z => h (by rw [o3, z, Int.sub_self])
        have hk : rs.length + 0 ≤ k := hk
        rw [if_neg hne] at kq
        refine ⟨_, rfl, g, CG, dx, _, _, rfl, e1, GT.cl, GT.nM, gm_m, .inl ⟨rfl, _, SqL.of G.mks.at_⟩, _, rfl, _, rfl, by show 2 ≤ sizeLine; decide, fun t ht => ?_⟩
        have s4 := Same.new (o := .tup [.int (i : Nat), .int (j : Nat)]) ht
        have M4 := G.mks.same s4
        refine ⟨ml, as.map V.ref, .ref t, rfl, rfl, M4.at_, by rw [List.length_map, M4.len, sizeLine_eq]; omega, ?_⟩
        have x4 : Ext ml H (upd (upd H t (.tup [.int (i : Nat), .int (j : Nat)])) ml (.lst (as.map V.ref ++ [.ref t]))) := (Ext.of s4).trans Ext.upd
        have M5 := M4.push (x := i) (y := j) (t := t) upd_same
        refine kq rfl _ x4 (PL.move (as' := as ++ [t]) x4 ?_ PL.inb PL.rs1 (Nat.le_refl _) (fun q hq => ?_) ?_)
        · have er : rawOf rs [] ++ [(i, j)] = rawOf rs [(i, j)] := by unfold rawOf; rw [List.append_nil]
          rw [er] at M5
          exact M5
        · obtain
            rfl := List.mem_singleton.mp hq
          exact ⟨hi, hj⟩
        · show rs.length + 1 ≤ k
          omega
    · refine kf 0 y ?_ d H' s2 e
      rw [if_neg (by rw [hy]; decide)]
abbrev s_MB : Stmt := (inClass (top 23) 5)
theorem sc_MB : FnScope ["self", "place", "which"] ["self", "place"] (defScope s_MB) := ⟨rfl, rfl, rfl, by decide +kernel, rfl, by decide +kernel, by decide +kernel⟩
theorem ok_MB (T : Bl mg) (GT : GmT K mg CG) (EU : ErD P W0 K mg base "Unlike" CU)
    (c_cp : MCalX P W0 K mg base CG "_check_place" 5 (spCP K CG CS CB)) (c_op : MCal P W0 K mg base CG "_is_open" 1 (spBeg CG CS fun _ n => .bl (decide (n % 2 = 1))))
    (F : L2.Fun K "mark_back" "Game.mark_back" s_MB f fd) : FnOk P W0 K mg base (L2.CX P W0) 6 f fd ["self", "place"] (spMB K CG CS CB CU CN) := by
  refine F.okX sc_MB (fun vs H Q E h => ?_) (fun cdv A outer s H vs Q E hr h => ?_)
  · obtain ⟨g, ml, v, w, k, rs, op, x, ox, rfl, _⟩ := h
    rfl
  · obtain ⟨g, ml, v, w, k, rs, op, x, ox, rfl, PL, ix, kq, kf⟩ := h
    have nd := sc_MB.nd
    obtain ⟨fU, fdU, u1, u2, FU, bU⟩ := EU.ini
    refine ⟨_, (pss_cons (ps_if (pt_not (pt_val (pe_m0 c_op GT.cl hr (by decide) (pv 0))))
      (pss_one (ps_raise rfl (takes_of rfl rfl rfl rfl) (pmk_oex0 (dvs := [.non]) EU.er.oex u1 u2 FU (hr.mono (by decide)) bU (.cons rfl .nil) pass0 rfl EU.er.mgC)))
      pss_nil)
      (pss_cons (ps_set (i := 2) nd rfl (.inl rfl) (pe_op op_sub pe_int (pe_ix ix_tup (pe_ix ix_list (pe_fld (pv 0) rfl) (pe_un un_neg pe_int) (fun _ _ => rfl)) pe_int (fun _ _ => rfl))))
      (pss_cons (ps_expr (pe_mX c_cp (passes_call (takes_of rfl rfl rfl rfl) (fun _ _ _ _ h => h)) GT.cl hr (by decide) (pv 0) (pa_cons (pv 2) (pa_cons (pv 1) pa_nil))))
      (pss_one (ps_expr (pe_bm PySem.F.plainAttrs_list PySem.F.slot_list_append PySem.F.type_list_append mt_append (pe_fld (pv 0) rfl) (pa_cons (pe_tup (pa_cons (pv 2) (pa_cons (pv 1) pa_nil))) pa_nil))))))), ?_⟩
    obtain ⟨as, G⟩ := PL.at_
    obtain ⟨dx, tw, sd, e1, e2, e3⟩ := G.ex
    have hk := PL.hk
    have hk2 := PL.hk2
    have hop := PL.opn
    have hrl : (rawOf rs op).length ≤ 1000 := by rw [raw_len]; omega
    have gno : ∀ {m : Str}, (m == ("_rounds" : Str)) = false → (m == ("_words" : Str)) = false → (m == ("_sides" : Str)) = false → (m == ("_marks" : Str)) = false → List.lookup m (gmF k tw sd ml) = none := fun a b c d => gm_no a b c d
    obtain ⟨o1, o2⟩ := raw_open (rs := rs) PL.opn
    refine ⟨_, rfl, g, dx, _, rfl, e1, gno (by decide +kernel) (by decide +kernel) (by decide +kernel) (by decide +kernel), ?_⟩
    dsimp only [tNil]
    refine ⟨g, ml, v, w, k, as, rawOf rs op, rfl, G, hrl, _, rfl, ?_⟩
    refine iteB (fun h => ?_) (fun h => ?_)
    · have hn : op = [] := by
        by_cases hn : op = []
        · exact hn
        · rw [decide_eq_true (o1.mpr hn)] at h
          cases h
      subst hn
      exact er_mk0 fun d H' s2 hd e => kf 1 .non rfl d H' s2 e
    have hn : op ≠ [] := fun hn => by
      have : ¬ (rawOf rs op).length % 2 = 1 := fun z => (o1.mp z) hn
      rw [decide_eq_false this] at h
      cases h
    obtain ⟨q, rfl⟩ : ∃ q, op = [q] := by
      cases op with
      | nil => exact absurd rfl hn
      | cons q op =>
        cases op with
        | nil => exact ⟨q, rfl⟩
        | cons _ _ => simp at hop
    obtain ⟨b1, b2⟩ := PL.opi q (List.mem_singleton.mpr rfl)
    have hrk : rs.length + 1 ≤ k := hk
    obtain ⟨a, hneg, eat⟩ := last_mark G.mks
    have eq1 : (1 : Int) - ((q.1 : Nat) : Int) = ((1 - q.1 : Nat) : Int) := by omega
    refine ⟨_, rfl, g, CG, dx, _, _, rfl, e1, GT.cl, GT.nM, gm_m, _, rfl, ml, _, _, _, rfl, rfl, SqL.of G.mks.at_, hneg, a, _, _, _, rfl, rfl, SqT.of eat, rfl, _, _, rfl, rfl, ?_⟩
    refine ⟨_, rfl, g, dx, _, rfl, e1, gno (by decide +kernel) (by decide +kernel) (by decide +kernel) (by decide +kernel), _, rfl, _, rfl, ?_⟩
    dsimp only [tNil]
    refine ⟨g, ml, v, w, k, rs, [q], 1 - q.1, x, ox, by show [V.ref g, V.int (1 - ((q.1 : Nat) : Int)), x] = _; rw [eq1], PL, by omega, ix, fun hy => ?_, fun hy d H' s2 e => kf 0 x ?_ d H' s2 e⟩
    · obtain ⟨j, rfl, rfl, j0, j1⟩ := cnt_int ix hy
      obtain ⟨j, rfl⟩ := Int.eq_ofNat_of_zero_le j0
      have hj : j < (wd v w (1 - q.1)).length := by omega
      have e0' : (((some ((j : Nat) : Int)) : Option Int).getD 0).toNat = j := by show (((j : Nat) : Int)).toNat = j; omega
      refine ⟨_, rfl, g, CG, dx, _, _, rfl, e1, GT.cl, GT.nM, gm_m, .inl ⟨rfl, _, SqL.of G.mks.at_⟩, _, rfl, _, rfl, by show 2 ≤ sizeLine; decide, fun t ht => ?_⟩
      rw [eq1]
      have s4 := Same.new (o := .tup [.int ((1 - q.1 : Nat) : Int), .int (j : Nat)]) ht
      have M4 := G.mks.same s4
      refine ⟨ml, as.map V.ref, .ref t, rfl, rfl, M4.at_, by rw [List.length_map, M4.len, sizeLine_eq]; omega, ?_⟩
      have x4 : Ext ml H (upd (upd H t (.tup [.int ((1 - q.1 : Nat) : Int), .int (j : Nat)])) ml (.lst (as.map V.ref ++ [.ref t]))) := (Ext.of s4).trans Ext.upd
      have M5 := M4.push (x := 1 - q.1) (y := j) (t := t) upd_same
      have eM : mbS rs [q] (some ((j : Nat) : Int)) = rs ++ [(q.1, cpl q.1 q.2 j)] := by
        show rs ++ [(q.1, cpl q.1 q.2 (((some ((j : Nat) : Int)) : Option Int).getD 0).toNat)] = _
        rw [e0']
      have eE : mbE v w [q] (V.int ((j : Nat) : Int)) (some ((j : Nat) : Int)) = none := if_pos hy
      rw [eM] at kq
      refine kq eE _ x4 (PL.move (as' := as ++ [t]) x4 ?_ ?_ (fun p hp => ?_) (Nat.zero_le _) (fun p hp => by cases hp) ?_)
      · have er : rawOf rs [q] ++ [(1 - q.1, j)] = rawOf (rs ++ [(q.1, cpl q.1 q.2 j)]) [] := raw_snoc b1
        rw [er] at M5
        exact M5
      · rw [List.map_append]
        exact inb_cpl PL.inb b2 hj b1
      · rcases List.mem_append.mp hp with z | z
        · exact PL.rs1 p z
        · obtain rfl := List.mem_singleton.mp z
          exact b1
      · rw [List.length_append]
        exact hrk
    · exact if_neg (by rw [hy]; decide)
abbrev s_TB : Stmt := (inClass (top 23) 14)
theorem sc_TB : FnScope ["self"] ["self"] (defScope s_TB) := ⟨rfl, rfl, rfl, by decide +kernel, rfl, by decide +kernel, by decide +kernel⟩
theorem ok_TB (GT : GmT K mg CG) (EN : ErD P W0 K mg base "NothingThere" CN) (F : L2.Fun K "take_back" "Game.take_back" s_TB f fd) : FnOk P W0 K mg base (L2.CX P W0) 6 f fd ["self"] (spTB CG CS CB CU CN) := by
  refine F.okX sc_TB (fun vs H Q E h => ?_) (fun cdv A outer s H vs Q E hr h => ?_)
  · obtain ⟨g, ml, v, w, k, rs, op, rfl, _⟩ := h
    rfl
  · obtain ⟨g, ml, v, w, k, rs, op, rfl, PL, kq, kf⟩ := h
    obtain ⟨fN, fdN, n1, n2, FN, bN⟩ := EN.ini
    refine ⟨_, (pss_cons (ps_if (pt_not (pt_truth (pe_fld (pv 0) rfl) (by intro _; rfl)))
      (pss_one (ps_raise rfl (takes_of rfl rfl rfl rfl) (pmk_oex0 (dvs := [.non]) EN.er.oex n1 n2 FN (hr.mono (by decide)) bN (.cons rfl .nil) pass0 rfl EN.er.mgC)))
      pss_nil)
      (pss_one (ps_expr (pe_bm0 PySem.F.plainAttrs_list PySem.F.slot_list_pop PySem.F.type_list_pop mt_pop (pe_fld (pv 0) rfl))))), ?_⟩
    obtain ⟨as, G⟩ := PL.at_
    obtain ⟨dx, tw, sd, e1, e2, e3⟩ := G.ex
    have hk := PL.hk
    have hop := PL.opn
    refine ⟨_, rfl, g, CG, dx, _, _, rfl, e1, GT.cl, GT.nM, gm_m, _, .inl ⟨_, SqL.of G.mks.at_, rfl⟩, ?_⟩
    have hlen : (as.map V.ref).length = (rawOf rs op).length := by rw [List.length_map, G.mks.len]
    refine iteB (fun h => ?_) (fun h => ?_)
    · have h : (as.map V.ref).isEmpty = true := by simpa using h
      have h0 : (rawOf rs op).length = 0 := by rw [← hlen, List.isEmpty_iff.mp h]; rfl
      rw [raw_len] at h0
      have r0 : rs = [] := List.eq_nil_of_length_eq_zero (by omega)
      have p0 : op = [] := List.eq_nil_of_length_eq_zero (by omega)
      exact er_mk0 fun d H' s2 hd e => kf 2 .non (if_pos ⟨r0, p0⟩) d H' s2 e
    have h : (as.map V.ref) ≠ [] := fun z => by rw [z] at h; cases h
    have hpos : 0 < (as.map V.ref).length := List.length_pos_iff.mpr h
    have hE : tbE rs op = none := if_neg fun z => by
      rw [hlen, z.1, z.2] at hpos
      exact absurd hpos (Nat.lt_irrefl 0)
    refine ⟨_, rfl, g, CG, dx, _, _, rfl, e1, GT.cl, GT.nM, gm_m, .inl ⟨rfl, _, SqL.of G.mks.at_⟩, ml, _, _, rfl, rfl, G.mks.at_, List.getElem?_eq_getElem (by omega), ?_⟩
    have x4 : Ext ml H (upd H ml (.lst (as.map V.ref).dropLast)) := Ext.upd
    have M5 := G.mks.pop
    refine kq hE _ x4 ?_
    cases op with
    | nil =>
      have hne : rs ≠ [] := fun z => by rw [hlen, z] at hpos; exact absurd hpos (Nat.lt_irrefl 0)
      obtain ⟨r', q, rfl⟩ : ∃ r' q, rs = r' ++ [q] := ⟨rs.dropLast, rs.getLast hne, (List.dropLast_concat_getLast hne).symm⟩
      have eR : tbR (r' ++ [q]) [] = r' := by show (if _ then _ else _) = _; rw [if_pos rfl, List.dropLast_concat]
      have eO : tbO (r' ++ [q]) [] = [lastMk q] := by show (if _ then _ else _) = _; rw [if_pos rfl, List.map_append]; simp
      have q1 := PL.rs1 q (List.mem_append.mpr (.inr (List.mem_singleton.mpr rfl)))
      have qb : q.2.1 < v.length ∧ q.2.2 < w.length := PL.inb q.2 (by rw [List.map_append]; exact List.mem_append.mpr (.inr (List.mem_singleton.mpr rfl)))
      rw [eR, eO]
      refine PL.move (as' := as.dropLast) x4 ?_ (fun p hp => PL.inb p (by rw [List.map_append]; exact List.mem_append.mpr (.inl hp))) (fun p hp => PL.rs1 p (List.mem_append.mpr (.inl hp))) (Nat.le_refl _) (fun p hp => ?_) ?_
      · rw [raw_drop2 q1] at M5
        exact M5
      · obtain rfl := List.mem_singleton.mp hp
        refine ⟨q1, ?_⟩
        unfold lastMk wd
        rcases (show q.1 = 0 ∨ q.1 = 1 by omega) with e | e
        · simp only [e, if_true]
          exact qb.1
        · simp only [e, Nat.one_ne_zero, if_false]
          exact qb.2
      · rw [List.length_append] at hk
        exact hk
    | cons q op =>
      have : op = [] := by
        cases op with
        | nil => rfl
        | cons _ _ => simp at hop
      subst this
      have eR : tbR rs [q] = rs := if_neg (by simp)
      have eO : tbO rs [q] = [] := if_neg (by simp)
      rw [eR, eO]
      have hk : rs.length + 1 ≤ k := hk
      refine PL.move (as' := as.dropLast) x4 ?_ PL.inb PL.rs1 (Nat.zero_le _) (fun p hp => by cases hp) (by show rs.length + 0 ≤ k; omega)
      rw [raw_drop1] at M5
      exact M5
end
def spGI (K : PySem.W.Frag) (CG CS CL CW : Addr) : Sp := fun vs H Q E => ∃ (p dx : Addr) (lt x y : V) (o ox oy : Option (List Nat)) (k : Nat), vs = [.ref p, lt, .int k, x, y] ∧ H p = some (.ins CG dx []) ∧ TxtO K H lt o ∧ TxtO K H x ox ∧ TxtO K H y oy ∧ k ≤ 50 ∧
  (badOf lt o [(x, ox), (y, oy)] = none → ∀ v w, ox = some v → oy = some w → ∀ ml H', Ext p H H' → H ml = none → ml ≠ p → PlayM CG CS H' p ml v w k [] [] → Q .non H') ∧ Fault CL CW H (badOf lt o [(x, ox), (y, oy)]) E
section
variable {P : Program} {W0 : World} {K : PySem.W.Frag} {mg : Str → Option Value} {base : Heap} {f fS CG CS CL CW : Addr} {fd fdS : FuncData}
abbrev s_GI : Stmt := (inClass (top 23) 0)
abbrev N_GI : List Str := ["self", "letters", "k", "v", "w"]
theorem sc_GI : FnScope N_GI N_GI (defScope s_GI) := ⟨rfl, rfl, rfl, by decide +kernel, rfl, by decide +kernel, by decide +kernel⟩
theorem ok_GI (GT : GmT K mg CG) (ST : SdT K mg CS) (c_chk : CalX P W0 K mg base 6 "check_game_words" (spChk K CL CW)) (FS : FnOk P W0 K mg base CX0 3 fS fdS ["self", "v", "w", "k"] (spSI CS)) (MS : Mk K CS fS) (bS : Binds K fdS ["self", "v", "w", "k"] [])
    (F : L2.Fun K "__init__" "Game.__init__" s_GI f fd) : FnOk P W0 K mg base (L2.CX P W0) 7 f fd N_GI (spGI K CG CS CL CW) := by
  refine F.okX sc_GI (fun vs H Q E h => ?_) (fun cdv A outer s H vs Q E hr h => ?_)
  · obtain ⟨p, dx, lt, x, y, o, ox, oy, k, rfl, _⟩ := h
    rfl
  · obtain ⟨p, dx, lt, x, y, o, ox, oy, k, rfl, hp, tl, tx, ty, hk, kq, kf⟩ := h
    have nd := sc_GI.nd
    refine ⟨_, (pss_cons (ps_expr (pe_cE c_chk (passes_call (takes_of rfl rfl rfl rfl) (fun _ _ _ _ h => h)) hr (by decide) rfl (pa_cons (pv 1) (pa_cons (pe_lst (pa_cons (pv 3) (pa_cons (pv 4) pa_nil))) pa_nil))))
      (pss_cons (ps_fld (pv 0) (pv 2) rfl)
      (pss_cons (ps_fld (pv 0) (pe_tup (pa_cons (pv 3) (pa_cons (pv 4) pa_nil))) rfl)
      (pss_cons (ps_fld (pv 0) (pe_make MS FS (hr.mono (by decide)) rfl ST.mgC bS .nil pass0 (pa_cons (pv 3) (pa_cons (pv 4) (pa_cons (pv 2) pa_nil)))) rfl)
      (pss_one (ps_fld (pv 0) (pe_lst pa_nil) rfl)))))), ?_⟩
    refine ⟨_, rfl, _, rfl, _, rfl, by show 2 ≤ sizeLine; decide, fun l hl => ?_⟩
    have s1 : Same H (upd H l (.lst [x, y])) := Same.new hl
    refine ⟨lt, o, l, [(x, ox), (y, oy)], rfl, SqL.of upd_same, by show 2 ≤ 1000; decide, tl.same s1, fun q hq => ?_, fun hb H2 s2 => ?_, kf.same s1⟩
    · simp only [List.mem_cons, List.not_mem_nil, or_false] at hq
      rcases hq with rfl | rfl
      · exact tx.same s1
      · exact ty.same s1
    obtain ⟨L, rfl, hL, hall⟩ := bad_none hb
    obtain ⟨v, ev, v60, vL, vs⟩ := hall (x, ox) (by simp)
    obtain ⟨w', ew, w60, wL, ws⟩ := hall (y, oy) (by simp)
    have ev : ox = some v := ev
    have ew : oy = some w' := ew
    subst ev ew
    obtain rfl := txt_of tx
    obtain rfl := txt_of ty
    have s2' := s1.trans s2
    have p2 := s2' _ _ hp
    -- _rounds
    refine ⟨_, rfl, _, rfl, p, CG, dx, [], rfl, p2, GT.cl, GT.nR, by show 0 < 1000; decide, ?_⟩
    -- _words
    refine ⟨_, rfl, _, rfl, by show 2 ≤ sizeLine; decide, fun tw htw => ?_⟩
    have ntw : tw ≠ p := fun e => by rw [e] at htw; change upd _ p _ p = none at htw; rw [upd_same] at htw; cases htw
    have htw2 : H2 tw = none := by
      have z : upd H2 p (.ins CG dx [("_rounds", .int (k : Nat))]) tw = none := htw
      rwa [upd_ne ntw] at z
    refine ⟨_, rfl, p, CG, dx, [("_rounds", .int (k : Nat))], rfl, ?_, GT.cl, GT.nW, by show 1 < 1000; decide, ?_⟩
    · show upd (upd H2 p _) tw _ p = _
      rw [upd_ne ntw.symm, upd_same]
      rfl
    have pf : putF "_words" (V.ref tw) [("_rounds", .int (k : Nat))] = ([("_rounds", .int (k : Nat)), ("_words", .ref tw)] : List (Str × V)) := by
      show (if ("_rounds" : Str) = "_words" then _ else (("_rounds" : Str), V.int (k : Nat)) :: putF "_words" (V.ref tw) []) = _
      rw
        [if_neg (by decide +kernel)]
      rfl
    rw [pf]
    -- _sides
    refine ⟨_, rfl, _, rfl, _, rfl, fun sd sx hsd hsx hne => ?_⟩
    have pn : ∀ (b : Addr) o, H2 b = some o → b ≠ p → b ≠ tw → b ≠ sx → b ≠ sd → (upd (upd (upd (upd (upd H2 p (.ins CG dx [("_rounds", .int (k : Nat))])) tw (.tup [.str (S v), .str (S w')])) p (.ins CG dx [("_rounds", .int (k : Nat)), ("_words", .ref tw)])) sx (.own sd)) sd (.ins CS sx [])) b = some o := fun b o e n1 n2 n3 n4 => by
      rw [upd_ne n4, upd_ne n3, upd_ne n1, upd_ne n2, upd_ne n1]
      exact e
    have nsp : sd ≠ p := fun e => by rw [e, upd_same] at hsd; cases hsd
    have nxp : sx ≠ p := fun e => by rw [e, upd_same] at hsx; cases hsx
    have nst : sd ≠ tw := fun e => by
      rw [e, upd_ne ntw] at hsd
      change upd _ tw _ tw = none at hsd
      rw [upd_same] at hsd
      cases hsd
    have nxt : sx ≠ tw := fun e => by
      rw [e, upd_ne ntw] at hsx
      change upd _ tw _ tw = none at hsx
      rw [upd_same] at hsx
      cases hsx
    have hsd2 : H2 sd = none := by
      have z : upd (upd (upd H2 p (.ins CG dx [("_rounds", .int (k : Nat))])) tw (.tup [.str (S v), .str (S w')])) p (.ins CG dx [("_rounds", .int (k : Nat)), ("_words", .ref tw)]) sd = none := hsd
      rwa [upd_ne nsp, upd_ne nst, upd_ne nsp] at z
    have hsx2 : H2 sx = none := by
      have z : upd (upd (upd H2 p (.ins CG dx [("_rounds", .int (k : Nat))])) tw (.tup [.str (S v), .str (S w')])) p (.ins CG dx [("_rounds", .int (k : Nat)), ("_words", .ref tw)]) sx = none := hsx
      rwa [upd_ne nxp, upd_ne nxt, upd_ne nxp] at z
    refine ⟨sd, sx, v, w', k, rfl, upd_same, v60, w60, vs, ws, by omega, fun H3 x3 SD => ⟨rfl, ?_⟩⟩
    have e3p : H3 p = some (.ins CG dx [("_rounds", .int (k : Nat)), ("_words", .ref tw)]) := x3 _ _ nsp.symm (by rw [upd_ne nsp.symm, upd_ne nxp.symm, upd_same])
    have e3w : H3 tw = some (.tup [.str (S v), .str (S w')]) := x3 _ _ nst.symm (by
      rw [upd_ne nst.symm, upd_ne nxt.symm, upd_ne ntw]
      show upd _ tw _ tw = _
      rw [upd_same])
    have x03 : Ext p H2 H3 := fun b o n e => x3 _ _ (ne_of_none e hsd2) (pn b o e n (ne_of_none e htw2) (ne_of_none e hsx2) (ne_of_none e hsd2))
    refine ⟨_, rfl, p, CG, dx, [("_rounds", .int (k : Nat)), ("_words", .ref tw)], rfl, e3p, GT.cl, GT.nS, by show 2 < 1000; decide, ?_⟩
    have pf2 : putF "_sides" (V.ref sd) [("_rounds", .int (k : Nat)), ("_words", .ref tw)] = ([("_rounds", .int (k : Nat)), ("_words", .ref tw), ("_sides", .ref sd)] : List (Str × V)) := by
      show (if ("_rounds" : Str) = "_sides" then _ else (("_rounds" : Str), V.int (k : Nat)) :: (if ("_words" : Str) = "_sides" then _ else (("_words" : Str), V.ref tw) :: putF "_sides" (V.ref sd) [])) = _
      rw [if_neg (by decide +kernel), if_neg (by decide +kernel)]
      rfl
    rw [pf2]
    refine ⟨by show 0 ≤ sizeLine; decide, fun ml hml => ?_⟩
    have nmp : ml ≠ p := fun e => by rw [e] at hml; change upd _ p _ p = none at hml; rw [upd_same] at hml; cases hml
    have hml3 : H3 ml = none := by
      have z : upd H3 p (.ins CG dx [("_rounds", .int (k : Nat)), ("_words", .ref tw), ("_sides", .ref sd)]) ml = none := hml
      rwa [upd_ne nmp] at z
    have hml2 : H2 ml = none := by
      cases e : H2 ml with
      | none => rfl
      | some o => rw [x03 _ _ nmp e] at hml3; cases hml3
    have hml0 : H ml = none := by
      cases e : H ml with
      | none => rfl
      | some o => rw [s2' _ _ e] at hml2; cases hml2
    refine ⟨_, rfl, p, CG, dx, [("_rounds", .int (k : Nat)), ("_words", .ref tw), ("_sides", .ref sd)], rfl, ?_, GT.cl, GT.nM, by show 3 < 1000; decide, ?_⟩
    · show upd (upd H3 p _) ml _ p = _
      rw [upd_ne nmp.symm, upd_same]
    have pf3 : putF "_marks" (V.ref ml) [("_rounds", .int (k : Nat)), ("_words", .ref tw), ("_sides", .ref sd)] = gmF k tw sd ml := by
      show (if ("_rounds" : Str) = "_marks" then _ else (("_rounds" : Str), V.int (k : Nat)) :: (if ("_words" : Str) = "_marks" then _ else (("_words" : Str), V.ref tw) :: (if ("_sides" : Str) = "_marks" then _ else (("_sides" : Str), V.ref sd) :: putF "_marks" (V.ref ml) []))) = _
      rw [if_neg (by decide +kernel), if_neg (by decide +kernel), if_neg (by decide +kernel)]
      rfl
    rw [pf3]
    have nmw : ml ≠ tw := fun e => by rw [e, e3w] at hml3; cases hml3
    have xF : Ext p H3 (upd (upd (upd H3 p (.ins CG dx [("_rounds", .int (k : Nat)), ("_words", .ref tw), ("_sides", .ref sd)])) ml (.lst [])) p (.ins CG dx (gmF k tw sd ml))) := fun b o n e => by
      rw [upd_ne n, upd_ne (ne_of_none e hml3), upd_ne n]
      exact e
    refine kq hb v w' rfl rfl ml _ ((Ext.of s2').trans (x03.trans xF)) hml0 nmp ⟨⟨[], ⟨⟨dx, tw, sd, upd_same, xF _ _ ntw e3w, ?_⟩, ⟨?_, rfl, fun i a q ha => by simp at ha⟩⟩⟩, fun q hq => by simp at hq, fun q hq => by simp at hq, Nat.zero_le _, fun q hq => by simp at hq, v60, w60, Nat.zero_le _, hk⟩
    · obtain ⟨dy, t1, t2, m1, m2, mv1, mv2, ks, a1, a2, a3, a4, a5, a6⟩ := SD.ex
      have np : ∀ {b : Addr} {o : HO}, H3 b = some o → (∀ fs, o ≠ .ins CG dx fs) → b ≠ p := fun {b o} e n z => by
        rw [z, e3p] at e
        cases e
        exact n _ rfl
      exact ⟨dy, t1, t2, m1, m2, mv1, mv2, ks, xF _ _ nsp a1, xF _ _ (np a2 (fun fs z => by cases z)) a2, xF _ _ (np a3 (fun fs z => by cases z)) a3, xF _ _ (np a4 (fun fs z => by cases z)) a4, xF _ _ (np a5 (fun fs z => by cases z)) a5, a6⟩
    · show upd (upd _ ml _) p _ ml = _
      rw [upd_ne nmp, upd_same]
      rfl
end
end Ws

/-! the law's games played out: answers and wins, which call one another -/
namespace Ws
open PySem PySem.Spec PyProof.Rows L2
def ansL (v w : List Nat) (k : Nat) (ms : List (Nat × Nat)) (i x : Nat) : List Nat := (List.range (wd v w (1 - i)).length).filter fun y => winsB v w k (ms ++ [cpl i x y])
def intsV (l : List Nat) : List V := l.map fun y => V.int ((y : Nat) : Int)
theorem ansL_head {v w : List Nat} {k : Nat} {ms : List (Nat × Nat)} {i x : Nat} : (ansL v w k ms i x).head? = ansO v w k ms i x := by
  unfold ansL ansO
  rw [List.head?_filter]
theorem ansL_nil {v w : List Nat} {k : Nat} {ms : List (Nat × Nat)} {i x : Nat} : (ansL v w k ms i x = []) ↔ ansO v w k ms i x = none := by
  rw [← ansL_head, List.head?_eq_none_iff]
theorem ansL_any {v w : List Nat} {k : Nat} {ms : List (Nat × Nat)} {i x : Nat} : ((List.range (wd v w (1 - i)).length).any fun y => winsB v w k (ms ++ [cpl i x y])) = !decide (ansL v w k ms i x = []) := by
  cases h : (List.range (wd v w (1 - i)).length).any fun y => winsB v w k (ms ++ [cpl i x y]) with
  | true =>
    obtain ⟨y, hy, hw⟩ := List.any_eq_true.mp h
    have : ansL v w k ms i x ≠ [] := List.ne_nil_of_mem (List.mem_filter.mpr ⟨hy, hw⟩)
    rw [decide_eq_false this]
    rfl
  | false =>
    have : ansL v w k ms i x = [] := List.filter_eq_nil_iff.mpr fun y hy hw => by
      rw [List.any_eq_true.mpr ⟨y, hy, hw⟩] at h
      cases h
    rw [decide_eq_true this]
    rfl
theorem wins_by {v w : List Nat} {k : Nat} {ms : List (Nat × Nat)} : winsB v w (k + 1) ms = (fairB v w ms && ((List.range v.length).all (fun x => !decide (ansL v w k ms 0 x = [])) && (List.range w.length).all fun x => !decide (ansL v w k ms 1 x = []))) := by
  show (fairB v w ms && _) = _
  congr 2
  · refine congrArg _ (funext fun x => ?_)
    rw [← ansL_any]
    rfl
  · refine congrArg _ (funext fun x => ?_)
    rw [← ansL_any]
    rfl
def spW (n : Nat) : Sp := fun vs H Q _ => ∃ (v w : List Nat) (m : Addr) (as : List Addr) (ms : List (Nat × Nat)) (k : Nat), vs = [.str (S v), .str (S w), .ref m, .int k] ∧ k < n ∧ v.length ≤ 1000 ∧ w.length ≤ 1000 ∧ ms.length + k ≤ 1000 ∧ MarksAt H m as ms ∧ Inb v w ms ∧
  ∀ H', Same H H' → Q (.bl (winsB v w k ms)) H'
def spLA (n : Nat) : Sp := fun vs H Q _ => ∃ (v w : List Nat) (m : Addr) (as : List Addr) (ms : List (Nat × Nat)) (i x k : Nat), vs = [.str (S v), .str (S w), .ref m, .int i, .int x, .int k] ∧ k < n ∧ v.length ≤ 1000 ∧ w.length ≤ 1000 ∧ ms.length + k ≤ 999 ∧ MarksAt H m as ms ∧ Inb v w ms ∧ i ≤ 1 ∧ x < (wd v w i).length ∧
  ∀ D H', Same H H' → H D = none → H' D = some (.lst (intsV (ansL v w k ms i x))) → Q (.ref D) H'
theorem wd_atL {v w : List Nat} {i : Nat} (hi : i ≤ 1) : atI ([.str (S w), .str (S v)] : List V) (i : Nat) = some (.str (S (wd v w (1 - i)))) := by
  rcases (show i = 0 ∨ i = 1 by omega) with rfl | rfl <;> rfl
section
variable {P : Program} {W0 : World} {K : PySem.W.Frag} {mg : Str → Option Value} {base : Heap} {f : Addr} {fd : FuncData}
abbrev s_LA : Stmt := (top 31)
abbrev N_LA : List Str := ["v", "w", "marks", "which", "x", "k", "made", "y"]
theorem sc_LA : FnScope N_LA ["v", "w", "marks", "which", "x", "k"] (defScope s_LA) := ⟨rfl, rfl, rfl, by decide +kernel, rfl, by decide +kernel, by decide +kernel⟩
theorem ok_LA {n j : Nat} (T : Bl mg) (D : Def K mg "_law_answers" s_LA f fd ["v", "w", "marks", "which", "x", "k"]) (c_w : Cal P W0 K mg base j "_law_wins" (spW n)) : Cal P W0 K mg base (j + 1) "_law_answers" (spLA n) := by
  refine D.cal (D.fn.ok sc_LA (fun vs H Q E h => ?_) (fun cdv A outer s H vs Q E hr h => ?_))
  · obtain ⟨v, w, m, as, ms, i, x, k, rfl, _⟩ := h
    rfl
  · obtain ⟨v, w, m, as, ms, i, x, k, rfl, hk, hv, hw, hml, M, hI, hi, hx, kq⟩ := h
    have nd := sc_LA.nd
    refine ⟨_, (pss_cons (ps_set (i := 6) nd rfl (.inl rfl) (pe_lst pa_nil))
      (pss_cons (ps_for PassesOwn.never rfl (pi_range1 (by rfl) T.range (pa_cons (pe_callB call_len_str (by rfl) T.len PySem.boot_len (pa_cons (pe_ix ix_list (pe_lst (pa_cons (pv 1) (pa_cons (pv 0) pa_nil))) (pv 3) (fun _ _ => rfl)) pa_nil)) pa_nil)) (pg_name (i := 7) nd rfl (.inl rfl))
      (pss_one (ps_if (pt_val (pe_c c_w hr (Nat.le_refl _) rfl (pa_cons (pv 0) (pa_cons (pv 1) (pa_cons (pe_op op_cat (pv 2) (pe_lst (pa_cons (pe_ix ix_list (pe_lst (pa_cons (pe_tup (pa_cons (pv 4) (pa_cons (pv 7) pa_nil))) (pa_cons (pe_tup (pa_cons (pv 7) (pa_cons (pv 4) pa_nil))) pa_nil))) (pv 3) (fun _ _ => rfl)) pa_nil))) (pa_cons (pv 5) pa_nil))))))
      (pss_one (ps_expr (pe_bm PySem.F.plainAttrs_list PySem.F.slot_list_append PySem.F.type_list_append mt_append (pv 6) (pa_cons (pv 7) pa_nil))))
      pss_nil)))
      (pss_one (ps_ret (pv 6))))), ?_⟩
    have hwl : (wd v w (1 - i)).length ≤ 1000 := by unfold wd; split <;> assumption
    have hz : (S (wd v w (1 - i))).length ≤ sizeLine := S_le (by omega)
    have nl : ((((S (wd v w (1 - i))).length : Nat) : Int)).toNat = (wd v w (1 - i)).length := by rw [SX.S_len]; omega
    refine ⟨by show 0 ≤ sizeLine; decide, fun d hd => ?_⟩
    refine ⟨_, rfl, _, rfl, by show 2 ≤ sizeLine; decide, fun l hl => ⟨_, rfl, l, _, _, _, rfl, rfl, SqL.of upd_same, wd_atL hi, _, rfl, hz, _, rfl, by rw [SX.S_len]; omega, by rw [SX.S_len]; omega, ?_⟩⟩
    rw [nl]
    have s0 : Same H (upd (upd H d (.lst [])) l (.lst [.str (S w), .str (S v)])) := (Same.new hd).trans (Same.new hl)
    have ndl : d ≠ l := fun e => by rw [← e, upd_same] at hl; cases hl
    refine for_range (lo := 0) (n := (wd v w (1 - i)).length) (fun y σ H' => ∃ z7, σ = [some (.str (S v)), some (.str (S w)), some (.ref m), some (.int (i : Nat)), some (.int (x : Nat)), some (.int (k : Nat)), some (.ref d), z7] ∧ Same H H' ∧
        H' d = some (.lst (intsV ((List.range y).filter fun y => winsB v w k (ms ++ [cpl i x y])))))
      ⟨none, rfl, s0, by rw [upd_ne ndl, upd_same]; rfl⟩ ?_ ?_
    · rintro y σ H1 hy ⟨z7, rfl, s1, e1⟩
      rw [show (0 : Int) + (y : Int) = ((y : Nat) : Int) from Int.zero_add _]
      refine ⟨_, rfl, _, rfl, _, rfl, _, rfl, _, rfl, by show 2 ≤ sizeLine; decide, fun t ht => ⟨_, rfl, _, rfl, by show 2 ≤ sizeLine; decide, fun t2 ht2 => ⟨by show 2 ≤ sizeLine; decide, fun l2 hl2 => ?_⟩⟩⟩
      have n12 : t ≠ t2 := fun e => by rw [← e, upd_same] at ht2; cases ht2
      obtain ⟨tt, hat, htt⟩ : ∃ tt, atI ([.ref t, .ref t2] : List V) (i : Nat) = some (.ref tt) ∧ (upd (upd H1 t (.tup [.int (x : Nat), .int (y : Nat)])) t2 (.tup [.int (y : Nat), .int (x : Nat)])) tt = some (.tup [.int (cpl i x y).1, .int (cpl i x y).2]) := by
        rcases (show i = 0 ∨ i = 1 by omega) with rfl | rfl
        · exact ⟨t, rfl, by rw [upd_ne n12, upd_same]; rfl⟩
        · exact ⟨t2, rfl, by rw [upd_same]; rfl⟩
      refine ⟨_, rfl, l2, _, _, _, rfl, rfl, SqL.of upd_same, hat, by show 1 ≤ sizeLine; decide, fun l3 hl3 => ?_⟩
      have sA : Same H1 (upd (upd H1 t (.tup [.int (x : Nat), .int (y : Nat)])) t2 (.tup [.int (y : Nat), .int (x : Nat)])) := (Same.new ht).trans (Same.new ht2)
      have sB := (Same.new (o := .lst [.ref t, .ref t2]) hl2).trans (Same.new (o := .lst [.ref tt]) hl3)
      have M2 := M.same (s1.trans (sA.trans sB))
      refine ⟨m, l3, as.map V.ref, [.ref tt], rfl, rfl, M2.at_, upd_same, by rw [List.length_map, M.len, sizeLine_eq]; simp only [List.length_cons, List.length_nil]; omega, fun p hp => ?_⟩
      have sC := Same.new (o := .lst (as.map V.ref ++ [.ref tt])) hp
      refine ⟨_, rfl, ?_⟩
      dsimp only [tNil]
      have sAll := s1.trans (sA.trans (sB.trans sC))
      have hb : Inb v w (ms ++ [cpl i x y]) := inb_cpl hI hx hy hi
      refine ⟨v, w, p, as ++ [tt], ms ++ [cpl i x y], k, rfl, hk, hv, hw, by rw [List.length_append]; simp only [List.length_cons, List.length_nil]; omega, (M2.same sC).cat (sC _ _ (sB _ _ htt)) upd_same, hb, fun H3 s3 => ⟨_, rfl, ?_⟩⟩
      have e3 : H3 d = some (.lst (intsV ((List.range y).filter fun y => winsB v w k (ms ++ [cpl i x y])))) := s3 _ _ (sC _ _ (sB _ _ (sA _ _ e1)))
      have sD := sAll.trans s3
      refine iteB (fun h => ?_) (fun h => ?_)
      · refine ⟨_, rfl, .inl ⟨rfl, _, SqL.of e3⟩, _, rfl, d, _, _, rfl, rfl, e3, ?_, ?_⟩
        · have : ((List.range y).filter fun y => winsB v w k (ms ++ [cpl i x y])).length ≤ y := by
            have := List.length_filter_le (fun y => winsB v w k (ms ++ [cpl i x y])) (List.range y)
            rwa [List.length_range] at this
          rw [intsV, List.length_map, sizeLine_eq]
          omega
        · refine ⟨_, rfl, fun b o e => ?_, ?_⟩
          · rw [upd_ne (ne_of_none e hd)]
            exact sD _ _ e
          · rw [upd_same, List.range_succ, List.filter_append]
            have : List.filter (fun y => winsB v w k (ms ++ [cpl i x y])) [y] = [y] := by simp only [List.filter_cons, h, if_true, List.filter_nil]
            rw [this, intsV, intsV, List.map_append]
            rfl
      · refine ⟨_, rfl, sD, ?_⟩
        rw [List.range_succ, List.filter_append]
        have : List.filter (fun y => winsB v w k (ms ++ [cpl i x y])) [y] = [] := by simp only [List.filter_cons, h, Bool.false_eq_true, if_false, List.filter_nil]
        rw [this, List.append_nil]
        exact e3
    · rintro σ H1 ⟨z7, rfl, s1, e1⟩
      exact ⟨_, rfl, kq d H1 s1 hd e1⟩
abbrev s_LW : Stmt := (top 32)
abbrev N_LW : List Str := ["v", "w", "marks", "k", "which", "x"]
theorem sc_LW : FnScope N_LW ["v", "w", "marks", "k"] (defScope s_LW) := ⟨rfl, rfl, rfl, by decide +kernel, rfl, by decide +kernel, by decide +kernel⟩
theorem ok_LW0 (D : Def K mg "_law_wins" s_LW f fd ["v", "w", "marks", "k"]) : Cal P W0 K mg base 1 "_law_wins" (spW 0) := by
  refine D.cal (D.fn.ok sc_LW (fun vs H Q E h => ?_) (fun cdv A outer s H vs Q E hr h => ?_))
  · obtain ⟨v, w, m, as, ms, k, rfl, _⟩ := h
    rfl
  · obtain ⟨v, w, m, as, ms, k, rfl, hk, _⟩ := h
    exact absurd hk (Nat.not_lt_zero _)
theorem wd_at0 {v w : List Nat} {i : Nat} (hi : i ≤ 1) : atI ([.str (S v), .str (S w)] : List V) (i : Nat) = some (.str (S (wd v w i))) := wd_at hi
theorem ok_LW {n j : Nat} (T : Bl mg) (D : Def K mg "_law_wins" s_LW f fd ["v", "w", "marks", "k"]) (c_fair : Cal P W0 K mg base 1 "_law_fair" (spFair K)) (hj : 1 ≤ j) (c_a : Cal P W0 K mg base j "_law_answers" (spLA n)) : Cal P W0 K mg base (j + 1) "_law_wins" (spW (n + 1)) := by
  refine D.cal (D.fn.ok sc_LW (fun vs H Q E h => ?_) (fun cdv A outer s H vs Q E hr h => ?_))
  · obtain ⟨v, w, m, as, ms, k, rfl, _⟩ := h
    rfl
  · obtain ⟨v, w, m, as, ms, k, rfl, hk, hv, hw, hml, M, hI, kq⟩ := h
    have nd := sc_LW.nd
    refine ⟨_, (pss_cons (ps_if (pt_not (pt_val (pe_c c_fair hr (by omega) rfl (pa_cons (pv 0) (pa_cons (pv 1) (pa_cons (pv 2) pa_nil))))))
      (pss_one (ps_ret pe_bl))
      pss_nil)
      (pss_cons (ps_if (pt_cmpR op_eq (pv 3) pe_int (nomark _))
      (pss_one (ps_ret pe_bl))
      pss_nil)
      (pss_cons (ps_for PassesOwn.never rfl (pi_range1 (by rfl) T.range (pa_cons pe_int pa_nil)) (pg_name (i := 4) nd rfl (.inl rfl))
      (pss_one (ps_for PassesOwn.never rfl (pi_range1 (by rfl) T.range (pa_cons (pe_callB call_len_str (by rfl) T.len PySem.boot_len (pa_cons (pe_ix ix_list (pe_lst (pa_cons (pv 0) (pa_cons (pv 1) pa_nil))) (pv 4) (fun _ _ => rfl)) pa_nil)) pa_nil)) (pg_name (i := 5) nd rfl (.inl rfl))
      (pss_one (ps_if (pt_cmpR op_eq (pe_callB call_len_seq (by rfl) T.len PySem.boot_len (pa_cons (pe_c c_a hr (Nat.le_refl _) rfl (pa_cons (pv 0) (pa_cons (pv 1) (pa_cons (pv 2) (pa_cons (pv 4) (pa_cons (pv 5) (pa_cons (pe_op op_sub (pv 3) pe_int) pa_nil))))))) pa_nil)) pe_int (nomark _))
      (pss_one (ps_ret pe_bl))
      pss_nil)))))
      (pss_one (ps_ret pe_bl))))), ?_⟩
    refine ⟨_, rfl, _, rfl, _, rfl, v, w, m, as, ms, rfl, hv, hw, M, hI, _, rfl, ?_⟩
    refine iteB (fun h => ?_) (fun h => ?_)
    · have hf : fairB v w ms = false := by simpa using h
      have e : winsB v w k ms = false := by
        cases k with
        | zero => exact hf
        | succ k => show (fairB v w ms && _) = false; rw [hf, Bool.false_and]
      rw [e] at kq
      exact kq _ (refl_same _)
    have hf : fairB v w ms = true := by simpa using h
    refine ⟨_, rfl, rfl, _, rfl, ?_⟩
    refine iteV (fun h0 => ?_) (fun h0 => ?_)
    · have ek : k = 0 := by
        have := V.int.inj h0
        omega
      subst ek
      have e : winsB v w 0 ms = true := hf
      rw [e] at kq
      exact kq _ (refl_same _)
    obtain ⟨k', rfl⟩ : ∃ k', k = k' + 1 := by
      cases k with
      | zero => exact absurd rfl h0
      | succ k' => exact ⟨k', rfl⟩
    have ew : winsB v w (k' + 1) ms = ((List.range v.length).all (fun x => !decide (ansL v w k' ms 0 x = [])) && (List.range w.length).all fun x => !decide (ansL v w k' ms 1 x = [])) := by
      rw [wins_by, hf, Bool.true_and]
    have ekk : (((k' + 1 : Nat) : Int) - 1) = ((k' : Nat) : Int) := by omega
    refine ⟨2, rfl, by decide, by decide, ?_⟩
    refine for_range (lo := 0) (n := 2) (fun i σ H' => ∃ z4 z5, σ = [some (.str (S v)), some (.str (S w)), some (.ref m), some (.int ((k' + 1 : Nat) : Int)), z4, z5] ∧ Same H H' ∧ ∀ j, j < i → ∀ x, x < (wd v w j).length → ansL v w k' ms j x ≠ [])
      ⟨none, none, rfl, refl_same _, fun j h => absurd h (Nat.not_lt_zero _)⟩ ?_ ?_
    · rintro i σ H1 hi2 ⟨z4, z5, rfl, s1, hall⟩
      rw [show (0 : Int) + (i : Int) = ((i : Nat) : Int) from Int.zero_add _]
      have hi : i ≤ 1 := by omega
      have hwl : (wd v w i).length ≤ 1000 := by unfold wd; split <;> assumption
      have hz : (S (wd v w i)).length ≤ sizeLine := S_le (by omega)
      have nl : ((((S (wd v w i)).length : Nat) : Int)).toNat = (wd v w i).length := by rw [SX.S_len]; omega
      refine ⟨_, rfl, _, rfl, by show 2 ≤ sizeLine; decide, fun l hl => ⟨_, rfl, l, _, _, _, rfl, rfl, SqL.of upd_same, wd_at hi, _, rfl, hz, _, rfl, by rw [SX.S_len]; omega, by rw [SX.S_len]; omega, ?_⟩⟩
      rw [nl]
      refine for_range (lo := 0) (n := (wd v w i).length) (fun x σ H' => ∃ z5, σ = [some (.str (S v)), some (.str (S w)), some (.ref m), some (.int ((k' + 1 : Nat) : Int)), some (.int (i : Nat)), z5] ∧ Same H H' ∧ ∀ y, y < x → ansL v w k' ms i y ≠ [])
        ⟨z5, rfl, s1.trans (Same.new hl), fun x h => absurd h (Nat.not_lt_zero _)⟩ ?_ ?_
      · rintro x σ H2 hx ⟨z6, rfl, s2, hx2⟩
        rw [show (0 : Int) + (x : Int) = ((x : Nat) : Int) from Int.zero_add _]
        refine ⟨_, rfl, _, rfl, _, rfl, _, rfl, _, rfl, _, rfl, _, _, rfl, rfl, ?_⟩
        dsimp only [tNil]
        rw [ekk]
        refine ⟨v, w, m, as, ms, i, x, k', rfl, by omega, hv, hw, by omega, M.same s2, hI, hi, hx, fun D H3 s3 hD eD => ?_⟩
        refine ⟨D, _, rfl, .inl (SqL.of eD), rfl, _, rfl, ?_⟩
        have hlen : (intsV (ansL v w k' ms i x)).length = (ansL v w k' ms i x).length := by rw [intsV, List.length_map]
        refine iteV (fun h => ?_) (fun h => ?_)
        · have hn : ansL v w k' ms i x = [] := by
            have h : (((intsV (ansL v w k' ms i x)).length : Nat) : Int) = 0 := V.int.inj h
            rw [hlen] at h
            exact List.eq_nil_of_length_eq_zero (by omega)
          have e : winsB v w (k' + 1) ms = false := by
            rw [ew]
            rcases (show i = 0 ∨ i = 1 by omega) with rfl | rfl
            · have : (List.range v.length).all (fun x => !decide (ansL v w k' ms 0 x = [])) = false := all_not (i := x) (x := x) (List.getElem?_range (show x < v.length from hx)) (by rw [decide_eq_true hn]; rfl)
              rw [this, Bool.false_and]
            · have : (List.range w.length).all (fun x => !decide (ansL v w k' ms 1 x = [])) = false := all_not (i := x) (x := x) (List.getElem?_range (show x < w.length from hx)) (by rw [decide_eq_true hn]; rfl)
              rw [this, Bool.and_false]
          rw [e] at kq
          exact kq _ (s2.trans s3)
        · refine ⟨_, rfl, s2.trans s3, fun y hy => ?_⟩
          by_cases e : y = x
          · subst e
            intro z
            refine h ?_
            rw [z]
            rfl
          · exact hx2 y (by omega)
      · rintro σ H2 ⟨z6, rfl, s2, hx2⟩
        refine ⟨_, _, rfl, s2, fun j hj x hx => ?_⟩
        by_cases e : j = i
        · subst e
          exact hx2 x hx
        · exact hall j (by omega) x hx
    · rintro σ H1 ⟨z4, z5, rfl, s1, hall⟩
      have e : winsB v w (k' + 1) ms = true := by
        rw [ew, Bool.and_eq_true]
        refine ⟨List.all_eq_true.mpr fun x hx => ?_, List.all_eq_true.mpr fun x hx => ?_⟩
        · rw [decide_eq_false (hall 0 (by decide) x (List.mem_range.mp hx))]
          rfl
        · rw [decide_eq_false (hall 1 (by decide) x (List.mem_range.mp hx))]
          rfl
      rw [e] at kq
      exact kq _ s1
end
end Ws

/-! a comprehension with a test, its list told by an invariant -/
namespace Ws
open PySem PySem.Spec PyProof.Rows L2
section
variable {J : It} {n : Nat} {G : Hp → Prop} {Y : Nat → Hp → V → Hp → Prop} {g : TG} {te : TE} {tt : TT} {vs : List Nat} {σ : L2.St} {H1 : Hp} {D : Addr} {Qd : Hp → Prop}
theorem lcG (w : Walk J n G Y) (hn : n < sizeLine) (Iv : Nat → List V → Hp → Prop) (h0 : Iv 0 [] (upd H1 D (.lst []))) (hG : ∀ i ys H, Iv i ys H → G H) (hl : ∀ i ys H, Iv i ys H → ys.length ≤ i)
    (hs : ∀ i ys x H H', i < n → Iv i ys H → H D = some (.lst ys) → Y i H x H' → ∀ (Q : VK) (Qn : Hp → Prop),
      (∀ v H2, H2 D = some (.lst ys) → Iv (i + 1) (ys ++ [v]) (upd H2 D (.lst (ys ++ [v]))) → Q v H2) → (∀ H2, H2 D = some (.lst ys) → Iv (i + 1) ys H2 → Qn H2) →
      g x (wipe σ vs) H' fun σ2 H2 => wipe σ2 vs = wipe σ vs ∧ tt σ2 H2 fun b H3 => if b = true then te σ2 H3 Q else Qn H3)
    (hd : ∀ ys H, Iv n ys H → H D = some (.lst ys) → Qd H) :
    ∃ W : Nat → Nat → Hp → Prop, (∃ m, W 0 m (upd H1 D (.lst []))) ∧
        ∀ i m H, W i m H →
      (J.stop i H ∧ Qd H) ∨ (J.go i H ∧ ∃ Nx : Hp → Prop, (∀ H', Nx H' → ∃ m', m' < m ∧ W (i + 1) m' H') ∧ ∀ x H', J.yld i H x H' →
        g x (wipe σ vs) H' fun σ2 H2 => wipe σ2 vs = wipe σ vs ∧ tt σ2 H2 fun b H3 =>
          if b = true then te σ2 H3 fun y H4 => ∃ acc, H4 D = some (.lst acc) ∧
              acc.length < sizeLine ∧ Nx (upd H4 D (.lst (acc ++ [y]))) else Nx H3) := by
  refine ⟨fun i m H => m = n - i ∧ i ≤ n ∧ ∃ ys, Iv i ys H ∧ H D = some (.lst ys), ⟨n, by simp, Nat.zero_le _, [], h0, upd_same⟩, ?_⟩
  rintro i m H ⟨rfl, hi, ys, iv, hy⟩
  by_cases hlt : i < n
  · refine .inr ⟨w.goes i H hlt (hG i ys H iv), fun H' => i + 1 ≤ n ∧ ∃ ys, Iv (i + 1) ys H' ∧ H' D = some (.lst ys), fun H' p => ⟨n - (i + 1), by omega, rfl, p⟩, fun x H' y => ?_⟩
    refine hs i ys x H H' hlt iv hy (w.yields i H x H' hlt (hG i ys H iv) y) _ _ (fun v H2 e2 iv2 => ?_) (fun H2 e2 iv2 => ⟨hlt, ys, iv2, e2⟩)
    exact ⟨ys, e2, by have := hl i ys H iv; omega, hlt, _, iv2, upd_same⟩
  · have e : i = n := by omega
    subst e
    exact .inl ⟨w.stops H (hG _ ys H iv), hd ys H iv hy⟩
end
end Ws

/-! the law's _law_done: a method called, its error told -/
namespace Ws
open PySem PySem.Spec PyProof.Rows L2
theorem place_lk {u v : V} : List.lookup ("place" : Str) [(("place" : Str), u), (("word" : Str), v)] = some u := by simp [List.lookup]
def tagF (b : Nat) : Str := if b = 0 then "number" else if b = 1 then "turn" else "nothing"
/-- how three except clauses answer -/
structure Ex3 (K : PySem.W.Frag) (CB CU CN : Addr) : Prop where
  bb : PySem.W.exmOne K (.ref CB) (.ref CB) = some true
  ub : PySem.W.exmOne K (.ref CU) (.ref CB) = some false
  uu : PySem.W.exmOne K (.ref CU) (.ref CU) = some true
  nb : PySem.W.exmOne K (.ref CN) (.ref CB) = some false
  nu : PySem.W.exmOne K (.ref CN) (.ref CU) = some false
  nn : PySem.W.exmOne K (.ref CN) (.ref CN) = some true
def dnE (kd : Nat) (v w : List Nat) (k : Nat) (rs : List (Nat × (Nat × Nat))) (op : List (Nat × Nat)) (x y : V) (ox oy : Option Int) : Option (Nat × V) :=
  if kd = 0 then mfE v w k rs op x y ox oy else if kd = 1 then mbE v w op y oy else tbE rs op
def dnR (kd : Nat) (rs : List (Nat × (Nat × Nat))) (op : List (Nat × Nat)) (oy : Option Int) : List (Nat × (Nat × Nat)) := if kd = 0 then rs else if kd = 1 then mbS rs op oy else tbR rs op
def dnO (kd : Nat) (rs : List (Nat × (Nat × Nat))) (op : List (Nat × Nat)) (ox oy : Option Int) : List (Nat × Nat) := if kd = 0 then [((ox.getD 0).toNat, (oy.getD 0).toNat)] else if kd = 1 then [] else tbO rs op
def spDone (K : PySem.W.Frag) (CG CS : Addr) : Sp := fun vs H Q _ => ∃ (g ml : Addr) (v w : List Nat) (k : Nat) (rs : List (Nat × (Nat × Nat))) (op : List (Nat × Nat)) (kd : Nat) (x y : V) (ox oy : Option Int), vs = [.ref g, .int kd, x, y] ∧ PlayM CG CS H g ml v w k rs op ∧ IntA K x ox ∧ IntA K y oy ∧
  (dnE kd v w k rs op x y ox oy = none → ∀ H', Ext ml H H' → PlayM CG CS H' g ml v w k (dnR kd rs op oy) (dnO kd rs op ox oy) → Q .non H') ∧
  ∀ b u, dnE kd v w k rs op x y ox oy = some (b, u) → ∀ t H', Same H H' → H' t = some (.tup [.str (tagF b), u]) → Q (.ref t) H'
theorem fault_b {b : Nat} {u : V} {v w : List Nat} {k : Nat} {rs : List (Nat × (Nat × Nat))} {op : List (Nat × Nat)} {x y : V} {ox oy : Option Int} {kd : Nat} (h : dnE kd v w k rs op x y ox oy = some (b, u)) : b = 0 ∨ b = 1 ∨ b = 2 := by
  unfold dnE at h
  split at h
  · unfold mfE at h
    (repeat' split at h) <;> first | cases h | skip
    all_goals first | exact .inl rfl | exact .inr (.inl rfl) | exact .inr (.inr rfl)
  · split at h
    · unfold mbE at h
      (repeat' split at h) <;> first | cases h | skip
      all_goals first | exact .inl rfl | exact .inr (.inl rfl) | exact .inr (.inr rfl)
    · unfold tbE at h
      split at h
      · cases h
        exact .inr (.inr rfl)
      · cases h
section
variable {P : Program} {W0 : World} {K : PySem.W.Frag} {mg : Str → Option Value} {base : Heap} {f CG CS CB CU CN : Addr} {fd : FuncData}
abbrev s_DN : Stmt := (top 33)
abbrev N_DN : List Str := ["game", "kind", "which", "place", "error"]
theorem sc_DN : FnScope N_DN ["game", "kind", "which", "place"] (defScope s_DN) := ⟨rfl, rfl, rfl, by decide +kernel, rfl, by decide +kernel, by decide +kernel⟩
theorem ok_DN (GT : GmT K mg CG) (EB : ErC P W0 K mg base "BadNumber" CB) (EU : ErC P W0 K mg base "Unlike" CU) (EN : ErC P W0 K mg base "NothingThere" CN) (X3 : Ex3 K CB CU CN)
    (c_mf : MCalX P W0 K mg base CG "mark_first" 6 (spMF K CG CS CB CU CN)) (c_mb : MCalX P W0 K mg base CG "mark_back" 6 (spMB K CG CS CB CU CN)) (c_tb : MCalX P W0 K mg base CG "take_back" 6 (spTB CG CS CB CU CN))
    (D : Def K mg "_law_done" s_DN f fd ["game", "kind", "which", "place"]) : Cal P W0 K mg base 7 "_law_done" (spDone K CG CS) := by
  refine D.cal (D.fn.ok sc_DN (fun vs H Q E h => ?_) (fun cdv A outer s H vs Q E hr h => ?_))
  · obtain ⟨g, ml, v, w, k, rs, op, kd, x, y, ox, oy, rfl, _⟩ := h
    rfl
  · obtain ⟨g, ml, v, w, k, rs, op, kd, x, y, ox, oy, rfl, PL, ix, iy, kq, kf⟩ := h
    have nd := sc_DN.nd
    refine ⟨_, (pss_one (ps_try_manyAs rfl rfl nd takes0
      (fun Wi pz xz tk po => pss_cons (ps_if (pt_cmpR op_eq (pv 1) pe_int (nomark _)) (pss_one (ps_ret (pe_mS c_mf tk GT.cl hr (by decide) (pv 0) (pa_cons (pv 2) (pa_cons (pv 3) pa_nil))))) pss_nil)
        (pss_cons (ps_if (pt_cmpR op_eq (pv 1) pe_int (nomark _)) (pss_one (ps_ret (pe_mS c_mb tk GT.cl hr (by decide) (pv 0) (pa_cons (pv 3) pa_nil)))) pss_nil)
        (pss_one (ps_ret (pe_mS0 c_tb tk GT.cl hr (by decide) (pv 0))))))
      (.cons (i := 4) rfl rfl ⟨rfl, by decide, .inl EB.mgC⟩ (fun a oe cls d pz hz hf => pss_one (ps_ret (pe_tup (pa_cons pe_str (pa_cons (pe_xf EB.xf EB.np hz hf (pv 4)) pa_nil)))))
      (.cons (i := 4) rfl rfl ⟨rfl, by decide, .inl EU.mgC⟩ (fun a oe cls d pz hz hf => pss_one (ps_ret (pe_tup (pa_cons pe_str (pa_cons (pe_xf EU.xf EU.np hz hf (pv 4)) pa_nil)))))
      (.cons (i := 4) rfl rfl ⟨rfl, by decide, .inl EN.mgC⟩ (fun a oe cls d pz hz hf => pss_one (ps_ret (pe_tup (pa_cons pe_str (pa_cons (pe_xf EN.xf EN.np hz hf (pv 4)) pa_nil))))) .nil))))), ?_⟩
    obtain ⟨as, G⟩ := PL.at_
    obtain ⟨dx, tw, sd, e1, e2, e3⟩ := G.ex
    have gno : ∀ {m : Str}, (m == ("_rounds" : Str)) = false → (m == ("_words" : Str)) = false → (m == ("_sides" : Str)) = false → (m == ("_marks" : Str)) = false → List.lookup m (gmF k tw sd ml) = none := fun a b c d => gm_no a b c d
    refine ⟨_, rfl, rfl, _, rfl, ?_⟩
    refine iteV (fun h0 => ?_) (fun h0 => ?_)
    · have ek : kd = 0 := by have := V.int.inj h0; omega
      subst ek
      refine ⟨_, rfl, g, dx, _, rfl, e1, gno (by decide +kernel) (by decide +kernel) (by decide +kernel) (by decide +kernel), _, rfl, _, rfl, ?_⟩
      dsimp only [tNil]
      refine ⟨g, ml, v, w, k, rs, op, x, y, ox, oy, rfl, PL, ix, iy, fun hn H' x1 P1 => kq hn H' x1 P1, fun b u eb d H' s1 hd => ?_⟩
      have kt := kf b u eb
      rcases fault_b (kd := 0) eb with rfl | rfl | rfl
      · refine ⟨true, X3.bb, fun _ a ha => ?_, fun z => nomatch z⟩
        refine ⟨_, rfl, rfl, rfl, d, _, _, rfl, hd, place_lk, by show 2 ≤ sizeLine; decide, fun t ht => ?_⟩
        exact kt t _ (s1.trans (Same.new ht)) upd_same
      · refine ⟨false, X3.ub, (fun z => nomatch z), fun _ => ⟨true, X3.uu, fun _ a ha => ?_, fun z => nomatch z⟩⟩
        refine ⟨_, rfl, rfl, rfl, d, _, _, rfl, hd, place_lk, by show 2 ≤ sizeLine; decide, fun t ht => ?_⟩
        exact kt t _ (s1.trans (Same.new ht)) upd_same
      · refine ⟨false, X3.nb, (fun z => nomatch z), fun _ => ⟨false, X3.nu, (fun z => nomatch z), fun _ => ⟨true, X3.nn, fun _ a ha => ?_, fun z => nomatch z⟩⟩⟩
        refine ⟨_, rfl, rfl, rfl, d, _, _, rfl, hd, place_lk, by show 2 ≤ sizeLine; decide, fun t ht => ?_⟩
        exact kt t _ (s1.trans (Same.new ht)) upd_same
    have k0 : kd ≠ 0 := fun z => h0 (by rw [z]; rfl)
    refine ⟨_, rfl, rfl, _, rfl, ?_⟩
    refine iteV (fun h1 => ?_) (fun h1 => ?_)
    · have ek : kd = 1 := by have := V.int.inj h1; omega
      subst ek
      refine ⟨_, rfl, g, dx, _, rfl, e1, gno (by decide +kernel) (by decide +kernel) (by decide +kernel) (by decide +kernel), _, rfl, ?_⟩
      dsimp only [tNil]
      refine ⟨g, ml, v, w, k, rs, op, y, oy, rfl, PL, iy, fun hn H' x1 P1 => kq hn H' x1 P1, fun b u eb d H' s1 hd => ?_⟩
      have kt := kf b u eb
      rcases fault_b (kd := 1) (k := k) (rs := rs) (x := x) (ox := ox) eb with rfl | rfl | rfl
      · refine ⟨true, X3.bb, fun _ a ha => ?_, fun z => nomatch z⟩
        refine ⟨_, rfl, rfl, rfl, d, _, _, rfl, hd, place_lk, by show 2 ≤ sizeLine; decide, fun t ht => ?_⟩
        exact kt t _ (s1.trans (Same.new ht)) upd_same
      · refine ⟨false, X3.ub, (fun z => nomatch z), fun _ => ⟨true, X3.uu, fun _ a ha => ?_, fun z => nomatch z⟩⟩
        refine ⟨_, rfl, rfl, rfl, d, _, _, rfl, hd, place_lk, by show 2 ≤ sizeLine; decide, fun t ht => ?_⟩
        exact kt t _ (s1.trans (Same.new ht)) upd_same
      · refine ⟨false, X3.nb, (fun z => nomatch z), fun _ => ⟨false, X3.nu, (fun z => nomatch z), fun _ => ⟨true, X3.nn, fun _ a ha => ?_, fun z => nomatch z⟩⟩⟩
        refine ⟨_, rfl, rfl, rfl, d, _, _, rfl, hd, place_lk, by show 2 ≤ sizeLine; decide, fun t ht => ?_⟩
        exact kt t _ (s1.trans (Same.new ht)) upd_same
    · have k1 : kd ≠ 1 := fun z => h1 (by rw [z]; rfl)
      have eE : dnE kd v w k rs op x y ox oy = tbE rs op := by unfold dnE; rw [if_neg k0, if_neg k1]
      have eR : dnR kd rs op oy = tbR rs op := by unfold dnR; rw [if_neg k0, if_neg k1]
      have eO : dnO kd rs op ox oy = tbO rs op := by unfold dnO; rw [if_neg k0, if_neg k1]
      rw [eE, eR, eO] at kq
      rw [eE] at kf
      refine ⟨_, rfl, g, dx, _, rfl, e1, gno (by decide +kernel) (by decide +kernel) (by decide +kernel) (by decide +kernel), ?_⟩
      dsimp only [tNil]
      refine ⟨g, ml, v, w, k, rs, op, rfl, PL, fun hn H' x1 P1 => kq hn H' x1 P1, fun b u eb d H' s1 hd => ?_⟩
      have kt := kf b u eb
      have eb' := eE.trans eb
      rcases fault_b eb' with rfl | rfl | rfl
      · refine ⟨true, X3.bb, fun _ a ha => ?_, fun z => nomatch z⟩
        refine ⟨_, rfl, rfl, rfl, d, _, _, rfl, hd, place_lk, by show 2 ≤ sizeLine; decide, fun t ht => ?_⟩
        exact kt t _ (s1.trans (Same.new ht)) upd_same
      · refine ⟨false, X3.ub, (fun z => nomatch z), fun _ => ⟨true, X3.uu, fun _ a ha => ?_, fun z => nomatch z⟩⟩
        refine ⟨_, rfl, rfl, rfl, d, _, _, rfl, hd, place_lk, by show 2 ≤ sizeLine; decide, fun t ht => ?_⟩
        exact kt t _ (s1.trans (Same.new ht)) upd_same
      · refine ⟨false, X3.nb, (fun z => nomatch z), fun _ => ⟨false, X3.nu, (fun z => nomatch z), fun _ => ⟨true, X3.nn, fun _ a ha => ?_, fun z => nomatch z⟩⟩⟩
        refine ⟨_, rfl, rfl, rfl, d, _, _, rfl, hd, place_lk, by show 2 ≤ sizeLine; decide, fun t ht => ?_⟩
        exact kt t _ (s1.trans (Same.new ht)) upd_same
end
end Ws

/-! the law's _law_due -/
namespace Ws
open PySem PySem.Spec PyProof.Rows L2
/-- a couple or None -/
def BfAt (H : Hp) (y : V) : Option (Nat × Nat) → Prop
  | none => y = .non
  | some q => ∃ t, y = .ref t ∧ H t = some (.tup [.int q.1, .int q.2])
theorem BfAt.same {H H' : Hp} {y : V} {o : Option (Nat × Nat)} (h : BfAt H y o) (s : L2.Same H H') : BfAt H' y o := by
  cases o with
  | none => exact h
  | some q =>
    obtain ⟨t, e, et⟩ := h
    exact ⟨t, e, s _ _ et⟩
def spDue (CG CS : Addr) : Sp := fun vs H Q _ => ∃ (v w : List Nat) (m o : Addr) (as oas : List Addr) (rs : List (Nat × (Nat × Nat))) (op : List (Nat × Nat)) (k : Nat), vs = [.str (S v), .str (S w), .ref m, .int k, .ref o] ∧ MarksAt H m as (rs.map (·.2)) ∧ MarksAt H o oas op ∧ Inb v w (rs.map (·.2)) ∧
  op.length ≤ 1 ∧ (∀ q ∈ op, q.1 ≤ 1 ∧ q.2 < (wd v w q.1).length) ∧ v.length ≤ 60 ∧ w.length ≤ 60 ∧ rs.length + op.length ≤ k ∧ k ≤ 3 ∧
  ∀ D y H', Same H H' → BfAt H' y (bfO v w k rs op) → H' D = some (.lst [whoV (keepB v w k rs op), y, bbV v w k rs op]) → Q (.ref D) H'
/-- the head of a list of couples -/
def HdAt (H : Hp) (ys : List V) (o : Option (Nat × Nat)) : Prop :=
  match o with
  | none => ys = []
  | some q => ∃ t rest, ys = .ref t :: rest ∧ H t = some (.tup [.int q.1, .int q.2])
theorem HdAt.same {H H' : Hp} {ys : List V} {o : Option (Nat × Nat)} (h : HdAt H ys o) (s : ∀ t xs, H t = some (.tup xs) → H' t = some (.tup xs)) : HdAt H' ys o := by
  cases o with
  | none => exact h
  | some q =>
    obtain ⟨t, rest, e, et⟩ := h
    exact ⟨t, rest, e, s _ _ et⟩
def rLenS (K : PySem.W.Frag) : List V → Hp → VK → Prop := fun xs H Q => ∃ p ys, xs = [V.ref p] ∧ (SqL K H p ys ∨ SqT K H p ys) ∧ Q (V.int ((ys.length : Nat) : Int)) H
def HdN (H : Hp) (ys : List V) (o : Option (Nat × Nat)) : Prop := ∃ y rest, ys = y :: rest ∧ BfAt H y o
theorem who_at {b : Bool} : atI ([.str "parter", .str "keeper"] : List V) (if b = true then 1 else 0) = some (whoV b) := by cases b <;> rfl
theorem first_of {l : List Nat} : atI (intsV l ++ [.non]) 0 = some (optV l.head?) := by cases l <;> exact atI_nat (j := 0) rfl
theorem pos_some {v w : List Nat} {k : Nat} {ms : List (Nat × Nat)} {i x : Nat} : decide ((0 : Int) < (((intsV (ansL v w k ms i x)).length : Nat) : Int)) = (ansO v w k ms i x).isSome := by
  rw [← ansL_head]
  cases ansL v w k ms i x with
  | nil => rfl
  | cons a l =>
    rw [decide_eq_true (by simp [intsV])]
    rfl
def bestO (v w : List Nat) (l : Nat) (ms : List (Nat × Nat)) : Nat → Option (Nat × Nat)
  | 0 => none
  | 1 => (firO v w l ms 1).map fun x => (1, x)
  | _ => match firO v w l ms 0 with
    | some x => some (0, x)
    | none => (firO v w l ms 1).map fun x => (1, x)
theorem bestO_step {v w : List Nat} {l : Nat} {ms : List (Nat × Nat)} {i : Nat} (hi : i < 2) : bestO v w l ms (i + 1) = match (firO v w l ms (1 - i)).map fun x => (1 - i, x) with
    | some q => some q
    | none => bestO v w l ms i := by
  rcases (show i = 0 ∨ i = 1 by omega) with rfl | rfl
  · show (firO v w l ms 1).map _ = _
    cases firO v w l ms 1 <;> rfl
  · show (match firO v w l ms 0 with | some x => some (0, x) | none => (firO v w l ms 1).map fun x => (1, x)) = _
    cases firO v w l ms 0 <;> rfl
theorem find_step {x : Nat} {p : Nat → Bool} : (List.range (x + 1)).find? p = match (List.range x).find? p with
    | some y => some y
    | none => if p x = true then some x else none := by
  rw [List.range_succ, List.find?_append]
  cases (List.range x).find? p with
  | some y => rfl
  | none =>
    show List.find? p [x] = _
    by_cases h : p x = true
    · rw [if_pos h, List.find?_cons_of_pos h]
    · rw [if_neg h, List.find?_cons_of_neg h]
      rfl
section
variable {P : Program} {W0 : World} {K : PySem.W.Frag} {mg : Str → Option Value} {base : Heap} {f CG CS : Addr} {fd : FuncData}
abbrev s_DU : Stmt := (top 34)
abbrev N_DU : List Str := ["v", "w", "marks", "k", "open_mark", "left", "which", "x", "rows", "best"]
theorem sc_DU : FnScope N_DU ["v", "w", "marks", "k", "open_mark"] (defScope s_DU) := ⟨rfl, rfl, rfl, by decide +kernel, rfl, by decide +kernel, by decide +kernel⟩
theorem ok_DU {j1 j2 : Nat} (T : Bl mg) (h1 : j1 ≤ 9) (h2 : j2 ≤ 9) (c_a : Cal P W0 K mg base j1 "_law_answers" (spLA 3)) (c_w : Cal P W0 K mg base j2 "_law_wins" (spW 4)) (D : Def K mg "_law_due" s_DU f fd ["v", "w", "marks", "k", "open_mark"]) : Cal P W0 K mg base 10 "_law_due" (spDue CG CS) := by
  refine D.cal (D.fn.ok sc_DU (fun vs H Q E h => ?_) (fun cdv A outer s H vs Q E hr h => ?_))
  · obtain ⟨v, w, m, o, as, oas, rs, op, k, rfl, _⟩ := h
    rfl
  · obtain ⟨v, w, m, o, as, oas, rs, op, k, rfl, M, MO, hI, hop, hopi, hv, hw, hk, hk3, kq⟩ := h
    have nd := sc_DU.nd
    refine ⟨_, (pss_cons (ps_set (i := 5) nd rfl (.inr rfl) (pe_op op_sub (pe_op op_sub (pv 3) (pe_callB call_len_seq (by rfl) T.len PySem.boot_len (pa_cons (pv 2) pa_nil))) (pe_callB call_len_seq (by rfl) T.len PySem.boot_len (pa_cons (pv 4) pa_nil))))
      (pss_cons (ps_if (pt_cmpR op_gt (pe_callB call_len_seq (by rfl) T.len PySem.boot_len (pa_cons (pv 4) pa_nil)) pe_int (nomark _))
      (pss_cons (ps_asg (pe_ix ix_list (pv 4) pe_int (fun _ _ => rfl)) (pg_tup (n := 2) rfl (pgs_cons (pg_name (i := 6) nd rfl (.inr rfl)) (pgs_cons (pg_name (i := 7) nd rfl (.inl rfl)) pgs_nil))))
      (pss_cons (ps_set (i := 8) nd rfl (.inl rfl) (pe_c c_a hr (by omega) rfl (pa_cons (pv 0) (pa_cons (pv 1) (pa_cons (pv 2) (pa_cons (pv 6) (pa_cons (pv 7) (pa_cons (pv 5) pa_nil))))))))
      (pss_one (ps_ret (pe_lst (pa_cons (pe_ix ix_list (pe_lst (pa_cons pe_str (pa_cons pe_str pa_nil))) (pe_callTy call_int1 (by rfl) T.int (by decide +kernel) (pa_cons (pe_cmpR op_gt (pe_callB call_len_seq (by rfl) T.len PySem.boot_len (pa_cons (pv 8) pa_nil)) pe_int (nomark _)) pa_nil)) (fun _ _ => rfl)) (pa_cons pe_non (pa_cons (pe_ix ix_list (pe_op op_cat (pv 8) (pe_lst (pa_cons pe_non pa_nil))) pe_int (fun _ _ => rfl)) pa_nil))))))))
      pss_nil)
      (pss_cons (ps_set (i := 9) nd rfl (.inl rfl) (pe_lst (pa_cons pe_non pa_nil)))
      (C8.pss_cut (ps_if (pt_cmpR op_gt (pv 5) pe_int (nomark _))
      (pss_one (ps_for PassesOwn.never rfl (pi_list (pe_lst (pa_cons pe_int (pa_cons pe_int pa_nil)))) (pg_name (i := 6) nd rfl (.inr rfl))
      (pss_one (ps_set (i := 9) nd rfl (.inl rfl) (pe_op op_cat (pe_lc (own := [("x", 7)]) rfl nd (pi_range1 (by rfl) T.range (pa_cons (pe_callB call_len_str (by rfl) T.len PySem.boot_len (pa_cons (pe_ix ix_list (pe_lst (pa_cons (pv 0) (pa_cons (pv 1) pa_nil))) (pv 6) (fun _ _ => rfl)) pa_nil)) pa_nil)) (blkOk_by (N := N_DU) rfl) (fun _ _ _ _ _ => (pg_name (i := 7) nd rfl (.inl rfl))) (fun _ _ _ _ _ => (pts_one (pt_cmpR op_eq (pe_callB (r := rLenS K) call_len_seq (by rfl) T.len PySem.boot_len (pa_cons (pe_c c_a hr (by omega) rfl (pa_cons (pv 0) (pa_cons (pv 1) (pa_cons (pv 2) (pa_cons (pv 6) (pa_cons (pv 7) (pa_cons (pe_op op_sub (pv 5) pe_int) pa_nil))))))) pa_nil)) pe_int (nomark _)))) (fun _ _ _ _ _ => (pe_tup (pa_cons (pv 6) (pa_cons (pv 7) pa_nil))))) (pv 9))))))
      pss_nil)
      (pss_one (ps_ret (pe_lst (pa_cons (pe_ix ix_list (pe_lst (pa_cons pe_str (pa_cons pe_str pa_nil))) (pe_callTy call_int1 (by rfl) T.int (by decide +kernel) (pa_cons (pe_c c_w hr (by omega) rfl (pa_cons (pv 0) (pa_cons (pv 1) (pa_cons (pv 2) (pa_cons (pv 5) pa_nil))))) pa_nil)) (fun _ _ => rfl)) (pa_cons (pe_ix ix_list (pv 9) pe_int (fun _ _ => rfl)) (pa_cons pe_non pa_nil)))))))))), ?_⟩
    have lM : (as.map V.ref).length = rs.length := by rw [List.length_map, M.len, List.length_map]
    have lO : (oas.map V.ref).length = op.length := by rw [List.length_map, MO.len]
    refine ⟨_, rfl, _, rfl, m, _, rfl, .inl (SqL.of M.at_), _, _, rfl, rfl, _, rfl, o, _, rfl, .inl (SqL.of MO.at_), _, _, rfl, rfl, ?_⟩
    rw [lM, lO]
    have el : (k : Int) - ((rs.length : Nat) : Int) - ((op.length : Nat) : Int) = ((k - rs.length - op.length : Nat) : Int) := by omega
    refine ⟨_, rfl, o, _, rfl, .inl (SqL.of MO.at_), _, _, rfl, rfl, _, rfl, ?_⟩
    rw [lO]
    refine iteD rfl (fun h => ?_) (fun h => ?_)
    · obtain ⟨q, rfl⟩ : ∃ q, op = [q] := by
        cases op with
        | nil => exact absurd h (by decide)
        | cons q op =>
          cases op with
          | nil => exact ⟨q, rfl⟩
          | cons _ _ => simp at hop
      obtain ⟨a0, ha0⟩ : ∃ a0, oas = [a0] := List.length_eq_one_iff.mp (by rw [MO.len]; rfl)
      subst ha0
      obtain ⟨b1, b2⟩ := hopi q (List.mem_singleton.mpr rfl)
      have et := MO.tup 0 a0 q rfl rfl
      have hk : rs.length + 1 ≤ k := hk
      refine ⟨_, rfl, o, _, _, _, rfl, rfl, SqL.of MO.at_, rfl, a0, _, rfl, SqT.of et, rfl, _, _, rfl, _, _, rfl, rfl, ?_⟩
      refine ⟨_, rfl, _, rfl, _, rfl, _, rfl, _, rfl, _, rfl, ?_⟩
      dsimp only [tNil]
      refine ⟨v, w, m, as, rs.map (·.2), q.1, q.2, k - rs.length - 1, by show [V.str (S v), V.str (S w), V.ref m, V.int (q.1 : Nat), V.int (q.2 : Nat), V.int ((k : Int) - ((rs.length : Nat) : Int) - (((([q] : List (Nat × Nat)).length : Nat)) : Int))] = _; rw [el]; rfl, by omega, by omega, by omega, by rw [List.length_map]; omega, M, hI, b1, b2, fun D1 H1 s1 hD1 e1 => ?_⟩
      refine ⟨by show 2 ≤ sizeLine; decide, fun l hl => ⟨_, rfl, D1, _, rfl, .inl (SqL.of ((Same.new hl) _ _ e1)), _, _, rfl, rfl, .inr ⟨_, rfl, ?_⟩⟩⟩
      have s2 := Same.new (o := .lst [.str "parter", .str "keeper"]) hl
      refine ⟨l, _, _, _, rfl, rfl, SqL.of upd_same, by rw [pos_some]; exact who_at, ?_⟩
      refine ⟨_, rfl, by show 1 ≤ sizeLine; decide, fun l2 hl2 => ⟨D1, l2, _, _, rfl, rfl, (Same.new hl2) _ _ (s2 _ _ e1), upd_same, ?_, fun p hp => ?_⟩⟩
      · rw [intsV, List.length_map, sizeLine_eq]
        have : (ansL v w (k - rs.length - 1) (rs.map (·.2)) q.1 q.2).length ≤ (wd v w (1 - q.1)).length := by
          have := List.length_filter_le (fun y => winsB v w (k - rs.length - 1) (rs.map (·.2) ++ [cpl q.1 q.2 y])) (List.range (wd v w (1 - q.1)).length)
          rwa [List.length_range] at this
        have wl := wd_len (i := 1 - q.1) hv hw
        simp only
          [List.length_cons, List.length_nil]
        omega
      refine ⟨p, _, _, _, rfl, rfl, SqL.of upd_same, first_of, by show 3 ≤ sizeLine; decide, fun L hL => ?_⟩
      have sF := s1.trans (s2.trans ((Same.new (o := .lst [.non]) hl2).trans ((Same.new (o := .lst (intsV (ansL v w (k - rs.length - 1) (rs.map (·.2)) q.1 q.2) ++ [.non])) hp).trans (Same.new (o := .lst [whoV (ansO v w (k - rs.length - 1) (rs.map (·.2)) q.1 q.2).isSome, .non, optV (ansL v w (k - rs.length - 1) (rs.map (·.2)) q.1 q.2).head?]) hL))))
      refine kq L .non _ sF ?_ ?_
      · have : bfO v w k rs [q] = none := if_pos (.inl (by simp))
        rw [this]
        rfl
      · rw [upd_same, ansL_head]
        rfl
    · have hn : op = [] := List.eq_nil_of_length_eq_zero (by omega)
      subst hn
      have hk : rs.length + 0 ≤ k := hk
      let ms := rs.map (·.2)
      refine ⟨by show 1 ≤ sizeLine; decide, fun l0 hl0 => ?_⟩
      have s0 : Same H (upd H l0 (.lst [.non])) := Same.new hl0
      refine ⟨fun σ' H' => ∃ B ys z6, σ' = [some (.str (S v)), some (.str (S w)), some (.ref m), some (.int (k : Nat)), some (.ref o), some (.int ((k : Int) - ((rs.length : Nat) : Int) - 0)), z6, none, none, some (.ref B)] ∧ Same H H' ∧ H' B = some (.lst ys) ∧ HdN H' ys (bfO v w k rs []), ?_, ?_⟩
      · refine ⟨_, rfl, _, _, rfl, rfl, _, rfl, ?_⟩
        refine iteD rfl (fun hpos => ?_) (fun hpos => ?_)
        · have hpos : (0 : Int) < (k : Int) - ((rs.length : Nat) : Int) - 0 := hpos
          have hlt : rs.length + 1 ≤ k := by omega
          refine ⟨by show 2 ≤ sizeLine; decide, fun l9 hl9 => ⟨l9, rfl, ⟨_, SqL.of upd_same⟩, ?_⟩⟩
          refine for_list (K := K) (a := l9) (xs := [.int 1, .int 0]) (fun i σ H' => ∃ B ys z6, σ = [some (.str (S v)), some (.str (S w)), some (.ref m), some (.int (k : Nat)), some (.ref o), some (.int ((k : Int) - ((rs.length : Nat) : Int) - 0)), z6, none, none, some (.ref B)] ∧ Same (upd (upd H l0 (.lst [.non])) l9 (.lst [.int 1, .int 0])) H' ∧
              H' B = some (.lst ys) ∧ ys.length ≤ 1 + 100 * i ∧ HdN H' ys (bestO v w (k - rs.length - 1) ms i))
            ⟨l0, [.non], none, rfl, refl_same _, (Same.new hl9) _ _ upd_same, by decide, .non, [], rfl, rfl⟩ (fun i σ H' _ q => ?_) ?_ ?_
          · obtain ⟨_, _, _, _, s, _⟩ := q
            exact SqL.of (s _ _ upd_same)
          · rintro i xi σ H1 hxi ⟨B, ys, z6, rfl, s1, eB, lB, hB⟩
            obtain ⟨hi, rfl⟩ : i < 2 ∧ xi = V.int ((1 - i : Nat) : Int) := by
              have h1 : i < 2 := (List.getElem?_eq_some_iff.mp hxi).1
              rcases (show i = 0 ∨ i = 1 by omega) with rfl | rfl
              · exact ⟨by omega, (Option.some.inj hxi).symm⟩
              · exact ⟨by omega, (Option.some.inj hxi).symm⟩
            have hi1 : 1 - i ≤ 1 := by omega
            have wl := wd_len (i := 1 - i) hv hw
            have hz : (S (wd v w (1 - i))).length ≤ sizeLine := S_le (by omega)
            have nl : ((((S (wd v w (1 - i))).length : Nat) : Int)).toNat = (wd v w (1 - i)).length := by rw [SX.S_len]; omega
            refine ⟨_, rfl, _, rfl, by show 2 ≤ sizeLine; decide, fun l hl => ⟨_, rfl, l, _, _, _, rfl, rfl, SqL.of upd_same, wd_at hi1, _, rfl, hz, _, rfl, by rw [SX.S_len]; omega, by rw [SX.S_len]; omega, fun Dl hDl => ?_⟩⟩
            rw [nl]
            have s2 : Same H1 (upd H1 l (.lst [.str (S v), .str (S w)])) := Same.new hl
            have sM := s0.trans ((Same.new hl9).trans (s1.trans s2))
            refine lcG (walk_range (lo := 0) (n := (wd v w (1 - i)).length)) (by rw [sizeLine_eq]; omega) (fun x ys H' => Same (upd H1 l (.lst [.str (S v), .str (S w)])) H' ∧ ys.length ≤ x ∧ HdAt H' ys (((List.range x).find? fun x => (ansO v w (k - rs.length - 1) ms (1 - i) x).isNone).map fun x => (1 - i, x)))
              ⟨Same.new hDl, Nat.le_refl _, rfl⟩ (fun _ _ _ _ => True.intro) (fun _ _ _ iv => iv.2.1) (fun x ys1 u H2 H2' hx iv eD yy Q1 Qn qy qn => ?_) (fun ys1 H2 iv eD => ?_)
            · obtain ⟨rfl, hu⟩ := yy
              have hu : u = V.int (x : Nat) := hu.trans (by show V.int (0 + (x : Int)) = _; rw [Int.zero_add])
              subst hu
              obtain ⟨s3, ll, hd⟩ := iv
              refine ⟨rfl, ?_⟩
              refine ⟨_, rfl, _, rfl, _, rfl, _, rfl, _, rfl, _, rfl, _, _, rfl, rfl, ?_⟩
              dsimp only [tNil]
              have ekk : (k : Int) - ((rs.length : Nat) : Int) - 0 - 1 = ((k - rs.length - 1 : Nat) : Int) := by omega
              refine ⟨v, w, m, as, ms, 1 - i, x, k - rs.length - 1, by show [V.str (S v), V.str (S w), V.ref m, V.int ((1 - i : Nat) : Int), V.int (x : Nat), V.int ((k : Int) - ((rs.length : Nat) : Int) - 0 - 1)] = _; rw [ekk], by omega, by omega, by omega, by rw [List.length_map]; omega, M.same (sM.trans s3), hI, hi1, hx, fun D1 H3 s4 hD1 e1 => ?_⟩
              refine ⟨D1, _, rfl, .inl (SqL.of e1), rfl, _, rfl, ?_⟩
              have hlen : (intsV (ansL v w (k - rs.length - 1) ms (1 - i) x)).length = (ansL v w (k - rs.length - 1) ms (1 - i) x).length := by rw [intsV, List.length_map]
              have hd4 : HdAt H3 ys1 (((List.range x).find? fun x => (ansO v w (k - rs.length - 1) ms (1 - i) x).isNone).map fun x => (1 - i, x)) := hd.same fun t xs e => s4 _ _ e
              refine iteV (fun h => ?_) (fun h => ?_)
              · have hn : ansO v w (k - rs.length - 1) ms (1 - i) x = none := ansL_nil.mp (by
                  have h : (((intsV (ansL v w (k - rs.length - 1) ms (1 - i) x)).length : Nat) : Int) = 0 := V.int.inj h
                  rw [hlen] at h
                  exact List.eq_nil_of_length_eq_zero (by omega))
                refine ⟨_, rfl, _, rfl, by show 2 ≤ sizeLine; decide, fun t ht => ?_⟩
                have s5 := Same.new (o := .tup [.int ((1 - i : Nat) : Int), .int (x : Nat)]) ht
                have eD5 := s5 _ _ (s4 _ _ eD)
                refine qy (.ref t) _ eD5 ⟨fun b ob e => ?_, by rw [List.length_append]; simp only [List.length_cons, List.length_nil]; omega, ?_⟩
                · rw [upd_ne (ne_of_none e hDl)]
                  exact s5 _ _ (s4 _ _ (s3 _ _ e))
                · have up : ∀ (b : Addr) xs, (upd H3 t (.tup [.int ((1 - i : Nat) : Int), .int (x : Nat)])) b = some (.tup xs) → (upd (upd H3 t (.tup [.int ((1 - i : Nat) : Int), .int (x : Nat)])) Dl (.lst (ys1 ++ [.ref t]))) b = some (.tup xs) := fun b xs e => by
                    rw [upd_ne (ne_of e eD5 (by intro z; cases z))]
                    exact e
                  rw [find_step]
                  cases hf : (List.range x).find? fun x => (ansO v w (k - rs.length - 1) ms (1 - i) x).isNone with
                  | none =>
                    rw [hf] at hd4
                    have hd4 : ys1 = [] := hd4
                    dsimp only
                    rw [hn]
                    subst hd4
                    exact ⟨t, [], rfl, up _ _ upd_same⟩
                  | some y =>
                    rw [hf] at hd4
                    obtain ⟨t2, rest, e2, et2⟩ := hd4
                    exact ⟨t2, rest ++ [.ref t], by rw [e2]; rfl, up _ _ (s5 _ _ et2)⟩
              · have hn : (ansO v w (k - rs.length - 1) ms (1 - i) x).isNone = false := by
                  cases ho : ansO v w (k - rs.length - 1) ms (1 - i) x with
                  | none =>
                    refine absurd ?_ h
                    rw [ansL_nil.mpr ho]
                    rfl
                  | some y => rfl
                refine qn _ (s4 _ _ eD) ⟨s3.trans s4, by omega, ?_⟩
                rw [find_step]
                cases hf : (List.range x).find? fun x => (ansO v w (k - rs.length - 1) ms (1 - i) x).isNone with
                | none =>
                  rw [hf] at hd4
                  dsimp only
                  rw [hn]
                  exact hd4
                | some y =>
                  rw [hf] at hd4
                  exact hd4
            · obtain ⟨s3, ll, hd⟩ := iv
              refine ⟨_, rfl, Dl, B, ys1, ys, rfl, rfl, eD, s3 _ _ (s2 _ _ eB), by rw [sizeLine_eq]; omega, fun p hp => ?_⟩
              have s4 := Same.new (o := .lst (ys1 ++ ys)) hp
              refine ⟨p, ys1 ++ ys, _, rfl, s1.trans (s2.trans (s3.trans s4)), upd_same, by rw [List.length_append]; omega, ?_⟩
              rw [bestO_step hi]
              show HdN _ _ (match (((List.range (wd v w (1 - i)).length).find? fun x => (ansO v w (k - rs.length - 1) ms (1 - i) x).isNone).map fun x => (1 - i, x)) with | some q => some q | none => bestO v w (k - rs.length - 1) ms i)
              cases hf : (((List.range (wd v w (1 - i)).length).find? fun x => (ansO v w (k - rs.length - 1) ms (1 - i) x).isNone).map fun x => (1 - i, x)) with
              | none =>
                rw [hf] at hd
                have hd : ys1 = [] := hd
                subst hd
                obtain ⟨y, rest, e2, by2⟩ := hB
                exact ⟨y, rest, e2, by2.same (s2.trans (s3.trans s4))⟩
              | some q =>
                rw [hf] at hd
                obtain ⟨t2, rest, e2, et2⟩ := hd
                exact ⟨.ref t2, rest ++ ys, by rw [e2]; rfl, t2, rfl, s4 _ _ et2⟩
          · rintro σ H1 ⟨B, ys, z6, rfl, s1, eB, lB, hB⟩
            refine ⟨B, ys, z6, rfl, s0.trans ((Same.new hl9).trans s1), eB, ?_⟩
            have : bfO v w k rs [] = bestO v w (k - rs.length - 1) ms 2 := by
              unfold bfO
              rw [if_neg (by simp; omega)]
              rfl
            rw [this]
            exact hB
        · have hpos : ¬ (0 : Int) < (k : Int) - ((rs.length : Nat) : Int) - 0 := hpos
          have : bfO v w k rs [] = none := if_pos (.inr (by omega))
          exact ⟨l0, [.non], none, rfl, s0, upd_same, .non, [], rfl, by rw [this]; rfl⟩
      · rintro σ' H1 ⟨B, ys, z6, rfl, s1, eB, y, rest, rfl, hy⟩
        refine ⟨by show 2 ≤ sizeLine; decide, fun l hl => ⟨_, rfl, _, rfl, _, rfl, _, rfl, ?_⟩⟩
        dsimp only [tNil]
        have s2 := Same.new (o := .lst [.str "parter", .str "keeper"]) hl
        have el2 : (k : Int) - ((rs.length : Nat) : Int) - 0 = ((k - rs.length : Nat) : Int) := by omega
        refine ⟨v, w, m, as, ms, k - rs.length, by show [V.str (S v), V.str (S w), V.ref m, V.int ((k : Int) - ((rs.length : Nat) : Int) - 0)] = _; rw [el2], by omega, by omega, by omega, by rw [List.length_map]; omega, M.same (s1.trans s2), hI, fun H3 s3 => .inr ⟨_, rfl, ?_⟩⟩
        refine ⟨l, _, _, _, rfl, rfl, SqL.of (s3 _ _ upd_same), who_at, _, rfl, B, _, _, _, rfl, rfl, SqL.of (s3 _ _ (s2 _ _ eB)), atI_nat (j := 0) rfl, by show 3 ≤ sizeLine; decide, fun L hL => ?_⟩
        have s4 := Same.new (o := .lst [whoV (winsB v w (k - rs.length) ms), y, .non]) hL
        exact kq L y _ (s1.trans (s2.trans (s3.trans s4))) (hy.same (s2.trans (s3.trans s4))) upd_same
end
end Ws

/-! draws while another list is changed -/
namespace Ws
open PySem PySem.Spec PyProof.Rows L2
/-- the deck at p, its numbers at q -/
def DeckQ (K : PySem.W.Frag) (H : Hp) (p q : Addr) : Prop := ∃ (d0 d1 d2 d4 : Int) (ns : List Int),
  H p = some (.lst [.int d0, .int d1, .int d2, .ref q, .int d4]) ∧ q ≠ p ∧ SqL K H q (ns.map V.int) ∧ 0 ≤ d1 ∧ ns.length ≤ 63
theorem DeckQ.at_ {K : PySem.W.Frag} {H : Hp} {p q : Addr} (d : DeckQ K H p q) : DeckAt K H p := by
  obtain ⟨d0, d1, d2, d4, ns, r⟩ := d
  exact ⟨d0, d1, d2, d4, q, ns, r⟩
def spDrawQ (K : PySem.W.Frag) : Sp := fun vs H Q _ => ∃ (p q : Addr) (b : Int), vs = [.ref p, .int b] ∧ DeckQ K H p q ∧ 0 < b ∧ b < 1073741824 ∧
  ∀ v H', 0 ≤ v → v < b → Ext p H H' → DeckQ K H' p q → Q (.int v) H'
/-- .. and apart from the list at m -/
def DeckM (K : PySem.W.Frag) (H : Hp) (p m : Addr) : Prop := p ≠ m ∧ ∃ q, DeckQ K H p q ∧ (q ≠ m ∨ ∃ ns : List Int, ns.length ≤ 63 ∧ ∀ H', SqL K H' q (ns.map V.int))
def spDrawM (K : PySem.W.Frag) : Sp := fun vs H Q _ => ∃ (p m : Addr) (b : Int), vs = [.ref p, .int b] ∧ DeckM K H p m ∧ 0 < b ∧ b < 1073741824 ∧
  ∀ v H', 0 ≤ v → v < b → Ext p H H' → DeckM K H' p m → Q (.int v) H'
section
variable {K : PySem.W.Frag} {H H' : Hp} {p m : Addr}
theorem DeckM.of (d : DeckAt K H p) (h : H m = none) : DeckM K H p m := by
  obtain ⟨d0, d1, d2, d4, q, ns, e, n, hS, r⟩ := d
  refine ⟨ne_of_none e h, q, ⟨d0, d1, d2, d4, ns, e, n, hS, r⟩, ?_⟩
  rcases
    hS with (h1 | ⟨o, h1⟩) | h1
  · exact .inl (ne_of_none h1 h)
  · exact .inl (ne_of_none h1 h)
  · exact .inr ⟨ns, r.2, fun _ => .inr h1⟩
theorem DeckM.at_ (d : DeckM K H p m) : DeckAt K H p := by
  obtain ⟨_, q, d, _⟩ := d
  exact d.at_
theorem DeckM.ne (d : DeckM K H p m) : p ≠ m := d.1
theorem DeckM.same (d : DeckM K H p m) (s : L2.Same H H') : DeckM K H' p m := by
  obtain ⟨n, q, ⟨d0, d1, d2, d4, ns, e, nq, hS, r⟩, o⟩ := d
  exact ⟨n, q, ⟨d0, d1, d2, d4, ns, s _ _ e, nq, s.seq hS, r⟩, o⟩
theorem DeckM.move (d : DeckM K H p m) (s : Ext m H H') : DeckM K H' p m := by
  obtain ⟨n, q, ⟨d0, d1, d2, d4, ns, e, nq, hS, r⟩, o⟩ := d
  rcases o with o | ⟨ns2, l2, o⟩
  · exact ⟨n, q, ⟨d0, d1, d2, d4, ns, s _ _ n e, nq, s.seq o hS, r⟩, .inl o⟩
  · exact ⟨n, q, ⟨d0, d1, d2, d4, ns2, s _ _ n e, nq, o _, r.1, l2⟩, .inr ⟨ns2, l2, o⟩⟩
end
section
variable {P : Program} {w : World} {K : PySem.W.Frag} {mg : Str → Option Value} {base : Heap} {f : Addr} {fd : FuncData}
theorem ok_drawQ (T : Bl mg) (D : Def K mg "_law_draw" s_draw f fd ["deck", "bound"]) : Cal P w K mg base 1 "_law_draw" (spDrawQ K) := by
  refine D.cal (D.fn.ok sc_draw (fun vs H Q E h => ?_) (fun cdv A outer s H vs Q E hr h => ?_))
  · obtain ⟨p, q, b, rfl, _⟩ := h
    rfl
  · obtain ⟨p, q, b, rfl, ⟨d0, d1, d2, d4, ns, e, nq, hS, h1, hl⟩, hb0, hb1, k⟩ := h
    have nd := sc_draw.nd
    refine ⟨_, (C8.pss_cut (ps_if (PW.pt (pw_and (pt_cmpR op_eq (pe_ix ix_list (pv 0) pe_int (fun _ _ => rfl)) pe_int (nomark _)) (pw_and1 (pt_cmpR op_lt (pe_ix ix_list (pv 0) pe_int (fun _ _ => rfl)) (pe_callB call_len_seq (by rfl) T.len PySem.boot_len (pa_cons (pe_ix ix_list (pv 0) pe_int (fun _ _ => rfl)) pa_nil)) (nomark _)))))
        (pss_cons (ps_asg (pe_callB call_abs (by rfl) T.abs (by decide +kernel) (pa_cons (pe_ix ix_list (pe_ix ix_list (pv 0) pe_int (fun _ _ => rfl)) (pe_ix ix_list (pv 0) pe_int (fun _ _ => rfl)) (fun _ _ => rfl)) pa_nil)) (pg_sub (pv 0) pe_int set_list))
        (pss_one (ps_asg (pe_op op_add (pe_ix ix_list (pv 0) pe_int (fun _ _ => rfl)) pe_int) (pg_sub (pv 0) pe_int set_list))))
        (pss_one (ps_if (pt_cmpR op_eq (pe_ix ix_list (pv 0) pe_int (fun _ _ => rfl)) pe_int (nomark _))
          (pss_cons (ps_asg (pe_op op_add (pe_ix ix_list (pv 0) pe_int (fun _ _ => rfl)) pe_int) (pg_sub (pv 0) pe_int set_list))
          (pss_cons (ps_set (i := 2) nd rfl (.inl rfl) (pe_op op_mod (pe_callTy call_int1 (by rfl) T.int (by decide +kernel) (pa_cons (pe_op op_add (pe_op op_add (pe_op op_mul (pe_ix ix_list (pv 0) pe_int (fun _ _ => rfl)) pe_int) (pe_op op_mul (pe_ix ix_list (pv 0) pe_int (fun _ _ => rfl)) pe_int)) pe_int) pa_nil)) pe_int))
          (pss_cons (ps_set (i := 2) nd rfl (.inl rfl) (pe_op op_mod (pe_callTy call_int1 (by rfl) T.int (by decide +kernel) (pa_cons (pe_op op_add (pe_op op_add (pe_op op_mul (pv 2) (pv 2)) (pe_op op_mul pe_int (pe_ix ix_list (pv 0) pe_int (fun _ _ => rfl)))) pe_int) pa_nil)) pe_int))
          (pss_cons (ps_set (i := 2) nd rfl (.inl rfl) (pe_op op_mod (pe_callTy call_int1 (by rfl) T.int (by decide +kernel) (pa_cons (pe_op op_add (pe_op op_add (pe_op op_mul (pv 2) (pv 2)) (pe_op op_mul pe_int (pe_ix ix_list (pv 0) pe_int (fun _ _ => rfl)))) (pe_ix ix_list (pv 0) pe_int (fun _ _ => rfl))) pa_nil)) pe_int))
          (pss_one (ps_asg (pe_op op_fdiv (pv 2) pe_int) (pg_sub (pv 0) pe_int set_list)))))))
          pss_nil)))
      (pss_cons (ps_set (i := 3) nd rfl (.inl rfl) (pe_op op_mod (pe_callTy call_int1 (by rfl) T.int (by decide +kernel) (pa_cons (pe_ix ix_list (pv 0) pe_int (fun _ _ => rfl)) pa_nil)) (pv 1)))
      (pss_cons (ps_asg (pe_op op_fdiv (pe_ix ix_list (pv 0) pe_int (fun _ _ => rfl)) (pv 1)) (pg_sub (pv 0) pe_int set_list))
      (pss_one (ps_ret (pv 3)))))), ?_⟩
    refine ⟨fun σ' H' => ∃ (e0 e1 e4 : Int) (z : Option V), σ' = [some (.ref p), some (.int b), z, none] ∧ H' = upd H p (.lst [.int e0, .int e1, .int d2, .ref q, .int e4]) ∧ 0 ≤ e1, ?_, ?_⟩
    · -- the first statement
      have same : H = upd H p (.lst [.int d0, .int d1, .int d2, .ref q, .int d4]) := by
        funext c
        by_cases hc : c = p
        · rw [hc, upd_same, e]
        · rw [upd_ne hc]
      refine ⟨_, rfl, p, _, _, _, rfl, rfl, SqL.of e, rfl, rfl, _, rfl, ?_⟩
      refine iteV (fun h0 => ?_) (fun h0 => ?_)
      · obtain rfl : d0 = 0 := V.int.inj h0
        refine ⟨_, rfl, p, _, _, _, rfl, rfl, SqL.of e, rfl, _, rfl, p, _, _, _, rfl, rfl, SqL.of e, rfl, q, _, rfl, .inl hS, _, _, rfl, rfl, _, rfl, ?_⟩
        refine iteD rfl (fun hlt => ?_) (fun hlt => ?_)
        · have hlt' : d1.toNat < ns.length := by
            rw [List.length_map] at hlt
            omega
          have hat : atI (ns.map V.int) d1 = some (V.int ns[d1.toNat]) := by
            have z := atI_nat (xs := ns.map V.int) (j := d1.toNat) (v := V.int ns[d1.toNat]) (by rw [List.getElem?_map, List.getElem?_eq_getElem hlt']; rfl)
            rw [Int.toNat_of_nonneg h1] at z
            exact z
          refine ⟨_, rfl, p, _, _, _, rfl, rfl, SqL.of e, rfl, _, rfl, p, _, _, _, rfl, rfl, SqL.of e, rfl, q, _, _, _, rfl, rfl, hS, hat, _, rfl, _, rfl, p, _, _, 0, rfl, rfl, e, rfl, ?_⟩
          refine ⟨_, rfl, p, _, _, _, rfl, rfl, SqL.of upd_same, rfl, _, _, rfl, rfl, _, rfl, p, _, _, 1, rfl, rfl, upd_same, rfl, ?_⟩
          rw [upd_upd]
          exact ⟨_, _, _, none, rfl, rfl, by omega⟩
        · refine ⟨_, rfl, p, _, _, _, rfl, rfl, SqL.of e, rfl, rfl, _, rfl, ?_⟩
          refine iteV (fun _ => ?_) (fun h => absurd rfl h)
          refine ⟨_, rfl, p, _, _, _, rfl, rfl, SqL.of e, rfl, _, _, rfl, rfl, _, rfl, p, _, _, 4, rfl, rfl, e, rfl, ?_⟩
          have e' : upd H p (.lst [.int 0, .int d1, .int d2, .ref q, .int (d4 + 1)]) p = some (.lst [.int 0, .int d1, .int d2, .ref q, .int (d4 + 1)]) := upd_same
          have bnd : ∀ x m : Int, 0 < m → m < 2147483648 → -(2 ^ 64) < x % m ∧ x % m < 2 ^ 64 := fun x m h0 h1 => by
            have a1 := Int.emod_nonneg x (show m ≠ 0 by omega)
            have a2 := Int.emod_lt_of_pos x h0
            omega
          refine ⟨_, rfl, p, _, _, _, rfl, rfl, SqL.of e', rfl, _, _, rfl, rfl, .inr ⟨by decide, by decide⟩, _, rfl, p, _, _, _, rfl, rfl, SqL.of e', rfl, _, _, rfl, rfl, .inr ⟨by decide, by decide⟩, _, _, rfl, rfl, _, _, rfl, rfl, .inl ⟨_, rfl, _, _, rfl, rfl, (by show (0 : Int) < 2147483647; decide), ?_⟩⟩
          refine ⟨_, rfl, _, rfl, _, _, rfl, rfl, .inl (bnd _ _ (by decide) (by decide)), _, rfl, p, _, _, _, rfl, rfl, SqL.of e', rfl, _, _, rfl, rfl, .inl ⟨by decide, by decide⟩, _, _, rfl, rfl, _, _, rfl, rfl, .inl ⟨_, rfl, _, _, rfl, rfl, (by show (0 : Int) < 998244353; decide), ?_⟩⟩
          refine ⟨_, rfl, _, rfl, _, _, rfl, rfl, .inl (bnd _ _ (by decide) (by decide)), _, rfl, p, _, _, _, rfl, rfl, SqL.of e', rfl, _, _, rfl, rfl, .inl ⟨by decide, by decide⟩, _, _, rfl, rfl, _, rfl, p, _, _, _, rfl, rfl, SqL.of e', rfl, _, _, rfl, rfl, .inl ⟨_, rfl, _, _, rfl, rfl, (by show (0 : Int) < 2147483629; decide), ?_⟩⟩
          refine ⟨_, rfl, _, _, rfl, rfl, ⟨by decide, by decide⟩, _, rfl, p, _, _, 0, rfl, rfl, e', rfl, ?_⟩
          rw [upd_upd]
          exact ⟨_, _, _, _, rfl, rfl, h1⟩
      · refine ⟨_, rfl, p, _, _, _, rfl, rfl, SqL.of e, rfl, rfl, _, rfl, ?_⟩
        refine iteV (fun h => absurd h h0) (fun _ => ?_)
        exact ⟨d0, d1, d4, none, rfl, same, h1⟩
    · rintro σ' H' ⟨e0, e1, e4, z, rfl, rfl, he1⟩
      have hp : upd H p (.lst [.int e0, .int e1, .int d2, .ref q, .int e4]) p = some (.lst [.int e0, .int e1, .int d2, .ref q, .int e4]) := upd_same
      refine ⟨_, rfl, p, _, _, _, rfl, rfl, SqL.of hp, rfl, .inl ⟨_, rfl, _, rfl, _, _, rfl, rfl, hb0, ?_⟩⟩
      refine ⟨_, rfl, p, _, _, _, rfl, rfl, SqL.of hp, rfl, _, rfl, _, _, rfl, rfl, ⟨hb0, hb1⟩, _, rfl, p, _, _, _, rfl, rfl, hp, rfl, _, rfl, ?_⟩
      rw [upd_upd]
      refine k _ _ (Int.emod_nonneg _ (by omega)) (Int.emod_lt_of_pos _ hb0) Ext.upd ⟨e0 / b, e1, d2, e4, ns, upd_same, nq, ?_, he1, hl⟩
      exact Ext.upd.seq nq hS

theorem ok_drawM (T : Bl mg) (D : Def K mg "_law_draw" s_draw f fd ["deck", "bound"]) : Cal P w K mg base 1 "_law_draw" (spDrawM K) := by
  obtain ⟨f, fd, ps, F, r⟩ := (ok_drawQ (P := P) (w := w) (base := base) T D).ex
  refine ⟨f, fd, ps, F.imp fun vs H Q E h => ?_, r⟩
  obtain ⟨p, m, b, e, ⟨n, q, d, o⟩, b0, b1, k⟩ := h
  exact ⟨p, q, b, e, d, b0, b1, fun v H' h1 h2 e d => k v H' h1 h2 e ⟨n, q, d, o⟩⟩
end
end Ws

/-! the law's _law_is_refused -/
namespace Ws
open PySem PySem.Spec PyProof.Rows L2
/-- a value that is no place -/
structure OddV (K : PySem.W.Frag) (x : V) (ox : Option Int) (d : PyData) : Prop where
  ix : IntA K x ox
  no : ∀ n : Int, n ≤ 5 → cntOk 0 n ox = false
  dp : ∀ H, Dp K H x d
  lf : Leaf d
  d2 : d.depth ≤ 2
  w2 : d.weight ≤ 1000
theorem cnt_no {i n : Int} (h : i < 0 ∨ 5 < i) (hn : n ≤ 5) : cntOk 0 n (some i) = false := by
  show (decide (0 ≤ i) && decide (i ≤ n)) = false
  rcases h with h | h
  · rw [decide_eq_false (by omega), Bool.false_and]
  · rw [decide_eq_false (show ¬ i ≤ n by omega), Bool.and_false]
theorem leaf_neg1 : Leaf (.int (-1)) := ⟨rfl, rfl, by decide, by decide +kernel, by decide +kernel⟩
theorem st_0 : (Str.ofString "0") = S [48] := by decide +kernel
theorem odd_at {K : PySem.W.Frag} {i : Nat} (hi : i < 5) : ∃ x ox d, atI ([.non, .bl true, .str "0", .int (-1), .int 9] : List V) (i : Nat) = some x ∧ OddV K x ox d := by
  rcases (show i = 0 ∨ i = 1 ∨ i = 2 ∨ i = 3 ∨ i = 4 by omega) with rfl | rfl | rfl | rfl | rfl
  · exact ⟨.non, none, .none, rfl, fun _ => int_non, fun _ _ => rfl, fun _ => .non, leaf_none, by decide, by decide⟩
  · exact ⟨.bl true, none, .bool true, rfl, fun _ => int_bl, fun _ _ => rfl, fun _ => .bl _, leaf_bool _, by decide, by decide⟩
  · exact ⟨.str "0", none, .str (S [48]), rfl, fun _ => int_str, fun _ _ => rfl, fun _ => by rw [st_0]; exact .str _, leaf_str (by decide) (by decide), by decide, by decide⟩
  · exact ⟨.int (-1), some (-1), .int (-1), rfl, fun _ => int_int, fun n hn => cnt_no (.inl (by decide)) hn, fun _ => .int _, leaf_neg1, by decide, by decide⟩
  · exact ⟨.int 9, some 9, .int 9, rfl, fun _ => int_int, fun n hn => cnt_no (.inr (by decide)) hn, fun _ => .int _, leaf_int (n := 9) (by decide), by decide, by decide⟩
theorem leaf_number : Leaf (.str "number") := ⟨rfl, rfl, by decide, by decide +kernel, by decide +kernel⟩
theorem leaf_turn : Leaf (.str "turn") := ⟨rfl, rfl, by decide, by decide +kernel, by decide +kernel⟩
section
variable {K : PySem.W.Frag} {CG CS : Addr} {H : Hp} {g ml : Addr} {v w : List Nat} {k : Nat} {rs : List (Nat × (Nat × Nat))} {op : List (Nat × Nat)} {kd b : Nat} {x y u : V} {ox oy : Option Int} {Q : VK} {E : XK}
theorem mf_bad1 (h : cntOk 0 1 ox = false) : dnE 0 v w k rs op x y ox oy = some (0, x) := by
  show mfE v w k rs op x y ox oy = _
  unfold mfE
  rw [if_neg (by rw [h]; decide)]
theorem mf_bad2 (h : cntOk 0 1 ox = true) (h2 : cntOk 0 ((((wd v w (ox.getD 0).toNat).length : Nat) : Int) - 1) oy = false) : dnE 0 v w k rs op x y ox oy = some (0, y) := by
  show mfE v w k rs op x y ox oy = _
  unfold mfE
  rw [if_pos h, if_neg (by rw [h2]; decide)]
theorem mf_turn (h : cntOk 0 1 ox = true) (h2 : cntOk 0 ((((wd v w (ox.getD 0).toNat).length : Nat) : Int) - 1) oy = true) (h3 : op ≠ []) : dnE 0 v w k rs op x y ox oy = some (1, .non) := by
  show mfE v w k rs op x y ox oy = _
  unfold mfE
  rw [if_pos h, if_pos h2, if_neg h3]
theorem mf_none (h : cntOk 0 1 ox = true) (h2 : cntOk 0 ((((wd v w (ox.getD 0).toNat).length : Nat) : Int) - 1) oy = true) (h3 : op = []) (h4 : rs.length = k) : dnE 0 v w k rs op x y ox oy = some (2, .non) := by
  show mfE v w k rs op x y ox oy = _
  unfold mfE
  rw [if_pos h, if_pos h2, if_pos h3, if_pos h4]
theorem mf_ok (h : cntOk 0 1 ox = true) (h2 : cntOk 0 ((((wd v w (ox.getD 0).toNat).length : Nat) : Int) - 1) oy = true) (h3 : op = []) (h4 : rs.length ≠ k) : dnE 0 v w k rs op x y ox oy = none := by
  show mfE v w k rs op x y ox oy = _
  unfold mfE
  rw [if_pos h, if_pos h2, if_pos h3, if_neg h4]
theorem done_err (PL : PlayM CG CS H g ml v w k rs op) (ix : IntA K x ox) (iy : IntA K y oy) (e : dnE kd v w k rs op x y ox oy = some (b, u)) (q : ∀ t H', Same H H' → H' t = some (.tup [.str (tagF b), u]) → Q (.ref t) H') : spDone K CG CS [.ref g, .int (kd : Nat), x, y] H Q E :=
  ⟨g, ml, v, w, k, rs, op, kd, x, y, ox, oy, rfl, PL, ix, iy, (fun z => by rw [e] at z; cases z), fun b' u' e' => by rw [e] at e'; cases e'; exact q⟩
theorem done_ok (PL : PlayM CG CS H g ml v w k rs op) (ix : IntA K x ox) (iy : IntA K y oy) (e : dnE kd v w k rs op x y ox oy = none) (q : ∀ H', Ext ml H H' → PlayM CG CS H' g ml v w k (dnR kd rs op oy) (dnO kd rs op ox oy) → Q .non H') : spDone K CG CS [.ref g, .int (kd : Nat), x, y] H Q E :=
  ⟨g, ml, v, w, k, rs, op, kd, x, y, ox, oy, rfl, PL, ix, iy, fun _ => q, fun b' u' e' => by rw [e] at e'; cases e'⟩
end
def spRefu (K : PySem.W.Frag) (CG CS : Addr) : Sp := fun vs H Q _ => ∃ (p g ml o : Addr) (oas : List Addr) (v w : List Nat) (k : Nat) (rs : List (Nat × (Nat × Nat))) (op : List (Nat × Nat)), vs = [.ref p, .ref g, .ref o, .str (S w)] ∧ o ≠ p ∧ DeckM K H p ml ∧ PlayM CG CS H g ml v w k rs op ∧ MarksAt H o oas op ∧ v.length ≤ 6 ∧ w.length ≤ 6 ∧
  ∀ H', Ext p H H' → DeckM K H' p ml → PlayM CG CS H' g ml v w k rs op → Q (.bl true) H'
section
variable {P : Program} {W0 : World} {K : PySem.W.Frag} {mg : Str → Option Value} {base : Heap} {f CG CS : Addr} {fd : FuncData}
abbrev s_RF : Stmt := (top 36)
abbrev N_RF : List Str := ["deck", "game", "open_mark", "w", "odd", "got", "last"]
theorem sc_RF : FnScope N_RF ["deck", "game", "open_mark", "w"] (defScope s_RF) := ⟨rfl, rfl, rfl, by decide +kernel, rfl, by decide +kernel, by decide +kernel⟩
theorem ok_RF (T : Bl mg) (c_draw : Cal P W0 K mg base 1 "_law_draw" (spDrawM K)) (c_done : Cal P W0 K mg base 7 "_law_done" (spDone K CG CS)) (c_is : CalG P W0 K mg base 1 "_law_is" (spIs K)) (D : Def K mg "_law_is_refused" s_RF f fd ["deck", "game", "open_mark", "w"]) : CalG P W0 K mg base 8 "_law_is_refused" (spRefu K CG CS) := by
  refine D.calG (okG D.fn sc_RF (fun vs H Q E h => ?_) (fun cdv A outer s H vs Q E hr hg h => ?_))
  · obtain ⟨p, g, ml, o, oas, v, w, k, rs, op, rfl, _⟩ := h
    rfl
  · obtain ⟨p, g, ml, o, oas, v, w, k, rs, op, rfl, nop, DK, PL, MO, hv, hw, kq⟩ := h
    have nd := sc_RF.nd
    refine ⟨_, (C8.pss_cut (ps_if (PW.pt (pw_and (pt_cmpR op_gt (pe_callB call_len_seq (by rfl) T.len PySem.boot_len (pa_cons (pv 2) pa_nil)) pe_int (nomark _)) (pw_and (pt_cmpR op_gt (pe_callB call_len_str (by rfl) T.len PySem.boot_len (pa_cons (pv 3) pa_nil)) pe_int (nomark _)) (pw_and1 (pt_cmpR (op_neD hr.units) (pe_c c_done hr (by decide) rfl (pa_cons (pv 1) (pa_cons pe_int (pa_cons pe_int (pa_cons (pe_op op_sub (pe_callB call_len_str (by rfl) T.len PySem.boot_len (pa_cons (pv 3) pa_nil)) pe_int) pa_nil))))) (pe_tup (pa_cons pe_str (pa_cons pe_non pa_nil))) (nomark _))))))
      (pss_one (ps_ret pe_bl))
      pss_nil)
      (C8.pss_cut (ps_set (i := 4) nd rfl (.inl rfl) (pe_ix ix_list (pe_lst (pa_cons pe_non (pa_cons pe_bl (pa_cons pe_str (pa_cons (pe_un un_neg pe_int) (pa_cons pe_int pa_nil)))))) (pe_c c_draw hr (by decide) rfl (pa_cons (pv 0) (pa_cons pe_int pa_nil))) (fun _ _ => rfl)))
      (pss_cons (ps_set (i := 5) nd rfl (.inl rfl) (pe_lst (pa_cons (pe_c c_done hr (by decide) rfl (pa_cons (pv 1) (pa_cons pe_int (pa_cons pe_int (pa_cons pe_int pa_nil))))) (pa_cons (pe_c c_done hr (by decide) rfl (pa_cons (pv 1) (pa_cons pe_int (pa_cons (pv 4) (pa_cons pe_int pa_nil))))) (pa_cons (pe_c c_done hr (by decide) rfl (pa_cons (pv 1) (pa_cons pe_int (pa_cons pe_int (pa_cons (pv 4) pa_nil))))) (pa_cons (pe_c c_done hr (by decide) rfl (pa_cons (pv 1) (pa_cons pe_int (pa_cons pe_int (pa_cons (pv 4) pa_nil))))) pa_nil))))))
      (pss_cons (ps_set (i := 6) nd rfl (.inl rfl) (pe_tup (pa_cons pe_str (pa_cons pe_non pa_nil))))
      (C8.pss_cut (ps_if (pt_cmpR op_gt (pe_callB call_len_seq (by rfl) T.len PySem.boot_len (pa_cons (pv 2) pa_nil)) pe_int (nomark _))
      (pss_one (ps_set (i := 6) nd rfl (.inl rfl) (pe_tup (pa_cons pe_str (pa_cons (pv 4) pa_nil)))))
      pss_nil)
      (pss_one (ps_ret (pe_cG c_is hr (by decide) hg rfl (pa_cons (pv 5) (pa_cons (pe_lst (pa_cons (pe_tup (pa_cons pe_str (pa_cons pe_int pa_nil))) (pa_cons (pe_tup (pa_cons pe_str (pa_cons (pv 4) pa_nil))) (pa_cons (pe_tup (pa_cons pe_str (pa_cons (pv 4) pa_nil))) (pa_cons (pv 6) pa_nil))))) pa_nil)))))))))), ?_⟩
    have lO : (oas.map V.ref).length = op.length := by rw [List.length_map, MO.len]
    have hz : (S w).length ≤ sizeLine := S_le (by omega)
    have i0 : ∀ n : Int, IntA K (.int n) (some n) := fun n H => int_int
    refine ⟨fun σ' H' => σ' = L2.start N_RF [.ref p, .ref g, .ref o, .str (S w)] ∧ Same H H', ?_, ?_⟩
    · refine ⟨_, rfl, o, _, rfl, .inl (SqL.of MO.at_), _, _, rfl, rfl, _, rfl, ?_⟩
      rw [lO]
      refine iteD rfl (fun h1 => ?_) (fun h1 => iteF ⟨rfl, refl_same _⟩)
      refine ⟨_, rfl, _, rfl, hz, _, _, rfl, rfl, _, rfl, ?_⟩
      rw [SX.S_len]
      refine iteD rfl (fun h2 => ?_) (fun h2 => iteF ⟨rfl, refl_same _⟩)
      refine ⟨_, rfl, _, rfl, _, rfl, hz, _, _, rfl, rfl, ?_⟩
      dsimp only [tNil]
      have hop : op ≠ [] := fun z => by rw [z] at h1; exact absurd h1 (by decide)
      have e : dnE 0 v w k rs op (.int 1) (.int ((((S w).length : Nat) : Int) - 1)) (some 1) (some ((((S w).length : Nat) : Int) - 1)) = some (1, .non) := by
        refine mf_turn rfl ?_ hop
        show (decide ((0 : Int) ≤ (((S w).length : Nat) : Int) - 1) && decide ((((S w).length : Nat) : Int) - 1 ≤ (((wd v w 1).length : Nat) : Int) - 1)) = true
        rw [SX.S_len, decide_eq_true (by omega), decide_eq_true (by show ((w.length : Nat) : Int) - 1 ≤ ((w.length : Nat) : Int) - 1; omega)]
        rfl
      refine done_err (kd := 0) PL (i0 1) (i0 _) e (fun t H1 s1 et => ?_)
      refine ⟨by show 2 ≤ sizeLine; decide, fun t2 ht2 => ?_⟩
      have s2 := Same.new (o := .tup [.str "turn", .non]) ht2
      refine ⟨.tuple [.str "turn", .none], .tuple [.str "turn", .none], .tup (SqT.of (s2 _ _ et)) (.cons (.str _) (.cons .non .nil)), .tup (SqT.of upd_same) (.cons (.str _) (.cons .non .nil)), by decide +kernel, by decide +kernel, _, rfl, ?_⟩
      rw [SeqAt.eqv_refl _ (by decide +kernel)]
      exact iteF ⟨rfl, s1.trans s2⟩
    rintro σ' H1 ⟨rfl, s1⟩
    have D1 := DK.same s1
    have P1 := PL.same s1
    refine ⟨fun σ' H' => ∃ x ox d, OddV K x ox d ∧ σ' = [some (.ref p), some (.ref g), some (.ref o), some (.str (S w)), some x, none, none] ∧ Ext p H H' ∧ DeckM K H' p ml ∧ PlayM CG CS H' g ml v w k rs op, ?_, ?_⟩
    · refine ⟨_, rfl, by show 5 ≤ sizeLine; decide, fun l hl => ⟨_, rfl, p, ml, 5, rfl, D1.same (Same.new hl), by decide, by decide, fun u H2 u0 u1 x2 D2 => ?_⟩⟩
      obtain ⟨u, rfl⟩ := Int.eq_ofNat_of_zero_le u0
      obtain ⟨x, ox, d, hat, O⟩ := odd_at (K := K) (i := u) (by omega)
      obtain ⟨zs, ez⟩ := (D1.same (Same.new (o := .lst [.non, .bl true, .str "0", .int (-1), .int 9]) hl)).at_.some
      have npl : l ≠ p := fun z => by
        obtain ⟨zs, ez⟩ := D1.at_.some
        rw [z, ez] at hl
        cases hl
      refine ⟨l, _, _, _, rfl, rfl, SqL.of (x2 _ _ npl upd_same), hat, ?_⟩
      refine ⟨x, ox, d, O, rfl, (Ext.of (s1.trans (Same.new hl))).trans x2, D2, (P1.same (Same.new hl)).ext x2 ez D2.ne.symm⟩
    rintro σ' H2 ⟨x, ox, d, O, rfl, x2, D2, P2⟩
    obtain ⟨zs, ez⟩ := DK.at_.some
    have MO2 : MarksAt H2 o oas op := MO.ext x2 ez nop
    have hw1 : ((w.length : Nat) : Int) - 1 ≤ 5 := by omega
    have hwd : ∀ i, (((wd v w i).length : Nat) : Int) - 1 ≤ 5 := fun i => by unfold wd; split <;> omega
    -- the four calls
    refine ⟨_, rfl, ?_⟩
    dsimp only [tNil, tCons, tC]
    refine done_err (kd := 0) (b := 0) (u := .int 2) P2 (i0 2) (i0 0) (mf_bad1 (by decide)) (fun t1 H3 s3 e3 => ?_)
    refine ⟨_, rfl, _, rfl, ?_⟩
    dsimp only [tNil, tCons, tC]
    refine done_err (kd := 0) (b := 0) (u := x) (P2.same s3) O.ix (i0 0) (mf_bad1 (O.no 1 (by decide))) (fun t2 H4 s4 e4 => ?_)
    refine ⟨_, rfl, _, rfl, ?_⟩
    dsimp only [tNil]
    refine done_err (kd := 0) (b := 0) (u := x) (P2.same (s3.trans s4)) (i0 1) O.ix (mf_bad2 rfl (O.no _ (hwd _))) (fun t3 H5 s5 e5 => ?_)
    refine ⟨_, rfl, _, rfl, ?_⟩
    dsimp only [tNil]
    let bo : Nat := if op = [] then 1 else 0
    let uo : V := if op = [] then .non else x
    let dO : PyData := if op = [] then .none else d
    have eo : dnE 1 v w k rs op (.int 0) x (some 0) ox = some (bo, uo) := by
      show mbE v w op x ox = _
      cases op with
      | nil => rfl
      | cons q op => exact if_neg (by rw [O.no _ (hwd _)]; decide)
    refine done_err (kd := 1) (P2.same (s3.trans (s4.trans s5))) (i0 0) O.ix eo (fun t4 H6 s6 e6 => ?_)
    refine ⟨by show 4 ≤ sizeLine; decide, fun l hl => ?_⟩
    have sl := Same.new (o := .lst [.ref t1, .ref t2, .ref t3, .ref t4]) hl
    refine ⟨by show 2 ≤ sizeLine; decide, fun la hla => ?_⟩
    have s7 := s3.trans (s4.trans (s5.trans (s6.trans (sl.trans (Same.new (o := .tup [.str "turn", .non]) hla)))))
    have s37 := s4.trans (s5.trans (s6.trans (sl.trans (Same.new (o := .tup [.str "turn", .non]) hla))))
    have s47 := s5.trans (s6.trans (sl.trans (Same.new (o := .tup [.str "turn", .non]) hla)))
    have s57 := s6.trans (sl.trans (Same.new (o := .tup [.str "turn", .non]) hla))
    have s67 := sl.trans (Same.new (o := .tup [.str "turn", .non]) hla)
    refine ⟨fun σ' H' => ∃ lz, σ' = [some (.ref p), some (.ref g), some (.ref o), some (.str (S w)), some x, some (.ref l), some (.ref lz)] ∧ Same (upd (upd H6 l (.lst [.ref t1, .ref t2, .ref t3, .ref t4])) la (.tup [.str "turn", .non])) H' ∧ H' lz = some (.tup [.str (tagF bo), uo]), ?_, ?_⟩
    · refine ⟨_, rfl, o, _, rfl, .inl (SqL.of (s7 _ _ MO2.at_)), _, _, rfl, rfl, _, rfl, ?_⟩
      rw [lO]
      refine iteD rfl (fun h1 => ?_) (fun h1 => ?_)
      · have hop : op ≠ [] := fun z => by rw [z] at h1; exact absurd h1 (by decide)
        refine ⟨_, rfl, by show 2 ≤ sizeLine; decide, fun lb hlb => ⟨lb, rfl, Same.new hlb, ?_⟩⟩
        have b0 : bo = 0 := if_neg hop
        have u0 : uo = x := if_neg hop
        rw [upd_same, b0, u0]
        rfl
      · have hop : op = [] := List.eq_nil_of_length_eq_zero (by omega)
        have b0 : bo = 1 := if_pos hop
        have u0 : uo = .non := if_pos hop
        refine ⟨la, rfl, refl_same _, ?_⟩
        rw [upd_same, b0, u0]
        rfl
    · rintro σ' H7 ⟨lb, rfl, s8, elb⟩
      refine ⟨_, rfl, by show 2 ≤ sizeLine; decide, fun u1 hu1 => ?_⟩
      refine ⟨_, rfl, by show 2 ≤ sizeLine; decide, fun u2 hu2 => ?_⟩
      refine ⟨_, rfl, by show 2 ≤ sizeLine; decide, fun u3 hu3 => ?_⟩
      refine ⟨_, rfl, by show 4 ≤ sizeLine; decide, fun lr hlr => ?_⟩
      have r1 := Same.new (o := .tup [.str "number", .int 2]) hu1
      have r2 := Same.new (o := .tup [.str "number", x]) hu2
      have r3 := Same.new (o := .tup [.str "number", x]) hu3
      have r4 := Same.new (o := .lst [.ref u1, .ref u2, .ref u3, .ref lb]) hlr
      have r0 := s8.trans (r1.trans (r2.trans (r3.trans r4)))
      have hdo : ∀ H, Dp K H uo dO := fun H => by
        show Dp K H (if op = [] then .non else x) (if op = [] then .none else d)
        split
        · exact .non
        · exact O.dp H
      have hlo : Leaf (.tuple [.str (tagF bo), dO]) := by
        show Leaf (.tuple [.str (tagF (if op = [] then 1 else 0)), (if op = [] then .none else d)])
        split
        · exact leaf_pair leaf_turn leaf_none (by show 0 ≤ 2; decide) (by show 0 ≤ 2; decide) (by decide +kernel) (by decide +kernel)
        · exact leaf_pair leaf_number O.lf (by show 0 ≤ 2; decide) O.d2 (by decide +kernel) O.w2
      have lN : Leaf (.tuple [.str "number", d]) := leaf_pair leaf_number O.lf (by show 0 ≤ 2; decide) O.d2 (by decide +kernel) O.w2
      have l2 : Leaf (.tuple [.str "number", .int 2]) := leaf_pair leaf_number (leaf_int (n := 2) (by decide)) (by show 0 ≤ 2; decide) (by show 0 ≤ 2; decide) (by decide +kernel) (by decide +kernel)
      refine ⟨_, _, .list [.tuple [.str "number", .int 2], .tuple [.str "number", d], .tuple [.str "number", d], .tuple [.str (tagF bo), dO]], rfl, ?_, ?_, ?_, ?_⟩
      · have q1 := r0 _ _ (s37 _ _ e3)
        have q2 := r0 _ _ (s47 _ _ e4)
        have q3 := r0 _ _ (s57 _ _ e5)
        have q4 := r0 _ _ (s67 _ _ e6)
        refine .lst (SqL.of (r0 _ _ ((Same.new hla) _ _ upd_same))) (.cons (.tup (SqT.of q1) (.cons (.str _) (.cons (.int _) .nil))) (.cons (.tup (SqT.of q2) (.cons (.str _) (.cons (O.dp _) .nil))) (.cons (.tup (SqT.of q3) (.cons (.str _) (.cons (O.dp _) .nil))) (.cons (.tup (SqT.of q4) (.cons (.str _) (.cons (hdo _) .nil))) .nil))))
      · refine .lst (SqL.of upd_same) (.cons (.tup (SqT.of (r4 _ _ (r3 _ _ (r2 _ _ upd_same)))) (.cons (.str _) (.cons (.int _) .nil))) (.cons (.tup (SqT.of (r4 _ _ (r3 _ _ upd_same))) (.cons (.str _) (.cons (O.dp _) .nil))) (.cons (.tup (SqT.of (r4 _ _ upd_same)) (.cons (.str _) (.cons (O.dp _) .nil))) (.cons (.tup (SqT.of ((r1.trans (r2.trans (r3.trans r4))) _ _ elb)) (.cons (.str _) (.cons (hdo _) .nil))) .nil))))
      · refine Shw.leaves (fun e he => ?_) (by show 4 ≤ 300; decide)
        simp only [List.mem_cons, List.not_mem_nil, or_false] at he
        rcases he with rfl | rfl | rfl | rfl
        · exact l2
        · exact lN
        · exact lN
        · exact hlo
      · have sA := s7.trans r0
        exact kq _ (x2.trans (Ext.of sA)) (D2.same sA) (P2.same sA)
end
end Ws

/-! the law's _law_step -/
namespace Ws
open PySem PySem.Spec PyProof.Rows L2
def OffE (p ml : Addr) (H H' : Hp) : Prop := ∀ b o, b ≠ p → b ≠ ml → H b = some o → H' b = some o
theorem OffE.ofP {p ml : Addr} {H H' : Hp} (e : Ext p H H') : OffE p ml H H' := fun b o n _ h => e b o n h
theorem OffE.ofM {p ml : Addr} {H H' : Hp} (e : Ext ml H H') : OffE p ml H H' := fun b o _ n h => e b o n h
theorem OffE.ofS {p ml : Addr} {H H' : Hp} (e : Same H H') : OffE p ml H H' := fun b o _ _ h => e b o h
theorem OffE.trans {p ml : Addr} {H H1 H2 : Hp} (a : OffE p ml H H1) (b : OffE p ml H1 H2) : OffE p ml H H2 := fun c o n1 n2 h => b c o n1 n2 (a c o n1 n2 h)
theorem cut_init (xs : List V) : cutV xs none (some (-1)) = xs.dropLast := by
  unfold cutV
  rw [HT.sIx_none, List.drop_zero]
  have e : HT.sIx xs.length xs.length (some (-1)) = xs.length - 1 := by
    show (if ((-1 : Int)) < 0 then ((-1 : Int) + (xs.length : Int)).toNat else min (-1 : Int).toNat xs.length) = _
    rw [if_pos (by decide)]
    omega
  rw [e, Nat.sub_zero, List.dropLast_eq_take]
theorem cut_last (xs : List V) : cutV xs (some (-1)) none = xs.getLast?.toList := by
  unfold cutV
  have e : HT.sIx xs.length 0 (some (-1)) = xs.length - 1 := by
    show (if ((-1 : Int)) < 0 then ((-1 : Int) + (xs.length : Int)).toNat else min (-1 : Int).toNat xs.length) = _
    rw [if_pos (by decide)]
    omega
  rw [e, HT.sIx_none]
  rcases List.eq_nil_or_concat xs with rfl | ⟨l, x, rfl⟩
  · rfl
  · simp
/-- how the marks go on -/
def StpR (H' : Hp) (p ml : Addr) (b : V) (rs rs' : List (Nat × (Nat × Nat))) (op op' : List (Nat × Nat)) : Prop :=
  (∃ o' oas', b = .ref o' ∧ o' ≠ p ∧ o' ≠ ml ∧ MarksAt H' o' oas' op' ∧ (rs' = rs ∨ ∃ q y, op = [q] ∧ rs' = rs ++ [(q.1, cpl q.1 q.2 y)] ∧ op' = [])) ∨ (b = .non ∧ op = [] ∧ rs ≠ [] ∧ rs' = rs.dropLast ∧ op' = (rs.map lastMk).getLast?.toList)
def spStep (K : PySem.W.Frag) (CG CS : Addr) : Sp := fun vs H Q _ => ∃ (p g ml m o : Addr) (as oas : List Addr) (v w : List Nat) (k : Nat) (rs : List (Nat × (Nat × Nat))) (op : List (Nat × Nat)), vs = [.ref p, .ref g, .str (S v), .str (S w), .ref m, .int k, .ref o] ∧ m ≠ p ∧ m ≠ ml ∧ o ≠ p ∧ o ≠ ml ∧
  DeckM K H p ml ∧ PlayM CG CS H g ml v w k rs op ∧ MarksAt H m as (rs.map (·.2)) ∧ MarksAt H o oas op ∧ v.length ≤ 6 ∧ w.length ≤ 6 ∧ k ≤ 3 ∧
  ∀ t m' b as' rs' op' H', OffE p ml H H' → H' t = some (.tup [.ref m', b]) → DeckM K H' p ml → PlayM CG CS H' g ml v w k rs' op' → MarksAt H' m' as' (rs'.map (·.2)) → m' ≠ p → m' ≠ ml → StpR H' p ml b rs rs' op op' → Q (.ref t) H'
theorem MarksAt.same_of {H H' : Hp} {m : Addr} {as : List Addr} {ms : List (Nat × Nat)} (h : MarksAt H m as ms) (s : ∀ b o, H b = some o → H' b = some o) : MarksAt H' m as ms := h.same s
theorem MarksAt.dropL {H : Hp} {m p : Addr} {as : List Addr} {ms : List (Nat × Nat)} (M : MarksAt H m as ms) (ep : H p = some (.lst ((as.map V.ref).dropLast))) : MarksAt H p as.dropLast ms.dropLast := by
  refine ⟨by rw [ep, List.map_dropLast], by rw [List.length_dropLast, List.length_dropLast, M.len], fun i a q ha hq => ?_⟩
  have ha' : as[i]? = some a := by
    rw [List.getElem?_dropLast] at ha
    split at ha
    · exact ha
    · cases ha
  have hq' : ms[i]? = some q := by
    rw [List.getElem?_dropLast] at hq
    split at hq
    · exact hq
    · cases hq
  exact M.tup i a q ha' hq'
theorem marks_nil {H : Hp} {m : Addr} (h : H m = some (.lst [])) : MarksAt H m [] [] := ⟨h, rfl, fun i a q ha => by simp at ha⟩
theorem marks_one {H : Hp} {m t : Addr} {x y : Nat} (h : H m = some (.lst [.ref t])) (ht : H t = some (.tup [.int x, .int y])) : MarksAt H m [t] [(x, y)] := ⟨h, rfl, fun i a q ha hq => by
  cases i with
  | zero =>
    have ha : t = a := Option.some.inj ha
    have hq : (x, y) = q := Option.some.inj hq
    subst ha hq
    exact ht
  | succ i => simp at ha⟩
theorem bfO_le {v w : List Nat} {k : Nat} {rs : List (Nat × (Nat × Nat))} {op : List (Nat × Nat)} {c : Nat × Nat} (h : bfO v w k rs op = some c) : c.1 ≤ 1 := by
  unfold bfO at h
  split at h
  · cases h
  · split at h
    · cases h
      exact Nat.zero_le _
    · obtain ⟨x, _, rfl⟩ := Option.map_eq_some_iff.mp h
      exact Nat.le_refl _
theorem lay_number (n : Int) : (PyData.tuple [.str "number", .int n]).canLay0 = true := by
  simp only [PyData.canLay0, PyData.canLayAll0, Bool.and_true]
  decide +kernel
theorem shp_number (n : Int) : SeqAt.shaped (PyData.tuple [.str "number", .int n]) = true := by
  unfold SeqAt.shaped
  rw [lay_number, Bool.true_and, decide_eq_true_iff]
  simp [PyData.depth, PyData.depthAll]
theorem tb_none {v w : List Nat} {k : Nat} {x y : V} {ox oy : Option Int} : dnE 2 v w k [] [] x y ox oy = some (2, .non) := by
  show tbE [] [] = _
  exact if_pos ⟨rfl, rfl⟩
theorem tb_ok {v w : List Nat} {k : Nat} {rs : List (Nat × (Nat × Nat))} {op : List (Nat × Nat)} {x y : V} {ox oy : Option Int} (h : ¬ (rs = [] ∧ op = [])) : dnE 2 v w k rs op x y ox oy = none := by
  show tbE rs op = _
  exact if_neg h
theorem bf_of {CG CS : Addr} {H : Hp} {g : Addr} {v w : List Nat} {k : Nat} {rs : List (Nat × (Nat × Nat))} {op : List (Nat × Nat)} {Q : VK} {E : XK} (PL : Play CG CS H g v w k rs op) (q : ∀ y H', Same H H' → BfAt H' y (bfO v w k rs op) → Q y H') : spBF CG CS [.ref g] H Q E :=
  ⟨g, v, w, k, rs, op, rfl, PL, fun e H' s => q .non H' s (by rw [e]; rfl), fun c e t H' s et => q (.ref t) H' s (by rw [e]; exact ⟨t, rfl, et⟩)⟩
theorem two_at {a b : V} {c : Bool} : atI ([a, b] : List V) (if c = true then 1 else 0) = some (if c = true then b else a) := by cases c <;> rfl
section
variable {P : Program} {W0 : World} {K : PySem.W.Frag} {mg : Str → Option Value} {base : Heap} {f CG CS : Addr} {fd : FuncData}
abbrev s_SP : Stmt := (top 35)
abbrev N_SP : List Str := ["deck", "game", "v", "w", "marks", "k", "open_mark", "sort", "best", "words", "got", "which", "x", "y", "due", "after"]
theorem sc_SP : FnScope N_SP ["deck", "game", "v", "w", "marks", "k", "open_mark"] (defScope s_SP) := ⟨rfl, rfl, rfl, by decide +kernel, rfl, by decide +kernel, by decide +kernel⟩
theorem ok_SP (T : Bl mg) (GT : GmT K mg CG) (c_draw : Cal P W0 K mg base 1 "_law_draw" (spDrawM K)) (c_done : Cal P W0 K mg base 7 "_law_done" (spDone K CG CS)) (c_bf : MCal P W0 K mg base CG "best_first" 4 (spBF CG CS)) (c_bb : MCal P W0 K mg base CG "best_back" 4 (spPl CG CS fun v w k rs op => bbV v w k rs op))
    (D : Def K mg "_law_step" s_SP f fd ["deck", "game", "v", "w", "marks", "k", "open_mark"]) : Cal P W0 K mg base 8 "_law_step" (spStep K CG CS) := by
  refine D.cal (D.fn.ok sc_SP (fun vs H Q E h => ?_) (fun cdv A outer s H vs Q E hr h => ?_))
  · obtain ⟨p, g, ml, m, o, as, oas, v, w, k, rs, op, rfl, _⟩ := h
    rfl
  · obtain ⟨p, g, ml, m, o, as, oas, v, w, k, rs, op, rfl, nmp, nmm, nop, nom, DK, PL, MM, MO, hv, hw, hk3, kq⟩ := h
    have nd := sc_SP.nd
    refine ⟨_, (pss_cons (ps_par (i := 7) (j := 8) rfl nd rfl rfl (by decide) rfl rfl (pa_cons (pe_c c_draw hr (by decide) rfl (pa_cons (pv 0) (pa_cons pe_int pa_nil))) (pa_cons (pe_lst (pa_cons (pe_m0 c_bf GT.cl hr (by decide) (pv 1)) (pa_cons (pe_m0 c_bb GT.cl hr (by decide) (pv 1)) pa_nil))) pa_nil)) (by rfl))
      (pss_cons (ps_set (i := 9) nd rfl (.inl rfl) (pe_lst (pa_cons (pv 2) (pa_cons (pv 3) pa_nil))))
      (pss_cons (ps_if (pt_cmpR op_eq (pv 7) pe_int (nomark _))
      (pss_cons (ps_set (i := 10) nd rfl (.inl rfl) (pe_c c_done hr (by decide) rfl (pa_cons (pv 1) (pa_cons pe_int (pa_cons pe_int (pa_cons pe_int pa_nil))))))
      (pss_cons (ps_if (pt_cmpR op_gt (pe_callB call_len_seq (by rfl) T.len PySem.boot_len (pa_cons (pv 6) pa_nil)) pe_int (nomark _))
      (pss_one (ps_ret (pe_ix ix_list (pe_lst (pa_cons (pe_tup (pa_cons (pv 4) (pa_cons (pe_lst pa_nil) pa_nil))) (pa_cons pe_non pa_nil))) (pe_callTy call_int1 (by rfl) T.int (by decide +kernel) (pa_cons (pe_cmpR op_notN (pv 10) pe_non (nomark _)) pa_nil)) (fun _ _ => rfl))))
      pss_nil)
      (pss_cons (ps_if (pt_cmpR op_eq (pe_callB call_len_seq (by rfl) T.len PySem.boot_len (pa_cons (pv 4) pa_nil)) pe_int (nomark _))
      (pss_one (ps_ret (pe_ix ix_list (pe_lst (pa_cons pe_non (pa_cons (pe_tup (pa_cons (pv 4) (pa_cons (pe_lst pa_nil) pa_nil))) pa_nil))) (pe_callTy call_int1 (by rfl) T.int (by decide +kernel) (pa_cons (pe_cmpR (op_eqD hr.units) (pv 10) (pe_tup (pa_cons pe_str (pa_cons pe_non pa_nil))) (nomark _)) pa_nil)) (fun _ _ => rfl))))
      pss_nil)
      (pss_one (ps_ret (pe_ix ix_list (pe_lst (pa_cons (pe_tup (pa_cons (pe_slice sl_list (pv 4) po_none (po_some (pe_un un_neg pe_int))) (pa_cons pe_non pa_nil))) (pa_cons pe_non pa_nil))) (pe_callTy call_int1 (by rfl) T.int (by decide +kernel) (pa_cons (pe_cmpR op_notN (pv 10) pe_non (nomark _)) pa_nil)) (fun _ _ => rfl)))))))
      pss_nil)
      (pss_cons (ps_if (pt_cmpR op_gt (pe_callB call_len_seq (by rfl) T.len PySem.boot_len (pa_cons (pv 6) pa_nil)) pe_int (nomark _))
      (pss_cons (ps_asg (pe_ix ix_list (pv 6) pe_int (fun _ _ => rfl)) (pg_tup (n := 2) rfl (pgs_cons (pg_name (i := 11) nd rfl (.inl rfl)) (pgs_cons (pg_name (i := 12) nd rfl (.inl rfl)) pgs_nil))))
      (pss_cons (ps_set (i := 13) nd rfl (.inl rfl) (pe_ix ix_list (pv 8) pe_int (fun _ _ => rfl)))
      (C8.pss_cut (ps_if (PW.pt (pw_or (pt_cmpR op_isN (pv 13) pe_non (nomark _)) (pw_or1 (pt_cmpR op_lt (pv 7) pe_int (nomark _)))))
      (pss_one (ps_set (i := 13) nd rfl (.inl rfl) (pe_c c_draw hr (by decide) rfl (pa_cons (pv 0) (pa_cons (pe_op op_add (pe_callB call_len_str (by rfl) T.len PySem.boot_len (pa_cons (pe_ix ix_list (pv 9) (pe_op op_sub pe_int (pv 11)) (fun _ _ => rfl)) pa_nil)) pe_int) pa_nil)))))
      pss_nil)
      (pss_cons (ps_set (i := 10) nd rfl (.inl rfl) (pe_c c_done hr (by decide) rfl (pa_cons (pv 1) (pa_cons pe_int (pa_cons pe_int (pa_cons (pv 13) pa_nil))))))
      (pss_cons (ps_if (pt_cmpR op_ge (pv 13) (pe_callB call_len_str (by rfl) T.len PySem.boot_len (pa_cons (pe_ix ix_list (pv 9) (pe_op op_sub pe_int (pv 11)) (fun _ _ => rfl)) pa_nil)) (nomark _))
      (pss_one (ps_ret (pe_ix ix_list (pe_lst (pa_cons pe_non (pa_cons (pe_tup (pa_cons (pv 4) (pa_cons (pv 6) pa_nil))) pa_nil))) (pe_callTy call_int1 (by rfl) T.int (by decide +kernel) (pa_cons (pe_cmpR (op_eqD hr.units) (pv 10) (pe_tup (pa_cons pe_str (pa_cons (pv 13) pa_nil))) (nomark _)) pa_nil)) (fun _ _ => rfl))))
      pss_nil)
      (pss_one (ps_ret (pe_ix ix_list (pe_lst (pa_cons pe_non (pa_cons (pe_tup (pa_cons (pe_op op_cat (pv 4) (pe_lst (pa_cons (pe_ix ix_list (pe_lst (pa_cons (pe_tup (pa_cons (pv 12) (pa_cons (pv 13) pa_nil))) (pa_cons (pe_tup (pa_cons (pv 13) (pa_cons (pv 12) pa_nil))) pa_nil))) (pv 11) (fun _ _ => rfl)) pa_nil))) (pa_cons (pe_lst pa_nil) pa_nil))) pa_nil))) (pe_callTy call_int1 (by rfl) T.int (by decide +kernel) (pa_cons (pe_cmpR op_isN (pv 10) pe_non (nomark _)) pa_nil)) (fun _ _ => rfl)))))))))
      pss_nil)
      (C8.pss_cut (ps_asg (pe_orT (pe_ix ix_list (pv 8) pe_int (fun _ _ => rfl)) (pe_one (pe_tup (pa_cons (pe_c c_draw hr (by decide) rfl (pa_cons (pv 0) (pa_cons pe_int pa_nil))) (pa_cons pe_int pa_nil))))) (pg_tup (n := 2) rfl (pgs_cons (pg_name (i := 11) nd rfl (.inl rfl)) (pgs_cons (pg_name (i := 12) nd rfl (.inl rfl)) pgs_nil))))
      (C8.pss_cut (ps_if (pt_cmpR op_lt (pv 7) pe_int (nomark _))
      (pss_one (ps_par (i := 11) (j := 12) rfl nd rfl rfl (by decide) rfl rfl (pa_cons (pe_c c_draw hr (by decide) rfl (pa_cons (pv 0) (pa_cons pe_int pa_nil))) (pa_cons (pe_c c_draw hr (by decide) rfl (pa_cons (pv 0) (pa_cons pe_int pa_nil))) pa_nil)) (by rfl)))
      pss_nil)
      (pss_cons (ps_set (i := 10) nd rfl (.inl rfl) (pe_c c_done hr (by decide) rfl (pa_cons (pv 1) (pa_cons pe_int (pa_cons (pv 11) (pa_cons (pv 12) pa_nil))))))
      (pss_cons (ps_par (i := 14) (j := 15) rfl nd rfl rfl (by decide) rfl rfl (pa_cons pe_non (pa_cons (pe_tup (pa_cons (pv 4) (pa_cons (pe_lst (pa_cons (pe_tup (pa_cons (pv 11) (pa_cons (pv 12) pa_nil))) pa_nil)) pa_nil))) pa_nil)) (by rfl))
      (C8.pss_cut (ps_if (pt_cmpR op_ge (pv 12) (pe_callB call_len_str (by rfl) T.len PySem.boot_len (pa_cons (pe_ix ix_list (pv 9) (pv 11) (fun _ _ => rfl)) pa_nil)) (nomark _))
      (pss_one (ps_par (i := 14) (j := 15) rfl nd rfl rfl (by decide) rfl rfl (pa_cons (pe_tup (pa_cons pe_str (pa_cons (pv 12) pa_nil))) (pa_cons (pe_tup (pa_cons (pv 4) (pa_cons (pe_lst pa_nil) pa_nil))) pa_nil)) (by rfl)))
      (pss_one (ps_if (pt_cmpR op_eq (pe_callB call_len_seq (by rfl) T.len PySem.boot_len (pa_cons (pv 4) pa_nil)) (pv 5) (nomark _))
      (pss_one (ps_par (i := 14) (j := 15) rfl nd rfl rfl (by decide) rfl rfl (pa_cons (pe_tup (pa_cons pe_str (pa_cons pe_non pa_nil))) (pa_cons (pe_tup (pa_cons (pv 4) (pa_cons (pe_lst pa_nil) pa_nil))) pa_nil)) (by rfl)))
      pss_nil)))
      (pss_one (ps_ret (pe_ix ix_list (pe_lst (pa_cons pe_non (pa_cons (pv 15) pa_nil))) (pe_callTy call_int1 (by rfl) T.int (by decide +kernel) (pa_cons (pe_cmpR (op_eqD hr.units) (pv 10) (pv 14) (nomark _)) pa_nil)) (fun _ _ => rfl))))))))))))), ?_⟩
    have lO : (oas.map V.ref).length = op.length := by rw [List.length_map, MO.len]
    have lM : (as.map V.ref).length = rs.length := by rw [List.length_map, MM.len, List.length_map]
    have i0 : ∀ n : Int, IntA K (.int n) (some n) := fun n H => int_int
    obtain ⟨as0, G⟩ := PL.at_
    obtain ⟨dx, tw, sd, e1, e2, e3⟩ := G.ex
    have gno : ∀ {m : Str}, (m == ("_rounds" : Str)) = false → (m == ("_words" : Str)) = false → (m == ("_sides" : Str)) = false → (m == ("_marks" : Str)) = false → List.lookup m (gmF k tw sd ml) = none := fun a b c d => gm_no a b c d
    obtain ⟨zs, ez⟩ := DK.at_.some
    have ngp : g ≠ p := ne_of e1 ez (by intro z; cases z)
    -- sort, best
    refine ⟨_, rfl, p, ml, 8, rfl, DK, by decide, by decide, fun sv H1 s0 s1 x1 D1 => ?_⟩
    have P1 := PL.ext x1 ez DK.ne.symm
    have MM1 := MM.ext x1 ez nmp
    have MO1 := MO.ext x1 ez nop
    refine ⟨_, rfl, g, dx, _, rfl, x1 _ _ ngp e1, gno (by decide +kernel) (by decide +kernel) (by decide +kernel) (by decide +kernel), ?_⟩
    dsimp only [tNil]
    -- best_first answers y1, then best_back
    refine bf_of P1.play (fun y1 H2 s2 b2 => ?_)
    refine ⟨_, rfl, g, dx, _, rfl, s2 _ _ (x1 _ _ ngp e1), gno (by decide +kernel) (by decide +kernel) (by decide +kernel) (by decide +kernel), ?_⟩
    dsimp only [tNil]
    refine ⟨g, v, w, k, rs, op, rfl, (P1.same s2).play, fun H3 s3 => ⟨by show 2 ≤ sizeLine; decide, fun B hB => ⟨_, _, rfl, ?_⟩⟩⟩
    refine ⟨_, rfl, _, rfl, by show 2 ≤ sizeLine; decide, fun W hW => ?_⟩
    have sB := Same.new (o := .lst [y1, bbV v w k rs op]) hB
    have sW := Same.new (o := .lst [.str (S v), .str (S w)]) hW
    have s15 := s2.trans (s3.trans (sB.trans sW))
    have eB := sW _ _ (upd_same (H := H3) (a := B) (o := .lst [y1, bbV v w k rs op]))
    have b5 := b2.same (s3.trans (sB.trans sW))
    have eW := upd_same (H := upd H3 B (.lst [y1, bbV v w k rs op])) (a := W) (o := .lst [.str (S v), .str (S w)])
    generalize upd (upd H3 B (.lst [y1, bbV v w k rs op])) W (.lst [.str (S v), .str (S w)]) = H5 at s15 eB b5 eW ⊢
    clear sB sW hB hW s3
    have P5 := P1.same s15
    have D5 := D1.same s15
    have MM5 := MM1.same s15
    have MO5 := MO1.same s15
    have o5 : OffE p ml H H5 := (OffE.ofP x1).trans (OffE.ofS s15)
    have hk := PL.hk
    refine ⟨_, rfl, rfl, _, rfl, ?_⟩
    refine iteV (fun h0 => ?_) (fun h0 => ?_)
    · -- a mark taken back
      refine ⟨_, rfl, ?_⟩
      dsimp only [tNil, tCons, tC]
      by_cases hop : op = []
      · subst hop
        have o0 : oas = [] := List.eq_nil_of_length_eq_zero (by rw [MO.len]; rfl)
        subst o0
        by_cases hrs : rs = []
        · subst hrs
          refine done_err (kd := 2) (b := 2) (u := .non) P5 (i0 0) (i0 0) tb_none (fun t H6 s6 et => ?_)
          have a0 : as = [] := List.eq_nil_of_length_eq_zero (by rw [MM.len]; rfl)
          subst a0
          refine ⟨_, rfl, o, _, rfl, .inl (SqL.of (s6 _ _ MO5.at_)), _, _, rfl, rfl, _, rfl, ?_⟩
          refine iteD rfl (fun h => absurd h (by decide)) (fun _ => ?_)
          refine ⟨_, rfl, m, _, rfl, .inl (SqL.of (s6 _ _ MM5.at_)), rfl, _, rfl, ?_⟩
          refine iteV (fun _ => ?_) (fun h => absurd rfl h)
          refine ⟨_, rfl, by show 0 ≤ sizeLine; decide, fun lz hlz => ⟨by show 2 ≤ sizeLine; decide, fun tz htz => ⟨by show 2 ≤ sizeLine; decide, fun lo hlo => ?_⟩⟩⟩
          refine ⟨_, rfl, by show 2 ≤ sizeLine; decide, fun tn htn => ?_⟩
          have r1 := Same.new (o := .lst []) hlz
          have r2 := Same.new (o := .tup [.ref m, .ref lz]) htz
          have r3 := Same.new (o := .lst [.non, .ref tz]) hlo
          have r4 := Same.new (o := .tup [.str "nothing", .non]) htn
          have rA := r1.trans (r2.trans (r3.trans r4))
          refine ⟨.tuple [.str "nothing", .none], .tuple [.str "nothing", .none], .tup (SqT.of (rA _ _ et)) (.cons (.str _) (.cons .non .nil)), .tup (SqT.of upd_same) (.cons (.str _) (.cons .non .nil)), by decide +kernel, by decide +kernel, .inr ⟨_, rfl, ?_⟩⟩
          refine ⟨lo, _, _, _, rfl, rfl, SqL.of (r4 _ _ upd_same), (by rw [SeqAt.eqv_refl _ (by decide +kernel)]; exact atI_nat (j := 1) rfl), ?_⟩
          have sF := s6.trans rA
          refine kq tz m (.ref lz) [] [] [] _ (o5.trans (OffE.ofS sF)) ((r3.trans r4) _ _ upd_same) (D5.same sF) (P5.same sF) (MM5.same sF) nmp nmm (.inl ⟨lz, [], rfl, ?_, ?_, marks_nil ((r2.trans (r3.trans r4)) _ _ upd_same), .inl rfl⟩)
          · obtain ⟨zs, ez⟩ := D5.at_.some
            exact (ne_of_none (s6 _ _ ez) hlz).symm
          · obtain ⟨zs, ez⟩ := P5.lst
            exact (ne_of_none (s6 _ _ ez) hlz).symm
        · refine done_ok (kd := 2) P5 (i0 0) (i0 0) (tb_ok (fun z => hrs z.1)) (fun H6 x6 P6 => ?_)
          have P6 : PlayM CG CS H6 g ml v w k rs.dropLast (rs.map lastMk).getLast?.toList := P6
          refine ⟨_, rfl, o, _, rfl, .inl (SqL.of (x6 _ _ nom MO5.at_)), _, _, rfl, rfl, _, rfl, ?_⟩
          refine iteD rfl (fun h => absurd h (by decide)) (fun _ => ?_)
          refine ⟨_, rfl, m, _, rfl, .inl (SqL.of (x6 _ _ nmm MM5.at_)), rfl, _, rfl, ?_⟩
          refine iteV (fun h => ?_) (fun _ => ?_)
          · have h := V.int.inj h
            rw [lM] at h
            exact absurd (List.eq_nil_of_length_eq_zero (by omega)) hrs
          refine ⟨_, rfl, _, rfl, _, rfl, m, _, rfl, SqL.of (x6 _ _ nmm MM5.at_), fun mm hmm => ?_⟩
          refine ⟨by show 2 ≤ sizeLine; decide, fun tz htz => ⟨by show 2 ≤ sizeLine; decide, fun lo hlo => ?_⟩⟩
          have r1 := Same.new (o := .lst (cutV (as.map V.ref) none (some (-1)))) hmm
          have r2 := Same.new (o := .tup [.ref mm, .non]) htz
          have r3 := Same.new (o := .lst [.ref tz, .non]) hlo
          have rA := r1.trans (r2.trans r3)
          refine ⟨_, rfl, rfl, .inr ⟨_, rfl, lo, _, _, _, rfl, rfl, SqL.of upd_same, (by rw [decide_eq_true rfl]; exact atI_nat (j := 0) rfl), ?_⟩⟩
          obtain ⟨zsM, ezM⟩ := P5.lst
          have MM6 := MM5.ext x6 ezM nmm
          refine kq tz mm .non as.dropLast rs.dropLast _ _ (o5.trans ((OffE.ofM x6).trans (OffE.ofS rA))) (r3 _ _ upd_same) ((D5.move x6).same rA) (P6.same rA) ?_ ?_ ?_ (.inr ⟨rfl, rfl, hrs, rfl, rfl⟩)
          · rw [List.map_dropLast]
            exact (MM6.same rA).dropL ((r2.trans r3) _ _ (by rw [upd_same, cut_init]))
          · obtain ⟨zs, ez⟩ := (D5.move x6).at_.some
            exact (ne_of_none ez hmm).symm
          · obtain ⟨zs, ez⟩ := P6.lst
            exact (ne_of_none ez hmm).symm
      · obtain ⟨q, rfl⟩ : ∃ q, op = [q] := by
          have := PL.opn
          cases op with
          | nil => exact absurd rfl hop
          | cons q op =>
            cases op with
            | nil => exact ⟨q, rfl⟩
            | cons _ _ => simp at this
        refine done_ok (kd := 2) P5 (i0 0) (i0 0) (tb_ok (fun z => hop z.2)) (fun H6 x6 P6 => ?_)
        have P6 : PlayM CG CS H6 g ml v w k rs [] := P6
        refine ⟨_, rfl, o, _, rfl, .inl (SqL.of (x6 _ _ nom MO5.at_)), _, _, rfl, rfl, _, rfl, ?_⟩
        rw [lO]
        refine iteD rfl (fun _ => ?_) (fun h => absurd (show (0 : Int) < 1 by decide) h)
        refine ⟨_, rfl, by show 0 ≤ sizeLine; decide, fun lz hlz => ⟨by show 2 ≤ sizeLine; decide, fun tz htz => ⟨by show 2 ≤ sizeLine; decide, fun lo hlo => ?_⟩⟩⟩
        have r1 := Same.new (o := .lst []) hlz
        have r2 := Same.new (o := .tup [.ref m, .ref lz]) htz
        have r3 := Same.new (o := .lst [.ref tz, .non]) hlo
        have rA := r1.trans (r2.trans r3)
        refine ⟨_, rfl, rfl, .inr ⟨_, rfl, lo, _, _, _, rfl, rfl, SqL.of upd_same, (by rw [decide_eq_true rfl]; exact atI_nat (j := 0) rfl), ?_⟩⟩
        obtain ⟨zsM, ezM⟩ := P5.lst
        have MM6 := MM5.ext x6 ezM nmm
        refine kq tz m (.ref lz) as rs [] _ (o5.trans ((OffE.ofM x6).trans (OffE.ofS rA))) (r3 _ _ upd_same) ((D5.move x6).same rA) (P6.same rA) (MM6.same rA) nmp nmm (.inl ⟨lz, [], rfl, ?_, ?_, marks_nil ((r2.trans r3) _ _ upd_same), .inl rfl⟩)
        · obtain ⟨zs, ez⟩ := (D5.move x6).at_.some
          exact (ne_of_none ez hlz).symm
        · obtain ⟨zs, ez⟩ := P6.lst
          exact (ne_of_none ez hlz).symm
    refine ⟨_, rfl, o, _, rfl, .inl (SqL.of MO5.at_), _, _, rfl, rfl, _, rfl, ?_⟩
    rw [lO]
    refine iteD rfl (fun h => ?_) (fun h => ?_)
    · -- the keeper marks
      obtain ⟨q, rfl⟩ : ∃ q, op = [q] := by
        have := PL.opn
        cases op with
        | nil => exact absurd h (by decide)
        | cons q op =>
          cases op with
          | nil => exact ⟨q, rfl⟩
          | cons _ _ => simp at this
      obtain ⟨a0, ha0⟩ : ∃ a0, oas = [a0] := List.length_eq_one_iff.mp (by rw [MO.len]; rfl)
      subst ha0
      obtain ⟨b1, b2'⟩ := PL.opi q (List.mem_singleton.mpr rfl)
      have et := MO5.tup 0 a0 q rfl rfl
      have hk : rs.length + 1 ≤ k := hk
      have wl : (wd v w (1 - q.1)).length ≤ 6 := by unfold wd; split <;> assumption
      have hzq : (S (wd v w (1 - q.1))).length ≤ sizeLine := S_le (by omega)
      refine ⟨_, rfl, o, _, _, _, rfl, rfl, SqL.of MO5.at_, rfl, a0, _, rfl, SqT.of et, rfl, _, _, rfl, _, _, rfl, rfl, ?_⟩
      refine ⟨_, rfl, B, _, _, _, rfl, rfl, SqL.of eB, atI_nat (j := 1) rfl, ?_⟩
      refine ⟨fun σ' H' => ∃ yn : Nat, yn ≤ (wd v w (1 - q.1)).length ∧ σ' = [some (.ref p), some (.ref g), some (.str (S v)), some (.str (S w)), some (.ref m), some (.int (k : Nat)), some (.ref o), some (.int sv), some (.ref B), some (.ref W), none, some (.int (q.1 : Nat)), some (.int (q.2 : Nat)), some (.int (yn : Nat)), none, none] ∧
          Ext p H5 H' ∧ DeckM K H' p ml ∧ PlayM CG CS H' g ml v w k rs [q], ?_, ?_⟩
      · have ebb : bbV v w k rs [q] = optV (ansO v w (k - rs.length - 1) (rs.map (·.2)) q.1 q.2) := rfl
        refine ⟨_, rfl, rfl, _, rfl, ?_⟩
        rw [ebb]
        cases ho : ansO v w (k - rs.length - 1) (rs.map (·.2)) q.1 q.2 with
        | none =>
          refine iteV (fun _ => iteT ?_) (fun z => absurd rfl z)
          refine ⟨_, rfl, _, rfl, _, rfl, _, _, rfl, rfl, W, _, _, _, rfl, rfl, SqL.of eW, wd_at1 b1, _, rfl, hzq, _, _, rfl, rfl, ?_⟩
          rw [SX.S_len]
          dsimp only [tNil]
          refine ⟨p, ml, _, rfl, D5, by omega, by omega, fun yv H6 y0 y1 x6 D6 => ?_⟩
          obtain ⟨yn, rfl⟩ := Int.eq_ofNat_of_zero_le y0
          obtain ⟨zs5, ez5⟩ := D5.at_.some
          exact ⟨yn, by omega, rfl, x6, D6, P5.ext x6 ez5 DK.ne.symm⟩
        | some y0 =>
          refine iteV (fun z => nomatch z) (fun _ => ?_)
          refine ⟨_, rfl, _, _, rfl, rfl, _, rfl, ?_⟩
          refine iteD rfl (fun h4 => ?_) (fun h4 => ?_)
          · refine ⟨_, rfl, _, rfl, _, rfl, _, _, rfl, rfl, W, _, _, _, rfl, rfl, SqL.of eW, wd_at1 b1, _, rfl, hzq, _, _, rfl, rfl, ?_⟩
            rw [SX.S_len]
            dsimp only [tNil]
            refine ⟨p, ml, _, rfl, D5, by omega, by omega, fun yv H6 y0 y1 x6 D6 => ?_⟩
            obtain ⟨yn, rfl⟩ := Int.eq_ofNat_of_zero_le y0
            obtain ⟨zs5, ez5⟩ := D5.at_.some
            exact ⟨yn, by omega, rfl, x6, D6, P5.ext x6 ez5 DK.ne.symm⟩
          · have hy0 : y0 < (wd v w (1 - q.1)).length := List.mem_range.mp (List.mem_of_find?_eq_some ho)
            exact ⟨y0, by omega, rfl, Ext.refl _, D5, P5⟩
      rintro σ' H6 ⟨yn, hyn, rfl, x6, D6, P6⟩
      obtain ⟨zs5, ez5⟩ := D5.at_.some
      have MM6 := MM5.ext x6 ez5 nmp
      have MO6 := MO5.ext x6 ez5 nop
      have nWp : W ≠ p := fun z => by
        rw [z, ez5] at eW
        obtain ⟨d0, d1, d2, d4, q9, ns9, e9, _⟩ := D5.at_
        rw [ez5] at e9
        cases e9
        cases eW
      have eW6 := x6 _ _ nWp eW
      have o6 := o5.trans (OffE.ofP (ml := ml) x6)
      have eyn : (((some ((yn : Nat) : Int)) : Option Int).getD 0).toNat = yn := by show (((yn : Nat) : Int)).toNat = yn; omega
      refine ⟨_, rfl, _, rfl, ?_⟩
      dsimp only [tNil]
      by_cases hlt : yn < (wd v w (1 - q.1)).length
      · have eE : dnE 1 v w k rs [q] (.int 0) (.int ((yn : Nat) : Int)) (some 0) (some ((yn : Nat) : Int)) = none := by
          show mbE v w [q] _ _ = none
          refine if_pos ?_
          show (decide (0 ≤ ((yn : Nat) : Int)) && decide (((yn : Nat) : Int) ≤ (((wd v w (1 - q.1)).length : Nat) : Int) - 1)) = true
          rw [decide_eq_true (by omega), decide_eq_true (by omega)]
          rfl
        refine done_ok (kd := 1) P6 (i0 0) (i0 _) eE (fun H7 x7 P7 => ?_)
        have eR : dnR 1 rs [q] (some ((yn : Nat) : Int)) = rs ++ [(q.1, cpl q.1 q.2 yn)] := by
          show rs ++ [(q.1, cpl q.1 q.2 (((some ((yn : Nat) : Int)) : Option Int).getD 0).toNat)] = _
          rw [eyn]
        rw [eR] at P7
        have P7 : PlayM CG CS H7 g ml v w k (rs ++ [(q.1, cpl q.1 q.2 yn)]) [] := P7
        obtain ⟨zsM, ezM⟩ := P6.lst
        have MM7 := MM6.ext x7 ezM nmm
        have nWm : W ≠ ml := fun z => by
          obtain ⟨as9, G9⟩ := P6.at_
          rw [z, G9.mks.at_] at eW6
          have e9 : as9.map V.ref = [.str (S v), .str (S w)] := HO.lst.inj (Option.some.inj eW6)
          cases as9 with
          | nil => cases e9
          | cons a l => exact absurd (List.cons.inj e9).1 (by intro z; cases z)
        have eW7 := x7 _ _ nWm eW6
        refine ⟨_, rfl, _, rfl, _, rfl, _, _, rfl, rfl, W, _, _, _, rfl, rfl, SqL.of eW7, wd_at1 b1, _, rfl, hzq, _, _, rfl, rfl, _, rfl, ?_⟩
        rw [SX.S_len]
        refine iteD rfl (fun h => absurd h (by omega)) (fun _ => ?_)
        refine ⟨_, rfl, _, rfl, _, rfl, by show 2 ≤ sizeLine; decide, fun t1 ht1 => ⟨_, rfl, _, rfl, by show 2 ≤ sizeLine; decide, fun t2 ht2 => ⟨by show 2 ≤ sizeLine; decide, fun l1 hl1 => ?_⟩⟩⟩
        have n12 : t1 ≠ t2 := fun e => by rw [← e, upd_same] at ht2; cases ht2
        obtain ⟨tt, hat, htt⟩ : ∃ tt, atI ([.ref t1, .ref t2] : List V) (q.1 : Nat) = some (.ref tt) ∧ (upd (upd H7 t1 (.tup [.int (q.2 : Nat), .int (yn : Nat)])) t2 (.tup [.int (yn : Nat), .int (q.2 : Nat)])) tt = some (.tup [.int (cpl q.1 q.2 yn).1, .int (cpl q.1 q.2 yn).2]) := by
          rcases (show q.1 = 0 ∨ q.1 = 1 by omega) with e | e
          · exact ⟨t1, by rw [e]; rfl, by rw [upd_ne n12, upd_same, e]; rfl⟩
          · exact ⟨t2, by rw [e]; rfl, by rw [upd_same, e]; rfl⟩
        refine ⟨_, rfl, l1, _, _, _, rfl, rfl, SqL.of upd_same, hat, by show 1 ≤ sizeLine; decide, fun l2 hl2 => ?_⟩
        have r1 := Same.new (o := .tup [.int (q.2 : Nat), .int (yn : Nat)]) ht1
        have r2 := Same.new (o := .tup [.int (yn : Nat), .int (q.2 : Nat)]) ht2
        have r3 := Same.new (o := .lst [.ref t1, .ref t2]) hl1
        have r4 := Same.new (o := .lst [.ref tt]) hl2
        have rB := r1.trans (r2.trans (r3.trans r4))
        have MM8 := MM7.same rB
        refine ⟨m, l2, as.map V.ref, [.ref tt], rfl, rfl, MM8.at_, upd_same, by rw [lM, sizeLine_eq]; simp only [List.length_cons, List.length_nil]; omega, fun mm hmm => ?_⟩
        have r5 := Same.new (o := .lst (as.map V.ref ++ [.ref tt])) hmm
        refine ⟨by show 0 ≤ sizeLine; decide, fun lz hlz => ⟨by show 2 ≤ sizeLine; decide, fun tz htz => ⟨by show 2 ≤ sizeLine; decide, fun lo hlo => ?_⟩⟩⟩
        have r6 := Same.new (o := .lst []) hlz
        have r7 := Same.new (o := .tup [.ref mm, .ref lz]) htz
        have r8 := Same.new (o := .lst [.non, .ref tz]) hlo
        refine ⟨_, rfl, rfl, .inr ⟨_, rfl, lo, _, _, _, rfl, rfl, SqL.of upd_same, (by rw [decide_eq_true rfl]; exact atI_nat (j := 1) rfl), ?_⟩⟩
        have rA := rB.trans (r5.trans (r6.trans (r7.trans r8)))
        refine kq tz mm (.ref lz) (as ++ [tt]) _ [] _ (o6.trans ((OffE.ofM x7).trans (OffE.ofS rA))) (r8 _ _ upd_same) ((D6.move x7).same rA) (P7.same rA) ?_ ?_ ?_ (.inl ⟨lz, [], rfl, ?_, ?_, marks_nil ((r7.trans r8) _ _ upd_same), .inr ⟨q, yn, rfl, rfl, rfl⟩⟩)
        · rw [List.map_append]
          exact (MM8.same (r5.trans (r6.trans (r7.trans r8)))).cat ((r5.trans (r6.trans (r7.trans r8))) _ _ ((r3.trans r4) _ _ htt)) ((r6.trans (r7.trans r8)) _ _ upd_same)
        · obtain ⟨zs, ez⟩ := ((D6.move x7).same rB).at_.some
          exact (ne_of_none ez hmm).symm
        · obtain ⟨zs, ez⟩ := (P7.same rB).lst
          exact (ne_of_none ez hmm).symm
        · obtain ⟨zs, ez⟩ := ((D6.move x7).same (rB.trans r5)).at_.some
          exact (ne_of_none ez hlz).symm
        · obtain ⟨zs, ez⟩ := (P7.same (rB.trans r5)).lst
          exact (ne_of_none ez hlz).symm
      · have eE : dnE 1 v w k rs [q] (.int 0) (.int ((yn : Nat) : Int)) (some 0) (some ((yn : Nat) : Int)) = some (0, .int ((yn : Nat) : Int)) := by
          show mbE v w [q] _ _ = _
          refine if_neg ?_
          show ¬ (decide (0 ≤ ((yn : Nat) : Int)) && decide (((yn : Nat) : Int) ≤ (((wd v w (1 - q.1)).length : Nat) : Int) - 1)) = true
          rw [decide_eq_false (show ¬ ((yn : Nat) : Int) ≤ (((wd v w (1 - q.1)).length : Nat) : Int) - 1 by omega), Bool.and_false]
          decide
        refine done_err (kd := 1) P6 (i0 0) (i0 _) eE (fun t H7 s7 et7 => ?_)
        refine ⟨_, rfl, _, rfl, _, rfl, _, _, rfl, rfl, W, _, _, _, rfl, rfl, SqL.of (s7 _ _ eW6), wd_at1 b1, _, rfl, hzq, _, _, rfl, rfl, _, rfl, ?_⟩
        rw [SX.S_len]
        refine iteD rfl (fun _ => ?_) (fun h => absurd (by omega) h)
        refine ⟨_, rfl, _, rfl, by show 2 ≤ sizeLine; decide, fun tz htz => ⟨by show 2 ≤ sizeLine; decide, fun lo hlo => ?_⟩⟩
        refine ⟨_, rfl, _, rfl, by show 2 ≤ sizeLine; decide, fun tn htn => ?_⟩
        have r2 := Same.new (o := .tup [.ref m, .ref o]) htz
        have r3 := Same.new (o := .lst [.non, .ref tz]) hlo
        have r4 := Same.new (o := .tup [.str "number", .int (yn : Nat)]) htn
        have rA := r2.trans (r3.trans r4)
        refine ⟨.tuple [.str "number", .int (yn : Nat)], .tuple [.str "number", .int (yn : Nat)], .tup (SqT.of (rA _ _ et7)) (.cons (.str _) (.cons (.int _) .nil)), .tup (SqT.of upd_same) (.cons (.str _) (.cons (.int _) .nil)), shp_number _, shp_number _, .inr ⟨_, rfl, ?_⟩⟩
        refine ⟨lo, _, _, _, rfl, rfl, SqL.of (r4 _ _ upd_same), (by rw [SeqAt.eqv_refl _ (lay_number _)]; exact atI_nat (j := 1) rfl), ?_⟩
        have sF := s7.trans rA
        exact kq tz m (.ref o) as rs [q] _ (o6.trans (OffE.ofS sF)) ((r3.trans r4) _ _ upd_same) (D6.same sF) (P6.same sF) (MM6.same sF) nmp nmm (.inl ⟨o, [a0], rfl, nop, nom, MO6.same sF, .inl rfl⟩)
    · -- the parter marks
      have hop : op = [] := List.eq_nil_of_length_eq_zero (by omega)
      subst hop
      have hk : rs.length + 0 ≤ k := hk
      obtain ⟨zs5, ez5⟩ := D5.at_.some
      refine ⟨fun σ' H' => ∃ i xn : Nat, i ≤ 1 ∧ σ' = [some (.ref p), some (.ref g), some (.str (S v)), some (.str (S w)), some (.ref m), some (.int (k : Nat)), some (.ref o), some (.int sv), some (.ref B), some (.ref W), none, some (.int (i : Nat)), some (.int (xn : Nat)), none, none, none] ∧
          Ext p H5 H' ∧ DeckM K H' p ml ∧ PlayM CG CS H' g ml v w k rs [], ?_, ?_⟩
      · refine ⟨_, rfl, B, _, _, _, rfl, rfl, SqL.of eB, atI_nat (j := 0) rfl, ?_⟩
        cases hb : bfO v w k rs [] with
        | none =>
          rw [hb] at b5
          have b5 : y1 = .non := b5
          subst b5
          refine ⟨false, rfl, iteF ?_⟩
          refine ⟨_, rfl, p, ml, 2, rfl, D5, by decide, by decide, fun iv H6 i00 i01 x6 D6 => ?_⟩
          obtain ⟨i, rfl⟩ := Int.eq_ofNat_of_zero_le i00
          refine ⟨by show 2 ≤ sizeLine; decide, fun t ht => ?_⟩
          refine ⟨t, _, rfl, SqT.of upd_same, rfl, _, _, rfl, _, _, rfl, rfl, ?_⟩
          exact ⟨i, 0, by omega, rfl, x6.trans (Ext.of (Same.new ht)), D6.same (Same.new ht), (P5.ext x6 ez5 DK.ne.symm).same (Same.new ht)⟩
        | some c =>
          rw [hb] at b5
          obtain ⟨t, rfl, et⟩ := b5
          refine ⟨true, .inr (.inl ⟨_, SqT.of et, rfl⟩), iteT ?_⟩
          refine ⟨t, _, rfl, SqT.of et, rfl, _, _, rfl, _, _, rfl, rfl, ?_⟩
          exact ⟨c.1, c.2, bfO_le hb, rfl, Ext.refl _, D5, P5⟩
      rintro σ' H6 ⟨i1, xn1, hi1, rfl, x6, D6, P6⟩
      refine ⟨fun σ' H' => ∃ i xn : Nat, i ≤ 1 ∧ σ' = [some (.ref p), some (.ref g), some (.str (S v)), some (.str (S w)), some (.ref m), some (.int (k : Nat)), some (.ref o), some (.int sv), some (.ref B), some (.ref W), none, some (.int (i : Nat)), some (.int (xn : Nat)), none, none, none] ∧
          Ext p H5 H' ∧ DeckM K H' p ml ∧ PlayM CG CS H' g ml v w k rs [], ?_, ?_⟩
      · refine ⟨_, rfl, _, _, rfl, rfl, _, rfl, ?_⟩
        refine iteD rfl (fun _ => ?_) (fun _ => ⟨i1, xn1, hi1, rfl, x6, D6, P6⟩)
        obtain ⟨zs6, ez6⟩ := D6.at_.some
        refine ⟨_, rfl, p, ml, 2, rfl, D6, by decide, by decide, fun iv H7 i00 i01 x7 D7 => ?_⟩
        obtain ⟨i, rfl⟩ := Int.eq_ofNat_of_zero_le i00
        obtain ⟨zs7, ez7⟩ := D7.at_.some
        refine ⟨_, rfl, p, ml, 5, rfl, D7, by decide, by decide, fun xv H8 x00 x01 x8 D8 => ?_⟩
        obtain ⟨xn, rfl⟩ := Int.eq_ofNat_of_zero_le x00
        exact ⟨_, _, rfl, i, xn, by omega, rfl, x6.trans (x7.trans x8), D8, (P6.ext x7 ez6 DK.ne.symm).ext x8 ez7 DK.ne.symm⟩
      clear P6 D6 x6 H6
      rintro σ' H6 ⟨i, xn, hi, rfl, x6, D6, P6⟩
      have MM6 := MM5.ext x6 ez5 nmp
      have nWp : W ≠ p := fun z => by
        rw [z, ez5] at eW
        obtain ⟨d0, d1, d2, d4, q9, ns9, e9, _⟩ := D5.at_
        rw [ez5] at e9
        cases e9
        cases eW
      have eW6 := x6 _ _ nWp eW
      have nWm : W ≠ ml := fun z => by
        obtain ⟨as9, G9⟩ := P6.at_
        rw [z, G9.mks.at_] at eW6
        have e9 : as9.map V.ref = [.str (S v), .str (S w)] := HO.lst.inj (Option.some.inj eW6)
        cases as9 with
        | nil => cases e9
        | cons a l => exact absurd (List.cons.inj e9).1 (by intro z; cases z)
      have o6 := o5.trans (OffE.ofP (ml := ml) x6)
      have wl : (wd v w i).length ≤ 6 := by unfold wd; split <;> assumption
      have hzi : (S (wd v w i)).length ≤ sizeLine := S_le (by omega)
      have ei : (((some ((i : Nat) : Int)) : Option Int).getD 0).toNat = i := by show (((i : Nat) : Int)).toNat = i; omega
      have ex : (((some ((xn : Nat) : Int)) : Option Int).getD 0).toNat = xn := by show (((xn : Nat) : Int)).toNat = xn; omega
      have c1 : cntOk 0 1 (some ((i : Nat) : Int)) = true := by
        show (decide (0 ≤ ((i : Nat) : Int)) && decide (((i : Nat) : Int) ≤ 1)) = true
        rw [decide_eq_true (by omega), decide_eq_true (by omega)]
        rfl
      have lM : (as.map V.ref).length = rs.length := lM
      refine ⟨_, rfl, _, rfl, _, rfl, ?_⟩
      dsimp only [tNil]
      by_cases hlt : xn < (wd v w i).length
      · have c2 : cntOk 0 ((((wd v w (((some ((i : Nat) : Int)) : Option Int).getD 0).toNat).length : Nat) : Int) - 1) (some ((xn : Nat) : Int)) = true := by
          rw [ei]
          show (decide (0 ≤ ((xn : Nat) : Int)) && decide (((xn : Nat) : Int) ≤ (((wd v w i).length : Nat) : Int) - 1)) = true
          rw [decide_eq_true (by omega), decide_eq_true (by omega)]
          rfl
        by_cases hk2 : rs.length = k
        · refine done_err (kd := 0) (b := 2) (u := .non) P6 (i0 _) (i0 _) (mf_none c1 c2 rfl hk2) (fun t H7 s7 et => ?_)
          refine ⟨_, rfl, _, rfl, _, rfl, by show 2 ≤ sizeLine; decide, fun tq htq => ⟨by show 1 ≤ sizeLine; decide, fun lq hlq => ⟨by show 2 ≤ sizeLine; decide, fun tA htA => ⟨_, _, rfl, ?_⟩⟩⟩⟩
          have r1 := Same.new (o := .tup [.int (i : Nat), .int (xn : Nat)]) htq
          have r2 := Same.new (o := .lst [.ref tq]) hlq
          have r3 := Same.new (o := .tup [.ref m, .ref lq]) htA
          have s8 := s7.trans (r1.trans (r2.trans r3))
          refine ⟨fun σ' H' => ∃ td ta lz, σ' = [some (.ref p), some (.ref g), some (.str (S v)), some (.str (S w)), some (.ref m), some (.int (k : Nat)), some (.ref o), some (.int sv), some (.ref B), some (.ref W), some (.ref t), some (.int (i : Nat)), some (.int (xn : Nat)), none, some (.ref td), some (.ref ta)] ∧
              Same (upd (upd (upd H7 tq (.tup [.int (i : Nat), .int (xn : Nat)])) lq (.lst [.ref tq])) tA (.tup [.ref m, .ref lq])) H' ∧ H' td = some (.tup [.str "nothing", .non]) ∧ H' ta = some (.tup [.ref m, .ref lz]) ∧ H' lz = some (.lst []) ∧ lz ≠ p ∧ lz ≠ ml, ?_, ?_⟩
          · refine ⟨_, rfl, _, rfl, _, rfl, W, _, _, _, rfl, rfl, SqL.of (s8 _ _ eW6), wd_at hi, _, rfl, hzi, _, _, rfl, rfl, _, rfl, ?_⟩
            rw [SX.S_len]
            refine iteD rfl (fun h => absurd h (by omega)) (fun _ => ?_)
            refine ⟨_, rfl, m, _, rfl, .inl (SqL.of (s8 _ _ MM6.at_)), _, rfl, rfl, _, rfl, ?_⟩
            rw [lM]
            refine iteV (fun _ => ?_) (fun z => absurd (by rw [hk2]) z)
            refine ⟨by show 2 ≤ sizeLine; decide, fun td htd => ⟨_, rfl, by show 0 ≤ sizeLine; decide, fun lz hlz => ⟨by show 2 ≤ sizeLine; decide, fun ta hta => ⟨_, _, rfl, ?_⟩⟩⟩⟩
            have q1 := Same.new (o := .tup [.str "nothing", .non]) htd
            have q2 := Same.new (o := .lst []) hlz
            have q3 := Same.new (o := .tup [.ref m, .ref lz]) hta
            refine ⟨td, ta, lz, rfl, q1.trans (q2.trans q3), (q2.trans q3) _ _ upd_same, upd_same, q3 _ _ upd_same, ?_, ?_⟩
            · obtain ⟨zs, ez⟩ := (D6.same (s8.trans q1)).at_.some
              exact (ne_of_none ez hlz).symm
            · obtain ⟨zs, ez⟩ := (P6.same (s8.trans q1)).lst
              exact (ne_of_none ez hlz).symm
          · rintro σ' H9 ⟨td, ta, lz, rfl, s9, etd, eta, elz, nlp, nlm⟩
            refine ⟨_, rfl, by show 2 ≤ sizeLine; decide, fun lo hlo => ?_⟩
            have r4 := Same.new (o := .lst [.non, .ref ta]) hlo
            have sR := r1.trans (r2.trans (r3.trans (s9.trans r4)))
            refine ⟨_, rfl, _, rfl, .tuple [.str "nothing", .none], .tuple [.str "nothing", .none], .tup (SqT.of (sR _ _ et)) (.cons (.str _) (.cons .non .nil)), .tup (SqT.of (r4 _ _ etd)) (.cons (.str _) (.cons .non .nil)), by decide +kernel, by decide +kernel, .inr ⟨_, rfl, ?_⟩⟩
            refine ⟨lo, _, _, _, rfl, rfl, SqL.of upd_same, (by rw [SeqAt.eqv_refl _ (by decide +kernel)]; exact atI_nat (j := 1) rfl), ?_⟩
            have sF := s7.trans sR
            exact kq ta m (.ref lz) as rs [] _ (o6.trans (OffE.ofS sF)) (r4 _ _ eta) (D6.same sF) (P6.same sF) (MM6.same sF) nmp nmm (.inl ⟨lz, [], rfl, nlp, nlm, marks_nil (r4 _ _ elz), .inl rfl⟩)
        · refine done_ok (kd := 0) P6 (i0 _) (i0 _) (mf_ok c1 c2 rfl hk2) (fun H7 x7 P7 => ?_)
          have eO : dnO 0 rs [] (some ((i : Nat) : Int)) (some ((xn : Nat) : Int)) = [(i, xn)] := by
            show [((((some ((i : Nat) : Int)) : Option Int).getD 0).toNat, (((some ((xn : Nat) : Int)) : Option Int).getD 0).toNat)] = _
            rw [ei, ex]
          rw [eO] at P7
          have P7 : PlayM CG CS H7 g ml v w k rs [(i, xn)] := P7
          obtain ⟨zsM, ezM⟩ := P6.lst
          have MM7 := MM6.ext x7 ezM nmm
          have eW7 := x7 _ _ nWm eW6
          have D7 := D6.move x7
          refine ⟨_, rfl, _, rfl, _, rfl, by show 2 ≤ sizeLine; decide, fun tq htq => ⟨by show 1 ≤ sizeLine; decide, fun lq hlq => ⟨by show 2 ≤ sizeLine; decide, fun tA htA => ⟨_, _, rfl, ?_⟩⟩⟩⟩
          have r1 := Same.new (o := .tup [.int (i : Nat), .int (xn : Nat)]) htq
          have r2 := Same.new (o := .lst [.ref tq]) hlq
          have r3 := Same.new (o := .tup [.ref m, .ref lq]) htA
          have s8 := r1.trans (r2.trans r3)
          refine ⟨fun σ' H' => σ' = [some (.ref p), some (.ref g), some (.str (S v)), some (.str (S w)), some (.ref m), some (.int (k : Nat)), some (.ref o), some (.int sv), some (.ref B), some (.ref W), some .non, some (.int (i : Nat)), some (.int (xn : Nat)), none, some .non, some (.ref tA)] ∧
              H' = (upd (upd (upd H7 tq (.tup [.int (i : Nat), .int (xn : Nat)])) lq (.lst [.ref tq])) tA (.tup [.ref m, .ref lq])), ?_, ?_⟩
          · refine ⟨_, rfl, _, rfl, _, rfl, W, _, _, _, rfl, rfl, SqL.of (s8 _ _ eW7), wd_at hi, _, rfl, hzi, _, _, rfl, rfl, _, rfl, ?_⟩
            rw [SX.S_len]
            refine iteD rfl (fun h => absurd h (by omega)) (fun _ => ?_)
            refine ⟨_, rfl, m, _, rfl, .inl (SqL.of (s8 _ _ MM7.at_)), _, rfl, rfl, _, rfl, ?_⟩
            rw [lM]
            refine iteV (fun z => absurd (by have := V.int.inj z; omega) hk2) (fun _ => ⟨rfl, rfl⟩)
          · rintro σ' H9 ⟨rfl, rfl⟩
            refine ⟨_, rfl, by show 2 ≤ sizeLine; decide, fun lo hlo => ?_⟩
            have r4 := Same.new (o := .lst [.non, .ref tA]) hlo
            refine ⟨_, rfl, _, rfl, .none, .none, .non, .non, by decide +kernel, by decide +kernel, .inr ⟨_, rfl, ?_⟩⟩
            refine ⟨lo, _, _, _, rfl, rfl, SqL.of upd_same, (by rw [SeqAt.eqv_refl _ (by decide +kernel)]; exact atI_nat (j := 1) rfl), ?_⟩
            have sF := s8.trans r4
            refine kq tA m (.ref lq) as rs [(i, xn)] _ (o6.trans ((OffE.ofM x7).trans (OffE.ofS sF))) (r4 _ _ upd_same) (D7.same sF) (P7.same sF) (MM7.same sF) nmp nmm (.inl ⟨lq, [tq], rfl, ?_, ?_, marks_one ((r3.trans r4) _ _ upd_same) ((r2.trans (r3.trans r4)) _ _ upd_same), .inl rfl⟩)
            · obtain ⟨zs, ez⟩ := (D7.same r1).at_.some
              exact (ne_of_none ez hlq).symm
            · obtain ⟨zs, ez⟩ := (P7.same r1).lst
              exact (ne_of_none ez hlq).symm
      · have c2 : cntOk 0 ((((wd v w (((some ((i : Nat) : Int)) : Option Int).getD 0).toNat).length : Nat) : Int) - 1) (some ((xn : Nat) : Int)) = false := by
          rw [ei]
          show (decide (0 ≤ ((xn : Nat) : Int)) && decide (((xn : Nat) : Int) ≤ (((wd v w i).length : Nat) : Int) - 1)) = false
          rw [decide_eq_false (show ¬ ((xn : Nat) : Int) ≤ (((wd v w i).length : Nat) : Int) - 1 by omega), Bool.and_false]
        refine done_err (kd := 0) (b := 0) (u := .int (xn : Nat)) P6 (i0 _) (i0 _) (mf_bad2 c1 c2) (fun t H7 s7 et => ?_)
        refine ⟨_, rfl, _, rfl, _, rfl, by show 2 ≤ sizeLine; decide, fun tq htq => ⟨by show 1 ≤ sizeLine; decide, fun lq hlq => ⟨by show 2 ≤ sizeLine; decide, fun tA htA => ⟨_, _, rfl, ?_⟩⟩⟩⟩
        have r1 := Same.new (o := .tup [.int (i : Nat), .int (xn : Nat)]) htq
        have r2 := Same.new (o := .lst [.ref tq]) hlq
        have r3 := Same.new (o := .tup [.ref m, .ref lq]) htA
        have s8 := s7.trans (r1.trans (r2.trans r3))
        refine ⟨fun σ' H' => ∃ td ta lz, σ' = [some (.ref p), some (.ref g), some (.str (S v)), some (.str (S w)), some (.ref m), some (.int (k : Nat)), some (.ref o), some (.int sv), some (.ref B), some (.ref W), some (.ref t), some (.int (i : Nat)), some (.int (xn : Nat)), none, some (.ref td), some (.ref ta)] ∧
            Same (upd (upd (upd H7 tq (.tup [.int (i : Nat), .int (xn : Nat)])) lq (.lst [.ref tq])) tA (.tup [.ref m, .ref lq])) H' ∧ H' td = some (.tup [.str "number", .int (xn : Nat)]) ∧ H' ta = some (.tup [.ref m, .ref lz]) ∧ H' lz = some (.lst []) ∧ lz ≠ p ∧ lz ≠ ml, ?_, ?_⟩
        · refine ⟨_, rfl, _, rfl, _, rfl, W, _, _, _, rfl, rfl, SqL.of (s8 _ _ eW6), wd_at hi, _, rfl, hzi, _, _, rfl, rfl, _, rfl, ?_⟩
          rw [SX.S_len]
          refine iteD rfl (fun _ => ?_) (fun h => absurd (by omega) h)
          refine ⟨_, rfl, by show 2 ≤ sizeLine; decide, fun td htd => ⟨_, rfl, by show 0 ≤ sizeLine; decide, fun lz hlz => ⟨by show 2 ≤ sizeLine; decide, fun ta hta => ⟨_, _, rfl, ?_⟩⟩⟩⟩
          have q1 := Same.new (o := .tup [.str "number", .int (xn : Nat)]) htd
          have q2 := Same.new (o := .lst []) hlz
          have q3 := Same.new (o := .tup [.ref m, .ref lz]) hta
          refine ⟨td, ta, lz, rfl, q1.trans (q2.trans q3), (q2.trans q3) _ _ upd_same, upd_same, q3 _ _ upd_same, ?_, ?_⟩
          · obtain ⟨zs, ez⟩ := (D6.same (s8.trans q1)).at_.some
            exact (ne_of_none ez hlz).symm
          · obtain ⟨zs, ez⟩ := (P6.same (s8.trans q1)).lst
            exact (ne_of_none ez hlz).symm
        · rintro σ' H9 ⟨td, ta, lz, rfl, s9, etd, eta, elz, nlp, nlm⟩
          refine ⟨_, rfl, by show 2 ≤ sizeLine; decide, fun lo hlo => ?_⟩
          have r4 := Same.new (o := .lst [.non, .ref ta]) hlo
          have sR := r1.trans (r2.trans (r3.trans (s9.trans r4)))
          refine ⟨_, rfl, _, rfl, .tuple [.str "number", .int (xn : Nat)], .tuple [.str "number", .int (xn : Nat)], .tup (SqT.of (sR _ _ et)) (.cons (.str _) (.cons (.int _) .nil)), .tup (SqT.of (r4 _ _ etd)) (.cons (.str _) (.cons (.int _) .nil)), shp_number _, shp_number _, .inr ⟨_, rfl, ?_⟩⟩
          refine ⟨lo, _, _, _, rfl, rfl, SqL.of upd_same, (by rw [SeqAt.eqv_refl _ (lay_number _)]; exact atI_nat (j := 1) rfl), ?_⟩
          have sF := s7.trans sR
          exact kq ta m (.ref lz) as rs [] _ (o6.trans (OffE.ofS sF)) (r4 _ _ eta) (D6.same sF) (P6.same sF) (MM6.same sF) nmp nmm (.inl ⟨lz, [], rfl, nlp, nlm, marks_nil (r4 _ _ elz), .inl rfl⟩)
end
end Ws

/-! the law -/
namespace Ws
open PySem PySem.Spec PyProof.Rows L2
/-! data -/
def whoD (b : Bool) : PyData := if b = true then .str "keeper" else .str "parter"
def bfD : Option (Nat × Nat) → PyData
  | none => .none
  | some q => .tuple [.int (q.1 : Nat), .int (q.2 : Nat)]
def optD : Option Nat → PyData
  | none => .none
  | some y => .int (y : Nat)
def bbO (v w : List Nat) (k : Nat) (rs : List (Nat × (Nat × Nat))) : List (Nat × Nat) → Option Nat
  | [] => none
  | q :: _ => ansO v w (k - rs.length - 1) (rs.map (·.2)) q.1 q.2
theorem bbV_eq {v w : List Nat} {k : Nat} {rs : List (Nat × (Nat × Nat))} {op : List (Nat × Nat)} : bbV v w k rs op = optV (bbO v w k rs op) := by cases op <;> rfl
theorem leaf_keeper : Leaf (.str "keeper") := ⟨rfl, rfl, by decide, by decide +kernel, by decide +kernel⟩
theorem leaf_parter : Leaf (.str "parter") := ⟨rfl, rfl, by decide, by decide +kernel, by decide +kernel⟩
theorem who_leaf {b : Bool} : Leaf (whoD b) := by cases b; exact leaf_parter; exact leaf_keeper
theorem opt_leaf {o : Option Nat} (h : ∀ y, o = some y → y < 100) : Leaf (optD o) := by
  cases o with
  | none => exact leaf_none
  | some y => exact leaf_int (h y rfl)
theorem cpl_leaf {x y : Nat} (hx : x < 100) (hy : y < 100) : Leaf (.tuple [.int (x : Nat), .int (y : Nat)]) := leaf_pair (leaf_int hx) (leaf_int hy) (by show 0 ≤ 2; decide) (by show 0 ≤ 2; decide) (by
  have a : ((List.range 100).all fun n => decide ((PyData.int (n : Nat)).weight ≤ 100)) = true := by decide +kernel
  have := of_decide_eq_true (List.all_eq_true.mp a x (List.mem_range.mpr hx))
  omega) (by
  have a : ((List.range 100).all fun n => decide ((PyData.int (n : Nat)).weight ≤ 100)) = true := by decide +kernel
  have := of_decide_eq_true (List.all_eq_true.mp a y (List.mem_range.mpr hy))
  omega)
theorem cpl_weight {x y : Nat} (hx : x < 100) (hy : y < 100) : (PyData.tuple [.int (x : Nat), .int (y : Nat)]).weight ≤ 202 := by
  have a : ((List.range 100).all fun n => decide ((PyData.int (n : Nat)).weight ≤ 100)) = true := by decide +kernel
  have b1 := of_decide_eq_true (List.all_eq_true.mp a x (List.mem_range.mpr hx))
  have b2 := of_decide_eq_true (List.all_eq_true.mp a y (List.mem_range.mpr hy))
  show (PyData.int (x : Nat)).weight + 1 + ((PyData.int (y : Nat)).weight + 1 + 0) ≤ 202
  omega
theorem bf_leaf {o : Option (Nat × Nat)} (h : ∀ q, o = some q → q.1 < 100 ∧ q.2 < 100) : Leaf (bfD o) := by
  cases o with
  | none => exact leaf_none
  | some q => exact cpl_leaf (h q rfl).1 (h q rfl).2
theorem leaf_list {ds : List PyData} (h : ∀ d ∈ ds, Leaf d ∧ d.depth ≤ 2 ∧ d.weight ≤ 300) (hl : ds.length ≤ 9) : Leaf (.list ds) := by
  obtain ⟨a, b, c⟩ := all_show (ds := ds) fun d hd => ⟨(h d hd).1.ok, (h d hd).1.nd, (h d hd).1.sh⟩
  refine ⟨a, b, ?_, c, ?_⟩
  · show PyData.depthAll ds + 1 ≤ 3
    have := all_depth (n := 2) (ds := ds) fun d hd => (h d hd).2.1
    omega
  · show PyData.weightAll ds ≤ 3000
    have := all_weight (n := 300) (ds := ds) fun d hd => (h d hd).2.2
    have := Nat.mul_le_mul_right (300 + 1) hl
    omega
section
variable {K : PySem.W.Frag} {H : Hp}
theorem who_dp {b : Bool} : Dp K H (whoV b) (whoD b) := by cases b; exact .str _; exact .str _
theorem opt_dp {o : Option Nat} : Dp K H (optV o) (optD o) := by
  cases o with
  | none => exact .non
  | some y => exact .int _
theorem bf_dp {y : V} {o : Option (Nat × Nat)} (h : BfAt H y o) : Dp K H y (bfD o) := by
  cases o with
  | none =>
    have h : y = .non := h
    subst h
    exact .non
  | some q =>
    obtain ⟨t, rfl, et⟩ := h
    exact .tup (SqT.of et) (.cons (.int _) (.cons (.int _) .nil))
def mksD (ms : List (Nat × Nat)) : PyData := .list (ms.map fun q => .tuple [.int (q.1 : Nat), .int (q.2 : Nat)])
theorem mks_all : ∀ {as : List Addr} {ms : List (Nat × Nat)}, as.length = ms.length → (∀ (i : Nat) (a : Addr) (p : Nat × Nat), as[i]? = some a → ms[i]? = some p → H a = some (.tup [.int p.1, .int p.2])) →
    DpAll K H (as.map V.ref) (ms.map fun q => .tuple [.int (q.1 : Nat), .int (q.2 : Nat)])
  | [], [], _, _ => .nil
  | a :: as, p :: ms, e, h => .cons (.tup (SqT.of (h 0 a p rfl rfl)) (.cons (.int _) (.cons (.int _) .nil))) (mks_all (by simpa using e) fun i b q hb hq => h (i + 1) b q hb hq)
  | [], _ :: _, e, _ => by simp at e
  | _ :: _, [], e, _ => by simp at e
theorem MarksAt.dp {m : Addr} {as : List Addr} {ms : List (Nat × Nat)} (M : MarksAt H m as ms) : Dp K H (.ref m) (mksD ms) := .lst (SqL.of M.at_) (mks_all M.len M.tup)
end
theorem bfO_lt {v w : List Nat} {k : Nat} {rs : List (Nat × (Nat × Nat))} {op : List (Nat × Nat)} {c : Nat × Nat} (h : bfO v w k rs op = some c) : c.2 < (wd v w c.1).length := by
  unfold bfO at h
  split at h
  · cases h
  · split at h
    · rename_i x hx
      cases h
      exact List.mem_range.mp (List.mem_of_find?_eq_some hx)
    · obtain ⟨x, hx, rfl⟩ := Option.map_eq_some_iff.mp h
      exact List.mem_range.mp (List.mem_of_find?_eq_some hx)
theorem bbO_lt {v w : List Nat} {k : Nat} {rs : List (Nat × (Nat × Nat))} {op : List (Nat × Nat)} {y : Nat} (h : bbO v w k rs op = some y) : ∃ i, y < (wd v w i).length := by
  cases op with
  | nil => cases h
  | cons q op => exact ⟨1 - q.1, List.mem_range.mp (List.mem_of_find?_eq_some h)⟩
theorem MarksAt.lastL {H : Hp} {m p : Addr} {as : List Addr} {ms : List (Nat × Nat)} (M : MarksAt H m as ms) (ep : H p = some (.lst ((as.map V.ref).getLast?.toList))) : MarksAt H p as.getLast?.toList ms.getLast?.toList := by
  have e : (as.map V.ref).getLast?.toList = as.getLast?.toList.map V.ref := by
    rw [List.getLast?_map]
    cases as.getLast? <;> rfl
  refine ⟨by rw [ep, e], ?_, fun i a q ha hq => ?_⟩
  · have hl := M.len
    rcases List.eq_nil_or_concat as with rfl | ⟨l, x, rfl⟩
    · have : ms = [] := List.eq_nil_of_length_eq_zero hl.symm
      subst this
      rfl
    · rcases List.eq_nil_or_concat ms with rfl | ⟨l2, x2, rfl⟩
      · simp at hl
      · simp
  · have hl := M.len
    cases i with
    | succ i =>
      have : as.getLast?.toList.length ≤ 1 := by cases as.getLast? <;> simp
      rw [List.getElem?_eq_none (by omega)] at ha
      cases ha
    | zero =>
      have ha' : as[as.length - 1]? = some a := by
        rw [← List.getLast?_eq_getElem?]
        cases h : as.getLast? with
        | none => rw [h] at ha; simp at ha
        | some x => rw [h] at ha; simpa using ha
      have hq' : ms[ms.length - 1]? = some q := by
        rw [← List.getLast?_eq_getElem?]
        cases h : ms.getLast? with
        | none => rw [h] at hq; simp at hq
        | some x => rw [h] at hq; simpa using hq
      rw [hl] at ha'
      exact M.tup _ a q ha' hq'
theorem MarksAt.app {H : Hp} {a b p : Addr} {as bs : List Addr} {ms ns : List (Nat × Nat)} (M : MarksAt H a as ms) (N : MarksAt H b bs ns) (ep : H p = some (.lst (as.map V.ref ++ bs.map V.ref))) : MarksAt H p (as ++ bs) (ms ++ ns) := by
  refine ⟨by rw [ep, List.map_append], by rw [List.length_append, List.length_append, M.len, N.len], fun i c q hc hq => ?_⟩
  by_cases hi : i < as.length
  · rw [List.getElem?_append_left hi] at hc
    rw [List.getElem?_append_left (by rw [← M.len]; exact hi)] at hq
    exact M.tup i c q hc hq
  · rw [List.getElem?_append_right (by omega)] at hc
    rw [List.getElem?_append_right (by rw [← M.len]; omega), ← M.len] at hq
    exact N.tup _ c q hc hq
theorem lastMk_cpl {i x y : Nat} (hi : i ≤ 1) : lastMk (i, cpl i x y) = (i, x) := by
  rcases (show i = 0 ∨ i = 1 by omega) with rfl | rfl <;> rfl
/-- what the last rows tell -/
def TellAt (H : Hp) (ys : List V) (es : List (Str × V)) : Prop := ys.length = es.length ∧ ∀ (i : Nat) (y : V) (e : Str × V), ys[i]? = some y → es[i]? = some e → ∃ t, y = .ref t ∧ H t = some (.tup [.str e.1, e.2])
theorem TellAt.dp {K : PySem.W.Frag} {H : Hp} {es : List (Str × V)} {d : V → PyData} (hd : ∀ e ∈ es, Dp K H e.2 (d e.2)) : ∀ {ys : List V}, TellAt H ys es → DpAll K H ys (es.map fun e => .tuple [.str e.1, d e.2]) := by
  induction es with
  | nil =>
    intro ys h
    obtain rfl : ys = [] := List.eq_nil_of_length_eq_zero h.1
    exact .nil
  | cons e es ih =>
    intro ys h
    cases ys with
    | nil => exact absurd h.1 (by simp)
    | cons y ys =>
      obtain ⟨t, rfl, et⟩ := h.2 0 y e rfl rfl
      exact .cons (.tup (SqT.of et) (.cons (.str _) (.cons (hd e (List.mem_cons_self ..)) .nil))) (ih (fun x hx => hd x (List.mem_cons_of_mem _ hx)) ⟨by simpa using h.1, fun i y' e' hy he => h.2 (i + 1) y' e' hy he⟩)
theorem pe_mkS {X : Cx} {k j : Nat} {f C : Addr} {fd : FuncData} {ps : List Str} {sp : Sp} {W : WX} {x : Str} {p pos : Pos} {e : Expr} {es : List Expr} {t : TA} (tk : Takes X W) (M : Mk X.K C f) (F : FnOk X.prog X.w X.K X.mg X.base (L2.CX X.prog X.w) k f fd ps sp) (hr : Room j X.A) (hk : k + 1 ≤ j) (hg : Gl X x) (hm : X.mg x = some (.ref C)) (hb : Binds X.K fd ps []) (ha : PA X (e :: es) t)
    (hdb : (x == ("__debug__" : Str)) = false := by decide) (h1 : starEach (e :: es) X.env = (false, eval e X.env) :: starEach es X.env := by rfl) (h2 : (backTo pos (starEach es X.env)).any (·.1) = false := by rfl) :
    PE X (.Call (.Name x p) (e :: es) [] pos) (tMkT C sp (WE W) t) := pe_mkT M F (hr.mono hk) hg hm hb (fun σ => passAt tk σ) ha hdb h1 h2
structure LawC81 (P : Program) (w : World) (K : PySem.W.Frag) (mg : Str → Option Value) (base : Heap) (CG CS CL CW : Addr) : Prop where
  deck : Cal P w K mg base 1 "_law_deck" (spDeck K)
  draw : Cal P w K mg base 1 "_law_draw" (spDraw K)
  is_ : CalG P w K mg base 1 "_law_is" (spIs K)
  near : Cal P w K mg base 3 "_law_near" (spNear K)
  due : Cal P w K mg base 10 "_law_due" (spDue CG CS)
  step : Cal P w K mg base 8 "_law_step" (spStep K CG CS)
  refu : CalG P w K mg base 8 "_law_is_refused" (spRefu K CG CS)
  kb : CalX P w K mg base 7 "kept_by" (spKB K CL CW)
  ww : MCal P w K mg base CG "who_wins" 4 (spPl CG CS fun v w k rs op => whoV (keepB v w k rs op))
  bf : MCal P w K mg base CG "best_first" 4 (spBF CG CS)
  bb : MCal P w K mg base CG "best_back" 4 (spPl CG CS fun v w k rs op => bbV v w k rs op)
  mm : MCal P w K mg base CG "marks_made" 1 (spMM CG CS)
  rl : MCal P w K mg base CG "rounds_left" 2 (spBeg CG CS fun k n => .int ((k : Int) - (((n + 1) / 2 : Nat) : Int)))
  gi : ∃ f fd, FnOk P w K mg base (L2.CX P w) 7 f fd ["self", "letters", "k", "v", "w"] (spGI K CG CS CL CW) ∧ Mk K CG f ∧ Binds K fd ["self", "letters", "k", "v", "w"] []
def dV : V → PyData
  | .str z => .str z
  | .int i => .int i
  | _ => .none
theorem st_q : (Str.ofString "q") = S [113] := by decide +kernel
theorem st_b : (Str.ofString "b") = S [98] := by decide +kernel
theorem bad_1 {lt x : V} {L : List Nat} {ox : Option (List Nat)} {r : V × Option (List Nat)} (h : letOk (some L) = true) (hx : wordOk L ox = false) : badOf lt (some L) [(x, ox), r] = some (true, x) := by
  unfold badOf
  rw [if_pos h]
  show Option.map _ (List.find? (fun p : V × Option (List Nat) => !wordOk L p.2) [(x, ox), r]) = _
  rw [List.find?_cons_of_pos (by show (!wordOk L ox) = true; rw [hx]; rfl)]
  rfl
theorem bad_2 {lt x y : V} {L : List Nat} {ox oy : Option (List Nat)} (h : letOk (some L) = true) (hx : wordOk L ox = true) (hy : wordOk L oy = false) : badOf lt (some L) [(x, ox), (y, oy)] = some (true, y) := by
  unfold badOf
  rw [if_pos h]
  show Option.map _ (List.find? (fun p : V × Option (List Nat) => !wordOk L p.2) [(x, ox), (y, oy)]) = _
  rw [List.find?_cons_of_neg (by show ¬ (!wordOk L ox) = true; rw [hx]; decide), List.find?_cons_of_pos (by show (!wordOk L oy) = true; rw [hy]; rfl)]
  rfl
theorem deck_ins {K : PySem.W.Frag} {H H' : Hp} {p g C dx : Addr} {fs : List (Str × V)} (d : DeckAt K H p) (e : Ext g H H') (h : H g = some (.ins C dx fs)) : DeckAt K H' p := by
  obtain ⟨d0, d1, d2, d4, q, ns, e1, n, hS, r⟩ := d
  refine ⟨d0, d1, d2, d4, q, ns, e _ _ (ne_of e1 h (by intro z; cases z)) e1, n, ?_, r⟩
  rcases
    hS with (h1 | ⟨o, h1⟩) | h1
  · exact .inl (.inl (e _ _ (ne_of h1 h (by intro z; cases z)) h1))
  · exact .inl (.inr ⟨o, e _ _ (ne_of h1 h (by intro z; cases z)) h1⟩)
  · exact .inr h1
theorem DeckM.ins {K : PySem.W.Frag} {H H' : Hp} {p m g C dx : Addr} {fs : List (Str × V)} (d : DeckM K H p m) (e : Ext g H H') (h : H g = some (.ins C dx fs)) : DeckM K H' p m := by
  obtain ⟨n, q, ⟨d0, d1, d2, d4, ns, e1, nq, hS, r⟩, o⟩ := d
  refine ⟨n, q, ⟨d0, d1, d2, d4, ns, e _ _ (ne_of e1 h (by intro z; cases z)) e1, nq, ?_, r⟩, o⟩
  rcases
    hS with (h1 | ⟨o, h1⟩) | h1
  · exact .inl (.inl (e _ _ (ne_of h1 h (by intro z; cases z)) h1))
  · exact .inl (.inr ⟨o, e _ _ (ne_of h1 h (by intro z; cases z)) h1⟩)
  · exact .inr h1
theorem MarksAt.off {H H' : Hp} {m p ml : Addr} {as : List Addr} {ms : List (Nat × Nat)} {xs ys : List V} (h : MarksAt H m as ms) (s : OffE p ml H H') (ep : H p = some (.lst xs)) (em : H ml = some (.lst ys)) (n1 : m ≠ p) (n2 : m ≠ ml) : MarksAt H' m as ms :=
  ⟨s _ _ n1 n2 h.at_, h.len, fun i a q ha hq => by
    have et := h.tup i a q ha hq
    exact s _ _ (ne_of et ep (by intro z; cases z)) (ne_of et em (by intro z; cases z)) et⟩
theorem scal_who {a b : Bool} : scal (whoV a) (whoV b) = true := by cases a <;> cases b <;> rfl
theorem wins_keptB {v w : List Nat} {k : Nat} : winsB v w k [] = keptB k v w := by
  rw [Bool.eq_iff_iff, wins_kept, keptB_iff]
/-- what stays true from turn to turn -/
structure LI (K : PySem.W.Frag) (CG CS : Addr) (H : Hp) (p g ml : Addr) (v w : List Nat) (k : Nat) (m o pa : Addr) (as oas pas : List Addr) (rs : List (Nat × (Nat × Nat))) (op : List (Nat × Nat)) : Prop where
  dk : DeckM K H p ml
  pl : PlayM CG CS H g ml v w k rs op
  mm : MarksAt H m as (rs.map (·.2))
  mo : MarksAt H o oas op
  mp : MarksAt H pa pas (rs.map lastMk)
  n1 : m ≠ p
  n2 : m ≠ ml
  n3 : o ≠ p
  n4 : o ≠ ml
  n5 : pa ≠ p
  n6 : pa ≠ ml
def exps : List (Str × V) := [("letters", .non), ("word", .str "q"), ("word", .int 5)]
section
variable {P : Program} {W0 : World} {K : PySem.W.Frag} {mg : Str → Option Value} {base : Heap} {f CG CS CL CW : Addr} {fd : FuncData}
abbrev s_law81 : Stmt := (top 37)
/-- xs.append(e), its reading told by K (in a try the context has names of its own) -/
theorem pe_appK {K : PySem.W.Frag} {X : Cx} {o e : Expr} {to : TE} {t : TA} {apos cpos : Pos} (hK : X.K = K) (ho : PE X o to) (ha : PA X [e] t)
    (hbase : attributeBase o "append" X.env (eval o X.env) = eval o X.env := by rfl)
    (hfew :
        ((backTo cpos (starEach [e] X.env)).all (fun x => !x.1) && (backToKw cpos (keywordEach [] X.env)).all (fun x => x.1.isSome)
      && decide (([e] :
          List Expr).length + ([] : List Keyword).length + (if ([] : List Keyword).isEmpty then 0 else 1) < 30)) = true := by rfl)
    (hline : (apos.endLine == cpos.line) = true := by rfl) (hs : starEach [e] X.env = (false,
        eval e X.env) :: starEach [] X.env := by rfl) (hplain : (backTo cpos (starEach [] X.env)).any (·.1) = false := by rfl) :
    PE X (.Call (.Attribute o "append" apos) [e] [] cpos) (tBM K "list" rAppend to t) := by
  subst hK
  exact pe_bm PySem.F.plainAttrs_list PySem.F.slot_list_append PySem.F.type_list_append mt_append ho ha hbase hfew hline hs hplain
theorem pss_expr1 {X : Cx} {e : Expr} {te : TE} {pos : Pos} (he : PE X e te) (hs : swapsWith e none pos.line X.env = pure false := by rfl) : PSs X [.Expr e pos] (tDrop te) := pss_one (ps_expr he hs)
theorem ps_imp {X : Cx} {st : Stmt} {t t' : TS} (h : PS X st t) (hi : ∀ D σ H, t' D σ H → t D σ H) : PS X st t' := ⟨fun pz s σ H D I q => h.run pz s σ H D I (hi D σ H q)⟩
/-- the statement that tries a row -/
def tryS : Stmt := match (defBody s_law81).getD 10 (.Pass ⟨0, 0, 0, 0⟩) with
  | .For _ _ (t :: _) _ _ => t
  | t => t
/-- a row with a fault is told -/
def tRow (K : PySem.W.Frag) : TS := fun D σ H => ∃ (T2 : Addr) (ys : List V) (lt x y : V) (o ox oy : Option (List Nat)) (b : Bool) (u : V), σ[11]? = some (some (.ref T2)) ∧ σ[14]? = some (some lt) ∧ σ[15]? = some (some x) ∧ σ[16]? = some (some y) ∧ σ.length = 18 ∧ H T2 = some (.lst ys) ∧ ys.length ≤ 100 ∧
  TxtO K H lt o ∧ TxtO K H x ox ∧ TxtO K H y oy ∧ badOf lt o [(x, ox), (y, oy)] = some (b, u) ∧
  ∀ t H', Ext T2 H H' → H' T2 = some (.lst (ys ++ [.ref t])) → H' t = some (.tup [.str (if b = true then "word" else "letters"), u]) → D.nx (σ.set 17 none) H'
abbrev N_law81 : List Str := ["script", "deck", "letters", "v", "w", "k", "game", "marks", "open_mark", "past", "turn", "told", "after", "rows", "sign", "one", "two", "error"]
theorem sc_law81 : FnScope N_law81 ["script"] (defScope s_law81) := ⟨rfl, rfl, rfl, by decide +kernel, rfl, by decide +kernel, by decide +kernel⟩
theorem ok_law81 (T : Bl mg) (GT : GmT K mg CG) (EL : ErC P W0 K mg base "BadLetters" CL) (EW : ErC P W0 K mg base "BadWord" CW) (ll : PySem.W.exmOne K (.ref CL) (.ref CL) = some true) (wl : PySem.W.exmOne K (.ref CW) (.ref CL) = some false) (ww : PySem.W.exmOne K (.ref CW) (.ref CW) = some true)
    (c : LawC81 P W0 K mg base CG CS CL CW) (D : Def K mg "law" s_law81 f fd ["script"]) : FnG P W0 K mg base CX0 12 f fd ["script"] (spLaw K) := by
  refine okG D.fn sc_law81 (fun vs H Q E h => ?_) (fun cdv A outer s H vs Q E hr hg h => ?_)
  · obtain ⟨a, ns, rfl, _⟩ := h
    rfl
  · obtain ⟨a, ns, rfl, hS, hnl, kq⟩ := h
    have nd := sc_law81.nd
    obtain ⟨fG, fdG, FG, MG, bG⟩ := c.gi
    have rowT : PS (cxOf CX0 P W0 K mg base N_law81 "law" (defScope s_law81) f cdv A outer s H E).nox tryS (tRow K) := by
      refine ps_imp (ps_try_manyAs rfl rfl nd takes0
        (fun Wi pz xz tk po => pss_one (ps_expr (pe_appK (K := K) rfl (pv 11) (pa_cons (pe_mkS tk MG FG hr (by decide) (by rfl) GT.mgC bG (pa_cons (pv 14) (pa_cons pe_int (pa_cons (pv 15) (pa_cons (pv 16) pa_nil))))) pa_nil))))
        (.cons (i := 17) rfl rfl ⟨rfl, by decide, .inl EL.mgC⟩ (fun a oe cls d pz hz hf => pss_one (ps_expr (pe_appK (K := K) rfl (pv 11) (pa_cons (pe_tup (pa_cons pe_str (pa_cons (pe_xf EL.xf EL.np hz hf (pv 17)) pa_nil))) pa_nil))))
        (.cons (i := 17) rfl rfl ⟨rfl, by decide, .inl EW.mgC⟩ (fun a oe cls d pz hz hf => pss_one (ps_expr (pe_appK (K := K) rfl (pv 11) (pa_cons (pe_tup (pa_cons pe_str (pa_cons (pe_xf EW.xf EW.np hz hf (pv 17)) pa_nil))) pa_nil)))) .nil))) ?_
      intro D' σ' H' h'
      obtain ⟨T2, ys, lt, x, y, o, ox, oy, b, u, q11, q14, q15, q16, ql, eT, lT, tl, tx, ty, hb, k⟩ := h'
      have q17 : 17 < σ'.length := by omega
      have set11 : ∀ z : Option V, (σ'.set 17 z)[11]? = some (some (.ref T2)) := fun z => by rw [List.getElem?_set_ne (by decide)]; exact q11
      have set17 : ∀ z : Option V, (σ'.set 17 z)[17]? = some z := fun z => List.getElem?_set_self q17
      refine ⟨_, q11, .inl ⟨rfl, _, SqL.of eT⟩, _, q14, _, q15, _, q16, fun p dx hp hdx hne => ?_⟩
      have s1 : Same H' (upd (upd H' dx (.own p)) p (.ins CG dx [])) := (Same.new hdx).trans (Same.new (by rw [upd_ne hne.symm]; exact hp))
      refine ⟨p, dx, lt, x, y, o, ox, oy, 2, rfl, upd_same, tl.same s1, tx.same s1, ty.same s1, by decide, (fun z => by rw [hb] at z; cases z), fun b2 u2 e2 d H2 s2 hd => ?_⟩
      rw [hb] at e2
      cases e2
      have s12 := s1.trans s2
      cases b with
      | true =>
        refine ⟨false, wl, (fun z => nomatch z), fun _ => ⟨true, ww, fun _ a ha => ?_, fun z => nomatch z⟩⟩
        refine ⟨_, set11 _, .inl ⟨rfl, _, SqL.of (s12 _ _ eT)⟩, _, set17 _, rfl, rfl, d, _, _, rfl, hd, place_lk, by show 2 ≤ sizeLine; decide, fun t ht => ?_⟩
        have s3 := s12.trans (Same.new (o := .tup [.str "word", u]) ht)
        refine ⟨T2, ys, .ref t, rfl, rfl, s3 _ _ eT, by rw [sizeLine_eq]; omega, ?_⟩
        show D'.nx ((σ'.set 17 (some (.ref a))).set 17 none) _
        rw [List.set_set]
        refine k t _ ((Ext.of s3).trans Ext.upd) upd_same ?_
        rw [upd_ne (fun z => by rw [z, s12 _ _ eT] at ht; cases ht), upd_same]
        rfl
      | false =>
        refine ⟨true, ll, fun _ a ha => ?_, fun z => nomatch z⟩
        refine ⟨_, set11 _, .inl ⟨rfl, _, SqL.of (s12 _ _ eT)⟩, _, set17 _, rfl, rfl, d, _, _, rfl, hd, place_lk, by show 2 ≤ sizeLine; decide, fun t ht => ?_⟩
        have s3 := s12.trans (Same.new (o := .tup [.str "letters", u]) ht)
        refine ⟨T2, ys, .ref t, rfl, rfl, s3 _ _ eT, by rw [sizeLine_eq]; omega, ?_⟩
        show D'.nx ((σ'.set 17 (some (.ref a))).set 17 none) _
        rw [List.set_set]
        refine k t _ ((Ext.of s3).trans Ext.upd) upd_same ?_
        rw [upd_ne (fun z => by rw [z, s12 _ _ eT] at ht; cases ht), upd_same]
        rfl
    refine ⟨_, (pss_cons (ps_set (i := 1) nd rfl (.inl rfl) (pe_c c.deck hr (by decide) rfl (pa_cons (pv 0) pa_nil)))
      (pss_cons (ps_set (i := 2) nd rfl (.inl rfl) (pe_ix ix_list (pe_lst (pa_cons pe_str (pa_cons pe_str (pa_cons pe_str pa_nil)))) (pe_c c.draw hr (by decide) rfl (pa_cons (pv 1) (pa_cons pe_int pa_nil))) (fun _ _ => rfl)))
      (pss_cons (ps_asg (pe_c c.near hr (by decide) rfl (pa_cons (pv 1) (pa_cons (pv 2) (pa_cons (pe_op op_add pe_int (pe_callTy call_int1 (by rfl) T.int (by decide +kernel) (pa_cons (pe_cmpR op_eq (pe_c c.draw hr (by decide) rfl (pa_cons (pv 1) (pa_cons pe_int pa_nil))) pe_int (nomark _)) pa_nil))) pa_nil)))) (pg_tup (n := 2) rfl (pgs_cons (pg_name (i := 3) nd rfl (.inl rfl)) (pgs_cons (pg_name (i := 4) nd rfl (.inl rfl)) pgs_nil))))
      (C8.pss_cut (ps_set (i := 5) nd rfl (.inl rfl) (pe_op op_add (pe_c c.draw hr (by decide) rfl (pa_cons (pv 1) (pa_cons pe_int pa_nil))) (pe_callTy call_int1 (by rfl) T.int (by decide +kernel) (pa_cons (pe_and (pe_cmpR op_eq (pe_c c.draw hr (by decide) rfl (pa_cons (pv 1) (pa_cons pe_int pa_nil))) pe_int (nomark _)) (pe_one (pe_cmpR op_lt (pe_callB call_len_str (by rfl) T.len PySem.boot_len (pa_cons (pe_op op_add_str (pv 3) (pv 4)) pa_nil)) pe_int (nomark _)))) pa_nil))))
      (pss_cons (ps_set (i := 6) nd rfl (.inl rfl) (pe_make MG FG (hr.mono (by decide)) rfl GT.mgC bG .nil passL (pa_cons (pv 2) (pa_cons (pv 5) (pa_cons (pv 3) (pa_cons (pv 4) pa_nil))))))
      (C8.pss_cut (ps_if (pt_cmpR op_ne (pe_m0 c.ww GT.cl hr (by decide) (pv 6)) (pe_ix ix_list (pe_lst (pa_cons pe_str (pa_cons pe_str pa_nil))) (pe_callTy call_int1 (by rfl) T.int (by decide +kernel) (pa_cons (pe_cX c.kb hr (by decide) rfl (pa_cons (pv 2) (pa_cons (pv 5) (pa_cons (pv 3) (pa_cons (pv 4) pa_nil))))) pa_nil)) (fun _ _ => rfl)) (nomark _))
      (pss_one (ps_ret pe_bl))
      pss_nil)
      (pss_cons (ps_par3 (i := 7) (j := 8) (l := 9) rfl nd rfl rfl rfl (by decide) (by decide) (by decide) rfl rfl rfl (pa_cons (pe_lst pa_nil) (pa_cons (pe_lst pa_nil) (pa_cons (pe_lst pa_nil) pa_nil))) (by rfl))
      (C8.pss_cut (ps_for PassesOwn.never rfl (pi_range1 (by rfl) T.range (pa_cons pe_int pa_nil)) (pg_name (i := 10) nd rfl (.inl rfl))
      (pss_cons (ps_set (i := 11) nd rfl (.inl rfl) (pe_lst (pa_cons (pe_m0 c.ww GT.cl hr (by decide) (pv 6)) (pa_cons (pe_m0 c.bf GT.cl hr (by decide) (pv 6)) (pa_cons (pe_m0 c.bb GT.cl hr (by decide) (pv 6)) pa_nil)))))
      (pss_cons (ps_if (PW.pt (pw_or (pt_not (pt_val (pe_cG c.is_ hr (by decide) hg rfl (pa_cons (pv 11) (pa_cons (pe_c c.due hr (by decide) rfl (pa_cons (pv 3) (pa_cons (pv 4) (pa_cons (pv 7) (pa_cons (pv 5) (pa_cons (pv 8) pa_nil)))))) pa_nil))))) (pw_or1 (pt_not (pt_val (pe_cG c.is_ hr (by decide) hg rfl (pa_cons (pe_lst (pa_cons (pe_m0 c.mm GT.cl hr (by decide) (pv 6)) (pa_cons (pe_m0 c.rl GT.cl hr (by decide) (pv 6)) pa_nil))) (pa_cons (pe_lst (pa_cons (pv 7) (pa_cons (pe_op op_sub (pe_op op_sub (pv 5) (pe_callB call_len_seq (by rfl) T.len PySem.boot_len (pa_cons (pv 7) pa_nil))) (pe_callB call_len_seq (by rfl) T.len PySem.boot_len (pa_cons (pv 8) pa_nil))) pa_nil))) pa_nil))))))))
      (pss_one (ps_ret pe_bl))
      pss_nil)
      (pss_cons (ps_if (pt_not (pt_val (pe_cG c.refu hr (by decide) hg rfl (pa_cons (pv 1) (pa_cons (pv 6) (pa_cons (pv 8) (pa_cons (pv 4) pa_nil)))))))
      (pss_one (ps_ret pe_bl))
      pss_nil)
      (pss_cons (ps_set (i := 12) nd rfl (.inl rfl) (pe_c c.step hr (by decide) rfl (pa_cons (pv 1) (pa_cons (pv 6) (pa_cons (pv 3) (pa_cons (pv 4) (pa_cons (pv 7) (pa_cons (pv 5) (pa_cons (pv 8) pa_nil)))))))))
      (pss_cons (ps_if (pt_cmpR op_isN (pv 12) pe_non (nomark _))
      (pss_one (ps_ret pe_bl))
      pss_nil)
      (pss_one (ps_if (pt_cmpR op_isN (pe_ix ix_tup (pv 12) pe_int (fun _ _ => rfl)) pe_non (nomark _))
      (pss_cons (ps_set (i := 8) nd rfl (.inl rfl) (pe_slice sl_list (pv 9) (po_some (pe_un un_neg pe_int)) po_none))
      (pss_one (ps_par (i := 9) (j := 7) rfl nd rfl rfl (by decide) rfl rfl (pa_cons (pe_slice sl_list (pv 9) po_none (po_some (pe_un un_neg pe_int))) (pa_cons (pe_ix ix_tup (pv 12) pe_int (fun _ _ => rfl)) pa_nil)) (by rfl))))
      (C8.pss_cut (ps_if (pt_cmpR op_gt (pe_callB call_len_seq (by rfl) T.len PySem.boot_len (pa_cons (pe_ix ix_tup (pv 12) pe_int (fun _ _ => rfl)) pa_nil)) (pe_callB call_len_seq (by rfl) T.len PySem.boot_len (pa_cons (pv 7) pa_nil)) (nomark _))
      (pss_one (ps_set (i := 9) nd rfl (.inl rfl) (pe_op op_cat (pv 9) (pv 8))))
      pss_nil)
      (pss_one (ps_asg (pv 12) (pg_tup (n := 2) rfl (pgs_cons (pg_name (i := 7) nd rfl (.inl rfl)) (pgs_cons (pg_name (i := 8) nd rfl (.inl rfl)) pgs_nil))))))))))))))
      (pss_cons (ps_set (i := 13) nd rfl (.inl rfl) (pe_lst (pa_cons (pe_tup (pa_cons pe_non (pa_cons pe_str (pa_cons pe_str pa_nil)))) (pa_cons (pe_tup (pa_cons (pv 2) (pa_cons pe_str (pa_cons pe_str pa_nil)))) (pa_cons (pe_tup (pa_cons (pv 2) (pa_cons (pv 3) (pa_cons pe_int pa_nil)))) pa_nil)))))
      (pss_cons (ps_set (i := 11) nd rfl (.inl rfl) (pe_lst pa_nil))
      (pss_cons (ps_for PassesOwn.never rfl (pi_list (pv 13)) (pg_tup (n := 3) rfl (pgs_cons (pg_name (i := 14) nd rfl (.inl rfl)) (pgs_cons (pg_name (i := 15) nd rfl (.inl rfl)) (pgs_cons (pg_name (i := 16) nd rfl (.inl rfl)) pgs_nil))))
      (pss_one rowT))
      (pss_one (ps_ret (pe_cG c.is_ hr (by decide) hg rfl (pa_cons (pv 11) (pa_cons (pe_lst (pa_cons (pe_tup (pa_cons pe_str (pa_cons pe_non pa_nil))) (pa_cons (pe_tup (pa_cons pe_str (pa_cons pe_str pa_nil))) (pa_cons (pe_tup (pa_cons pe_str (pa_cons pe_int pa_nil))) pa_nil)))) pa_nil)))))))))))))))), ?_⟩
    refine ⟨_, rfl, a, ns, rfl, hS, hnl, fun p H1 s1 hp0 d1 => ?_⟩
    -- letters
    refine ⟨by show 3 ≤ sizeLine; decide, fun l0 hl0 => ⟨_, rfl, p, 3, rfl, d1.same (Same.new hl0), by decide, by decide, fun u2 H2 u20 u21 e2 d2 => ?_⟩⟩
    obtain ⟨u2, rfl⟩ := Int.eq_ofNat_of_zero_le u20
    have npl : l0 ≠ p := fun z => by
      obtain ⟨zs, ez⟩ := d1.some
      rw [z, ez] at hl0
      cases hl0
    obtain ⟨L, hL, hatL⟩ : ∃ L ∈ Lets, atI ([.str "a", .str "ab", .str "ab"] : List V) (u2 : Nat) = some (.str (S L)) := by
      rcases (show u2 = 0 ∨ u2 = 1 ∨ u2 = 2 by omega) with rfl | rfl | rfl
      · exact ⟨[97], by decide, by rw [← st_a]; rfl⟩
      · exact ⟨[97, 98], by decide, by rw [← st_ab]; rfl⟩
      · exact ⟨[97, 98], by decide, by rw [← st_ab]; rfl⟩
    refine ⟨l0, _, _, _, rfl, rfl, SqL.of (e2 _ _ npl upd_same), hatL, ?_⟩
    obtain ⟨hLl0, hLl⟩ := lets_len hL
    obtain ⟨hLok, hLs, hLq⟩ := lets_ok hL
    have hLn : L ≠ [] := List.ne_nil_of_length_pos hLl0
    -- v, w
    refine ⟨_, rfl, _, rfl, _, rfl, p, 4, rfl, d2, by decide, by decide, fun u3 H3 u30 u31 e3 d3 => ⟨rfl, .inr ⟨_, rfl, ?_⟩⟩⟩
    obtain ⟨mo, hmo, hmo4⟩ : ∃ mo : Nat, (3 : Int) + (if decide (V.int u3 = V.int 0) = true then 1 else 0) = (mo : Nat) ∧ mo ≤ 4 := by
      split
      · exact ⟨4, rfl, by decide⟩
      · exact ⟨3, rfl, by decide⟩
    refine ⟨_, _, rfl, rfl, ?_⟩
    dsimp only [tNil]
    refine ⟨p, L, mo, by show [V.ref p, V.str (S L), V.int (3 + if decide (V.int u3 = V.int 0) = true then 1 else 0)] = _; rw [hmo], d3, hLn, by omega, by omega, fun v w t H4 hv hvl hw hwl e4 d4 et => ?_⟩
    have iv : WordIn L v := ⟨by omega, hv⟩
    have iw : WordIn L w := ⟨by omega, hw⟩
    refine ⟨t, _, rfl, SqT.of et, rfl, _, _, rfl, _, _, rfl, rfl, ?_⟩
    -- k
    refine ⟨fun σ' H' => ∃ k : Nat, k ≤ 3 ∧ σ' = [some (.ref a), some (.ref p), some (.str (S L)), some (.str (S v)), some (.str (S w)), some (.int (k : Nat)), none, none, none, none, none, none, none, none, none, none, none, none] ∧ DeckAt K H' p, ?_, ?_⟩
    · refine ⟨_, rfl, p, 3, rfl, d4, by decide, by decide, fun kv H5 k0 k1 e5 d5 => ?_⟩
      obtain ⟨kv, rfl⟩ := Int.eq_ofNat_of_zero_le k0
      refine ⟨_, rfl, p, 6, rfl, d5, by decide, by decide, fun bv H6 b0 b1 e6 d6 => ⟨rfl, _, rfl, ?_⟩⟩
      refine iteV (fun _ => ?_) (fun _ => ?_)
      · refine ⟨_, rfl, _, rfl, _, _, rfl, rfl, S_app_len (n := 8) (by omega) (by decide), _, rfl, ?_, _, _, rfl, rfl, .inr ⟨_, rfl, _, _, rfl, rfl, ?_⟩⟩
        · show (S v ++ S w).length ≤ sizeLine
          rw [SX.S_cat]
          exact S_le (by rw [List.length_append]; omega)
        · by_cases h6 : ((((S v ++ S w).length : Nat) : Int)) < 6
          · refine ⟨kv + 1, by omega, ?_, d6⟩
            rw [decide_eq_true h6]
            rfl
          · refine ⟨kv, by omega, ?_, d6⟩
            rw [decide_eq_false h6]
            rfl
      · refine .inr ⟨_, rfl, _, _, rfl, rfl, kv, by omega, rfl, d6⟩
    rintro σ' H6 ⟨k, hk3, rfl, d6⟩
    -- the game
    refine ⟨_, rfl, _, rfl, _, rfl, _, rfl, fun g dg hg0 hdg hne => ?_⟩
    have sG : Same H6 (upd (upd H6 dg (.own g)) g (.ins CG dg [])) := (Same.new hdg).trans (Same.new (by rw [upd_ne hne.symm]; exact hg0))
    refine ⟨g, dg, .str (S L), .str (S v), .str (S w), some L, some v, some w, k, rfl, upd_same, txt_str (by omega), txt_str (by omega), txt_str (by omega), by omega, fun _ v' w' ev ew ml H7 x7 hml nml PM => ?_, Fault.none (pair_ok hLok iv iw)⟩
    cases ev
    cases ew
    refine ⟨rfl, ?_⟩
    have D7 : DeckM K H7 p ml := (DeckM.of (d6.same sG) hml).ins x7 upd_same
    -- who wins at the beginning
    refine ⟨fun σ' H' => σ' = [some (.ref a), some (.ref p), some (.str (S L)), some (.str (S v)), some (.str (S w)), some (.int (k : Nat)), some (.ref g), none, none, none, none, none, none, none, none, none, none, none] ∧ DeckM K H' p ml ∧ PlayM CG CS H' g ml v w k [] [], ?_, ?_⟩
    · obtain ⟨as0, G⟩ := PM.at_
      obtain ⟨dx, tw, sd, g1, g2, g3⟩ := G.ex
      refine ⟨_, rfl, g, dx, _, rfl, g1, gm_no (by decide +kernel) (by decide +kernel) (by decide +kernel) (by decide +kernel), ?_⟩
      dsimp only [tNil]
      refine ⟨g, v, w, k, [], [], rfl, PM.play, fun H8 s8 => ⟨by show 2 ≤ sizeLine; decide, fun l hl => ⟨_, rfl, _, rfl, _, rfl, _, rfl, ?_⟩⟩⟩
      dsimp only [tNil]
      have s9 := Same.new (o := .lst [.str "parter", .str "keeper"]) hl
      refine kb_ok hLok (by omega) iv iw (by omega) (fun H9 s10 => .inr ⟨_, rfl, l, _, _, _, rfl, rfl, SqL.of (s10 _ _ upd_same), who_at, scal_who, _, rfl, ?_⟩)
      have e : whoV (keepB v w k [] []) = whoV (keptB k v w) := by
        show whoV (winsB v w k []) = _
        rw [wins_keptB]
      rw [decide_eq_true e]
      exact iteF ⟨rfl, D7.same (s8.trans (s9.trans s10)), PM.same (s8.trans (s9.trans s10))⟩
    rintro σ' H8 ⟨rfl, D8, P8⟩
    refine ⟨by show 0 ≤ sizeLine; decide, fun m0 hm0 => ⟨by show 0 ≤ sizeLine; decide, fun o0 ho0 => ⟨by show 0 ≤ sizeLine; decide, fun pa0 hpa0 => ⟨_, _, _, rfl, ?_⟩⟩⟩⟩
    have q1 := Same.new (o := .lst []) hm0
    have q2 := Same.new (o := .lst []) ho0
    have q3 := Same.new (o := .lst []) hpa0
    have qA := q1.trans (q2.trans q3)
    refine ⟨fun σ' H' => ∃ z7 z8 z9 z10 z11 z12, σ' = [some (.ref a), some (.ref p), some (.str (S L)), some (.str (S v)), some (.str (S w)), some (.int (k : Nat)), some (.ref g), z7, z8, z9, z10, z11, z12, none, none, none, none, none], ?_, ?_⟩
    · refine ⟨9, rfl, by decide, by decide, ?_⟩
      refine for_range (lo := 0) (n := 9) (fun i σ H' => ∃ m o pa as oas pas rs op z10 z11 z12, σ = [some (.ref a), some (.ref p), some (.str (S L)), some (.str (S v)), some (.str (S w)), some (.int (k : Nat)), some (.ref g), some (.ref m), some (.ref o), some (.ref pa), z10, z11, z12, none, none, none, none, none] ∧
          LI K CG CS H' p g ml v w k m o pa as oas pas rs op)
        ⟨m0, o0, pa0, [], [], [], [], [], none, none, none, rfl, ⟨D8.same qA, P8.same qA, marks_nil ((q2.trans q3) _ _ upd_same), marks_nil (q3 _ _ upd_same), marks_nil upd_same, ?_, ?_, ?_, ?_, ?_, ?_⟩⟩ ?_ ?_
      · obtain ⟨zs, ez⟩ := D8.at_.some
        exact (ne_of_none ez hm0).symm
      · obtain ⟨zs, ez⟩ := P8.lst
        exact (ne_of_none ez hm0).symm
      · obtain ⟨zs, ez⟩ := (D8.same q1).at_.some
        exact (ne_of_none ez ho0).symm
      · obtain ⟨zs, ez⟩ := (P8.same q1).lst
        exact (ne_of_none ez ho0).symm
      · obtain ⟨zs, ez⟩ := (D8.same (q1.trans q2)).at_.some
        exact (ne_of_none ez hpa0).symm
      · obtain ⟨zs, ez⟩ := (P8.same (q1.trans q2)).lst
        exact (ne_of_none ez hpa0).symm
      · rintro i σ H9 hi ⟨m, o, pa, as, oas, pas, rs, op, z10, z11, z12, rfl, I⟩
        rw [show (0 : Int) + (i : Int) = ((i : Nat) : Int) from Int.zero_add _]
        obtain ⟨DK, PL, MM, MO, MP, n1, n2, n3, n4, n5, n6⟩ := I
        obtain ⟨as0, G⟩ := PL.at_
        obtain ⟨dx, tw, sd, g1, g2, g3⟩ := G.ex
        have gno : ∀ {m : Str}, (m == ("_rounds" : Str)) = false → (m == ("_words" : Str)) = false → (m == ("_sides" : Str)) = false → (m == ("_marks" : Str)) = false → List.lookup m (gmF k tw sd ml) = none := fun a b c d => gm_no a b c d
        have hk := PL.hk
        have hop := PL.opn
        have wl : ∀ i, (wd v w i).length ≤ 4 := fun i => by unfold wd; split <;> omega
        -- what is told
        refine ⟨_, rfl, g, dx, _, rfl, g1, gno (by decide +kernel) (by decide +kernel) (by decide +kernel) (by decide +kernel), ?_⟩
        dsimp only [tNil]
        refine ⟨g, v, w, k, rs, op, rfl, PL.play, fun H1 t1 => ?_⟩
        refine ⟨_, rfl, g, dx, _, rfl, t1 _ _ g1, gno (by decide +kernel) (by decide +kernel) (by decide +kernel) (by decide +kernel), ?_⟩
        dsimp only [tNil]
        refine bf_of (PL.same t1).play (fun y1 H2 t2 b2 => ?_)
        have t12 := t1.trans t2
        refine ⟨_, rfl, g, dx, _, rfl, t12 _ _ g1, gno (by decide +kernel) (by decide +kernel) (by decide +kernel) (by decide +kernel), ?_⟩
        dsimp only [tNil]
        refine ⟨g, v, w, k, rs, op, rfl, (PL.same t12).play, fun H3 t3 => ⟨by show 3 ≤ sizeLine; decide, fun T0 hT => ?_⟩⟩
        have t4 := Same.new (o := .lst [whoV (keepB v w k rs op), y1, bbV v w k rs op]) hT
        have t14 := t12.trans (t3.trans t4)
        -- as it is due
        refine ⟨_, rfl, _, rfl, _, rfl, _, rfl, _, rfl, _, rfl, ?_⟩
        dsimp only [tNil]
        refine ⟨v, w, m, o, as, oas, rs, op, k, rfl, MM.same t14, MO.same t14, PL.inb, PL.opn, PL.opi, PL.hv, PL.hw, hk, hk3, fun D1 y H5 t5 by1 eD => ?_⟩
        have b5 := b2.same (t3.trans (t4.trans t5))
        have lW : Leaf (whoD (keepB v w k rs op)) := who_leaf
        have lB : Leaf (bfD (bfO v w k rs op)) := bf_leaf fun q hq => ⟨by have := bfO_le hq; omega, by have := bfO_lt hq; have := wl q.1; omega⟩
        have lO : Leaf (optD (bbO v w k rs op)) := opt_leaf fun y hy => by
          obtain ⟨i, hi⟩ := bbO_lt hy
          have := wl i
          omega
        refine ⟨_, _, .list [whoD (keepB v w k rs op), bfD (bfO v w k rs op), optD (bbO v w k rs op)], rfl, .lst (SqL.of (t5 _ _ upd_same)) (.cons who_dp (.cons (bf_dp b5) (.cons (by rw [bbV_eq]; exact opt_dp) .nil))), .lst (SqL.of eD) (.cons who_dp (.cons (bf_dp by1) (.cons (by rw [bbV_eq]; exact opt_dp) .nil))), Shw.leaves (fun d hd => ?_) (by show 3 ≤ 300; decide), _, rfl, iteF ?_⟩
        · simp only [List.mem_cons, List.not_mem_nil, or_false] at hd
          rcases hd with rfl | rfl | rfl
          · exact lW
          · exact lB
          · exact lO
        have t15 := t14.trans t5
        refine ⟨_, rfl, g, dx, _, rfl, t15 _ _ g1, gno (by decide +kernel) (by decide +kernel) (by decide +kernel) (by decide +kernel), ?_⟩
        dsimp only [tNil]
        refine ⟨g, ml, v, w, k, as0, rs, op, rfl, G.same t15, by omega, PL.opn, fun dm ts H6 t6 hd6 M6 => ?_⟩
        have t16 := t15.trans t6
        refine ⟨_, rfl, g, dx, _, rfl, t16 _ _ g1, gno (by decide +kernel) (by decide +kernel) (by decide +kernel) (by decide +kernel), ?_⟩
        dsimp only [tNil]
        obtain ⟨o1, o2⟩ := raw_open (rs := rs) hop
        refine ⟨g, ml, v, w, k, as0, rawOf rs op, rfl, G.same t16, by rw [raw_len]; omega, ?_⟩
        refine ⟨by show 2 ≤ sizeLine; decide, fun l1 hl1 => ?_⟩
        have t7 := Same.new (o := .lst [.ref dm, .int ((k : Int) - ((((rawOf rs op).length + 1) / 2 : Nat) : Int))]) hl1
        have t17 := t16.trans t7
        refine ⟨_, rfl, _, rfl, _, rfl, m, _, rfl, .inl (SqL.of (t17 _ _ MM.at_)), _, _, rfl, rfl, _, rfl, o, _, rfl, .inl (SqL.of (t17 _ _ MO.at_)), _, _, rfl, rfl, by show 2 ≤ sizeLine; decide, fun l2 hl2 => ?_⟩
        have lM2 : (as.map V.ref).length = rs.length := by rw [List.length_map, MM.len, List.length_map]
        have lO2 : (oas.map V.ref).length = op.length := by rw [List.length_map, MO.len]
        have eI1 : (k : Int) - ((((rawOf rs op).length + 1) / 2 : Nat) : Int) = ((k - rs.length - op.length : Nat) : Int) := by rw [o2]; omega
        have eI2 : (k : Int) - (((as.map V.ref).length : Nat) : Int) - (((oas.map V.ref).length : Nat) : Int) = ((k - rs.length - op.length : Nat) : Int) := by rw [lM2, lO2]; omega
        have t8 := Same.new (o := .lst [.ref m, .int ((k : Int) - (((as.map V.ref).length : Nat) : Int) - (((oas.map V.ref).length : Nat) : Int))]) hl2
        have t18 := t17.trans t8
        have e1 : (upd (upd H6 l1 (.lst [.ref dm, .int ((k : Int) - ((((rawOf rs op).length + 1) / 2 : Nat) : Int))])) l2 (.lst [.ref m, .int ((k : Int) - (((as.map V.ref).length : Nat) : Int) - (((oas.map V.ref).length : Nat) : Int))])) l1 = some (.lst [.ref dm, .int ((k - rs.length - op.length : Nat) : Int)]) :=
          t8 _ _ (by rw [upd_same]; show some (HO.lst [V.ref dm, V.int ((k : Int) - ((((rawOf rs op).length + 1) / 2 : Nat) : Int))]) = _; rw [eI1])
        have e2 : (upd (upd H6 l1 (.lst [.ref dm, .int ((k : Int) - ((((rawOf rs op).length + 1) / 2 : Nat) : Int))])) l2 (.lst [.ref m, .int ((k : Int) - (((as.map V.ref).length : Nat) : Int) - (((oas.map V.ref).length : Nat) : Int))])) l2 = some (.lst [.ref m, .int ((k - rs.length - op.length : Nat) : Int)]) := by
          rw [upd_same, eI2]
        have lK : Leaf (mksD (rs.map (·.2))) := leaf_list (fun d hd => by
          obtain
            ⟨q, hq, rfl⟩ := List.mem_map.mp hd
          obtain ⟨z1, z2⟩ := PL.inb q hq
          have y1 : q.1 < 100 := by omega
          have y2 : q.2 < 100 := by omega
          exact ⟨cpl_leaf y1 y2, by show 1 ≤ 2; decide, by have := cpl_weight y1 y2; omega⟩) (by rw [List.length_map, List.length_map]; omega)
        refine ⟨_, _, .list [mksD (rs.map (·.2)), .int ((k - rs.length - op.length : Nat) : Int)], rfl, .lst (SqL.of e1) (.cons (M6.same (t7.trans t8)).dp (.cons (.int _) .nil)), .lst (SqL.of e2) (.cons (MM.same t18).dp (.cons (.int _) .nil)), Shw.leaves (fun d hd => ?_) (by show 2 ≤ 300; decide), _, rfl, iteF ?_⟩
        · simp only [List.mem_cons, List.not_mem_nil, or_false] at hd
          rcases hd with rfl | rfl
          · exact lK
          · exact leaf_int (by omega)
        -- what is refused
        refine ⟨_, rfl, _, rfl, _, rfl, _, rfl, ?_⟩
        dsimp only [tNil]
        refine ⟨p, g, ml, o, oas, v, w, k, rs, op, rfl, n3, DK.same t18, PL.same t18, MO.same t18, by omega, by omega, fun H10 x10 D10 P10 => ⟨_, rfl, iteF ?_⟩⟩
        obtain ⟨zp, ezp⟩ := (DK.same t18).at_.some
        have MM10 := (MM.same t18).ext x10 ezp n1
        have MO10 := (MO.same t18).ext x10 ezp n3
        have MP10 := (MP.same t18).ext x10 ezp n5
        -- the step
        refine ⟨_, rfl, _, rfl, _, rfl, _, rfl, _, rfl, _, rfl, _, rfl, ?_⟩
        dsimp only [tNil]
        refine ⟨p, g, ml, m, o, as, oas, v, w, k, rs, op, rfl, n1, n2, n3, n4, D10, P10, MM10, MO10, by omega, by omega, hk3, fun t m' b as' rs' op' H11 oE et D11 P11 MM11 nm1 nm2 st => ?_⟩
        obtain ⟨zp2, ezp2⟩ := D10.at_.some
        obtain ⟨zm2, ezm2⟩ := P10.lst
        have MMo := MM10.off oE ezp2 ezm2 n1 n2
        have MOo := MO10.off oE ezp2 ezm2 n3 n4
        have MPo := MP10.off oE ezp2 ezm2 n5 n6
        refine ⟨_, rfl, rfl, _, rfl, iteV (fun z => nomatch z) (fun _ => ?_)⟩
        refine ⟨_, rfl, t, _, _, _, rfl, rfl, SqT.of et, atI_nat (j := 1) rfl, rfl, _, rfl, ?_⟩
        rcases st with ⟨o', oas', rfl, no1, no2, MO11, hst⟩ | ⟨rfl, hop0, hrs, rfl, rfl⟩
        · refine iteV (fun z => nomatch z) (fun _ => ?_)
          refine ⟨fun σ' H' => ∃ pa' pas', σ' = [some (.ref a), some (.ref p), some (.str (S L)), some (.str (S v)), some (.str (S w)), some (.int (k : Nat)), some (.ref g), some (.ref m), some (.ref o), some (.ref pa'), some (.int (i : Nat)), some (.ref T0), some (.ref t), none, none, none, none, none] ∧
              Same H11 H' ∧ MarksAt H' pa' pas' (rs'.map lastMk) ∧ pa' ≠ p ∧ pa' ≠ ml, ?_, ?_⟩
          · refine ⟨_, rfl, t, _, _, _, rfl, rfl, SqT.of et, atI_nat (j := 0) rfl, m', _, rfl, .inl (SqL.of MM11.at_), _, rfl, m, _, rfl, .inl (SqL.of MMo.at_), _, _, rfl, rfl, _, rfl, ?_⟩
            have l11 : (as'.map V.ref).length = rs'.length := by rw [List.length_map, MM11.len, List.length_map]
            rcases hst with rfl | ⟨q, y, rfl, rfl, rfl⟩
            · refine iteD rfl (fun h => absurd h (by rw [l11, lM2]; omega)) (fun _ => ?_)
              exact ⟨pa, pas, rfl, refl_same _, MPo, n5, n6⟩
            · refine iteD rfl (fun _ => ?_) (fun h => absurd (by rw [l11, lM2, List.length_append]; simp only [List.length_cons, List.length_nil]; omega) h)
              refine ⟨_, rfl, _, rfl, pa, o, _, _, rfl, rfl, MPo.at_, MOo.at_, ?_, fun pp hpp => ?_⟩
              · have e9 : (pas.map V.ref).length = rs.length := by rw [List.length_map, MPo.len, List.length_map]
                rw [lO2, e9, sizeLine_eq]
                simp only
                  [List.length_cons, List.length_nil]
                omega
              have r1 := Same.new (o := .lst (pas.map V.ref ++ oas.map V.ref)) hpp
              refine ⟨pp, pas ++ oas, rfl, r1, ?_, ?_, ?_⟩
              · have b1 := (PL.opi q (List.mem_singleton.mpr rfl)).1
                rw [List.map_append, List.map_cons, List.map_nil, lastMk_cpl b1]
                exact (MPo.same r1).app (MOo.same r1) upd_same
              · obtain ⟨zs, ez⟩ := D11.at_.some
                exact (ne_of_none ez hpp).symm
              · obtain ⟨zs, ez⟩ := P11.lst
                exact (ne_of_none ez hpp).symm
          · rintro σ' H12 ⟨pa', pas', rfl, r1, MP12, n7, n8⟩
            refine ⟨_, rfl, t, _, rfl, SqT.of (r1 _ _ et), rfl, _, _, rfl, _, _, rfl, rfl, ?_⟩
            exact ⟨m', o', pa', as', oas', pas', rs', op', _, _, _, rfl, D11.same r1, P11.same r1, MM11.same r1, MO11.same r1, MP12, nm1, nm2, no1, no2, n7, n8⟩
        · refine iteV (fun _ => ?_) (fun z => absurd rfl z)
          refine ⟨_, rfl, _, rfl, _, rfl, pa, _, rfl, SqL.of MPo.at_, fun o2 ho2 => ?_⟩
          have r1 := Same.new (o := .lst (cutV (pas.map V.ref) (some (-1)) none)) ho2
          refine ⟨_, rfl, _, rfl, _, rfl, pa, _, rfl, SqL.of (r1 _ _ MPo.at_), fun pa2 hpa2 => ?_⟩
          have r2 := Same.new (o := .lst (cutV (pas.map V.ref) none (some (-1)))) hpa2
          have r12 := r1.trans r2
          refine ⟨_, rfl, t, _, _, _, rfl, rfl, SqT.of (r12 _ _ et), atI_nat (j := 0) rfl, _, _, rfl, ?_⟩
          refine ⟨m', o2, pa2, as', _, pas.dropLast, _, _, _, _, _, rfl, D11.same r12, P11.same r12, MM11.same r12, ((MPo.same r12).lastL (r2 _ _ (by rw [upd_same, cut_last]))), ?_, nm1, nm2, ?_, ?_, ?_, ?_⟩
          · have z := (MPo.same r12).dropL (p := pa2) (by rw [upd_same, cut_init])
            rw [← List.map_dropLast] at z
            exact z
          · obtain ⟨zs, ez⟩ := D11.at_.some
            exact (ne_of_none ez ho2).symm
          · obtain ⟨zs, ez⟩ := P11.lst
            exact (ne_of_none ez ho2).symm
          · obtain ⟨zs, ez⟩ := (D11.same r1).at_.some
            exact (ne_of_none ez hpa2).symm
          · obtain ⟨zs, ez⟩ := (P11.same r1).lst
            exact (ne_of_none ez hpa2).symm
      · rintro σ H9 ⟨m, o, pa, as, oas, pas, rs, op, z10, z11, z12, rfl, I⟩
        exact ⟨_, _, _, _, _, _, rfl⟩
    clear D8 P8 q1 q2 q3 qA hm0 ho0 hpa0
    rintro σ' H9 ⟨z7, z8, z9, z10, z11, z12, rfl⟩
    -- letters and words that are none
    refine ⟨by show 3 ≤ sizeLine; decide, fun t1 ht1 => ⟨_, rfl, by show 3 ≤ sizeLine; decide, fun t2 ht2 => ⟨_, rfl, _, rfl, by show 3 ≤ sizeLine; decide, fun t3 ht3 => ⟨by show 3 ≤ sizeLine; decide, fun R hR => ?_⟩⟩⟩⟩
    refine ⟨by show 0 ≤ sizeLine; decide, fun T2 hT2 => ?_⟩
    have r1 := Same.new (o := .tup [.non, .str "a", .str "b"]) ht1
    have r2 := Same.new (o := .tup [.str (S L), .str "q", .str "a"]) ht2
    have r3 := Same.new (o := .tup [.str (S L), .str (S v), .int 5]) ht3
    have r4 := Same.new (o := .lst [.ref t1, .ref t2, .ref t3]) hR
    have r5 := Same.new (o := .lst []) hT2
    have x1 := (r2.trans (r3.trans (r4.trans r5))) _ _ (upd_same (H := H9) (a := t1) (o := .tup [.non, .str "a", .str "b"]))
    have x2 := (r3.trans (r4.trans r5)) _ _ upd_same
    have x3 := (r4.trans r5) _ _ upd_same
    have x4 := r5 _ _ upd_same
    generalize hHB : upd (upd (upd (upd (upd H9 t1 (.tup [.non, .str "a", .str "b"])) t2 (.tup [.str (S L), .str "q", .str "a"])) t3 (.tup [.str (S L), .str (S v), .int 5])) R (.lst [.ref t1, .ref t2, .ref t3])) T2 (.lst []) = HB at x1 x2 x3 x4 ⊢
    have x5 : HB T2 = some (.lst []) := by rw [← hHB, upd_same]
    have nRT : R ≠ T2 := fun z => by rw [z, x5] at x4; cases x4
    refine ⟨_, rfl, R, rfl, ⟨_, SqL.of x4⟩, for_list (K := K) (a := R) (xs := [.ref t1, .ref t2, .ref t3]) (fun i σ H' => ∃ ys z14 z15 z16, σ = [some (.ref a), some (.ref p), some (.str (S L)), some (.str (S v)), some (.str (S w)), some (.int (k : Nat)), some (.ref g), z7, z8, z9, z10, some (.ref T2), z12, some (.ref R), z14, z15, z16, none] ∧
        Ext T2 HB H' ∧ H' T2 = some (.lst ys) ∧ TellAt H' ys (exps.take i))
      ⟨[], none, none, none, rfl, Ext.refl _, x5, rfl, fun i y e h => by simp at h⟩ (fun i σ H' _ q => ?_) ?_ ?_⟩
    · obtain ⟨_, _, _, _, _, e, _⟩ := q
      exact SqL.of (e _ _ nRT x4)
    · rintro i xi σ H' hxi ⟨ys, z14, z15, z16, rfl, eE, eT, hT⟩
      have hi : i < 3 := (List.getElem?_eq_some_iff.mp hxi).1
      have hyl : ys.length ≤ 3 := by
        have := hT.1
        rw [List.length_take] at this
        omega
      have go : ∀ (e : Str × V) (t : Addr) (H2 : Hp), exps[i]? = some e → Ext T2 H' H2 → H2 T2 = some (.lst (ys ++ [.ref t])) → H2 t = some (.tup [.str e.1, e.2]) → Ext T2 HB H2 ∧ TellAt H2 (ys ++ [.ref t]) (exps.take (i + 1)) := fun e t H2 he e2 eT2 et => by
        refine ⟨eE.trans e2, ?_, fun j y e' hy he' => ?_⟩
        · rw [List.length_append, hT.1, List.length_take, List.length_take]
          have : exps.length = 3 := rfl
          simp only
            [List.length_cons, List.length_nil]
          omega
        · rw [List.take_succ, he] at he'
          have hl : ys.length = (exps.take i).length := hT.1
          by_cases hj : j < ys.length
          · rw [List.getElem?_append_left hj] at hy
            rw [List.getElem?_append_left (by omega)] at he'
            obtain ⟨tt, e9, et9⟩ := hT.2 j y e' hy he'
            exact ⟨tt, e9, e2 _ _ (ne_of et9 eT (by intro z; cases z)) et9⟩
          · have ej : j = ys.length := by
              have := (List.getElem?_eq_some_iff.mp hy).1
              rw [List.length_append] at this
              simp only [List.length_cons, List.length_nil] at this
              omega
            subst ej
            rw [List.getElem?_append_right (Nat.le_refl _), Nat.sub_self] at hy
            rw [List.getElem?_append_right (by omega), hl, Nat.sub_self] at he'
            have hy : V.ref t = y := Option.some.inj hy
            have he' : e = e' := Option.some.inj he'
            subst hy he'
            exact ⟨t, rfl, et⟩
      rcases (show i = 0 ∨ i = 1 ∨ i = 2 by omega) with rfl | rfl | rfl
      · obtain rfl : V.ref t1 = xi := Option.some.inj hxi
        refine ⟨t1, _, rfl, SqT.of (eE _ _ (ne_of x1 x5 (by intro z; cases z)) x1), rfl, _, _, rfl, _, _, rfl, _, _, rfl, rfl, ?_⟩
        refine ⟨T2, ys, .non, .str "a", .str "b", none, some [97], some [98], false, .non, rfl, rfl, rfl, rfl, rfl, eT, by omega, txt_non, by rw [st_a]; exact txt_str (by decide), by rw [st_b]; exact txt_str (by decide), bad_lt rfl, fun t H2 e2 eT2 et => ?_⟩
        obtain ⟨q1, q2⟩ := go ("letters", .non) t H2 rfl e2 eT2 et
        exact ⟨_, _, _, _, rfl, q1, eT2, q2⟩
      · obtain rfl : V.ref t2 = xi := Option.some.inj hxi
        refine ⟨t2, _, rfl, SqT.of (eE _ _ (ne_of x2 x5 (by intro z; cases z)) x2), rfl, _, _, rfl, _, _, rfl, _, _, rfl, rfl, ?_⟩
        have hno : wordOk L (some [113]) = false := by
          cases e : wordOk L (some [113]) with
          | false => rfl
          | true => exact absurd ((wordOk_iff.mp e).2 113 (List.mem_singleton.mpr rfl)) hLq
        refine ⟨T2, ys, .str (S L), .str "q", .str "a", some L, some [113], some [97], true, .str "q", rfl, rfl, rfl, rfl, rfl, eT, by omega, txt_str (by omega), by rw [st_q]; exact txt_str (by decide), by rw [st_a]; exact txt_str (by decide), bad_1 hLok hno, fun t H2 e2 eT2 et => ?_⟩
        obtain ⟨q1, q2⟩ := go ("word", .str "q") t H2 rfl e2 eT2 et
        exact ⟨_, _, _, _, rfl, q1, eT2, q2⟩
      · obtain rfl : V.ref t3 = xi := Option.some.inj hxi
        refine ⟨t3, _, rfl, SqT.of (eE _ _ (ne_of x3 x5 (by intro z; cases z)) x3), rfl, _, _, rfl, _, _, rfl, _, _, rfl, rfl, ?_⟩
        refine ⟨T2, ys, .str (S L), .str (S v), .int 5, some L, some v, none, true, .int 5, rfl, rfl, rfl, rfl, rfl, eT, by omega, txt_str (by omega), txt_str (by omega), txt_int, bad_2 hLok iv.ok rfl, fun t H2 e2 eT2 et => ?_⟩
        obtain ⟨q1, q2⟩ := go ("word", .int 5) t H2 rfl e2 eT2 et
        exact ⟨_, _, _, _, rfl, q1, eT2, q2⟩
    · rintro σ H' ⟨ys, z14, z15, z16, rfl, eE, eT, hT⟩
      have hT : TellAt H' ys exps := hT
      refine ⟨_, rfl, by show 2 ≤ sizeLine; decide, fun u1 hu1 => ⟨by show 2 ≤ sizeLine; decide, fun u2 hu2 => ⟨by show 2 ≤ sizeLine; decide, fun u3 hu3 => ⟨by show 3 ≤ sizeLine; decide, fun lr hlr => ?_⟩⟩⟩⟩
      have y1 := Same.new (o := .tup [.str "letters", .non]) hu1
      have y2 := Same.new (o := .tup [.str "word", .str "q"]) hu2
      have y3 := Same.new (o := .tup [.str "word", .int 5]) hu3
      have y4 := Same.new (o := .lst [.ref u1, .ref u2, .ref u3]) hlr
      have yA := y1.trans (y2.trans (y3.trans y4))
      have hT2 : TellAt _ ys exps := ⟨hT.1, fun i y e hy he => by
        obtain ⟨t, e1, et⟩ := hT.2 i y e hy he
        exact ⟨t, e1, yA _ _ et⟩⟩
      refine ⟨_, _, .list (exps.map fun e => .tuple [.str e.1, dV e.2]), rfl, .lst (SqL.of (yA _ _ eT)) (hT2.dp fun e he => ?_), ?_, ?_, kq _⟩
      · simp only [exps, List.mem_cons, List.not_mem_nil, or_false] at he
        rcases he with rfl | rfl | rfl
        · exact .non
        · exact .str _
        · exact .int _
      · refine .lst (SqL.of upd_same) (.cons (.tup (SqT.of ((y2.trans (y3.trans y4)) _ _ upd_same)) (.cons (.str _) (.cons .non .nil))) (.cons (.tup (SqT.of ((y3.trans y4) _ _ upd_same)) (.cons (.str _) (.cons (.str _) .nil))) (.cons (.tup (SqT.of (y4 _ _ upd_same)) (.cons (.str _) (.cons (.int _) .nil))) .nil)))
      · refine Shw.leaves (fun d hd => ?_) (by show 3 ≤ 300; decide)
        simp only [exps, List.map_cons, List.map_nil, List.mem_cons, List.not_mem_nil, or_false] at hd
        rcases hd with rfl | rfl | rfl
        · exact leaf_pair leaf_letters leaf_none (by show 0 ≤ 2; decide) (by show 0 ≤ 2; decide) (by decide +kernel) (by decide +kernel)
        · exact leaf_pair leaf_word (by show Leaf (.str "q"); rw [st_q]; exact leaf_str (by decide) (by decide)) (by show 0 ≤ 2; decide) (by show 0 ≤ 2; decide) (by decide +kernel) (by decide +kernel)
        · exact leaf_pair leaf_word (leaf_int (n := 5) (by decide)) (by show 0 ≤ 2; decide) (by show 0 ≤ 2; decide) (by decide +kernel) (by decide +kernel)
end
end Ws

namespace Ws
open PySem PySem.Spec PyProof.Rows L2
theorem binds_def {K : PySem.W.Frag} {fd : FuncData} {ps : List Str} {T : Addr} {o : Obj} {its : Array Value} {n : Nat} (lT : K.lookup T = some o) (oT : o.data = .seq its n)
    (h : ∀ us : List Value, us.length = ps.length → ∃ k : Option (Array Value) → Sem (List (Str × Value)), bindArgs fd ⟨us, []⟩ = seqItems? (.ref T) >>= k ∧ k (some its) = pure (ps.zip us)) : Binds K fd ps [] := fun s us X hl => by
  rw [List.append_nil] at hl ⊢
  obtain ⟨k, e1, e2⟩ := h us hl
  exact BindsTo.of_looks fun M => by
    rw [e1]
    exact looks_items X lT oT (PySem.W.Looks.of_pure e2)
theorem binds_defD {K : PySem.W.Frag} {fd : FuncData} {ps : List Str} {ds : List Value} {T : Addr} {o : Obj} {its : Array Value} {n : Nat} (lT : K.lookup T = some o) (oT : o.data = .seq its n)
    (h : ∀ us : List Value, us.length + ds.length = ps.length → ∃ k : Option (Array Value) → Sem (List (Str × Value)), bindArgs fd ⟨us, []⟩ = seqItems? (.ref T) >>= k ∧ k (some its) = pure (ps.zip (us ++ ds))) : Binds K fd ps ds := fun s us X hl => by
  obtain ⟨k, e1, e2⟩ := h us (by rw [← hl, List.length_append])
  exact BindsTo.of_looks fun M => by
    rw [e1]
    exact looks_items X lT oT (PySem.W.Looks.of_pure e2)
/-- an error of the class at t, asked by an except clause of the class at S -/
theorem exm_by {K : PySem.W.Frag} {t S : Addr} {b : Bool} (h1 : PySem.W.subIn K (.ref S) (.type "BaseException") = some true) (h2 : PySem.W.isClsIn K S = true) (h3 : PySem.W.typeIn K (.ref S) = some (.type "type")) (h4 : PySem.W.subIn K (.ref t) (.ref S) = some b) :
    PySem.W.exmOne K (.ref t) (.ref S) = some b := by
  have q1 : (PySem.W.subIn K (.ref S) (.type "BaseException") == some true) = true := by
    rw [h1]; rfl
  have q2 : ((PySem.W.clsIn K S).isSome && PySem.W.typeIn K (.ref S) == some (.type "type")) = true := by
    have q3 : (PySem.W.clsIn K S).isSome = true := h2
    rw [q3, h3]; rfl
  unfold PySem.W.exmOne
  rw [if_pos q1]
  exact (if_pos q2).trans h4
abbrev s_BadLetters : Stmt := (inClass (top 3) 0)
abbrev s_BadWord : Stmt := (inClass (top 4) 0)
theorem ss_BadLetters : SScope ["self", "place"] ["self", "place"] (defScope s_BadLetters) :=
  ⟨rfl, rfl, rfl, by decide +kernel, rfl, by decide +kernel, by decide +kernel, by decide +kernel, by decide +kernel, by decide +kernel, rfl⟩
theorem ss_BadWord : SScope ["self", "place"] ["self", "place"] (defScope s_BadWord) :=
  ⟨rfl, rfl, rfl, by decide +kernel, rfl, by decide +kernel, by decide +kernel, by decide +kernel, by decide +kernel, by decide +kernel, rfl⟩
abbrev s_BadNumber : Stmt := (inClass (top 2) 0)
theorem ss_BadNumber : SScope ["self", "place"] ["self", "place"] (defScope s_BadNumber) :=
  ⟨rfl, rfl, rfl, by decide +kernel, rfl, by decide +kernel, by decide +kernel, by decide +kernel, by decide +kernel, by decide +kernel, rfl⟩
abbrev s_Unlike : Stmt := (inClass (top 5) 0)
theorem ss_Unlike : SScope ["self", "place"] ["self", "place"] (defScope s_Unlike) :=
  ⟨rfl, rfl, rfl, by decide +kernel, rfl, by decide +kernel, by decide +kernel, by decide +kernel, by decide +kernel, by decide +kernel, rfl⟩
abbrev s_NothingThere : Stmt := (inClass (top 6) 0)
theorem ss_NothingThere : SScope ["self", "place"] ["self", "place"] (defScope s_NothingThere) :=
  ⟨rfl, rfl, rfl, by decide +kernel, rfl, by decide +kernel, by decide +kernel, by decide +kernel, by decide +kernel, by decide +kernel, rfl⟩
end Ws
/-! what the top has written, joined -/
namespace Ws
open PySem PySem.Spec PyProof.Rows L2
theorem all_mk {l : PySem.W.OpenLaw} {w : World} {K : PySem.W.Frag} {h : Heap} {mg : Str → Option Value} {fa : Addr} (X : K.In h) (G : h.Ns mainGlobals mg) (hfa : mg "law" = some (.ref fa))
    {fd0 fd1 fd2 fd3 fd4 fd5 fd6 fd7 fd8 fd9 fd10 fd11 fd12 fd13 fd14 fd15 fd16 fd17 fd18 fd19 fq0 Tq0 C fmC0 fmC1 fmC2 fmC3 CS fmCS0 fmCS1 CG fmCG0 fmCG1 fmCG2 fmCG3 fmCG4 fmCG5 fmCG6 fmCG7 fmCG8 fmCG9 fmCG10 fmCG11 fmCG12 fmCG13 fmCG14 CR feCR cdaeCR cceCR NeCR TeCR CL feCL cdaeCL cceCL NeCL TeCL CW feCW cdaeCW cceCW NeCW TeCW CB feCB cdaeCB cceCB NeCB TeCB CU feCU cdaeCU cceCU NeCU TeCU CN feCN cdaeCN cceCN NeCN TeCN : Addr}
    {ocd0 kVd0 dcd0 pmd0 cdd0 ctd0 ocd1 kVd1 dcd1 pmd1 cdd1 ctd1 ocd2 kVd2 dcd2 pmd2 cdd2 ctd2 ocd3 kVd3 dcd3 pmd3 cdd3 ctd3 ocd4 kVd4 dcd4 pmd4 cdd4 ctd4 ocd5 kVd5 dcd5 pmd5 cdd5 ctd5 ocd6 kVd6 dcd6 pmd6 cdd6 ctd6 ocd7 kVd7 dcd7 pmd7 cdd7 ctd7 ocd8 kVd8 dcd8 pmd8 cdd8 ctd8 ocd9 kVd9 dcd9 pmd9 cdd9 ctd9 ocd10 kVd10 dcd10 pmd10 cdd10 ctd10 ocd11 kVd11 dcd11 pmd11 cdd11 ctd11 ocd12 kVd12 dcd12 pmd12 cdd12 ctd12 ocd13 kVd13 dcd13 pmd13 cdd13 ctd13 ocd14 kVd14 dcd14 pmd14 cdd14 ctd14 ocd15 kVd15 dcd15 pmd15 cdd15 ctd15 ocd16 kVd16 dcd16 pmd16 cdd16 ctd16 ocd17 kVd17 dcd17 pmd17 cdd17 ctd17 ocd18 kVd18 dcd18 pmd18 cdd18 ctd18 ocd19 kVd19 dcd19 pmd19 cdd19 ctd19 ocq0 kVq0 dcq0 pmq0 cdq0 ctq0 tcq0 ocmC0 kVmC0 dcmC0 pmmC0 cdmC0 ctmC0 ocmC1 kVmC1 dcmC1 pmmC1 cdmC1 ctmC1 ocmC2 kVmC2 dcmC2 pmmC2 cdmC2 ctmC2 ocmC3 kVmC3 dcmC3 pmmC3 cdmC3 ctmC3 ocmCS0 kVmCS0 dcmCS0 pmmCS0 cdmCS0 ctmCS0 ocmCS1 kVmCS1 dcmCS1 pmmCS1 cdmCS1 ctmCS1 ocmCG0 kVmCG0 dcmCG0 pmmCG0 cdmCG0 ctmCG0 ocmCG1 kVmCG1 dcmCG1 pmmCG1 cdmCG1 ctmCG1 ocmCG2 kVmCG2 dcmCG2 pmmCG2 cdmCG2 ctmCG2 ocmCG3 kVmCG3 dcmCG3 pmmCG3 cdmCG3 ctmCG3 ocmCG4 kVmCG4 dcmCG4 pmmCG4 cdmCG4 ctmCG4 ocmCG5 kVmCG5 dcmCG5 pmmCG5 cdmCG5 ctmCG5 ocmCG6 kVmCG6 dcmCG6 pmmCG6 cdmCG6 ctmCG6 ocmCG7 kVmCG7 dcmCG7 pmmCG7 cdmCG7 ctmCG7 ocmCG8 kVmCG8 dcmCG8 pmmCG8 cdmCG8 ctmCG8 ocmCG9 kVmCG9 dcmCG9 pmmCG9 cdmCG9 ctmCG9 ocmCG10 kVmCG10 dcmCG10 pmmCG10 cdmCG10 ctmCG10 ocmCG11 kVmCG11 dcmCG11 pmmCG11 cdmCG11 ctmCG11 ocmCG12 kVmCG12 dcmCG12 pmmCG12 cdmCG12 ctmCG12 ocmCG13 kVmCG13 dcmCG13 pmmCG13 cdmCG13 ctmCG13 ocmCG14 kVmCG14 dcmCG14 pmmCG14 cdmCG14 ctmCG14 oceCR kVeCR dceCR pmeCR cteCR ccleCR cleCR tceCR oceCL kVeCL dceCL pmeCL cteCL ccleCL cleCL tceCL oceCW kVeCW dceCW pmeCW cteCW ccleCW cleCW tceCW oceCB kVeCB dceCB pmeCB cteCB ccleCB cleCB tceCB oceCU kVeCU dceCU pmeCU cteCU ccleCU cleCU tceCU oceCN kVeCN dceCN pmeCN cteCN ccleCN cleCN tceCN : Value}
    {odd0 and0 odd1 and1 odd2 and2 odd3 and3 odd4 and4 odd5 and5 odd6 and6 odd7 and7 odd8 and8 odd9 and9 odd10 and10 odd11 and11 odd12 and12 odd13 and13 odd14 and14 odd15 and15 odd16 and16 odd17 and17 odd18 and18 odd19 and19 odq0 anq0 tdq0 odmC0 anmC0 odmC1 anmC1 odmC2 anmC2 odmC3 anmC3 odmCS0 anmCS0 odmCS1 anmCS1 odmCG0 anmCG0 odmCG1 anmCG1 odmCG2 anmCG2 odmCG3 anmCG3 odmCG4 anmCG4 odmCG5 anmCG5 odmCG6 anmCG6 odmCG7 anmCG7 odmCG8 anmCG8 odmCG9 anmCG9 odmCG10 anmCG10 odmCG11 anmCG11 odmCG12 anmCG12 odmCG13 anmCG13 odmCG14 anmCG14 ddeCR odeCR aneCR cddeCR cldeCR tdeCR ddeCL odeCL aneCL cddeCL cldeCL tdeCL ddeCW odeCW aneCW cddeCW cldeCW tdeCW ddeCB odeCB aneCB cddeCB cldeCB tdeCB ddeCU odeCU aneCU cddeCU cldeCU tdeCU ddeCN odeCN aneCN cddeCN cldeCN tdeCN : Option Addr}
    {sld0 sld1 sld2 sld3 sld4 sld5 sld6 sld7 sld8 sld9 sld10 sld11 sld12 sld13 sld14 sld15 sld16 sld17 sld18 sld19 slq0 tslq0 slmC0 slmC1 slmC2 slmC3 slmCS0 slmCS1 slmCG0 slmCG1 slmCG2 slmCG3 slmCG4 slmCG5 slmCG6 slmCG7 slmCG8 slmCG9 slmCG10 slmCG11 slmCG12 slmCG13 slmCG14 sleCR ccseCR csleCR tsleCR sleCL ccseCL csleCL tsleCL sleCW ccseCW csleCW tsleCW sleCB ccseCB csleCB tsleCB sleCU ccseCU csleCU tsleCU sleCN ccseCN csleCN tsleCN : Array (Option Value)}
    {tkq0 tfeCR tfeCL tfeCW tfeCB tfeCU tfeCN tg_SMALL tg_LETTERS_MOST tg_WORD_MOST : Tok}
    {tnq0 tneCR tneCL tneCW tneCB tneCU tneCN : Nat}
    {nmeCR qeCR fileeCR nmeCL qeCL fileeCL nmeCW qeCW fileeCW nmeCB qeCB fileeCB nmeCU qeCU fileeCU nmeCN qeCN fileeCN : Str}
    {bseCR bmeCR subeCR bseCL bmeCL subeCL bseCW bmeCW subeCW bseCB bmeCB subeCB bseCU bmeCU subeCU bseCN bmeCN subeCN : List Value}
    {sneCR sneCL sneCW sneCB sneCU sneCN : List Str}
    {abeCR abeCL abeCW abeCB abeCU abeCN : Bool}
    {coleCR coleCL coleCW coleCB coleCU coleCN : Option Bool}
    {k0eCR k1eCR k2eCR k3eCR k5eCR k0eCL k1eCL k2eCL k3eCL k5eCL k0eCW k1eCW k2eCW k3eCW k5eCW k0eCB k1eCB k2eCB k3eCB k5eCB k0eCU k1eCU k2eCU k3eCU k5eCU k0eCN k1eCN k2eCN k3eCN k5eCN : Option Value}
    {vseCR vseCL vseCW vseCB vseCU vseCN : Array Value}
    {cdDeCR cdDeCL cdDeCW cdDeCB cdDeCU cdDeCN : ClassData}
    (ad0 : PySem.W.nsIn K mainGlobals "is_integer" = some (some (.ref fd0)))
    (ld0 : K.lookup fd0 = some ⟨ocd0, odd0, .func (PySem.W.fnOf "is_integer" "is_integer" (defArgs s_is_integer) (defBody s_is_integer) (defScope s_is_integer) .none kVd0 dcd0 pmd0 and0 cdd0 ctd0), sld0⟩)
    (cd0 : PySem.W.codeIn K cdd0 "is_integer" = true)
    (kd0 : PySem.W.keepIn K (.ref fd0) = true)
    (ad1 : PySem.W.nsIn K mainGlobals "is_letters" = some (some (.ref fd1)))
    (ld1 : K.lookup fd1 = some ⟨ocd1, odd1, .func (PySem.W.fnOf "is_letters" "is_letters" (defArgs s_is_letters) (defBody s_is_letters) (defScope s_is_letters) .none kVd1 dcd1 pmd1 and1 cdd1 ctd1), sld1⟩)
    (cd1 : PySem.W.codeIn K cdd1 "is_letters" = true)
    (kd1 : PySem.W.keepIn K (.ref fd1) = true)
    (ad2 : PySem.W.nsIn K mainGlobals "check_letters" = some (some (.ref fd2)))
    (ld2 : K.lookup fd2 = some ⟨ocd2, odd2, .func (PySem.W.fnOf "check_letters" "check_letters" (defArgs s_check_letters) (defBody s_check_letters) (defScope s_check_letters) .none kVd2 dcd2 pmd2 and2 cdd2 ctd2), sld2⟩)
    (cd2 : PySem.W.codeIn K cdd2 "check_letters" = true)
    (kd2 : PySem.W.keepIn K (.ref fd2) = true)
    (ad3 : PySem.W.nsIn K mainGlobals "is_word" = some (some (.ref fd3)))
    (ld3 : K.lookup fd3 = some ⟨ocd3, odd3, .func (PySem.W.fnOf "is_word" "is_word" (defArgs s_is_word) (defBody s_is_word) (defScope s_is_word) .none kVd3 dcd3 pmd3 and3 cdd3 ctd3), sld3⟩)
    (cd3 : PySem.W.codeIn K cdd3 "is_word" = true)
    (kd3 : PySem.W.keepIn K (.ref fd3) = true)
    (ad4 : PySem.W.nsIn K mainGlobals "check_game_words" = some (some (.ref fd4)))
    (ld4 : K.lookup fd4 = some ⟨ocd4, odd4, .func (PySem.W.fnOf "check_game_words" "check_game_words" (defArgs s_check_game_words) (defBody s_check_game_words) (defScope s_check_game_words) .none kVd4 dcd4 pmd4 and4 cdd4 ctd4), sld4⟩)
    (cd4 : PySem.W.codeIn K cdd4 "check_game_words" = true)
    (kd4 : PySem.W.keepIn K (.ref fd4) = true)
    (ad5 : PySem.W.nsIn K mainGlobals "class_of" = some (some (.ref fd5)))
    (ld5 : K.lookup fd5 = some ⟨ocd5, odd5, .func (PySem.W.fnOf "class_of" "class_of" (defArgs s_class_of) (defBody s_class_of) (defScope s_class_of) .none kVd5 dcd5 pmd5 and5 cdd5 ctd5), sld5⟩)
    (cd5 : PySem.W.codeIn K cdd5 "class_of" = true)
    (kd5 : PySem.W.keepIn K (.ref fd5) = true)
    (ad6 : PySem.W.nsIn K mainGlobals "kept_by" = some (some (.ref fd6)))
    (ld6 : K.lookup fd6 = some ⟨ocd6, odd6, .func (PySem.W.fnOf "kept_by" "kept_by" (defArgs s_kept_by) (defBody s_kept_by) (defScope s_kept_by) .none kVd6 dcd6 pmd6 and6 cdd6 ctd6), sld6⟩)
    (cd6 : PySem.W.codeIn K cdd6 "kept_by" = true)
    (kd6 : PySem.W.keepIn K (.ref fd6) = true)
    (ad7 : PySem.W.nsIn K mainGlobals "_law_deck" = some (some (.ref fd7)))
    (ld7 : K.lookup fd7 = some ⟨ocd7, odd7, .func (PySem.W.fnOf "_law_deck" "_law_deck" (defArgs s_deck) (defBody s_deck) (defScope s_deck) .none kVd7 dcd7 pmd7 and7 cdd7 ctd7), sld7⟩)
    (cd7 : PySem.W.codeIn K cdd7 "_law_deck" = true)
    (kd7 : PySem.W.keepIn K (.ref fd7) = true)
    (ad8 : PySem.W.nsIn K mainGlobals "_law_draw" = some (some (.ref fd8)))
    (ld8 : K.lookup fd8 = some ⟨ocd8, odd8, .func (PySem.W.fnOf "_law_draw" "_law_draw" (defArgs s_draw) (defBody s_draw) (defScope s_draw) .none kVd8 dcd8 pmd8 and8 cdd8 ctd8), sld8⟩)
    (cd8 : PySem.W.codeIn K cdd8 "_law_draw" = true)
    (kd8 : PySem.W.keepIn K (.ref fd8) = true)
    (ad9 : PySem.W.nsIn K mainGlobals "_law_is" = some (some (.ref fd9)))
    (ld9 : K.lookup fd9 = some ⟨ocd9, odd9, .func (PySem.W.fnOf "_law_is" "_law_is" (defArgs s_is) (defBody s_is) (defScope s_is) .none kVd9 dcd9 pmd9 and9 cdd9 ctd9), sld9⟩)
    (cd9 : PySem.W.codeIn K cdd9 "_law_is" = true)
    (kd9 : PySem.W.keepIn K (.ref fd9) = true)
    (ad10 : PySem.W.nsIn K mainGlobals "_law_word" = some (some (.ref fd10)))
    (ld10 : K.lookup fd10 = some ⟨ocd10, odd10, .func (PySem.W.fnOf "_law_word" "_law_word" (defArgs s_word) (defBody s_word) (defScope s_word) .none kVd10 dcd10 pmd10 and10 cdd10 ctd10), sld10⟩)
    (cd10 : PySem.W.codeIn K cdd10 "_law_word" = true)
    (kd10 : PySem.W.keepIn K (.ref fd10) = true)
    (ad11 : PySem.W.nsIn K mainGlobals "_law_near" = some (some (.ref fd11)))
    (ld11 : K.lookup fd11 = some ⟨ocd11, odd11, .func (PySem.W.fnOf "_law_near" "_law_near" (defArgs s_near) (defBody s_near) (defScope s_near) .none kVd11 dcd11 pmd11 and11 cdd11 ctd11), sld11⟩)
    (cd11 : PySem.W.codeIn K cdd11 "_law_near" = true)
    (kd11 : PySem.W.keepIn K (.ref fd11) = true)
    (ad12 : PySem.W.nsIn K mainGlobals "_law_fair" = some (some (.ref fd12)))
    (ld12 : K.lookup fd12 = some ⟨ocd12, odd12, .func (PySem.W.fnOf "_law_fair" "_law_fair" (defArgs s_fair) (defBody s_fair) (defScope s_fair) .none kVd12 dcd12 pmd12 and12 cdd12 ctd12), sld12⟩)
    (cd12 : PySem.W.codeIn K cdd12 "_law_fair" = true)
    (kd12 : PySem.W.keepIn K (.ref fd12) = true)
    (ad13 : PySem.W.nsIn K mainGlobals "_law_answers" = some (some (.ref fd13)))
    (ld13 : K.lookup fd13 = some ⟨ocd13, odd13, .func (PySem.W.fnOf "_law_answers" "_law_answers" (defArgs s_LA) (defBody s_LA) (defScope s_LA) .none kVd13 dcd13 pmd13 and13 cdd13 ctd13), sld13⟩)
    (cd13 : PySem.W.codeIn K cdd13 "_law_answers" = true)
    (kd13 : PySem.W.keepIn K (.ref fd13) = true)
    (ad14 : PySem.W.nsIn K mainGlobals "_law_wins" = some (some (.ref fd14)))
    (ld14 : K.lookup fd14 = some ⟨ocd14, odd14, .func (PySem.W.fnOf "_law_wins" "_law_wins" (defArgs s_LW) (defBody s_LW) (defScope s_LW) .none kVd14 dcd14 pmd14 and14 cdd14 ctd14), sld14⟩)
    (cd14 : PySem.W.codeIn K cdd14 "_law_wins" = true)
    (kd14 : PySem.W.keepIn K (.ref fd14) = true)
    (ad15 : PySem.W.nsIn K mainGlobals "_law_done" = some (some (.ref fd15)))
    (ld15 : K.lookup fd15 = some ⟨ocd15, odd15, .func (PySem.W.fnOf "_law_done" "_law_done" (defArgs s_DN) (defBody s_DN) (defScope s_DN) .none kVd15 dcd15 pmd15 and15 cdd15 ctd15), sld15⟩)
    (cd15 : PySem.W.codeIn K cdd15 "_law_done" = true)
    (kd15 : PySem.W.keepIn K (.ref fd15) = true)
    (ad16 : PySem.W.nsIn K mainGlobals "_law_due" = some (some (.ref fd16)))
    (ld16 : K.lookup fd16 = some ⟨ocd16, odd16, .func (PySem.W.fnOf "_law_due" "_law_due" (defArgs s_DU) (defBody s_DU) (defScope s_DU) .none kVd16 dcd16 pmd16 and16 cdd16 ctd16), sld16⟩)
    (cd16 : PySem.W.codeIn K cdd16 "_law_due" = true)
    (kd16 : PySem.W.keepIn K (.ref fd16) = true)
    (ad17 : PySem.W.nsIn K mainGlobals "_law_step" = some (some (.ref fd17)))
    (ld17 : K.lookup fd17 = some ⟨ocd17, odd17, .func (PySem.W.fnOf "_law_step" "_law_step" (defArgs s_SP) (defBody s_SP) (defScope s_SP) .none kVd17 dcd17 pmd17 and17 cdd17 ctd17), sld17⟩)
    (cd17 : PySem.W.codeIn K cdd17 "_law_step" = true)
    (kd17 : PySem.W.keepIn K (.ref fd17) = true)
    (ad18 : PySem.W.nsIn K mainGlobals "_law_is_refused" = some (some (.ref fd18)))
    (ld18 : K.lookup fd18 = some ⟨ocd18, odd18, .func (PySem.W.fnOf "_law_is_refused" "_law_is_refused" (defArgs s_RF) (defBody s_RF) (defScope s_RF) .none kVd18 dcd18 pmd18 and18 cdd18 ctd18), sld18⟩)
    (cd18 : PySem.W.codeIn K cdd18 "_law_is_refused" = true)
    (kd18 : PySem.W.keepIn K (.ref fd18) = true)
    (ad19 : PySem.W.nsIn K mainGlobals "law" = some (some (.ref fd19)))
    (ld19 : K.lookup fd19 = some ⟨ocd19, odd19, .func (PySem.W.fnOf "law" "law" (defArgs s_law81) (defBody s_law81) (defScope s_law81) .none kVd19 dcd19 pmd19 and19 cdd19 ctd19), sld19⟩)
    (cd19 : PySem.W.codeIn K cdd19 "law" = true)
    (kd19 : PySem.W.keepIn K (.ref fd19) = true)
    (aq0 : PySem.W.nsIn K mainGlobals "is_count" = some (some (.ref fq0)))
    (lq0 : K.lookup fq0 = some ⟨ocq0, odq0, .func (PySem.W.fnOf "is_count" "is_count" (defArgs s_is_count) (defBody s_is_count) (defScope s_is_count) (.ref Tq0) kVq0 dcq0 pmq0 anq0 cdq0 ctq0), slq0⟩)
    (cq0 : PySem.W.codeIn K cdq0 "is_count" = true)
    (kq0 : PySem.W.keepIn K (.ref fq0) = true)
    (tlq0 : K.lookup Tq0 = some ⟨tcq0, tdq0, .seq #[Value.int 0 tkq0, Value.none] tnq0, tslq0⟩)
    (aC : PySem.W.nsIn K mainGlobals "Classes" = some (some (.ref C)))
    (amC0 : PySem.W.findIn K (.ref C) "__init__" = some (some (.ref fmC0)))
    (imC0 : PySem.W.isFn K (.ref fmC0) = true)
    (lmC0 : K.lookup fmC0 = some ⟨ocmC0, odmC0, .func (PySem.W.fnOf "__init__" "Classes.__init__" (defArgs s_CI) (defBody s_CI) (defScope s_CI) .none kVmC0 dcmC0 pmmC0 anmC0 cdmC0 ctmC0), slmC0⟩)
    (cmC0 : PySem.W.codeIn K cdmC0 "Classes.__init__" = true)
    (kmC0 : PySem.W.keepIn K (.ref fmC0) = true)
    (amC1 : PySem.W.findIn K (.ref C) "number" = some (some (.ref fmC1)))
    (imC1 : PySem.W.isFn K (.ref fmC1) = true)
    (lmC1 : K.lookup fmC1 = some ⟨ocmC1, odmC1, .func (PySem.W.fnOf "number" "Classes.number" (defArgs s_num) (defBody s_num) (defScope s_num) .none kVmC1 dcmC1 pmmC1 anmC1 cdmC1 ctmC1), slmC1⟩)
    (cmC1 : PySem.W.codeIn K cdmC1 "Classes.number" = true)
    (kmC1 : PySem.W.keepIn K (.ref fmC1) = true)
    (amC2 : PySem.W.findIn K (.ref C) "table" = some (some (.ref fmC2)))
    (imC2 : PySem.W.isFn K (.ref fmC2) = true)
    (lmC2 : K.lookup fmC2 = some ⟨ocmC2, odmC2, .func (PySem.W.fnOf "table" "Classes.table" (defArgs s_tab) (defBody s_tab) (defScope s_tab) .none kVmC2 dcmC2 pmmC2 anmC2 cdmC2 ctmC2), slmC2⟩)
    (cmC2 : PySem.W.codeIn K cdmC2 "Classes.table" = true)
    (kmC2 : PySem.W.keepIn K (.ref fmC2) = true)
    (amC3 : PySem.W.findIn K (.ref C) "around" = some (some (.ref fmC3)))
    (imC3 : PySem.W.isFn K (.ref fmC3) = true)
    (lmC3 : K.lookup fmC3 = some ⟨ocmC3, odmC3, .func (PySem.W.fnOf "around" "Classes.around" (defArgs s_aro) (defBody s_aro) (defScope s_aro) .none kVmC3 dcmC3 pmmC3 anmC3 cdmC3 ctmC3), slmC3⟩)
    (cmC3 : PySem.W.codeIn K cdmC3 "Classes.around" = true)
    (kmC3 : PySem.W.keepIn K (.ref fmC3) = true)
    (pgC : PySem.W.plainGet K C Str.empty = true)
    (hdC : PySem.W.hasDictIn K C = true)
    (poC : PySem.W.plainOver K C = true)
    (saC : PySem.W.findIn K (.ref C) "__setattr__" = some (some (.builtin "object.__setattr__")))
    (mkC : PySem.W.makesIn K C = true)
    (kcC : PySem.W.keepIn K (.ref C) = true)
    (nC_known : PySem.W.findIn K (.ref C) "known" = some none)
    (aCS : PySem.W.nsIn K mainGlobals "Sides" = some (some (.ref CS)))
    (amCS0 : PySem.W.findIn K (.ref CS) "__init__" = some (some (.ref fmCS0)))
    (imCS0 : PySem.W.isFn K (.ref fmCS0) = true)
    (lmCS0 : K.lookup fmCS0 = some ⟨ocmCS0, odmCS0, .func (PySem.W.fnOf "__init__" "Sides.__init__" (defArgs s_SI) (defBody s_SI) (defScope s_SI) .none kVmCS0 dcmCS0 pmmCS0 anmCS0 cdmCS0 ctmCS0), slmCS0⟩)
    (cmCS0 : PySem.W.codeIn K cdmCS0 "Sides.__init__" = true)
    (kmCS0 : PySem.W.keepIn K (.ref fmCS0) = true)
    (amCS1 : PySem.W.findIn K (.ref CS) "are_kept" = some (some (.ref fmCS1)))
    (imCS1 : PySem.W.isFn K (.ref fmCS1) = true)
    (lmCS1 : K.lookup fmCS1 = some ⟨ocmCS1, odmCS1, .func (PySem.W.fnOf "are_kept" "Sides.are_kept" (defArgs s_AK) (defBody s_AK) (defScope s_AK) .none kVmCS1 dcmCS1 pmmCS1 anmCS1 cdmCS1 ctmCS1), slmCS1⟩)
    (cmCS1 : PySem.W.codeIn K cdmCS1 "Sides.are_kept" = true)
    (kmCS1 : PySem.W.keepIn K (.ref fmCS1) = true)
    (pgCS : PySem.W.plainGet K CS Str.empty = true)
    (hdCS : PySem.W.hasDictIn K CS = true)
    (poCS : PySem.W.plainOver K CS = true)
    (saCS : PySem.W.findIn K (.ref CS) "__setattr__" = some (some (.builtin "object.__setattr__")))
    (mkCS : PySem.W.makesIn K CS = true)
    (kcCS : PySem.W.keepIn K (.ref CS) = true)
    (nCS_words : PySem.W.findIn K (.ref CS) "words" = some none)
    (nCS_tables : PySem.W.findIn K (.ref CS) "tables" = some none)
    (aCG : PySem.W.nsIn K mainGlobals "Game" = some (some (.ref CG)))
    (amCG0 : PySem.W.findIn K (.ref CG) "__init__" = some (some (.ref fmCG0)))
    (imCG0 : PySem.W.isFn K (.ref fmCG0) = true)
    (lmCG0 : K.lookup fmCG0 = some ⟨ocmCG0, odmCG0, .func (PySem.W.fnOf "__init__" "Game.__init__" (defArgs s_GI) (defBody s_GI) (defScope s_GI) .none kVmCG0 dcmCG0 pmmCG0 anmCG0 cdmCG0 ctmCG0), slmCG0⟩)
    (cmCG0 : PySem.W.codeIn K cdmCG0 "Game.__init__" = true)
    (kmCG0 : PySem.W.keepIn K (.ref fmCG0) = true)
    (amCG1 : PySem.W.findIn K (.ref CG) "_begun" = some (some (.ref fmCG1)))
    (imCG1 : PySem.W.isFn K (.ref fmCG1) = true)
    (lmCG1 : K.lookup fmCG1 = some ⟨ocmCG1, odmCG1, .func (PySem.W.fnOf "_begun" "Game._begun" (defArgs s_Gb) (defBody s_Gb) (defScope s_Gb) .none kVmCG1 dcmCG1 pmmCG1 anmCG1 cdmCG1 ctmCG1), slmCG1⟩)
    (cmCG1 : PySem.W.codeIn K cdmCG1 "Game._begun" = true)
    (kmCG1 : PySem.W.keepIn K (.ref fmCG1) = true)
    (amCG2 : PySem.W.findIn K (.ref CG) "_is_open" = some (some (.ref fmCG2)))
    (imCG2 : PySem.W.isFn K (.ref fmCG2) = true)
    (lmCG2 : K.lookup fmCG2 = some ⟨ocmCG2, odmCG2, .func (PySem.W.fnOf "_is_open" "Game._is_open" (defArgs s_Go) (defBody s_Go) (defScope s_Go) .none kVmCG2 dcmCG2 pmmCG2 anmCG2 cdmCG2 ctmCG2), slmCG2⟩)
    (cmCG2 : PySem.W.codeIn K cdmCG2 "Game._is_open" = true)
    (kmCG2 : PySem.W.keepIn K (.ref fmCG2) = true)
    (amCG3 : PySem.W.findIn K (.ref CG) "_check_place" = some (some (.ref fmCG3)))
    (imCG3 : PySem.W.isFn K (.ref fmCG3) = true)
    (lmCG3 : K.lookup fmCG3 = some ⟨ocmCG3, odmCG3, .func (PySem.W.fnOf "_check_place" "Game._check_place" (defArgs s_CP) (defBody s_CP) (defScope s_CP) .none kVmCG3 dcmCG3 pmmCG3 anmCG3 cdmCG3 ctmCG3), slmCG3⟩)
    (cmCG3 : PySem.W.codeIn K cdmCG3 "Game._check_place" = true)
    (kmCG3 : PySem.W.keepIn K (.ref fmCG3) = true)
    (amCG4 : PySem.W.findIn K (.ref CG) "mark_first" = some (some (.ref fmCG4)))
    (imCG4 : PySem.W.isFn K (.ref fmCG4) = true)
    (lmCG4 : K.lookup fmCG4 = some ⟨ocmCG4, odmCG4, .func (PySem.W.fnOf "mark_first" "Game.mark_first" (defArgs s_MF) (defBody s_MF) (defScope s_MF) .none kVmCG4 dcmCG4 pmmCG4 anmCG4 cdmCG4 ctmCG4), slmCG4⟩)
    (cmCG4 : PySem.W.codeIn K cdmCG4 "Game.mark_first" = true)
    (kmCG4 : PySem.W.keepIn K (.ref fmCG4) = true)
    (amCG5 : PySem.W.findIn K (.ref CG) "mark_back" = some (some (.ref fmCG5)))
    (imCG5 : PySem.W.isFn K (.ref fmCG5) = true)
    (lmCG5 : K.lookup fmCG5 = some ⟨ocmCG5, odmCG5, .func (PySem.W.fnOf "mark_back" "Game.mark_back" (defArgs s_MB) (defBody s_MB) (defScope s_MB) .none kVmCG5 dcmCG5 pmmCG5 anmCG5 cdmCG5 ctmCG5), slmCG5⟩)
    (cmCG5 : PySem.W.codeIn K cdmCG5 "Game.mark_back" = true)
    (kmCG5 : PySem.W.keepIn K (.ref fmCG5) = true)
    (amCG6 : PySem.W.findIn K (.ref CG) "marks_made" = some (some (.ref fmCG6)))
    (imCG6 : PySem.W.isFn K (.ref fmCG6) = true)
    (lmCG6 : K.lookup fmCG6 = some ⟨ocmCG6, odmCG6, .func (PySem.W.fnOf "marks_made" "Game.marks_made" (defArgs s_MM) (defBody s_MM) (defScope s_MM) .none kVmCG6 dcmCG6 pmmCG6 anmCG6 cdmCG6 ctmCG6), slmCG6⟩)
    (cmCG6 : PySem.W.codeIn K cdmCG6 "Game.marks_made" = true)
    (kmCG6 : PySem.W.keepIn K (.ref fmCG6) = true)
    (amCG7 : PySem.W.findIn K (.ref CG) "rounds_left" = some (some (.ref fmCG7)))
    (imCG7 : PySem.W.isFn K (.ref fmCG7) = true)
    (lmCG7 : K.lookup fmCG7 = some ⟨ocmCG7, odmCG7, .func (PySem.W.fnOf "rounds_left" "Game.rounds_left" (defArgs s_Gl) (defBody s_Gl) (defScope s_Gl) .none kVmCG7 dcmCG7 pmmCG7 anmCG7 cdmCG7 ctmCG7), slmCG7⟩)
    (cmCG7 : PySem.W.codeIn K cdmCG7 "Game.rounds_left" = true)
    (kmCG7 : PySem.W.keepIn K (.ref fmCG7) = true)
    (amCG8 : PySem.W.findIn K (.ref CG) "_kept" = some (some (.ref fmCG8)))
    (imCG8 : PySem.W.isFn K (.ref fmCG8) = true)
    (lmCG8 : K.lookup fmCG8 = some ⟨ocmCG8, odmCG8, .func (PySem.W.fnOf "_kept" "Game._kept" (defArgs s_Kp) (defBody s_Kp) (defScope s_Kp) .none kVmCG8 dcmCG8 pmmCG8 anmCG8 cdmCG8 ctmCG8), slmCG8⟩)
    (cmCG8 : PySem.W.codeIn K cdmCG8 "Game._kept" = true)
    (kmCG8 : PySem.W.keepIn K (.ref fmCG8) = true)
    (amCG9 : PySem.W.findIn K (.ref CG) "_couple" = some (some (.ref fmCG9)))
    (imCG9 : PySem.W.isFn K (.ref fmCG9) = true)
    (lmCG9 : K.lookup fmCG9 = some ⟨ocmCG9, odmCG9, .func (PySem.W.fnOf "_couple" "Game._couple" (defArgs s_Gc) (defBody s_Gc) (defScope s_Gc) .none kVmCG9 dcmCG9 pmmCG9 anmCG9 cdmCG9 ctmCG9), slmCG9⟩)
    (cmCG9 : PySem.W.codeIn K cdmCG9 "Game._couple" = true)
    (kmCG9 : PySem.W.keepIn K (.ref fmCG9) = true)
    (amCG10 : PySem.W.findIn K (.ref CG) "_answer" = some (some (.ref fmCG10)))
    (imCG10 : PySem.W.isFn K (.ref fmCG10) = true)
    (lmCG10 : K.lookup fmCG10 = some ⟨ocmCG10, odmCG10, .func (PySem.W.fnOf "_answer" "Game._answer" (defArgs s_An) (defBody s_An) (defScope s_An) .none kVmCG10 dcmCG10 pmmCG10 anmCG10 cdmCG10 ctmCG10), slmCG10⟩)
    (cmCG10 : PySem.W.codeIn K cdmCG10 "Game._answer" = true)
    (kmCG10 : PySem.W.keepIn K (.ref fmCG10) = true)
    (amCG11 : PySem.W.findIn K (.ref CG) "who_wins" = some (some (.ref fmCG11)))
    (imCG11 : PySem.W.isFn K (.ref fmCG11) = true)
    (lmCG11 : K.lookup fmCG11 = some ⟨ocmCG11, odmCG11, .func (PySem.W.fnOf "who_wins" "Game.who_wins" (defArgs s_WW) (defBody s_WW) (defScope s_WW) .none kVmCG11 dcmCG11 pmmCG11 anmCG11 cdmCG11 ctmCG11), slmCG11⟩)
    (cmCG11 : PySem.W.codeIn K cdmCG11 "Game.who_wins" = true)
    (kmCG11 : PySem.W.keepIn K (.ref fmCG11) = true)
    (amCG12 : PySem.W.findIn K (.ref CG) "best_first" = some (some (.ref fmCG12)))
    (imCG12 : PySem.W.isFn K (.ref fmCG12) = true)
    (lmCG12 : K.lookup fmCG12 = some ⟨ocmCG12, odmCG12, .func (PySem.W.fnOf "best_first" "Game.best_first" (defArgs s_BF) (defBody s_BF) (defScope s_BF) .none kVmCG12 dcmCG12 pmmCG12 anmCG12 cdmCG12 ctmCG12), slmCG12⟩)
    (cmCG12 : PySem.W.codeIn K cdmCG12 "Game.best_first" = true)
    (kmCG12 : PySem.W.keepIn K (.ref fmCG12) = true)
    (amCG13 : PySem.W.findIn K (.ref CG) "best_back" = some (some (.ref fmCG13)))
    (imCG13 : PySem.W.isFn K (.ref fmCG13) = true)
    (lmCG13 : K.lookup fmCG13 = some ⟨ocmCG13, odmCG13, .func (PySem.W.fnOf "best_back" "Game.best_back" (defArgs s_BB) (defBody s_BB) (defScope s_BB) .none kVmCG13 dcmCG13 pmmCG13 anmCG13 cdmCG13 ctmCG13), slmCG13⟩)
    (cmCG13 : PySem.W.codeIn K cdmCG13 "Game.best_back" = true)
    (kmCG13 : PySem.W.keepIn K (.ref fmCG13) = true)
    (amCG14 : PySem.W.findIn K (.ref CG) "take_back" = some (some (.ref fmCG14)))
    (imCG14 : PySem.W.isFn K (.ref fmCG14) = true)
    (lmCG14 : K.lookup fmCG14 = some ⟨ocmCG14, odmCG14, .func (PySem.W.fnOf "take_back" "Game.take_back" (defArgs s_TB) (defBody s_TB) (defScope s_TB) .none kVmCG14 dcmCG14 pmmCG14 anmCG14 cdmCG14 ctmCG14), slmCG14⟩)
    (cmCG14 : PySem.W.codeIn K cdmCG14 "Game.take_back" = true)
    (kmCG14 : PySem.W.keepIn K (.ref fmCG14) = true)
    (pgCG : PySem.W.plainGet K CG Str.empty = true)
    (hdCG : PySem.W.hasDictIn K CG = true)
    (poCG : PySem.W.plainOver K CG = true)
    (saCG : PySem.W.findIn K (.ref CG) "__setattr__" = some (some (.builtin "object.__setattr__")))
    (mkCG : PySem.W.makesIn K CG = true)
    (kcCG : PySem.W.keepIn K (.ref CG) = true)
    (nCG__rounds : PySem.W.findIn K (.ref CG) "_rounds" = some none)
    (nCG__words : PySem.W.findIn K (.ref CG) "_words" = some none)
    (nCG__sides : PySem.W.findIn K (.ref CG) "_sides" = some none)
    (nCG__marks : PySem.W.findIn K (.ref CG) "_marks" = some none)
    (aeCR : PySem.W.nsIn K mainGlobals "WordError" = some (some (.ref CR)))
    (xeCR : K.lookup CR = some (excClassObj nmeCR qeCR CR NeCR bseCR bmeCR true sneCR subeCR abeCR coleCR ddeCR k0eCR k1eCR k2eCR k3eCR k5eCR "ValueError.__new__"))
    (reCR : PySem.HandSPX.refsVE bmeCR = true)
    (saeCR : PySem.W.findIn K (.ref CR) "__setattr__" = some (some (.builtin "object.__setattr__")))
    (xceCR : PySem.W.subIn K (.ref CR) (.type "BaseException") = some true)
    (tyeCR : PySem.W.typeIn K (.ref CR) = some (.type "type"))
    (kceCR : PySem.W.keepIn K (.ref CR) = true)
    (gaeCR : PySem.W.findIn K (.ref CR) "__getattribute__" = some (some (.builtin "BaseException.__getattribute__")))
    (ggeCR : PySem.W.findIn K (.ref CR) "__getattr__" = some none)
    (hdeCR : PySem.W.hasDictIn K CR = true)
    (npeCR : PySem.W.findIn K (.ref CR) "place" = some none)
    (nweCR : PySem.W.findIn K (.ref CR) "word" = some none)
    (ineCR : PySem.W.findIn K (.ref CR) "__init__" = some (some (.ref feCR)))
    (fteCR : PySem.W.typeIn K (.ref feCR) = some (.type "function"))
    (fneCR : PySem.W.fnIn K feCR = true)
    (fkeCR : PySem.W.keepIn K (.ref feCR) = true)
    (leCR : K.lookup feCR = some ⟨oceCR, odeCR, .func (PySem.W.fnX "__init__" "WordError.__init__" (defArgs s_WordError) (defBody s_WordError) (defScope s_WordError) [("__class__", cceCR)] (.ref TeCR) kVeCR dceCR pmeCR aneCR (.ref cdaeCR) cteCR), sleCR⟩)
    (ceCR : PySem.W.codeIn K (.ref cdaeCR) "WordError.__init__" = true)
    (ckeCR : K.lookup cdaeCR = some ⟨ccleCR, cddeCR, .fields vseCR, ccseCR⟩)
    (cfeCR : vseCR[2]? = some (.str fileeCR tfeCR))
    (ceeCR : ((l.prog.main.file : Str) == fileeCR) = true)
    (cc_eCR : K.lookup cceCR = some ⟨cleCR, cldeCR, .cell (some (.ref CR)), csleCR⟩)
    (cDeCR : PySem.W.clsIn K CR = some cdDeCR)
    (tleCR : K.lookup TeCR = some ⟨tceCR, tdeCR, .seq #[Value.none] tneCR, tsleCR⟩)
    (tops : (l.prog.main.scope.names.lookup ("super" : Str)).isSome = false)
    (cst : PySem.W.nsIn K cStatics "thirdparty.any" = some none)
    (aeCL : PySem.W.nsIn K mainGlobals "BadLetters" = some (some (.ref CL)))
    (xeCL : K.lookup CL = some (excClassObj nmeCL qeCL CL NeCL bseCL bmeCL true sneCL subeCL abeCL coleCL ddeCL k0eCL k1eCL k2eCL k3eCL k5eCL "ValueError.__new__"))
    (reCL : PySem.HandSPX.refsVE bmeCL = true)
    (saeCL : PySem.W.findIn K (.ref CL) "__setattr__" = some (some (.builtin "object.__setattr__")))
    (xceCL : PySem.W.subIn K (.ref CL) (.type "BaseException") = some true)
    (tyeCL : PySem.W.typeIn K (.ref CL) = some (.type "type"))
    (kceCL : PySem.W.keepIn K (.ref CL) = true)
    (gaeCL : PySem.W.findIn K (.ref CL) "__getattribute__" = some (some (.builtin "BaseException.__getattribute__")))
    (ggeCL : PySem.W.findIn K (.ref CL) "__getattr__" = some none)
    (hdeCL : PySem.W.hasDictIn K CL = true)
    (npeCL : PySem.W.findIn K (.ref CL) "place" = some none)
    (nweCL : PySem.W.findIn K (.ref CL) "word" = some none)
    (ineCL : PySem.W.findIn K (.ref CL) "__init__" = some (some (.ref feCL)))
    (fteCL : PySem.W.typeIn K (.ref feCL) = some (.type "function"))
    (fneCL : PySem.W.fnIn K feCL = true)
    (fkeCL : PySem.W.keepIn K (.ref feCL) = true)
    (leCL : K.lookup feCL = some ⟨oceCL, odeCL, .func (PySem.W.fnX "__init__" "BadLetters.__init__" (defArgs s_BadLetters) (defBody s_BadLetters) (defScope s_BadLetters) [("__class__", cceCL)] (.ref TeCL) kVeCL dceCL pmeCL aneCL (.ref cdaeCL) cteCL), sleCL⟩)
    (ceCL : PySem.W.codeIn K (.ref cdaeCL) "BadLetters.__init__" = true)
    (ckeCL : K.lookup cdaeCL = some ⟨ccleCL, cddeCL, .fields vseCL, ccseCL⟩)
    (cfeCL : vseCL[2]? = some (.str fileeCL tfeCL))
    (ceeCL : ((l.prog.main.file : Str) == fileeCL) = true)
    (cc_eCL : K.lookup cceCL = some ⟨cleCL, cldeCL, .cell (some (.ref CL)), csleCL⟩)
    (cDeCL : PySem.W.clsIn K CL = some cdDeCL)
    (tleCL : K.lookup TeCL = some ⟨tceCL, tdeCL, .seq #[Value.none] tneCL, tsleCL⟩)
    (aeCW : PySem.W.nsIn K mainGlobals "BadWord" = some (some (.ref CW)))
    (xeCW : K.lookup CW = some (excClassObj nmeCW qeCW CW NeCW bseCW bmeCW true sneCW subeCW abeCW coleCW ddeCW k0eCW k1eCW k2eCW k3eCW k5eCW "ValueError.__new__"))
    (reCW : PySem.HandSPX.refsVE bmeCW = true)
    (saeCW : PySem.W.findIn K (.ref CW) "__setattr__" = some (some (.builtin "object.__setattr__")))
    (xceCW : PySem.W.subIn K (.ref CW) (.type "BaseException") = some true)
    (tyeCW : PySem.W.typeIn K (.ref CW) = some (.type "type"))
    (kceCW : PySem.W.keepIn K (.ref CW) = true)
    (gaeCW : PySem.W.findIn K (.ref CW) "__getattribute__" = some (some (.builtin "BaseException.__getattribute__")))
    (ggeCW : PySem.W.findIn K (.ref CW) "__getattr__" = some none)
    (hdeCW : PySem.W.hasDictIn K CW = true)
    (npeCW : PySem.W.findIn K (.ref CW) "place" = some none)
    (nweCW : PySem.W.findIn K (.ref CW) "word" = some none)
    (ineCW : PySem.W.findIn K (.ref CW) "__init__" = some (some (.ref feCW)))
    (fteCW : PySem.W.typeIn K (.ref feCW) = some (.type "function"))
    (fneCW : PySem.W.fnIn K feCW = true)
    (fkeCW : PySem.W.keepIn K (.ref feCW) = true)
    (leCW : K.lookup feCW = some ⟨oceCW, odeCW, .func (PySem.W.fnX "__init__" "BadWord.__init__" (defArgs s_BadWord) (defBody s_BadWord) (defScope s_BadWord) [("__class__", cceCW)] (.ref TeCW) kVeCW dceCW pmeCW aneCW (.ref cdaeCW) cteCW), sleCW⟩)
    (ceCW : PySem.W.codeIn K (.ref cdaeCW) "BadWord.__init__" = true)
    (ckeCW : K.lookup cdaeCW = some ⟨ccleCW, cddeCW, .fields vseCW, ccseCW⟩)
    (cfeCW : vseCW[2]? = some (.str fileeCW tfeCW))
    (ceeCW : ((l.prog.main.file : Str) == fileeCW) = true)
    (cc_eCW : K.lookup cceCW = some ⟨cleCW, cldeCW, .cell (some (.ref CW)), csleCW⟩)
    (cDeCW : PySem.W.clsIn K CW = some cdDeCW)
    (tleCW : K.lookup TeCW = some ⟨tceCW, tdeCW, .seq #[Value.none] tneCW, tsleCW⟩)
    (aeCB : PySem.W.nsIn K mainGlobals "BadNumber" = some (some (.ref CB)))
    (xeCB : K.lookup CB = some (excClassObj nmeCB qeCB CB NeCB bseCB bmeCB true sneCB subeCB abeCB coleCB ddeCB k0eCB k1eCB k2eCB k3eCB k5eCB "ValueError.__new__"))
    (reCB : PySem.HandSPX.refsVE bmeCB = true)
    (saeCB : PySem.W.findIn K (.ref CB) "__setattr__" = some (some (.builtin "object.__setattr__")))
    (xceCB : PySem.W.subIn K (.ref CB) (.type "BaseException") = some true)
    (tyeCB : PySem.W.typeIn K (.ref CB) = some (.type "type"))
    (kceCB : PySem.W.keepIn K (.ref CB) = true)
    (gaeCB : PySem.W.findIn K (.ref CB) "__getattribute__" = some (some (.builtin "BaseException.__getattribute__")))
    (ggeCB : PySem.W.findIn K (.ref CB) "__getattr__" = some none)
    (hdeCB : PySem.W.hasDictIn K CB = true)
    (npeCB : PySem.W.findIn K (.ref CB) "place" = some none)
    (nweCB : PySem.W.findIn K (.ref CB) "word" = some none)
    (ineCB : PySem.W.findIn K (.ref CB) "__init__" = some (some (.ref feCB)))
    (fteCB : PySem.W.typeIn K (.ref feCB) = some (.type "function"))
    (fneCB : PySem.W.fnIn K feCB = true)
    (fkeCB : PySem.W.keepIn K (.ref feCB) = true)
    (leCB : K.lookup feCB = some ⟨oceCB, odeCB, .func (PySem.W.fnX "__init__" "BadNumber.__init__" (defArgs s_BadNumber) (defBody s_BadNumber) (defScope s_BadNumber) [("__class__", cceCB)] (.ref TeCB) kVeCB dceCB pmeCB aneCB (.ref cdaeCB) cteCB), sleCB⟩)
    (ceCB : PySem.W.codeIn K (.ref cdaeCB) "BadNumber.__init__" = true)
    (ckeCB : K.lookup cdaeCB = some ⟨ccleCB, cddeCB, .fields vseCB, ccseCB⟩)
    (cfeCB : vseCB[2]? = some (.str fileeCB tfeCB))
    (ceeCB : ((l.prog.main.file : Str) == fileeCB) = true)
    (cc_eCB : K.lookup cceCB = some ⟨cleCB, cldeCB, .cell (some (.ref CB)), csleCB⟩)
    (cDeCB : PySem.W.clsIn K CB = some cdDeCB)
    (tleCB : K.lookup TeCB = some ⟨tceCB, tdeCB, .seq #[Value.none] tneCB, tsleCB⟩)
    (aeCU : PySem.W.nsIn K mainGlobals "Unlike" = some (some (.ref CU)))
    (xeCU : K.lookup CU = some (excClassObj nmeCU qeCU CU NeCU bseCU bmeCU true sneCU subeCU abeCU coleCU ddeCU k0eCU k1eCU k2eCU k3eCU k5eCU "ValueError.__new__"))
    (reCU : PySem.HandSPX.refsVE bmeCU = true)
    (saeCU : PySem.W.findIn K (.ref CU) "__setattr__" = some (some (.builtin "object.__setattr__")))
    (xceCU : PySem.W.subIn K (.ref CU) (.type "BaseException") = some true)
    (tyeCU : PySem.W.typeIn K (.ref CU) = some (.type "type"))
    (kceCU : PySem.W.keepIn K (.ref CU) = true)
    (gaeCU : PySem.W.findIn K (.ref CU) "__getattribute__" = some (some (.builtin "BaseException.__getattribute__")))
    (ggeCU : PySem.W.findIn K (.ref CU) "__getattr__" = some none)
    (hdeCU : PySem.W.hasDictIn K CU = true)
    (npeCU : PySem.W.findIn K (.ref CU) "place" = some none)
    (nweCU : PySem.W.findIn K (.ref CU) "word" = some none)
    (ineCU : PySem.W.findIn K (.ref CU) "__init__" = some (some (.ref feCU)))
    (fteCU : PySem.W.typeIn K (.ref feCU) = some (.type "function"))
    (fneCU : PySem.W.fnIn K feCU = true)
    (fkeCU : PySem.W.keepIn K (.ref feCU) = true)
    (leCU : K.lookup feCU = some ⟨oceCU, odeCU, .func (PySem.W.fnX "__init__" "Unlike.__init__" (defArgs s_Unlike) (defBody s_Unlike) (defScope s_Unlike) [("__class__", cceCU)] (.ref TeCU) kVeCU dceCU pmeCU aneCU (.ref cdaeCU) cteCU), sleCU⟩)
    (ceCU : PySem.W.codeIn K (.ref cdaeCU) "Unlike.__init__" = true)
    (ckeCU : K.lookup cdaeCU = some ⟨ccleCU, cddeCU, .fields vseCU, ccseCU⟩)
    (cfeCU : vseCU[2]? = some (.str fileeCU tfeCU))
    (ceeCU : ((l.prog.main.file : Str) == fileeCU) = true)
    (cc_eCU : K.lookup cceCU = some ⟨cleCU, cldeCU, .cell (some (.ref CU)), csleCU⟩)
    (cDeCU : PySem.W.clsIn K CU = some cdDeCU)
    (tleCU : K.lookup TeCU = some ⟨tceCU, tdeCU, .seq #[Value.none] tneCU, tsleCU⟩)
    (aeCN : PySem.W.nsIn K mainGlobals "NothingThere" = some (some (.ref CN)))
    (xeCN : K.lookup CN = some (excClassObj nmeCN qeCN CN NeCN bseCN bmeCN true sneCN subeCN abeCN coleCN ddeCN k0eCN k1eCN k2eCN k3eCN k5eCN "ValueError.__new__"))
    (reCN : PySem.HandSPX.refsVE bmeCN = true)
    (saeCN : PySem.W.findIn K (.ref CN) "__setattr__" = some (some (.builtin "object.__setattr__")))
    (xceCN : PySem.W.subIn K (.ref CN) (.type "BaseException") = some true)
    (tyeCN : PySem.W.typeIn K (.ref CN) = some (.type "type"))
    (kceCN : PySem.W.keepIn K (.ref CN) = true)
    (gaeCN : PySem.W.findIn K (.ref CN) "__getattribute__" = some (some (.builtin "BaseException.__getattribute__")))
    (ggeCN : PySem.W.findIn K (.ref CN) "__getattr__" = some none)
    (hdeCN : PySem.W.hasDictIn K CN = true)
    (npeCN : PySem.W.findIn K (.ref CN) "place" = some none)
    (nweCN : PySem.W.findIn K (.ref CN) "word" = some none)
    (ineCN : PySem.W.findIn K (.ref CN) "__init__" = some (some (.ref feCN)))
    (fteCN : PySem.W.typeIn K (.ref feCN) = some (.type "function"))
    (fneCN : PySem.W.fnIn K feCN = true)
    (fkeCN : PySem.W.keepIn K (.ref feCN) = true)
    (leCN : K.lookup feCN = some ⟨oceCN, odeCN, .func (PySem.W.fnX "__init__" "NothingThere.__init__" (defArgs s_NothingThere) (defBody s_NothingThere) (defScope s_NothingThere) [("__class__", cceCN)] (.ref TeCN) kVeCN dceCN pmeCN aneCN (.ref cdaeCN) cteCN), sleCN⟩)
    (ceCN : PySem.W.codeIn K (.ref cdaeCN) "NothingThere.__init__" = true)
    (ckeCN : K.lookup cdaeCN = some ⟨ccleCN, cddeCN, .fields vseCN, ccseCN⟩)
    (cfeCN : vseCN[2]? = some (.str fileeCN tfeCN))
    (ceeCN : ((l.prog.main.file : Str) == fileeCN) = true)
    (cc_eCN : K.lookup cceCN = some ⟨cleCN, cldeCN, .cell (some (.ref CN)), csleCN⟩)
    (cDeCN : PySem.W.clsIn K CN = some cdDeCN)
    (tleCN : K.lookup TeCN = some ⟨tceCN, tdeCN, .seq #[Value.none] tneCN, tsleCN⟩)
    (mvCL : PySem.W.mroIn K CL (.ref CL) = some true)
    (mrCL : PySem.W.mroIn K CL (.ref CR) = some true)
    (veCL : PySem.W.subIn K (.ref CL) (.type "ValueError") = some true)
    (s1CL : PySem.W.ks_superIn K CL CL "__init__" = some (some (.ref feCR)))
    (s2CL : PySem.W.ks_superIn K CL CR "__init__" = some (some (.builtin veI)))
    (mvCW : PySem.W.mroIn K CW (.ref CW) = some true)
    (mrCW : PySem.W.mroIn K CW (.ref CR) = some true)
    (veCW : PySem.W.subIn K (.ref CW) (.type "ValueError") = some true)
    (s1CW : PySem.W.ks_superIn K CW CW "__init__" = some (some (.ref feCR)))
    (s2CW : PySem.W.ks_superIn K CW CR "__init__" = some (some (.builtin veI)))
    (mvCB : PySem.W.mroIn K CB (.ref CB) = some true)
    (mrCB : PySem.W.mroIn K CB (.ref CR) = some true)
    (veCB : PySem.W.subIn K (.ref CB) (.type "ValueError") = some true)
    (s1CB : PySem.W.ks_superIn K CB CB "__init__" = some (some (.ref feCR)))
    (s2CB : PySem.W.ks_superIn K CB CR "__init__" = some (some (.builtin veI)))
    (mvCU : PySem.W.mroIn K CU (.ref CU) = some true)
    (mrCU : PySem.W.mroIn K CU (.ref CR) = some true)
    (veCU : PySem.W.subIn K (.ref CU) (.type "ValueError") = some true)
    (s1CU : PySem.W.ks_superIn K CU CU "__init__" = some (some (.ref feCR)))
    (s2CU : PySem.W.ks_superIn K CU CR "__init__" = some (some (.builtin veI)))
    (mvCN : PySem.W.mroIn K CN (.ref CN) = some true)
    (mrCN : PySem.W.mroIn K CN (.ref CR) = some true)
    (veCN : PySem.W.subIn K (.ref CN) (.type "ValueError") = some true)
    (s1CN : PySem.W.ks_superIn K CN CN "__init__" = some (some (.ref feCR)))
    (s2CN : PySem.W.ks_superIn K CN CR "__init__" = some (some (.builtin veI)))
    (sx_CL_CL : PySem.W.subIn K (.ref CL) (.ref CL) = some true)
    (ic_CL : PySem.W.isClsIn K CL = true)
    (sx_CW_CL : PySem.W.subIn K (.ref CW) (.ref CL) = some false)
    (sx_CW_CW : PySem.W.subIn K (.ref CW) (.ref CW) = some true)
    (ic_CW : PySem.W.isClsIn K CW = true)
    (sx_CB_CB : PySem.W.subIn K (.ref CB) (.ref CB) = some true)
    (ic_CB : PySem.W.isClsIn K CB = true)
    (sx_CU_CB : PySem.W.subIn K (.ref CU) (.ref CB) = some false)
    (sx_CU_CU : PySem.W.subIn K (.ref CU) (.ref CU) = some true)
    (ic_CU : PySem.W.isClsIn K CU = true)
    (sx_CN_CB : PySem.W.subIn K (.ref CN) (.ref CB) = some false)
    (sx_CN_CU : PySem.W.subIn K (.ref CN) (.ref CU) = some false)
    (sx_CN_CN : PySem.W.subIn K (.ref CN) (.ref CN) = some true)
    (ic_CN : PySem.W.isClsIn K CN = true)
    (g_SMALL : PySem.W.nsIn K mainGlobals "SMALL" = some (some (.str small tg_SMALL)))
    (g_LETTERS_MOST : PySem.W.nsIn K mainGlobals "LETTERS_MOST" = some (some (.int 3 tg_LETTERS_MOST)))
    (g_WORD_MOST : PySem.W.nsIn K mainGlobals "WORD_MOST" = some (some (.int 60 tg_WORD_MOST)))
    (z_len : PySem.W.nsIn K mainGlobals "len" = some none)
    (z_abs : PySem.W.nsIn K mainGlobals "abs" = some none)
    (z_int : PySem.W.nsIn K mainGlobals "int" = some none)
    (z_list : PySem.W.nsIn K mainGlobals "list" = some none)
    (z_range : PySem.W.nsIn K mainGlobals "range" = some none)
    (z_repr : PySem.W.nsIn K mainGlobals "repr" = some none)
    (z_isinstance : PySem.W.nsIn K mainGlobals "isinstance" = some none)
    (z_str : PySem.W.nsIn K mainGlobals "str" = some none)
    (z_all : PySem.W.nsIn K mainGlobals "all" = some none)
    (z_any : PySem.W.nsIn K mainGlobals "any" = some none)
    (z_zip : PySem.W.nsIn K mainGlobals "zip" = some none)
    (z_tuple : PySem.W.nsIn K mainGlobals "tuple" = some none)
    (z_ord : PySem.W.nsIn K mainGlobals "ord" = some none)
    (z_sorted : PySem.W.nsIn K mainGlobals "sorted" = some none)
    (z_set : PySem.W.nsIn K mainGlobals "set" = some none)
    (z_super : PySem.W.nsIn K mainGlobals "super" = some none)
    (z_bool : PySem.W.nsIn K mainGlobals "bool" = some none)
    (z_dict : PySem.W.nsIn K mainGlobals "dict" = some none)
    : ∃ fd : FuncData, (∀ (s : Shared) (v : Value), BindsTo s fd ⟨[v], []⟩ [("script", v)]) ∧ ∀ base : Heap, K.In base → base.Ns mainGlobals mg → FnG l.prog w K mg base CX0 12 fa fd ["script"] (spLaw K) := by
  have efa := hfa.symm.trans (PySem.W.mg_of X G ad19)
  cases efa
  have D_is_integer : Def K mg "is_integer" s_is_integer fd0 _ ["value"] := ⟨fun_mk (st := s_is_integer) ld0 cd0 kd0, PySem.W.mg_of X G ad0, (fun_mk (st := s_is_integer) ld0 cd0 kd0).binds (ps := ["value"]) fun _ _ _ _ _ _ us hl => match us, hl with | [_], _ => rfl⟩
  have D_is_letters : Def K mg "is_letters" s_is_letters fd1 _ ["value"] := ⟨fun_mk (st := s_is_letters) ld1 cd1 kd1, PySem.W.mg_of X G ad1, (fun_mk (st := s_is_letters) ld1 cd1 kd1).binds (ps := ["value"]) fun _ _ _ _ _ _ us hl => match us, hl with | [_], _ => rfl⟩
  have D_check_letters : Def K mg "check_letters" s_check_letters fd2 _ ["letters"] := ⟨fun_mk (st := s_check_letters) ld2 cd2 kd2, PySem.W.mg_of X G ad2, (fun_mk (st := s_check_letters) ld2 cd2 kd2).binds (ps := ["letters"]) fun _ _ _ _ _ _ us hl => match us, hl with | [_], _ => rfl⟩
  have D_is_word : Def K mg "is_word" s_is_word fd3 _ ["letters", "value"] := ⟨fun_mk (st := s_is_word) ld3 cd3 kd3, PySem.W.mg_of X G ad3, (fun_mk (st := s_is_word) ld3 cd3 kd3).binds (ps := ["letters", "value"]) fun _ _ _ _ _ _ us hl => match us, hl with | [_, _], _ => rfl⟩
  have D_check_game_words : Def K mg "check_game_words" s_check_game_words fd4 _ ["letters", "words"] := ⟨fun_mk (st := s_check_game_words) ld4 cd4 kd4, PySem.W.mg_of X G ad4, (fun_mk (st := s_check_game_words) ld4 cd4 kd4).binds (ps := ["letters", "words"]) fun _ _ _ _ _ _ us hl => match us, hl with | [_, _], _ => rfl⟩
  have D_class_of : Def K mg "class_of" s_class_of fd5 _ ["classes", "k", "w"] := ⟨fun_mk (st := s_class_of) ld5 cd5 kd5, PySem.W.mg_of X G ad5, (fun_mk (st := s_class_of) ld5 cd5 kd5).binds (ps := ["classes", "k", "w"]) fun _ _ _ _ _ _ us hl => match us, hl with | [_, _, _], _ => rfl⟩
  have D_kept_by : Def K mg "kept_by" s_kept_by fd6 _ ["letters", "k", "v", "w"] := ⟨fun_mk (st := s_kept_by) ld6 cd6 kd6, PySem.W.mg_of X G ad6, (fun_mk (st := s_kept_by) ld6 cd6 kd6).binds (ps := ["letters", "k", "v", "w"]) fun _ _ _ _ _ _ us hl => match us, hl with | [_, _, _, _], _ => rfl⟩
  have D_law_deck : Def K mg "_law_deck" s_deck fd7 _ ["script"] := ⟨fun_mk (st := s_deck) ld7 cd7 kd7, PySem.W.mg_of X G ad7, (fun_mk (st := s_deck) ld7 cd7 kd7).binds (ps := ["script"]) fun _ _ _ _ _ _ us hl => match us, hl with | [_], _ => rfl⟩
  have D_law_draw : Def K mg "_law_draw" s_draw fd8 _ ["deck", "bound"] := ⟨fun_mk (st := s_draw) ld8 cd8 kd8, PySem.W.mg_of X G ad8, (fun_mk (st := s_draw) ld8 cd8 kd8).binds (ps := ["deck", "bound"]) fun _ _ _ _ _ _ us hl => match us, hl with | [_, _], _ => rfl⟩
  have D_law_is : Def K mg "_law_is" s_is fd9 _ ["value", "due"] := ⟨fun_mk (st := s_is) ld9 cd9 kd9, PySem.W.mg_of X G ad9, (fun_mk (st := s_is) ld9 cd9 kd9).binds (ps := ["value", "due"]) fun _ _ _ _ _ _ us hl => match us, hl with | [_, _], _ => rfl⟩
  have D_law_word : Def K mg "_law_word" s_word fd10 _ ["deck", "letters", "most"] := ⟨fun_mk (st := s_word) ld10 cd10 kd10, PySem.W.mg_of X G ad10, (fun_mk (st := s_word) ld10 cd10 kd10).binds (ps := ["deck", "letters", "most"]) fun _ _ _ _ _ _ us hl => match us, hl with | [_, _, _], _ => rfl⟩
  have D_law_near : Def K mg "_law_near" s_near fd11 _ ["deck", "letters", "most"] := ⟨fun_mk (st := s_near) ld11 cd11 kd11, PySem.W.mg_of X G ad11, (fun_mk (st := s_near) ld11 cd11 kd11).binds (ps := ["deck", "letters", "most"]) fun _ _ _ _ _ _ us hl => match us, hl with | [_, _, _], _ => rfl⟩
  have D_law_fair : Def K mg "_law_fair" s_fair fd12 _ ["v", "w", "marks"] := ⟨fun_mk (st := s_fair) ld12 cd12 kd12, PySem.W.mg_of X G ad12, (fun_mk (st := s_fair) ld12 cd12 kd12).binds (ps := ["v", "w", "marks"]) fun _ _ _ _ _ _ us hl => match us, hl with | [_, _, _], _ => rfl⟩
  have D_law_answers : Def K mg "_law_answers" s_LA fd13 _ ["v", "w", "marks", "which", "x", "k"] := ⟨fun_mk (st := s_LA) ld13 cd13 kd13, PySem.W.mg_of X G ad13, (fun_mk (st := s_LA) ld13 cd13 kd13).binds (ps := ["v", "w", "marks", "which", "x", "k"]) fun _ _ _ _ _ _ us hl => match us, hl with | [_, _, _, _, _, _], _ => rfl⟩
  have D_law_wins : Def K mg "_law_wins" s_LW fd14 _ ["v", "w", "marks", "k"] := ⟨fun_mk (st := s_LW) ld14 cd14 kd14, PySem.W.mg_of X G ad14, (fun_mk (st := s_LW) ld14 cd14 kd14).binds (ps := ["v", "w", "marks", "k"]) fun _ _ _ _ _ _ us hl => match us, hl with | [_, _, _, _], _ => rfl⟩
  have D_law_done : Def K mg "_law_done" s_DN fd15 _ ["game", "kind", "which", "place"] := ⟨fun_mk (st := s_DN) ld15 cd15 kd15, PySem.W.mg_of X G ad15, (fun_mk (st := s_DN) ld15 cd15 kd15).binds (ps := ["game", "kind", "which", "place"]) fun _ _ _ _ _ _ us hl => match us, hl with | [_, _, _, _], _ => rfl⟩
  have D_law_due : Def K mg "_law_due" s_DU fd16 _ ["v", "w", "marks", "k", "open_mark"] := ⟨fun_mk (st := s_DU) ld16 cd16 kd16, PySem.W.mg_of X G ad16, (fun_mk (st := s_DU) ld16 cd16 kd16).binds (ps := ["v", "w", "marks", "k", "open_mark"]) fun _ _ _ _ _ _ us hl => match us, hl with | [_, _, _, _, _], _ => rfl⟩
  have D_law_step : Def K mg "_law_step" s_SP fd17 _ ["deck", "game", "v", "w", "marks", "k", "open_mark"] := ⟨fun_mk (st := s_SP) ld17 cd17 kd17, PySem.W.mg_of X G ad17, (fun_mk (st := s_SP) ld17 cd17 kd17).binds (ps := ["deck", "game", "v", "w", "marks", "k", "open_mark"]) fun _ _ _ _ _ _ us hl => match us, hl with | [_, _, _, _, _, _, _], _ => rfl⟩
  have D_law_is_refused : Def K mg "_law_is_refused" s_RF fd18 _ ["deck", "game", "open_mark", "w"] := ⟨fun_mk (st := s_RF) ld18 cd18 kd18, PySem.W.mg_of X G ad18, (fun_mk (st := s_RF) ld18 cd18 kd18).binds (ps := ["deck", "game", "open_mark", "w"]) fun _ _ _ _ _ _ us hl => match us, hl with | [_, _, _, _], _ => rfl⟩
  have D_law : Def K mg "law" s_law81 fa _ ["script"] := ⟨fun_mk (st := s_law81) ld19 cd19 kd19, PySem.W.mg_of X G ad19, (fun_mk (st := s_law81) ld19 cd19 kd19).binds (ps := ["script"]) fun _ _ _ _ _ _ us hl => match us, hl with | [_], _ => rfl⟩
  have FD_is_count : FunD K "is_count" "is_count" (defArgs s_is_count) (defBody s_is_count) (defScope s_is_count) [.int 0, .non] [] fq0 _ := ⟨⟨_, _, _, _, _, _, _, _, _, _, rfl, lq0, cq0, .inr ⟨by simp, Tq0, _, [Value.int 0 tkq0, Value.none], _, rfl, tlq0, rfl, .cons ⟨_, rfl⟩ (.cons rfl .nil)⟩, .inl rfl⟩, kq0⟩
  have BD_is_count : Binds K (PySem.W.fnOf "is_count" "is_count" (defArgs s_is_count) (defBody s_is_count) (defScope s_is_count) (.ref Tq0) kVq0 dcq0 pmq0 anq0 cdq0 ctq0) ["value", "least", "most"] [] := binds_def tlq0 rfl fun us hl => match us, hl with | [_, _, _], _ => ⟨_, rfl, rfl⟩
  have F_C_init := fun_mk (st := s_CI) lmC0 cmC0 kmC0
  have b_C_init := F_C_init.binds (ps := ["self"]) fun _ _ _ _ _ _ us hl => match us, hl with | [_], _ => rfl
  have M_C_init : Meth K C "__init__" fmC0 := ⟨amC0, imC0, kmC0⟩
  have F_C_number := fun_mk (st := s_num) lmC1 cmC1 kmC1
  have b_C_number := F_C_number.binds (ps := ["self", "k", "around"]) fun _ _ _ _ _ _ us hl => match us, hl with | [_, _, _], _ => rfl
  have M_C_number : Meth K C "number" fmC1 := ⟨amC1, imC1, kmC1⟩
  have F_C_table := fun_mk (st := s_tab) lmC2 cmC2 kmC2
  have b_C_table := F_C_table.binds (ps := ["self", "w", "most"]) fun _ _ _ _ _ _ us hl => match us, hl with | [_, _, _], _ => rfl
  have M_C_table : Meth K C "table" fmC2 := ⟨amC2, imC2, kmC2⟩
  have F_C_around := fun_mk (st := s_aro) lmC3 cmC3 kmC3
  have b_C_around := F_C_around.binds (ps := ["self", "w", "made", "k", "low", "high"]) fun _ _ _ _ _ _ us hl => match us, hl with | [_, _, _, _, _, _], _ => rfl
  have M_C_around : Meth K C "around" fmC3 := ⟨amC3, imC3, kmC3⟩
  have C_C : Cls K C := ⟨pgC, hdC, poC, saC⟩
  have F_CS_init := fun_mk (st := s_SI) lmCS0 cmCS0 kmCS0
  have b_CS_init := F_CS_init.binds (ps := ["self", "v", "w", "k"]) fun _ _ _ _ _ _ us hl => match us, hl with | [_, _, _, _], _ => rfl
  have M_CS_init : Meth K CS "__init__" fmCS0 := ⟨amCS0, imCS0, kmCS0⟩
  have F_CS_are_kept := fun_mk (st := s_AK) lmCS1 cmCS1 kmCS1
  have b_CS_are_kept := F_CS_are_kept.binds (ps := ["self", "k", "one", "two"]) fun _ _ _ _ _ _ us hl => match us, hl with | [_, _, _, _], _ => rfl
  have M_CS_are_kept : Meth K CS "are_kept" fmCS1 := ⟨amCS1, imCS1, kmCS1⟩
  have C_CS : Cls K CS := ⟨pgCS, hdCS, poCS, saCS⟩
  have F_CG_init := fun_mk (st := s_GI) lmCG0 cmCG0 kmCG0
  have b_CG_init := F_CG_init.binds (ps := ["self", "letters", "k", "v", "w"]) fun _ _ _ _ _ _ us hl => match us, hl with | [_, _, _, _, _], _ => rfl
  have M_CG_init : Meth K CG "__init__" fmCG0 := ⟨amCG0, imCG0, kmCG0⟩
  have F_CG_begun := fun_mk (st := s_Gb) lmCG1 cmCG1 kmCG1
  have b_CG_begun := F_CG_begun.binds (ps := ["self"]) fun _ _ _ _ _ _ us hl => match us, hl with | [_], _ => rfl
  have M_CG_begun : Meth K CG "_begun" fmCG1 := ⟨amCG1, imCG1, kmCG1⟩
  have F_CG_is_open := fun_mk (st := s_Go) lmCG2 cmCG2 kmCG2
  have b_CG_is_open := F_CG_is_open.binds (ps := ["self"]) fun _ _ _ _ _ _ us hl => match us, hl with | [_], _ => rfl
  have M_CG_is_open : Meth K CG "_is_open" fmCG2 := ⟨amCG2, imCG2, kmCG2⟩
  have F_CG_check_place := fun_mk (st := s_CP) lmCG3 cmCG3 kmCG3
  have b_CG_check_place := F_CG_check_place.binds (ps := ["self", "which", "place"]) fun _ _ _ _ _ _ us hl => match us, hl with | [_, _, _], _ => rfl
  have M_CG_check_place : Meth K CG "_check_place" fmCG3 := ⟨amCG3, imCG3, kmCG3⟩
  have F_CG_mark_first := fun_mk (st := s_MF) lmCG4 cmCG4 kmCG4
  have b_CG_mark_first := F_CG_mark_first.binds (ps := ["self", "which", "place"]) fun _ _ _ _ _ _ us hl => match us, hl with | [_, _, _], _ => rfl
  have M_CG_mark_first : Meth K CG "mark_first" fmCG4 := ⟨amCG4, imCG4, kmCG4⟩
  have F_CG_mark_back := fun_mk (st := s_MB) lmCG5 cmCG5 kmCG5
  have b_CG_mark_back := F_CG_mark_back.binds (ps := ["self", "place"]) fun _ _ _ _ _ _ us hl => match us, hl with | [_, _], _ => rfl
  have M_CG_mark_back : Meth K CG "mark_back" fmCG5 := ⟨amCG5, imCG5, kmCG5⟩
  have F_CG_marks_made := fun_mk (st := s_MM) lmCG6 cmCG6 kmCG6
  have b_CG_marks_made := F_CG_marks_made.binds (ps := ["self"]) fun _ _ _ _ _ _ us hl => match us, hl with | [_], _ => rfl
  have M_CG_marks_made : Meth K CG "marks_made" fmCG6 := ⟨amCG6, imCG6, kmCG6⟩
  have F_CG_rounds_left := fun_mk (st := s_Gl) lmCG7 cmCG7 kmCG7
  have b_CG_rounds_left := F_CG_rounds_left.binds (ps := ["self"]) fun _ _ _ _ _ _ us hl => match us, hl with | [_], _ => rfl
  have M_CG_rounds_left : Meth K CG "rounds_left" fmCG7 := ⟨amCG7, imCG7, kmCG7⟩
  have F_CG_kept := fun_mk (st := s_Kp) lmCG8 cmCG8 kmCG8
  have b_CG_kept := F_CG_kept.binds (ps := ["self", "marks", "left"]) fun _ _ _ _ _ _ us hl => match us, hl with | [_, _, _], _ => rfl
  have M_CG_kept : Meth K CG "_kept" fmCG8 := ⟨amCG8, imCG8, kmCG8⟩
  have F_CG_couple := fun_mk (st := s_Gc) lmCG9 cmCG9 kmCG9
  have b_CG_couple := F_CG_couple.binds (ps := ["self", "which", "place", "other"]) fun _ _ _ _ _ _ us hl => match us, hl with | [_, _, _, _], _ => rfl
  have M_CG_couple : Meth K CG "_couple" fmCG9 := ⟨amCG9, imCG9, kmCG9⟩
  have F_CG_answer := fun_mk (st := s_An) lmCG10 cmCG10 kmCG10
  have b_CG_answer := F_CG_answer.binds (ps := ["self", "which", "place", "left"]) fun _ _ _ _ _ _ us hl => match us, hl with | [_, _, _, _], _ => rfl
  have M_CG_answer : Meth K CG "_answer" fmCG10 := ⟨amCG10, imCG10, kmCG10⟩
  have F_CG_who_wins := fun_mk (st := s_WW) lmCG11 cmCG11 kmCG11
  have b_CG_who_wins := F_CG_who_wins.binds (ps := ["self"]) fun _ _ _ _ _ _ us hl => match us, hl with | [_], _ => rfl
  have M_CG_who_wins : Meth K CG "who_wins" fmCG11 := ⟨amCG11, imCG11, kmCG11⟩
  have F_CG_best_first := fun_mk (st := s_BF) lmCG12 cmCG12 kmCG12
  have b_CG_best_first := F_CG_best_first.binds (ps := ["self"]) fun _ _ _ _ _ _ us hl => match us, hl with | [_], _ => rfl
  have M_CG_best_first : Meth K CG "best_first" fmCG12 := ⟨amCG12, imCG12, kmCG12⟩
  have F_CG_best_back := fun_mk (st := s_BB) lmCG13 cmCG13 kmCG13
  have b_CG_best_back := F_CG_best_back.binds (ps := ["self"]) fun _ _ _ _ _ _ us hl => match us, hl with | [_], _ => rfl
  have M_CG_best_back : Meth K CG "best_back" fmCG13 := ⟨amCG13, imCG13, kmCG13⟩
  have F_CG_take_back := fun_mk (st := s_TB) lmCG14 cmCG14 kmCG14
  have b_CG_take_back := F_CG_take_back.binds (ps := ["self"]) fun _ _ _ _ _ _ us hl => match us, hl with | [_], _ => rfl
  have M_CG_take_back : Meth K CG "take_back" fmCG14 := ⟨amCG14, imCG14, kmCG14⟩
  have C_CG : Cls K CG := ⟨pgCG, hdCG, poCG, saCG⟩
  have S_CR : SFun l.prog K "__init__" "WordError.__init__" s_WordError CR feCR _ := ⟨⟨_, _, _, _, _, _, _, _, _, _, _, _, _, _, _, _, _, _, _, _, _, _, rfl, leCR, ceCR, ckeCR, cfeCR, ceeCR, cc_eCR, cDeCR, rfl, rfl⟩, tops, fkeCR, fneCR, fteCR⟩
  have B_CR : Binds K (PySem.W.fnX "__init__" "WordError.__init__" (defArgs s_WordError) (defBody s_WordError) (defScope s_WordError) [("__class__", cceCR)] (.ref TeCR) kVeCR dceCR pmeCR aneCR (.ref cdaeCR) cteCR) ["self", "word", "place"] [] := binds_def tleCR rfl fun us hl => match us, hl with | [_, _, _], _ => ⟨_, rfl, rfl⟩
  have O_CR : OexC K CR := ⟨⟨_, _, _, _, _, _, _, _, _, _, _, _, _, _, _, xeCR, reCR⟩, saeCR, xceCR, tyeCR, kceCR⟩
  have XF_CR : XfC K CR := ⟨gaeCR, ggeCR, xceCR, hdeCR⟩
  have S_CL : SFun l.prog K "__init__" "BadLetters.__init__" s_BadLetters CL feCL _ := ⟨⟨_, _, _, _, _, _, _, _, _, _, _, _, _, _, _, _, _, _, _, _, _, _, rfl, leCL, ceCL, ckeCL, cfeCL, ceeCL, cc_eCL, cDeCL, rfl, rfl⟩, tops, fkeCL, fneCL, fteCL⟩
  have B_CL : Binds K (PySem.W.fnX "__init__" "BadLetters.__init__" (defArgs s_BadLetters) (defBody s_BadLetters) (defScope s_BadLetters) [("__class__", cceCL)] (.ref TeCL) kVeCL dceCL pmeCL aneCL (.ref cdaeCL) cteCL) ["self", "place"] [] := binds_def tleCL rfl fun us hl => match us, hl with | [_, _], _ => ⟨_, rfl, rfl⟩
  have O_CL : OexC K CL := ⟨⟨_, _, _, _, _, _, _, _, _, _, _, _, _, _, _, xeCL, reCL⟩, saeCL, xceCL, tyeCL, kceCL⟩
  have XF_CL : XfC K CL := ⟨gaeCL, ggeCL, xceCL, hdeCL⟩
  have S_CW : SFun l.prog K "__init__" "BadWord.__init__" s_BadWord CW feCW _ := ⟨⟨_, _, _, _, _, _, _, _, _, _, _, _, _, _, _, _, _, _, _, _, _, _, rfl, leCW, ceCW, ckeCW, cfeCW, ceeCW, cc_eCW, cDeCW, rfl, rfl⟩, tops, fkeCW, fneCW, fteCW⟩
  have B_CW : Binds K (PySem.W.fnX "__init__" "BadWord.__init__" (defArgs s_BadWord) (defBody s_BadWord) (defScope s_BadWord) [("__class__", cceCW)] (.ref TeCW) kVeCW dceCW pmeCW aneCW (.ref cdaeCW) cteCW) ["self", "place"] [] := binds_def tleCW rfl fun us hl => match us, hl with | [_, _], _ => ⟨_, rfl, rfl⟩
  have O_CW : OexC K CW := ⟨⟨_, _, _, _, _, _, _, _, _, _, _, _, _, _, _, xeCW, reCW⟩, saeCW, xceCW, tyeCW, kceCW⟩
  have XF_CW : XfC K CW := ⟨gaeCW, ggeCW, xceCW, hdeCW⟩
  have S_CB : SFun l.prog K "__init__" "BadNumber.__init__" s_BadNumber CB feCB _ := ⟨⟨_, _, _, _, _, _, _, _, _, _, _, _, _, _, _, _, _, _, _, _, _, _, rfl, leCB, ceCB, ckeCB, cfeCB, ceeCB, cc_eCB, cDeCB, rfl, rfl⟩, tops, fkeCB, fneCB, fteCB⟩
  have B_CB : Binds K (PySem.W.fnX "__init__" "BadNumber.__init__" (defArgs s_BadNumber) (defBody s_BadNumber) (defScope s_BadNumber) [("__class__", cceCB)] (.ref TeCB) kVeCB dceCB pmeCB aneCB (.ref cdaeCB) cteCB) ["self", "place"] [] := binds_def tleCB rfl fun us hl => match us, hl with | [_, _], _ => ⟨_, rfl, rfl⟩
  have O_CB : OexC K CB := ⟨⟨_, _, _, _, _, _, _, _, _, _, _, _, _, _, _, xeCB, reCB⟩, saeCB, xceCB, tyeCB, kceCB⟩
  have XF_CB : XfC K CB := ⟨gaeCB, ggeCB, xceCB, hdeCB⟩
  have S_CU : SFun l.prog K "__init__" "Unlike.__init__" s_Unlike CU feCU _ := ⟨⟨_, _, _, _, _, _, _, _, _, _, _, _, _, _, _, _, _, _, _, _, _, _, rfl, leCU, ceCU, ckeCU, cfeCU, ceeCU, cc_eCU, cDeCU, rfl, rfl⟩, tops, fkeCU, fneCU, fteCU⟩
  have B_CU : Binds K (PySem.W.fnX "__init__" "Unlike.__init__" (defArgs s_Unlike) (defBody s_Unlike) (defScope s_Unlike) [("__class__", cceCU)] (.ref TeCU) kVeCU dceCU pmeCU aneCU (.ref cdaeCU) cteCU) ["self", "place"] [] := binds_def tleCU rfl fun us hl => match us, hl with | [_, _], _ => ⟨_, rfl, rfl⟩
  have DB_CU : Binds K (PySem.W.fnX "__init__" "Unlike.__init__" (defArgs s_Unlike) (defBody s_Unlike) (defScope s_Unlike) [("__class__", cceCU)] (.ref TeCU) kVeCU dceCU pmeCU aneCU (.ref cdaeCU) cteCU) ["self", "place"] [.none] := binds_defD tleCU rfl fun us hl => match us, hl with | [_], _ => ⟨_, rfl, rfl⟩
  have O_CU : OexC K CU := ⟨⟨_, _, _, _, _, _, _, _, _, _, _, _, _, _, _, xeCU, reCU⟩, saeCU, xceCU, tyeCU, kceCU⟩
  have XF_CU : XfC K CU := ⟨gaeCU, ggeCU, xceCU, hdeCU⟩
  have S_CN : SFun l.prog K "__init__" "NothingThere.__init__" s_NothingThere CN feCN _ := ⟨⟨_, _, _, _, _, _, _, _, _, _, _, _, _, _, _, _, _, _, _, _, _, _, rfl, leCN, ceCN, ckeCN, cfeCN, ceeCN, cc_eCN, cDeCN, rfl, rfl⟩, tops, fkeCN, fneCN, fteCN⟩
  have B_CN : Binds K (PySem.W.fnX "__init__" "NothingThere.__init__" (defArgs s_NothingThere) (defBody s_NothingThere) (defScope s_NothingThere) [("__class__", cceCN)] (.ref TeCN) kVeCN dceCN pmeCN aneCN (.ref cdaeCN) cteCN) ["self", "place"] [] := binds_def tleCN rfl fun us hl => match us, hl with | [_, _], _ => ⟨_, rfl, rfl⟩
  have DB_CN : Binds K (PySem.W.fnX "__init__" "NothingThere.__init__" (defArgs s_NothingThere) (defBody s_NothingThere) (defScope s_NothingThere) [("__class__", cceCN)] (.ref TeCN) kVeCN dceCN pmeCN aneCN (.ref cdaeCN) cteCN) ["self", "place"] [.none] := binds_defD tleCN rfl fun us hl => match us, hl with | [_], _ => ⟨_, rfl, rfl⟩
  have O_CN : OexC K CN := ⟨⟨_, _, _, _, _, _, _, _, _, _, _, _, _, _, _, xeCN, reCN⟩, saeCN, xceCN, tyeCN, kceCN⟩
  have XF_CN : XfC K CN := ⟨gaeCN, ggeCN, xceCN, hdeCN⟩
  have P1_CL : Sup K CL CL (.ref feCR) := ⟨mvCL, veCL, s1CL, cst⟩
  have P2_CL : Sup K CL CR (.builtin veI) := ⟨mrCL, veCL, s2CL, cst⟩
  have P1_CW : Sup K CW CW (.ref feCR) := ⟨mvCW, veCW, s1CW, cst⟩
  have P2_CW : Sup K CW CR (.builtin veI) := ⟨mrCW, veCW, s2CW, cst⟩
  have P1_CB : Sup K CB CB (.ref feCR) := ⟨mvCB, veCB, s1CB, cst⟩
  have P2_CB : Sup K CB CR (.builtin veI) := ⟨mrCB, veCB, s2CB, cst⟩
  have P1_CU : Sup K CU CU (.ref feCR) := ⟨mvCU, veCU, s1CU, cst⟩
  have P2_CU : Sup K CU CR (.builtin veI) := ⟨mrCU, veCU, s2CU, cst⟩
  have P1_CN : Sup K CN CN (.ref feCR) := ⟨mvCN, veCN, s1CN, cst⟩
  have P2_CN : Sup K CN CR (.builtin veI) := ⟨mrCN, veCN, s2CN, cst⟩
  have ex_CL_CL := exm_by xceCL ic_CL tyeCL sx_CL_CL
  have ex_CW_CL := exm_by xceCL ic_CL tyeCL sx_CW_CL
  have ex_CW_CW := exm_by xceCW ic_CW tyeCW sx_CW_CW
  have ex_CB_CB := exm_by xceCB ic_CB tyeCB sx_CB_CB
  have ex_CU_CB := exm_by xceCB ic_CB tyeCB sx_CU_CB
  have ex_CU_CU := exm_by xceCU ic_CU tyeCU sx_CU_CU
  have ex_CN_CB := exm_by xceCB ic_CB tyeCB sx_CN_CB
  have ex_CN_CU := exm_by xceCU ic_CU tyeCU sx_CN_CU
  have ex_CN_CN := exm_by xceCN ic_CN tyeCN sx_CN_CN
  have T : Bl mg := ⟨PySem.W.mg_none_of X G z_len, PySem.W.mg_none_of X G z_abs, PySem.W.mg_none_of X G z_int, PySem.W.mg_none_of X G z_list, PySem.W.mg_none_of X G z_range, PySem.W.mg_none_of X G z_repr, PySem.W.mg_none_of X G z_isinstance, PySem.W.mg_none_of X G z_str, PySem.W.mg_none_of X G z_all, PySem.W.mg_none_of X G z_any, PySem.W.mg_none_of X G z_zip, PySem.W.mg_none_of X G z_tuple, PySem.W.mg_none_of X G z_ord, PySem.W.mg_none_of X G z_sorted, PySem.W.mg_none_of X G z_set⟩
  refine ⟨PySem.W.fnOf "law" "law" (defArgs s_law81) (defBody s_law81) (defScope s_law81) .none kVd19 dcd19 pmd19 and19 cdd19 ctd19, fun s v => .of_eq rfl, fun base _ _ => ?_⟩
  have CT : ClsT K mg C := ⟨C_C, nC_known, PySem.W.mg_of X G aC⟩
  have GS : Gs mg := ⟨⟨_, PySem.W.mg_of X G g_SMALL⟩, ⟨_, PySem.W.mg_of X G g_LETTERS_MOST⟩, ⟨_, PySem.W.mg_of X G g_WORD_MOST⟩⟩
  have hsup : mg "super" = none := PySem.W.mg_none_of X G z_super
  have ER := ok_WordError (P := l.prog) (w := w) (mg := mg) (base := base) S_CR hsup
  have EL : ErC l.prog w K mg base "BadLetters" CL := ⟨O_CL, npeCL, PySem.W.mg_of X G aeCL, XF_CL, _, _, ineCL, fteCL, ok_Er S_CL ss_BadLetters hsup rfl (fun _ => rfl) (fun _ => rfl) ER B_CR fneCR fteCR O_CL P1_CL P2_CL nweCL npeCL, B_CL⟩
  have EW : ErC l.prog w K mg base "BadWord" CW := ⟨O_CW, npeCW, PySem.W.mg_of X G aeCW, XF_CW, _, _, ineCW, fteCW, ok_Er S_CW ss_BadWord hsup rfl (fun _ => rfl) (fun _ => rfl) ER B_CR fneCR fteCR O_CW P1_CW P2_CW nweCW npeCW, B_CW⟩
  have c_isl : Cal l.prog w K mg base 1 "is_letters" (spIsL K) := ok_is_letters T GS D_is_letters
  have c_chl : CalX l.prog w K mg base 5 "check_letters" (spChkL K CL CW) := ok_check_letters D_check_letters EL c_isl
  have c_isw : Cal l.prog w K mg base 1 "is_word" (spIsW K) := ok_is_word T GS D_is_word
  have c_chk : CalX l.prog w K mg base 6 "check_game_words" (spChk K CL CW) := ok_check_game_words D_check_game_words EW c_chl c_isw
  have c_num : MCal l.prog w K mg base C "number" 1 (spNum K C) := ⟨_, _, _, ok_num T CT F_C_number, M_C_number, b_C_number⟩
  have c_aro : MCal l.prog w K mg base C "around" 1 (spAro K) := ⟨_, _, _, ok_aro T F_C_around, M_C_around, b_C_around⟩
  have c_tab : MCal l.prog w K mg base C "table" 2 (spTab C) := ⟨_, _, _, ok_tab T CT c_num c_aro F_C_table, M_C_table, b_C_table⟩
  have c_co : Cal l.prog w K mg base 3 "class_of" (spClassOf C) := ok_class_of T CT c_tab D_class_of
  have MK : MkC l.prog w K mg base C (spCI C) := ⟨_, _, ok_CI CT F_C_init, ⟨mkC, amC0, imC0, kcC⟩, b_C_init⟩
  have c_kb : CalX l.prog w K mg base 7 "kept_by" (spKB K CL CW) := ok_kept_by T CT MK c_chk c_co D_kept_by
  have c_deck : Cal l.prog w K mg base 1 "_law_deck" (spDeck K) := ok_deck T D_law_deck
  have c_draw : Cal l.prog w K mg base 1 "_law_draw" (spDraw K) := ok_draw T D_law_draw
  have c_is : CalG l.prog w K mg base 1 "_law_is" (spIs K) := ok_is T D_law_is
  have c_word : Cal l.prog w K mg base 2 "_law_word" (spWord K) := ok_word T D_law_word c_draw
  have EB : ErC l.prog w K mg base "BadNumber" CB := ⟨O_CB, npeCB, PySem.W.mg_of X G aeCB, XF_CB, _, _, ineCB, fteCB, ok_Er S_CB ss_BadNumber hsup rfl (fun _ => rfl) (fun _ => rfl) ER B_CR fneCR fteCR O_CB P1_CB P2_CB nweCB npeCB, B_CB⟩
  have EU0 : ErC l.prog w K mg base "Unlike" CU := ⟨O_CU, npeCU, PySem.W.mg_of X G aeCU, XF_CU, _, _, ineCU, fteCU, ok_Er S_CU ss_Unlike hsup rfl (fun _ => rfl) (fun _ => rfl) ER B_CR fneCR fteCR O_CU P1_CU P2_CU nweCU npeCU, B_CU⟩
  have EN0 : ErC l.prog w K mg base "NothingThere" CN := ⟨O_CN, npeCN, PySem.W.mg_of X G aeCN, XF_CN, _, _, ineCN, fteCN, ok_Er S_CN ss_NothingThere hsup rfl (fun _ => rfl) (fun _ => rfl) ER B_CR fneCR fteCR O_CN P1_CN P2_CN nweCN npeCN, B_CN⟩
  have EU : ErD l.prog w K mg base "Unlike" CU := ⟨EU0, _, _, ineCU, fteCU, ok_Er S_CU ss_Unlike hsup rfl (fun _ => rfl) (fun _ => rfl) ER B_CR fneCR fteCR O_CU P1_CU P2_CU nweCU npeCU, DB_CU⟩
  have EN : ErD l.prog w K mg base "NothingThere" CN := ⟨EN0, _, _, ineCN, fteCN, ok_Er S_CN ss_NothingThere hsup rfl (fun _ => rfl) (fun _ => rfl) ER B_CR fneCR fteCR O_CN P1_CN P2_CN nweCN npeCN, DB_CN⟩
  have ST : SdT K mg CS := ⟨C_CS, nCS_words, nCS_tables, PySem.W.mg_of X G aCS⟩
  have GT : GmT K mg CG := ⟨C_CG, nCG__rounds, nCG__words, nCG__sides, nCG__marks, PySem.W.mg_of X G aCG⟩
  have c_int : Cal l.prog w K mg base 1 "is_integer" (spIsInt K) := ok_is_integer T (PySem.W.mg_none_of X G z_bool) D_is_integer
  have c_cnt : Cal l.prog w K mg base 2 "is_count" (spCount K) := ok_is_count FD_is_count (PySem.W.mg_of X G aq0) BD_is_count c_int
  have m_ak : MCal l.prog w K mg base CS "are_kept" 1 (spAK K CS) := ⟨_, _, _, ok_AK ST F_CS_are_kept, M_CS_are_kept, b_CS_are_kept⟩
  have F_si := ok_SI (P := l.prog) (w := w) (base := base) CT MK ST c_tab F_CS_init
  have m_begun : MCal l.prog w K mg base CG "_begun" 1 (spBeg CG CS fun _ n => .int (((n + 1) / 2 : Nat) : Int)) := ⟨_, _, _, ok_Gb T GT F_CG_begun, M_CG_begun, b_CG_begun⟩
  have m_is_open : MCal l.prog w K mg base CG "_is_open" 1 (spBeg CG CS fun _ n => .bl (decide (n % 2 = 1))) := ⟨_, _, _, ok_Go T GT F_CG_is_open, M_CG_is_open, b_CG_is_open⟩
  have m_rounds_left : MCal l.prog w K mg base CG "rounds_left" 2 (spBeg CG CS fun k n => .int ((k : Int) - (((n + 1) / 2 : Nat) : Int))) := ⟨_, _, _, ok_Gl GT m_begun F_CG_rounds_left, M_CG_rounds_left, b_CG_rounds_left⟩
  have m_couple : MCal l.prog w K mg base CG "_couple" 1 (spCpl) := ⟨_, _, _, ok_Gc F_CG_couple, M_CG_couple, b_CG_couple⟩
  have m_marks_made : MCal l.prog w K mg base CG "marks_made" 1 (spMM CG CS) := ⟨_, _, _, ok_MM T (PySem.W.mg_none_of X G z_dict) GT F_CG_marks_made, M_CG_marks_made, b_CG_marks_made⟩
  have m_kept : MCal l.prog w K mg base CG "_kept" 2 (spKp CG CS) := ⟨_, _, _, ok_Kp T (PySem.W.mg_none_of X G z_set) GT ST m_ak F_CG_kept, M_CG_kept, b_CG_kept⟩
  have m_answer : MCal l.prog w K mg base CG "_answer" 3 (spAn CG CS) := ⟨_, _, _, ok_An T GT m_marks_made m_couple m_kept F_CG_answer, M_CG_answer, b_CG_answer⟩
  have m_best_back : MCal l.prog w K mg base CG "best_back" 4 (spPl CG CS fun v w k rs op => bbV v w k rs op) := ⟨_, _, _, ok_BB T GT m_is_open m_rounds_left m_answer F_CG_best_back, M_CG_best_back, b_CG_best_back⟩
  have m_who_wins : MCal l.prog w K mg base CG "who_wins" 4 (spPl CG CS fun v w k rs op => whoV (keepB v w k rs op)) := ⟨_, _, _, ok_WW T GT m_is_open m_rounds_left m_answer m_marks_made m_kept F_CG_who_wins, M_CG_who_wins, b_CG_who_wins⟩
  have m_best_first : MCal l.prog w K mg base CG "best_first" 4 (spBF CG CS) := ⟨_, _, _, ok_BF T GT m_is_open m_rounds_left m_answer F_CG_best_first, M_CG_best_first, b_CG_best_first⟩
  have m_check_place : MCalX l.prog w K mg base CG "_check_place" 5 (spCP K CG CS CB) := ⟨_, _, _, ok_CP T GT EB c_cnt F_CG_check_place, M_CG_check_place, b_CG_check_place⟩
  have m_mark_first : MCalX l.prog w K mg base CG "mark_first" 6 (spMF K CG CS CB CU CN) := ⟨_, _, _, ok_MF T GT EB EU EN c_cnt m_check_place m_is_open m_rounds_left F_CG_mark_first, M_CG_mark_first, b_CG_mark_first⟩
  have m_mark_back : MCalX l.prog w K mg base CG "mark_back" 6 (spMB K CG CS CB CU CN) := ⟨_, _, _, ok_MB T GT EU m_check_place m_is_open F_CG_mark_back, M_CG_mark_back, b_CG_mark_back⟩
  have m_take_back : MCalX l.prog w K mg base CG "take_back" 6 (spTB CG CS CB CU CN) := ⟨_, _, _, ok_TB GT EN F_CG_take_back, M_CG_take_back, b_CG_take_back⟩
  have F_gi := ok_GI (P := l.prog) (W0 := w) (base := base) GT ST c_chk F_si ⟨mkCS, amCS0, imCS0, kcCS⟩ b_CS_init F_CG_init
  have c_near : Cal l.prog w K mg base 3 "_law_near" (spNear K) := ok_near T D_law_near c_draw c_word
  have c_fair : Cal l.prog w K mg base 1 "_law_fair" (spFair K) := ok_fair T D_law_fair
  have c_a0 : Cal l.prog w K mg base 2 "_law_answers" (spLA 0) := ok_LA T D_law_answers (ok_LW0 D_law_wins)
  have c_w1 : Cal l.prog w K mg base 3 "_law_wins" (spW 1) := ok_LW T D_law_wins c_fair (by decide) c_a0
  have c_a1 : Cal l.prog w K mg base 4 "_law_answers" (spLA 1) := ok_LA T D_law_answers c_w1
  have c_w2 : Cal l.prog w K mg base 5 "_law_wins" (spW 2) := ok_LW T D_law_wins c_fair (by decide) c_a1
  have c_a2 : Cal l.prog w K mg base 6 "_law_answers" (spLA 2) := ok_LA T D_law_answers c_w2
  have c_w3 : Cal l.prog w K mg base 7 "_law_wins" (spW 3) := ok_LW T D_law_wins c_fair (by decide) c_a2
  have c_a3 : Cal l.prog w K mg base 8 "_law_answers" (spLA 3) := ok_LA T D_law_answers c_w3
  have c_w4 : Cal l.prog w K mg base 9 "_law_wins" (spW 4) := ok_LW T D_law_wins c_fair (by decide) c_a3
  have c_due : Cal l.prog w K mg base 10 "_law_due" (spDue CG CS) := ok_DU T (by decide) (by decide) c_a3 c_w4 D_law_due
  have c_done : Cal l.prog w K mg base 7 "_law_done" (spDone K CG CS) := ok_DN GT EB EU0 EN0 ⟨ex_CB_CB, ex_CU_CB, ex_CU_CU, ex_CN_CB, ex_CN_CU, ex_CN_CN⟩ m_mark_first m_mark_back m_take_back D_law_done
  have c_drawM : Cal l.prog w K mg base 1 "_law_draw" (spDrawM K) := ok_drawM T D_law_draw
  have c_step : Cal l.prog w K mg base 8 "_law_step" (spStep K CG CS) := ok_SP T GT c_drawM c_done m_best_first m_best_back D_law_step
  have c_refu : CalG l.prog w K mg base 8 "_law_is_refused" (spRefu K CG CS) := ok_RF T c_drawM c_done c_is D_law_is_refused
  exact ok_law81 T GT EL EW ex_CL_CL ex_CW_CL ex_CW_CW ⟨c_deck, c_draw, c_is, c_near, c_due, c_step, c_refu, c_kb, m_who_wins, m_best_first, m_best_back, m_marks_made, m_rounds_left, _, _, F_gi, ⟨mkCG, amCG0, imCG0, kcCG⟩, b_CG_init⟩ D_law
end Ws

open PySem PySem.W PyProof.Rows
set_option maxRecDepth 100000 in
set_option maxHeartbeats 0 in
theorem PySem.Challenge.cw_wordsaid_k81_whole_games_played_holds : PySem.Challenge.rw_wordsaid_k81_whole_games_played.Holds := by
  w_on; o_law; k_head; (case hw => w_witness2)
  k_fill
  refine Ws.walkG (l := PySem.Challenge.rw_wordsaid_k81_whole_games_played) (n := 63) (k := 12) (x := "script") (sp := Ws.spLaw) rfl (by decide) rfl ⟨rfl, by decide, by decide⟩ (fun w h Y => PySem.W.kIn_of Y) ?F (fun K H a ns hl _ hS => ⟨a, ns, rfl, hS, hl, fun _ => rfl⟩)
  case F =>
    intro w mg fa h KX G hmg
    refine' Ws.all_mk KX G hmg ?ad0 ?ld0 ?cd0 ?kd0 ?ad1 ?ld1 ?cd1 ?kd1 ?ad2 ?ld2 ?cd2 ?kd2 ?ad3 ?ld3 ?cd3 ?kd3 ?ad4 ?ld4 ?cd4 ?kd4 ?ad5 ?ld5 ?cd5 ?kd5 ?ad6 ?ld6 ?cd6 ?kd6 ?ad7 ?ld7 ?cd7 ?kd7 ?ad8 ?ld8 ?cd8 ?kd8 ?ad9 ?ld9 ?cd9 ?kd9 ?ad10 ?ld10 ?cd10 ?kd10 ?ad11 ?ld11 ?cd11 ?kd11 ?ad12 ?ld12 ?cd12 ?kd12 ?ad13 ?ld13 ?cd13 ?kd13 ?ad14 ?ld14 ?cd14 ?kd14 ?ad15 ?ld15 ?cd15 ?kd15 ?ad16 ?ld16 ?cd16 ?kd16 ?ad17 ?ld17 ?cd17 ?kd17 ?ad18 ?ld18 ?cd18 ?kd18 ?ad19 ?ld19 ?cd19 ?kd19 ?aq0 ?lq0 ?cq0 ?kq0 ?tlq0 ?aC ?amC0 ?imC0 ?lmC0 ?cmC0 ?kmC0 ?amC1 ?imC1 ?lmC1 ?cmC1 ?kmC1 ?amC2 ?imC2 ?lmC2 ?cmC2 ?kmC2 ?amC3 ?imC3 ?lmC3 ?cmC3 ?kmC3 ?pgC ?hdC ?poC ?saC ?mkC ?kcC ?nC_known ?aCS ?amCS0 ?imCS0 ?lmCS0 ?cmCS0 ?kmCS0 ?amCS1 ?imCS1 ?lmCS1 ?cmCS1 ?kmCS1 ?pgCS ?hdCS ?poCS ?saCS ?mkCS ?kcCS ?nCS_words ?nCS_tables ?aCG ?amCG0 ?imCG0 ?lmCG0 ?cmCG0 ?kmCG0 ?amCG1 ?imCG1 ?lmCG1 ?cmCG1 ?kmCG1 ?amCG2 ?imCG2 ?lmCG2 ?cmCG2 ?kmCG2 ?amCG3 ?imCG3 ?lmCG3 ?cmCG3 ?kmCG3 ?amCG4 ?imCG4 ?lmCG4 ?cmCG4 ?kmCG4 ?amCG5 ?imCG5 ?lmCG5 ?cmCG5 ?kmCG5 ?amCG6 ?imCG6 ?lmCG6 ?cmCG6 ?kmCG6 ?amCG7 ?imCG7 ?lmCG7 ?cmCG7 ?kmCG7 ?amCG8 ?imCG8 ?lmCG8 ?cmCG8 ?kmCG8 ?amCG9 ?imCG9 ?lmCG9 ?cmCG9 ?kmCG9 ?amCG10 ?imCG10 ?lmCG10 ?cmCG10 ?kmCG10 ?amCG11 ?imCG11 ?lmCG11 ?cmCG11 ?kmCG11 ?amCG12 ?imCG12 ?lmCG12 ?cmCG12 ?kmCG12 ?amCG13 ?imCG13 ?lmCG13 ?cmCG13 ?kmCG13 ?amCG14 ?imCG14 ?lmCG14 ?cmCG14 ?kmCG14 ?pgCG ?hdCG ?poCG ?saCG ?mkCG ?kcCG ?nCG__rounds ?nCG__words ?nCG__sides ?nCG__marks ?aeCR ?xeCR ?reCR ?saeCR ?xceCR ?tyeCR ?kceCR ?gaeCR ?ggeCR ?hdeCR ?npeCR ?nweCR ?ineCR ?fteCR ?fneCR ?fkeCR ?leCR ?ceCR ?ckeCR ?cfeCR ?ceeCR ?cc_eCR ?cDeCR ?tleCR ?tops ?cst ?aeCL ?xeCL ?reCL ?saeCL ?xceCL ?tyeCL ?kceCL ?gaeCL ?ggeCL ?hdeCL ?npeCL ?nweCL ?ineCL ?fteCL ?fneCL ?fkeCL ?leCL ?ceCL ?ckeCL ?cfeCL ?ceeCL ?cc_eCL ?cDeCL ?tleCL ?aeCW ?xeCW ?reCW ?saeCW ?xceCW ?tyeCW ?kceCW ?gaeCW ?ggeCW ?hdeCW ?npeCW ?nweCW ?ineCW ?fteCW ?fneCW ?fkeCW ?leCW ?ceCW ?ckeCW ?cfeCW ?ceeCW ?cc_eCW ?cDeCW ?tleCW ?aeCB ?xeCB ?reCB ?saeCB ?xceCB ?tyeCB ?kceCB ?gaeCB ?ggeCB ?hdeCB ?npeCB ?nweCB ?ineCB ?fteCB ?fneCB ?fkeCB ?leCB ?ceCB ?ckeCB ?cfeCB ?ceeCB ?cc_eCB ?cDeCB ?tleCB ?aeCU ?xeCU ?reCU ?saeCU ?xceCU ?tyeCU ?kceCU ?gaeCU ?ggeCU ?hdeCU ?npeCU ?nweCU ?ineCU ?fteCU ?fneCU ?fkeCU ?leCU ?ceCU ?ckeCU ?cfeCU ?ceeCU ?cc_eCU ?cDeCU ?tleCU ?aeCN ?xeCN ?reCN ?saeCN ?xceCN ?tyeCN ?kceCN ?gaeCN ?ggeCN ?hdeCN ?npeCN ?nweCN ?ineCN ?fteCN ?fneCN ?fkeCN ?leCN ?ceCN ?ckeCN ?cfeCN ?ceeCN ?cc_eCN ?cDeCN ?tleCN ?mvCL ?mrCL ?veCL ?s1CL ?s2CL ?mvCW ?mrCW ?veCW ?s1CW ?s2CW ?mvCB ?mrCB ?veCB ?s1CB ?s2CB ?mvCU ?mrCU ?veCU ?s1CU ?s2CU ?mvCN ?mrCN ?veCN ?s1CN ?s2CN ?sx_CL_CL ?ic_CL ?sx_CW_CL ?sx_CW_CW ?ic_CW ?sx_CB_CB ?ic_CB ?sx_CU_CB ?sx_CU_CU ?ic_CU ?sx_CN_CB ?sx_CN_CU ?sx_CN_CN ?ic_CN ?g_SMALL ?g_LETTERS_MOST ?g_WORD_MOST ?z_len ?z_abs ?z_int ?z_list ?z_range ?z_repr ?z_isinstance ?z_str ?z_all ?z_any ?z_zip ?z_tuple ?z_ord ?z_sorted ?z_set ?z_super ?z_bool ?z_dict
    (case ad0 => k_is)
    (case ld0 => k_is)
    (case cd0 => k_is)
    (case kd0 => k_is)
    (case ad1 => k_is)
    (case ld1 => k_is)
    (case cd1 => k_is)
    (case kd1 => k_is)
    (case ad2 => k_is)
    (case ld2 => k_is)
    (case cd2 => k_is)
    (case kd2 => k_is)
    (case ad3 => k_is)
    (case ld3 => k_is)
    (case cd3 => k_is)
    (case kd3 => k_is)
    (case ad4 => k_is)
    (case ld4 => k_is)
    (case cd4 => k_is)
    (case kd4 => k_is)
    (case ad5 => k_is)
    (case ld5 => k_is)
    (case cd5 => k_is)
    (case kd5 => k_is)
    (case ad6 => k_is)
    (case ld6 => k_is)
    (case cd6 => k_is)
    (case kd6 => k_is)
    (case ad7 => k_is)
    (case ld7 => k_is)
    (case cd7 => k_is)
    (case kd7 => k_is)
    (case ad8 => k_is)
    (case ld8 => k_is)
    (case cd8 => k_is)
    (case kd8 => k_is)
    (case ad9 => k_is)
    (case ld9 => k_is)
    (case cd9 => k_is)
    (case kd9 => k_is)
    (case ad10 => k_is)
    (case ld10 => k_is)
    (case cd10 => k_is)
    (case kd10 => k_is)
    (case ad11 => k_is)
    (case ld11 => k_is)
    (case cd11 => k_is)
    (case kd11 => k_is)
    (case ad12 => k_is)
    (case ld12 => k_is)
    (case cd12 => k_is)
    (case kd12 => k_is)
    (case ad13 => k_is)
    (case ld13 => k_is)
    (case cd13 => k_is)
    (case kd13 => k_is)
    (case ad14 => k_is)
    (case ld14 => k_is)
    (case cd14 => k_is)
    (case kd14 => k_is)
    (case ad15 => k_is)
    (case ld15 => k_is)
    (case cd15 => k_is)
    (case kd15 => k_is)
    (case ad16 => k_is)
    (case ld16 => k_is)
    (case cd16 => k_is)
    (case kd16 => k_is)
    (case ad17 => k_is)
    (case ld17 => k_is)
    (case cd17 => k_is)
    (case kd17 => k_is)
    (case ad18 => k_is)
    (case ld18 => k_is)
    (case cd18 => k_is)
    (case kd18 => k_is)
    (case ad19 => k_is)
    (case ld19 => k_is)
    (case cd19 => k_is)
    (case kd19 => k_is)
    (case aq0 => k_is)
    (case lq0 => k_is)
    (case cq0 => k_is)
    (case kq0 => k_is)
    (case tlq0 => k_is)
    (case aC => k_is)
    (case amC0 => k_is)
    (case imC0 => k_is)
    (case lmC0 => k_is)
    (case cmC0 => k_is)
    (case kmC0 => k_is)
    (case amC1 => k_is)
    (case imC1 => k_is)
    (case lmC1 => k_is)
    (case cmC1 => k_is)
    (case kmC1 => k_is)
    (case amC2 => k_is)
    (case imC2 => k_is)
    (case lmC2 => k_is)
    (case cmC2 => k_is)
    (case kmC2 => k_is)
    (case amC3 => k_is)
    (case imC3 => k_is)
    (case lmC3 => k_is)
    (case cmC3 => k_is)
    (case kmC3 => k_is)
    (case pgC => k_is)
    (case hdC => k_is)
    (case poC => k_is)
    (case saC => k_is)
    (case mkC => k_is)
    (case kcC => k_is)
    (case nC_known => k_is)
    (case aCS => k_is)
    (case amCS0 => k_is)
    (case imCS0 => k_is)
    (case lmCS0 => k_is)
    (case cmCS0 => k_is)
    (case kmCS0 => k_is)
    (case amCS1 => k_is)
    (case imCS1 => k_is)
    (case lmCS1 => k_is)
    (case cmCS1 => k_is)
    (case kmCS1 => k_is)
    (case pgCS => k_is)
    (case hdCS => k_is)
    (case poCS => k_is)
    (case saCS => k_is)
    (case mkCS => k_is)
    (case kcCS => k_is)
    (case nCS_words => k_is)
    (case nCS_tables => k_is)
    (case aCG => k_is)
    (case amCG0 => k_is)
    (case imCG0 => k_is)
    (case lmCG0 => k_is)
    (case cmCG0 => k_is)
    (case kmCG0 => k_is)
    (case amCG1 => k_is)
    (case imCG1 => k_is)
    (case lmCG1 => k_is)
    (case cmCG1 => k_is)
    (case kmCG1 => k_is)
    (case amCG2 => k_is)
    (case imCG2 => k_is)
    (case lmCG2 => k_is)
    (case cmCG2 => k_is)
    (case kmCG2 => k_is)
    (case amCG3 => k_is)
    (case imCG3 => k_is)
    (case lmCG3 => k_is)
    (case cmCG3 => k_is)
    (case kmCG3 => k_is)
    (case amCG4 => k_is)
    (case imCG4 => k_is)
    (case lmCG4 => k_is)
    (case cmCG4 => k_is)
    (case kmCG4 => k_is)
    (case amCG5 => k_is)
    (case imCG5 => k_is)
    (case lmCG5 => k_is)
    (case cmCG5 => k_is)
    (case kmCG5 => k_is)
    (case amCG6 => k_is)
    (case imCG6 => k_is)
    (case lmCG6 => k_is)
    (case cmCG6 => k_is)
    (case kmCG6 => k_is)
    (case amCG7 => k_is)
    (case imCG7 => k_is)
    (case lmCG7 => k_is)
    (case cmCG7 => k_is)
    (case kmCG7 => k_is)
    (case amCG8 => k_is)
    (case imCG8 => k_is)
    (case lmCG8 => k_is)
    (case cmCG8 => k_is)
    (case kmCG8 => k_is)
    (case amCG9 => k_is)
    (case imCG9 => k_is)
    (case lmCG9 => k_is)
    (case cmCG9 => k_is)
    (case kmCG9 => k_is)
    (case amCG10 => k_is)
    (case imCG10 => k_is)
    (case lmCG10 => k_is)
    (case cmCG10 => k_is)
    (case kmCG10 => k_is)
    (case amCG11 => k_is)
    (case imCG11 => k_is)
    (case lmCG11 => k_is)
    (case cmCG11 => k_is)
    (case kmCG11 => k_is)
    (case amCG12 => k_is)
    (case imCG12 => k_is)
    (case lmCG12 => k_is)
    (case cmCG12 => k_is)
    (case kmCG12 => k_is)
    (case amCG13 => k_is)
    (case imCG13 => k_is)
    (case lmCG13 => k_is)
    (case cmCG13 => k_is)
    (case kmCG13 => k_is)
    (case amCG14 => k_is)
    (case imCG14 => k_is)
    (case lmCG14 => k_is)
    (case cmCG14 => k_is)
    (case kmCG14 => k_is)
    (case pgCG => k_is)
    (case hdCG => k_is)
    (case poCG => k_is)
    (case saCG => k_is)
    (case mkCG => k_is)
    (case kcCG => k_is)
    (case nCG__rounds => k_is)
    (case nCG__words => k_is)
    (case nCG__sides => k_is)
    (case nCG__marks => k_is)
    (case aeCR => k_is)
    (case xeCR => k_is)
    (case reCR => decide +kernel)
    (case saeCR => k_is)
    (case xceCR => k_is)
    (case tyeCR => k_is)
    (case kceCR => k_is)
    (case gaeCR => k_is)
    (case ggeCR => k_is)
    (case hdeCR => k_is)
    (case npeCR => k_is)
    (case nweCR => k_is)
    (case ineCR => k_is)
    (case fteCR => k_is)
    (case fneCR => k_is)
    (case fkeCR => k_is)
    (case leCR => k_is)
    (case ceCR => k_is)
    (case ckeCR => k_is)
    (case cfeCR => rfl)
    (case ceeCR => first | rfl | decide +kernel)
    (case cc_eCR => k_is)
    (case cDeCR => k_is)
    (case tleCR => k_is)
    (case tops => first | rfl | decide +kernel)
    (case cst => k_is)
    (case aeCL => k_is)
    (case xeCL => k_is)
    (case reCL => decide +kernel)
    (case saeCL => k_is)
    (case xceCL => k_is)
    (case tyeCL => k_is)
    (case kceCL => k_is)
    (case gaeCL => k_is)
    (case ggeCL => k_is)
    (case hdeCL => k_is)
    (case npeCL => k_is)
    (case nweCL => k_is)
    (case ineCL => k_is)
    (case fteCL => k_is)
    (case fneCL => k_is)
    (case fkeCL => k_is)
    (case leCL => k_is)
    (case ceCL => k_is)
    (case ckeCL => k_is)
    (case cfeCL => rfl)
    (case ceeCL => first | rfl | decide +kernel)
    (case cc_eCL => k_is)
    (case cDeCL => k_is)
    (case tleCL => k_is)
    (case aeCW => k_is)
    (case xeCW => k_is)
    (case reCW => decide +kernel)
    (case saeCW => k_is)
    (case xceCW => k_is)
    (case tyeCW => k_is)
    (case kceCW => k_is)
    (case gaeCW => k_is)
    (case ggeCW => k_is)
    (case hdeCW => k_is)
    (case npeCW => k_is)
    (case nweCW => k_is)
    (case ineCW => k_is)
    (case fteCW => k_is)
    (case fneCW => k_is)
    (case fkeCW => k_is)
    (case leCW => k_is)
    (case ceCW => k_is)
    (case ckeCW => k_is)
    (case cfeCW => rfl)
    (case ceeCW => first | rfl | decide +kernel)
    (case cc_eCW => k_is)
    (case cDeCW => k_is)
    (case tleCW => k_is)
    (case aeCB => k_is)
    (case xeCB => k_is)
    (case reCB => decide +kernel)
    (case saeCB => k_is)
    (case xceCB => k_is)
    (case tyeCB => k_is)
    (case kceCB => k_is)
    (case gaeCB => k_is)
    (case ggeCB => k_is)
    (case hdeCB => k_is)
    (case npeCB => k_is)
    (case nweCB => k_is)
    (case ineCB => k_is)
    (case fteCB => k_is)
    (case fneCB => k_is)
    (case fkeCB => k_is)
    (case leCB => k_is)
    (case ceCB => k_is)
    (case ckeCB => k_is)
    (case cfeCB => rfl)
    (case ceeCB => first | rfl | decide +kernel)
    (case cc_eCB => k_is)
    (case cDeCB => k_is)
    (case tleCB => k_is)
    (case aeCU => k_is)
    (case xeCU => k_is)
    (case reCU => decide +kernel)
    (case saeCU => k_is)
    (case xceCU => k_is)
    (case tyeCU => k_is)
    (case kceCU => k_is)
    (case gaeCU => k_is)
    (case ggeCU => k_is)
    (case hdeCU => k_is)
    (case npeCU => k_is)
    (case nweCU => k_is)
    (case ineCU => k_is)
    (case fteCU => k_is)
    (case fneCU => k_is)
    (case fkeCU => k_is)
    (case leCU => k_is)
    (case ceCU => k_is)
    (case ckeCU => k_is)
    (case cfeCU => rfl)
    (case ceeCU => first | rfl | decide +kernel)
    (case cc_eCU => k_is)
    (case cDeCU => k_is)
    (case tleCU => k_is)
    (case aeCN => k_is)
    (case xeCN => k_is)
    (case reCN => decide +kernel)
    (case saeCN => k_is)
    (case xceCN => k_is)
    (case tyeCN => k_is)
    (case kceCN => k_is)
    (case gaeCN => k_is)
    (case ggeCN => k_is)
    (case hdeCN => k_is)
    (case npeCN => k_is)
    (case nweCN => k_is)
    (case ineCN => k_is)
    (case fteCN => k_is)
    (case fneCN => k_is)
    (case fkeCN => k_is)
    (case leCN => k_is)
    (case ceCN => k_is)
    (case ckeCN => k_is)
    (case cfeCN => rfl)
    (case ceeCN => first | rfl | decide +kernel)
    (case cc_eCN => k_is)
    (case cDeCN => k_is)
    (case tleCN => k_is)
    (case mvCL => k_is)
    (case mrCL => k_is)
    (case veCL => k_is)
    (case s1CL => ks_is)
    (case s2CL => ks_is)
    (case mvCW => k_is)
    (case mrCW => k_is)
    (case veCW => k_is)
    (case s1CW => ks_is)
    (case s2CW => ks_is)
    (case mvCB => k_is)
    (case mrCB => k_is)
    (case veCB => k_is)
    (case s1CB => ks_is)
    (case s2CB => ks_is)
    (case mvCU => k_is)
    (case mrCU => k_is)
    (case veCU => k_is)
    (case s1CU => ks_is)
    (case s2CU => ks_is)
    (case mvCN => k_is)
    (case mrCN => k_is)
    (case veCN => k_is)
    (case s1CN => ks_is)
    (case s2CN => ks_is)
    (case sx_CL_CL => k_is)
    (case ic_CL => k_is)
    (case sx_CW_CL => k_is)
    (case sx_CW_CW => k_is)
    (case ic_CW => k_is)
    (case sx_CB_CB => k_is)
    (case ic_CB => k_is)
    (case sx_CU_CB => k_is)
    (case sx_CU_CU => k_is)
    (case ic_CU => k_is)
    (case sx_CN_CB => k_is)
    (case sx_CN_CU => k_is)
    (case sx_CN_CN => k_is)
    (case ic_CN => k_is)
    (case g_SMALL => k_is)
    (case g_LETTERS_MOST => k_is)
    (case g_WORD_MOST => k_is)
    (case z_len => k_is)
    (case z_abs => k_is)
    (case z_int => k_is)
    (case z_list => k_is)
    (case z_range => k_is)
    (case z_repr => k_is)
    (case z_isinstance => k_is)
    (case z_str => k_is)
    (case z_all => k_is)
    (case z_any => k_is)
    (case z_zip => k_is)
    (case z_tuple => k_is)
    (case z_ord => k_is)
    (case z_sorted => k_is)
    (case z_set => k_is)
    (case z_super => k_is)
    (case z_bool => k_is)
    (case z_dict => k_is)
