import PyProof.Rows.All
import Wide.All
import OpenK.AllK
import Wide.FinOn
import HandS.ForMost
import HandS.Exc
import HandS.ExcOwn
import HandS.ExcInit
import HandS.ExcField
import HandS.WordsExc
import HandS.DictComp
import HandS.Flow
import PyProof.ReprRoads
import PyProof.ReprLen
import HandS.RaiseMore
import HandS.IterVal
import KE.KOwnIter
import KE.KDictIter
import HandS.Wide
import HandS.IsInst
import HandS.Flt
import HandS.More
import HandS.RevRange
import HandS.NoneIn
import HandS.WordsDict
import HandS.TupAny
import PyProof.P3Eq
import PyProof.ReprText
import PySem.Challenge.RW_heldanswers_k81_seam_large_expansions
import HandS.Defaults
import HandS.Deep
import PyProof.P3In
import HandS.Walk
import HandS.Rev
set_option Elab.async false
set_option linter.all false
set_option maxRecDepth 100000
set_option maxHeartbeats 4000000
namespace HX
open PySem PySem.Spec PyProof.Rows L2
/-! ### B.__init__(self, ..) where B is an own class that has its __init__ from ValueError -/
section
variable {X : Cx} {CB : Addr} {x : Str} {e : Expr} {es : List Expr} {ta : TA} {p1 p2 pos : Pos}
theorem pe_baseInit {pl : Sem Bool} (gl : Gl X x) (mx : X.mg x = some (.ref CB)) (rd : PySem.W.readsIn X.K CB (.type "type") = true)
    (sp : PySem.W.specialIn X.K (.ref CB) "__getattribute__" = some (some (.builtin "type.__getattribute__")))
    (fc : PySem.W.findCls X.K (.ref CB) (.type "type") "__init__" = some (.val (.builtin "ValueError.__init__"))) (args : PA X (e :: es) ta)
    (ndb : (x == ("__debug__" : Str)) = false := by decide)
    (how : eval (.Call (.Attribute (.Name x p1) "__init__" p2) (e :: es) [] pos) X.env = (do
      let ov ← eval (.Name x p1) X.env
      standAt p2.atName
      let (f, first) ← holding [ov] (getMethod ov "__init__" pl)
      callWith pos f first (backTo pos (starEach (e :: es) X.env)) (backToKw pos (keywordEach [] X.env))) := by rfl)
    (hst : starEach (e :: es) X.env = (false, eval e X.env) :: starEach es X.env := by rfl) (hno : (backTo pos (starEach es X.env)).any (·.1) = false := by rfl) :
    PE X (.Call (.Attribute (.Name x p1) "__init__" p2) (e :: es) [] pos) (tVeI X.K ta) := by
  constructor
  intro pins s σ H Q I want
  refine PySem.W.methodCall_KW (ld_glob I gl mx ?_ ndb) how
  refine PySem.W.method_cls I.kIn sp (PySem.W.cls_value I.kIn rd fc (by decide) ?_)
  show wpAny _ _ (callWith pos (Value.builtin "ValueError.__init__") [] (backTo pos (starEach (e :: es) X.env)) []) _ _ _
  refine PyProof.Rows.callWith_method1 (thn (args.run pos pins _ σ H _ (I.tok _) want) fun us s1 got => ?_) hst hno
  obtain ⟨vs, H1, I1, r1, a, C, ws, ev, hl, T, ea, q⟩ := got
  subst ev
  cases r1 with
  | @cons _ u0 _ ur ra rest =>
    obtain rfl : u0 = Value.ref a := ra
    have len : ur.length ≤ sizeLine := by
      have e1 := Paired.length rest
      have e2 := sizeLine_eq
      omega
    exact oinit_ok T I1 ea len fun s' J => ⟨V.non, H1, J, rfl, q⟩
end
/-! ### len(o), o an instance of an own class with __len__ -/
section
variable {X : Cx} {CX : CXT} {k : Nat} {C g : Addr} {fd : FuncData} {sp : Sp} {E : XK}
theorem call_lenOwn (hs : PySem.W.findIn X.K (.ref C) "__len__" = some (some (.ref g))) (hf : PySem.W.isFn X.K (.ref g) = true)
    (F : FnOk X.prog X.w X.K X.mg X.base CX k g fd ["self"] sp) (hr : Room (k + 1) X.A) (hb : Binds X.K fd ["self"] []) (hx : Passes CX X E) :
    CallR X (.builtin "len") (fun vs H Q => ∃ (a dx : Addr) (fs : List (Str × V)), vs = [.ref a] ∧ H a = some (.ins C dx fs) ∧
      sp [.ref a] H (fun v H' => ∃ n : Int, v = .int n ∧ 0 ≤ n ∧ n < 2 ^ 63 ∧ Q (.int n) H') E) := by
  intro pins s σ H xs us Q I r h
  obtain ⟨a, dx, fs, rfl, ha, q⟩ := h
  obtain ⟨u, rfl, ru⟩ := vals1 r
  obtain rfl : u = Value.ref a := ru
  obtain ⟨mA, O, _, _, _, _⟩ := ins_get I.hok ha
  obtain ⟨od, J, _⟩ := O.look
  obtain ⟨m, fr⟩ := I.fr
  refine PySem.W.len_K fr I.ok.mod.kin J hs hf ?_
  refine wpAny_call (codeAny_mono (F.run X.A.in1 X.stack s H ⟨[.ref a], []⟩ [.ref a] [.ref a] _ E hr.in1 I.env0.in1 (by simpa using hb s [.ref a] I.kIn rfl) (.cons rfl .nil) q) fun r s' hq => ?_)
  cases r with
  | error er => exact hx pins σ H s er s' I hq
  | ok fl =>
    cases fl with
    | ret u =>
      obtain ⟨v, H', I3, rv, n, rfl, h0, h1, q3⟩ := I.after hq
      obtain ⟨t, rfl⟩ := rv
      exact ⟨⟨h0, h1⟩, .int n, H', I3.tok _, ⟨_, rfl⟩, q3⟩
    | next => exact False.elim hq
    | brk => exact False.elim hq
    | cont => exact False.elim hq
end
end HX
namespace HX
open PySem PySem.Spec PyProof.Rows L2
/-! ### a def's promise where it is known that no repr is under way around it -/
/-- as FnOk, asked only where the guards are known to be none -/
structure FnOkG (P : Program) (w : World) (K : PySem.W.Frag) (mg : Str → Option Value) (base : Heap) (CX : CXT) (k : Nat) (f : Addr) (fd : FuncData) (ps : List Str) (sp : Sp) : Prop where
  len : ∀ vs H Q E, sp vs H Q E → vs.length = ps.length
  go : ∀ (A : Around) (outer : List Env) (s : Shared) (H : Hp) (args : Args) (us : List Value) (vs : List V) (Q : VK) (E : XK), A.guards = some [] → Room k A →
    Env0 P w K mg base A outer s H → BindsTo s fd args (ps.zip us) → Vals vs us → sp vs H Q E → codeAny (model P w) A (.call (.ref f) args) (CR CX outer P w H s Q E) s
section
variable {P : Program} {w : World} {K : PySem.W.Frag} {mg : Str → Option Value} {base : Heap} {CX : CXT}
theorem FnOkG.of {k : Nat} {f : Addr} {fd : FuncData} {ps : List Str} {sp : Sp} (F : FnOk P w K mg base CX k f fd ps sp) : FnOkG P w K mg base CX k f fd ps sp :=
  ⟨F.len, fun A outer s H args us vs Q E _ hr he hb hv h => F.run A outer s H args us vs Q E hr he hb hv h⟩
theorem FnOkG.mono {j k : Nat} {f : Addr} {fd : FuncData} {ps : List Str} {sp : Sp} (F : FnOkG P w K mg base CX j f fd ps sp) (h : j ≤ k) : FnOkG P w K mg base CX k f fd ps sp :=
  ⟨F.len, fun A outer s H args us vs Q E hg hr => F.go A outer s H args us vs Q E hg (hr.mono h)⟩
/-- the rule for a def's body, with the guards told -/
theorem Fun.okG {x qual : Str} {st : Stmt} {f : Addr} {fd : FuncData} {N ps : List Str} {k : Nat} {sp : Sp} (F : Fun K x qual st f fd) (S : FnScope N ps (defScope st)) (len : ∀ vs H Q E, sp vs H Q E → vs.length = ps.length)
    (body : ∀ (cdv : Value) (A : Around) (outer : List Env) (s : Shared) (H : Hp) (vs : List V) (Q : VK) (E : XK), A.guards = some [] → Room k (A.deeper (envOfC qual (defScope st) s.heap.objs.size f cdv)) → sp vs H Q E →
      ∃ t, PSs (cxOf CX P w K mg base N qual (defScope st) f cdv A outer s H E) (defBody st) t ∧ t { nx := fun _ H' => Q .non H', rt := Q } (start N vs) H) : FnOkG P w K mg base CX (k + 1) f fd ps sp := by
  obtain ⟨oc, od, kV, doc, pm, an, cdv, ct, osl, rfl, lk, code⟩ := F.ex
  refine ⟨len, ?_⟩
  intro A outer s H args us vs Q E hg hr e0 hb r want
  have keeps : ∀ b o, base.get? b = some o → s.heap.get? b = some o := fun b o e => (e0.bs b o e).1
  have inK : K.In s.heap := e0.mod.kin.keeps keeps
  have many := len _ _ _ _ want
  have kinds : ∀ y ∈ ps.zip us, (defScope st).names.lookup y.1 = some .local ∨ ((defScope st).names.lookup y.1 = some .cell ∧ ((cellsFrom (s.heap.objs.size + 1) (defScope st).names []).lookup y.1).isSome = true) := by
    rintro ⟨n, v⟩ hy
    have hn : n ∈ ps := (List.of_mem_zip hy).1
    rcases S.par n hn with q | q
    · exact Or.inl q
    · exact Or.inr ⟨q, PySem.W.cellsFrom_some _ _ _ (Or.inl q)⟩
  refine codeAny_call_function hr.depth (inK _ _ lk) rfl S.co S.gen rfl (PySem.W.codeRec_of inK code) (hb _ _ _ _ ?_)
  refine wpAny_newFunctionEnv_cells S.kind kinds fun env he s1 x => ?_
  subst he
  refine ⟨(e0.mod.nolimit.keeps keeps).keeps x.toInCall.keep, codeAny_func ?_⟩
  obtain ⟨t, ht, hq⟩ := body cdv A outer s H vs Q E hg (hr.deeper _) want
  have I := inv_start (P := P) (CX := CX) (E := E) (qual := qual) S hr.hd e0 many r x
  refine wpAny_mono (ht.run [] s1 (start N vs) H _ I hq) (fun fl s' hs => ?_) fun e s' hs => hs
  cases fl with
  | next =>
    obtain ⟨σ', H', J, q⟩ := hs
    exact ⟨V.non, H', J.os, J.bare, J.base, J.hok, rfl, q⟩
  | ret u =>
    obtain ⟨v, σ', H', J, rv, q⟩ := hs
    exact ⟨v, H', J.os, J.bare, J.base, J.hok, rv, q⟩
  | brk =>
    obtain ⟨_, _, _, q⟩ := hs
    exact q.elim
  | cont =>
    obtain ⟨_, _, _, q⟩ := hs
    exact q.elim
end
section
variable {X : Cx} {CX : CXT} {k : Nat} {f : Addr} {fd : FuncData} {ps : List Str} {sp : Sp} {E : XK} {x : Str} {p pos : Pos} {e : Expr} {es : List Expr} {t : TA}
/-- f(e, ..), f's promise wanting that no repr is under way -/
theorem pe_callG (gd : X.A.guards = some []) (F : FnOkG X.prog X.w X.K X.mg X.base CX k f fd ps sp) (hr : Room k X.A) (gl : Gl X x) (mx : X.mg x = some (.ref f)) (kp : PySem.W.keepIn X.K (.ref f) = true) (hb : Binds X.K fd ps []) (hx : Passes CX X E)
    (args : PA X (e :: es) t) (ndb : (x == ("__debug__" : Str)) = false := by decide) (hst : starEach (e :: es) X.env = (false, eval e X.env) :: starEach es X.env := by rfl) (hno : (backTo pos (starEach es X.env)).any (·.1) = false := by rfl) :
    PE X (.Call (.Name x p) (e :: es) [] pos) (tCall sp [] E t) := by
  constructor
  intro pins s σ H Q I want
  refine wpAny_Call_Name_kw (ld_glob I gl mx ?_ ndb)
  refine PySem.W.callWith_K (h₀ := X.base) I.ok.mod.kin kp (thn (args.run pos pins s σ H _ I want) fun us s1 got => ?_) hst hno
  obtain ⟨vs, H1, I1, r, q⟩ := got
  rw [List.append_nil] at q
  refine ⟨I1.kIn, ?_⟩
  have many : us.length = ps.length := r.length.symm.trans (F.len _ _ _ _ q)
  have bd : BindsTo s1 fd ⟨us, []⟩ (ps.zip us) := by
    have b := hb s1 us I1.kIn (by rw [List.append_nil]; exact many)
    rwa [List.append_nil] at b
  refine wpAny_call (codeAny_mono (F.go X.A X.stack s1 H1 ⟨us, []⟩ us vs Q E gd hr I1.env0 bd r q) fun r' s' hq => ?_)
  cases r' with
  | error er => exact hx pins σ H1 s1 er s' I1 hq
  | ok fl =>
    cases fl with
    | ret u => exact I1.after hq
    | next => exact hq.elim
    | brk => exact hq.elim
    | cont => exact hq.elim
end
/-! ### the law's call from the caller of the claim -/
/-- the heap that tracks the script alone -/
def onlyAt (a : Addr) (o : Obj) (xs : List V) : Hp := fun b => if b = a then some (.frz o (.lst xs)) else none
theorem onlyAt_self {a : Addr} {o : Obj} {xs : List V} : onlyAt a o xs a = some (.frz o (.lst xs)) := if_pos rfl
theorem onlyAt_ne {a b : Addr} {o : Obj} {xs : List V} (h : b ≠ a) : onlyAt a o xs b = none := if_neg h
section
variable {P : Program} {w : World} {K : PySem.W.Frag} {mg mb : Str → Option Value} {CX : CXT} {k : Nat} {fa a : Addr} {fd : FuncData} {x : Str} {sp : Sp} {s : Shared} {vs : List Value} {ns : List Int}
/-- from an abstract heap H that fits the state -/
theorem law_from (H : Hp) (inK : K.In s.heap) (gm : s.heap.Ns mainGlobals mg) (gb : s.heap.Ns builtinsNs mb) (bb : ∀ x : Str, x ≠ "__name__" → mb x = bootBuiltins x) (lim : s.heap.NoLimit) (gens : s.gens = #[])
    (obj : s.heap.get? a = some { cls := .type "list", data := .seq vs.toArray }) (room : Room k callerA) (F : ∀ base : Heap, K.In base → base.Ns mainGlobals mg → FnOkG P w K mg base CX k fa fd [x] sp)
    (bind : ∀ (s : Shared) (u : Value), BindsTo s fd ⟨[u], []⟩ [(x, u)]) (want : sp [.ref a] H (fun v _ => v = .bl true) fun _ _ _ => False) (noX : ∀ e s', CX [] H s (fun _ _ _ => False) e s' → False)
    (hok : HOk P w H s.heap) (only : Only H) (atA : ∀ b, H b ≠ none → b = a) (notK : H a ≠ none → K.lookup a = none) :
    codeAny (model P w) callerA (.call (.ref fa) ⟨[.ref a], []⟩) (fun r s' => r = .ok (.ret (.bool true)) ∧ OldK s.heap s'.heap ∧ s'.os = s.os ∧ AllBare s'.gens) s := by
  -- a dict of the state is not tracked
  have dicts : ∀ {b : Addr} {m : Str → Option Value}, s.heap.Ns b m → (hidT s.heap H).Ns b m := by
    rintro b m ⟨o, es, ep, e, d, r⟩
    refine ⟨o, es, ep, hidT_get e ?_, d, r⟩
    cases q : H b with
    | none => rfl
    | some u =>
      have e1 : b = a := atA b (by rw [q]; exact fun z => nomatch z)
      subst e1
      rw [obj] at e
      cases e
      cases d
  have kin : K.In (hidT s.heap H) := by
    intro b o e
    refine hidT_get (inK b o e) ?_
    cases q : H b with
    | none => rfl
    | some u =>
      have e1 : b = a := atA b (by rw [q]; exact fun z => nomatch z)
      subst e1
      rw [notK (by rw [q]; exact fun z => nomatch z)] at e
      cases e
  have md : Mod K mg (hidT s.heap H) := ⟨kin, dicts gm, ⟨mb, dicts gb, bb⟩, (by obtain ⟨mc, h1, h2⟩ := lim; exact ⟨mc, dicts h1, h2⟩)⟩
  have env : Env0 P w K mg (hidT s.heap H) callerA [] s H :=
    { frames := rfl, mod := md, bs := fun b o e => of_hidT e, bsz := Nat.le_of_eq (hidT_size _ _), funs := trivial, frf := fun b hb => absurd hb List.not_mem_nil, hok := hok, bare := .of_eq gens }
  have run := (F _ kin (dicts gm)).go callerA [] s H ⟨[.ref a], []⟩ [.ref a] [.ref a] _ _ rfl room env (bind s (.ref a)) (.cons rfl .nil) want
  refine codeAny_mono run fun r s' h => ?_
  cases r with
  | error e => exact (noX e s' h).elim
  | ok fl =>
    cases fl with
    | next => exact h.elim
    | brk => exact h.elim
    | cont => exact h.elim
    | ret u =>
      obtain ⟨v, H', os, bare, un, hok', rv, q⟩ := h
      have e1 : v = .bl true := q
      subst e1
      obtain rfl : u = Value.bool true := rv
      refine ⟨rfl, OldK.of_keep fun b o e => ?_, os, bare⟩
      rcases only b with z | ⟨ob, xs, z⟩
      · exact un.keep b o e z List.not_mem_nil List.not_mem_nil
      · obtain ⟨e2, _⟩ := hok b _ z
        obtain ⟨e3, _⟩ := hok' b _ (un.frzs b ob _ z)
        rw [e] at e2
        cases e2
        exact e3
theorem law_callG (inK : K.In s.heap) (gm : s.heap.Ns mainGlobals mg) (gb : s.heap.Ns builtinsNs mb) (bb : ∀ x : Str, x ≠ "__name__" → mb x = bootBuiltins x) (lim : s.heap.NoLimit) (gens : s.gens = #[])
    (obj : s.heap.get? a = some { cls := .type "list", data := .seq vs.toArray }) (are : IntsAre vs ns) (short : ns.length ≤ sizeLine) (room : Room k callerA) (F : ∀ base : Heap, K.In base → base.Ns mainGlobals mg → FnOkG P w K mg base CX k fa fd [x] sp)
    (bind : ∀ (s : Shared) (u : Value), BindsTo s fd ⟨[u], []⟩ [(x, u)]) (want : ∀ H : Hp, Only H → SqL K H a (ns.map V.int) → sp [.ref a] H (fun v _ => v = .bl true) fun _ _ _ => False) (noX : ∀ H e s', CX [] H s (fun _ _ _ => False) e s' → False) :
    codeAny (model P w) callerA (.call (.ref fa) ⟨[.ref a], []⟩) (fun r s' => r = .ok (.ret (.bool true)) ∧ OldK s.heap s'.heap ∧ s'.os = s.os ∧ AllBare s'.gens) s := by
  have items : Vals (ns.map V.int) vs := vals_ints are
  have short' : (ns.map V.int).length ≤ sizeLine := by rw [List.length_map]; exact short
  cases hk : K.lookup a with
  | some o =>
    obtain rfl : { cls := .type "list", data := .seq vs.toArray } = o := Option.some.inj (obj.symm.trans (inK a o hk))
    have none0 : ∀ b, (fun _ => none : Hp) b = none := fun _ => rfl
    have sq : SqL K (fun _ => none) a (ns.map V.int) := Or.inr ⟨_, vs.toArray, _, hk, rfl, rfl, rfl, (by rw [List.size_toArray, ← items.length]; exact short'), by simpa using items⟩
    refine law_from (fun _ => none) inK gm gb bb lim gens obj room F bind (want _ (fun b => Or.inl rfl) sq) (fun e s' => noX _ e s') (fun b u z => nomatch z) (fun b => Or.inl rfl) (fun b z => absurd rfl z) fun z => absurd rfl z
  | none =>
    have sq : SqL K (onlyAt a { cls := .type "list", data := .seq vs.toArray } (ns.map V.int)) a (ns.map V.int) := Or.inl (Or.inr ⟨_, onlyAt_self⟩)
    have only : Only (onlyAt a { cls := .type "list", data := .seq vs.toArray } (ns.map V.int)) := fun b => by
      by_cases hb : b = a
      · subst hb
        exact Or.inr ⟨_, _, onlyAt_self⟩
      · exact Or.inl (onlyAt_ne hb)
    refine law_from _ inK gm gb bb lim gens obj room F bind (want _ only sq) (fun e s' => noX _ e s') (fun b u z => ?_) only (fun b z => ?_) fun _ => hk
    · by_cases hb : b = a
      · subst hb
        rw [onlyAt_self] at z
        cases z
        exact ⟨obj, short', vs, _, items, obj⟩
      · rw [onlyAt_ne hb] at z
        cases z
    · by_cases hb : b = a
      · exact hb
      · exact absurd (onlyAt_ne hb) z
end
/-- the goal that k_head leaves -/
theorem walk_ofG {l : PySem.W.OpenLaw} {n k : Nat} {q : Program} {loose : List Str} {XP : (Str → Option Value) → Heap → Prop} {YP : World → Heap → Prop} {d : DefRec} {K : Params → PySem.W.Frag} {CX : World → CXT} {sp : World → Sp} {x : Str}
    (hn : l.most = some n) (hn2 : n ≤ sizeLine) (hdf : d.params.defaults = []) (room : Room k callerA) (hY : ∀ (w : World) (h : Heap), YP w h → (K w.params).In h)
    (F : ∀ (w : World) (mg : Str → Option Value) (fa : Addr) (h : Heap), (K w.params).In h → h.Ns mainGlobals mg → mg d.name = some (.ref fa) →
      ∃ fd : FuncData, (∀ (s : Shared) (u : Value), BindsTo s fd ⟨[u], []⟩ [(x, u)]) ∧ ∀ base : Heap, (K w.params).In base → base.Ns mainGlobals mg → FnOkG l.prog w (K w.params) mg base (CX w) k fa fd [x] (sp w))
    (want : ∀ (w : World) (H : Hp) (a : Addr) (ns : List Int), ns.length ≤ n → Only H → SqL (K w.params) H a (ns.map V.int) → sp w [.ref a] H (fun v _ => v = .bl true) fun _ _ _ => False)
    (noX : ∀ (w : World) (H : Hp) (s : Shared) (e : Value) (s' : Shared), CX w [] H s (fun _ _ _ => False) e s' → False) :
    PySem.W.WalkO q loose XP YP l.row.toRowW d [] (fun f vs => PySem.call f vs) := by
  refine Att.attach_call hn hdf ?_
  intro w s₀ s₁ mg mb fa o pm cd doc a vs ns G Y ho hd hcd hmg hobj hints hlen hg
  have inK := hY w _ Y
  obtain ⟨fd, bind, ok⟩ := F w mg fa _ inK G.T.g hmg
  exact law_callG inK G.T.g G.T.b G.T.builtins G.T.nolimit hg hobj hints (Nat.le_trans hlen hn2) room ok bind (fun H h1 h2 => want w H a ns hlen h1 h2) fun H e s' => noX w H s₁ e s'
end HX
namespace HX
open PySem PySem.Spec PyProof.Rows L2
/-! ### repr -/
def keyD : Key → PyData
  | .inl i => .int i
  | .inr x => .str x
/-- the data of a dict's pairs -/
def pairsD : List (Key × V) → List PyData → List (PyData × PyData)
  | (k, _) :: r, d :: ds => (keyD k, d) :: pairsD r ds
  | _, _ => []
section
variable {X : Cx} {pins : List (Addr × Obj)} {σ : L2.St} {H : Hp} {s : Shared}
theorem keyD_reads {k : Key} {u : Value} {h : Heap} (e : keyIs k u = true) : Reads h u (keyD k) [] := by
  rcases keyIs_shape e with ⟨i, t, rfl, rfl⟩ | ⟨x, t, rfl, rfl⟩
  · exact Reads.int i t
  · exact Reads.str x t
theorem reads_keys {w : World} {P : Program} {h : Heap} : ∀ {kvs : List (Key × V)} {ds : List PyData} {vs : List (Key × Value)} {es : List DictEntry}, KV kvs vs → Pairs (mixKind P w) es vs → kvs.length = ds.length →
    ReadsAll h (es.map (·.key)) ((pairsD kvs ds).map (·.1)) []
  | [], [], _, _, .nil, .nil, _ => .nil
  | (k, v) :: r, d :: ds, _, _, .cons (a := _) (b := c) a b, .cons (e := en) p q t, hl => by
    have e : keyIs k en.key = true := by
      have e1 : k = c.1 := a.1
      rw [e1]
      exact p
    exact ReadsAll.cons (as := []) (bs := []) (keyD_reads e) (reads_keys b t (by simpa using hl))
  | [], _ :: _, _, _, _, _, hl => by simp at hl
  | _ :: _, [], _, _, _, _, hl => by simp at hl
theorem vals_of_pairs {w : World} {P : Program} : ∀ {kvs : List (Key × V)} {vs : List (Key × Value)} {es : List DictEntry}, KV kvs vs → Pairs (mixKind P w) es vs → Vals (kvs.map (·.2)) (es.map (·.val))
  | [], _, _, .nil, .nil => .nil
  | (k, v) :: r, _, _, .cons a b, .cons (e := en) p q t => .cons (by
      show RelV v en.val
      rw [q]
      exact a.2) (vals_of_pairs b t)
theorem pairsD_snd : ∀ {kvs : List (Key × V)} {ds : List PyData}, kvs.length = ds.length → (pairsD kvs ds).map (·.2) = ds
  | [], [], _ => rfl
  | (k, v) :: r, d :: ds, h => by
    show d :: (pairsD r ds).map (·.2) = d :: ds
    rw [pairsD_snd (by simpa using h)]
  | [], _ :: _, h => by simp at h
  | _ :: _, [], h => by simp at h
theorem DpAll.length {K : PySem.W.Frag} : ∀ {vs : List V} {ds : List PyData}, DpAll K H vs ds → vs.length = ds.length
  | _, _, .nil => rfl
  | _, _, .cons _ t => by rw [List.length_cons, List.length_cons, DpAll.length t]
theorem Dp.noDict {K : PySem.W.Frag} : ∀ {d : PyData} {v : V}, Dp K H v d → d.hasDict = false := fun {d} {v} h => by
  have all : ∀ d v, Dp K H v d → d.hasDict = false := by
    intro d v h
    induction h using Dp.rec (motive_2 := fun vs ds _ => PyData.hasDictAll ds = false) with
    | non => simp only [PyData.hasDict]
    | bl b => simp only [PyData.hasDict]
    | int i => simp only [PyData.hasDict]
    | str x => simp only [PyData.hasDict]
    | lst _ _ ih => simpa only [PyData.hasDict] using ih
    | tup _ _ ih => simpa only [PyData.hasDict] using ih
    | nil => simp only [PyData.hasDictAll]
    | cons _ _ i1 i2 => simp only [PyData.hasDictAll, i1, i2, Bool.or_self]
  exact all d v h
theorem DpAll.noDict {K : PySem.W.Frag} : ∀ {ds : List PyData} {vs : List V}, DpAll K H vs ds → PyData.hasDictAll ds = false
  | _, _, .nil => by simp only [PyData.hasDictAll]
  | _, _, .cons a t => by simp only [PyData.hasDictAll, Dp.noDict a, DpAll.noDict t, Bool.or_self]
/-- repr of a list or a tuple of data -/
theorem call_reprD (gd : X.A.guards = some []) {n : Nat} (hu : X.A.units + (n + 1) < cLine) :
    CallR X (.builtin "repr") (fun vs H Q => ∃ (a : Addr) (d : PyData), vs = [.ref a] ∧ Dp X.K H (.ref a) d ∧ d.showable = true ∧ d.depth ≤ n ∧ d.shown.length ≤ sizeLine ∧ Q (.str d.shown) H) := by
  intro pins s σ H xs us Q I r h
  obtain ⟨a, d, rfl, hd, hs, hn, hz, q⟩ := h
  obtain ⟨u, rfl, ru⟩ := vals1 r
  obtain rfl : u = Value.ref a := ru
  obtain ⟨as, rd⟩ := Dp.reads I d _ _ hd rfl
  exact repr_of_reads' rd hs (fun z => by rw [Dp.noDict hd] at z; cases z) gd (by omega) (fun _ _ e => e) (fun h' u tk k => ⟨.str d.shown, H, I.kept (t' := tk) k, ⟨u, rfl⟩, q⟩) hz
/-- repr of a dict whose values are data -/
theorem call_reprK (gd : X.A.guards = some []) {n : Nat} (hu : X.A.units + (n + 1) < cLine) :
    CallR X (.builtin "repr") (fun vs H Q => ∃ (a : Addr) (kvs : List (Key × V)) (ds : List PyData), vs = [.ref a] ∧ H a = some (.dK kvs) ∧ DpAll X.K H (kvs.map (·.2)) ds ∧
      PyData.showable (.dict (pairsD kvs ds)) = true ∧ PyData.depth (.dict (pairsD kvs ds)) ≤ n ∧ (PyData.shown (.dict (pairsD kvs ds))).length ≤ sizeLine ∧ Q (.str (PyData.shown (.dict (pairsD kvs ds)))) H) := by
  intro pins s σ H xs us Q I r h
  obtain ⟨a, kvs, ds, rfl, ha, hds, hs, hn, hz, q⟩ := h
  obtain ⟨u, rfl, ru⟩ := vals1 r
  obtain rfl : u = Value.ref a := ru
  obtain ⟨_, hsm, vs, rel, o, es, ep, ho, hx, hdat, _, prs, _⟩ := dk_of I.hok ha
  have hl : kvs.length = ds.length := by
    have e := DpAll.length hds
    rwa [List.length_map] at e
  obtain ⟨as, rv⟩ := Dp.readsAll I ds _ _ hds (vals_of_pairs rel prs)
  have rk : ReadsAll s.heap (es.toList.map (·.key)) ((pairsD kvs ds).map (·.1)) [] := reads_keys rel prs hl
  rw [← pairsD_snd hl] at rv
  have hc : o.cls = .type "dict" := hx.1
  have z' : (dictText (PyData.shownKv (pairsD kvs ds))).length ≤ sizeLine := by simpa only [PyData.shown] using hz
  obtain ⟨s1, s2⟩ := PyData.showableKv_split _ (by simpa [PyData.showable] using hs)
  have n1 : PyData.hasDictAll ((pairsD kvs ds).map (·.1)) = false := by
    have all : ∀ (kvs : List (Key × V)) (ds : List PyData), PyData.hasDictAll ((pairsD kvs ds).map (·.1)) = false := by
      intro kvs
      induction kvs with
      | nil => intro ds; simp only [pairsD, List.map_nil, PyData.hasDictAll]
      | cons p r ih =>
        intro ds
        cases ds with
        | nil => simp only [pairsD, List.map_nil, PyData.hasDictAll]
        | cons d ds =>
          obtain ⟨k, v⟩ := p
          show PyData.hasDictAll (keyD k :: (pairsD r ds).map (·.1)) = false
          have e : (keyD k).hasDict = false := by cases k <;> simp only [keyD, PyData.hasDict]
          simp only [PyData.hasDictAll, e, ih ds, Bool.or_self]
    exact all kvs ds
  have n2 : PyData.hasDictAll ((pairsD kvs ds).map (·.2)) = false := by
    rw [pairsD_snd hl]
    exact DpAll.noDict hds
  obtain ⟨b1, hb1, k1⟩ := ReprAllK.of_readsAll (prog := X.prog) (w := X.w) rk s1 (fun z => by rw [n1] at z; cases z) (fun t ht => let ⟨p, hp, hl⟩ := PyData.shownKv_key_le _ t ht; Nat.le_trans hl (Nat.le_trans (dictText_mem_le hp) z'))
  obtain ⟨b2, hb2, k2⟩ := ReprAllK.of_readsAll (prog := X.prog) (w := X.w) rv s2 (fun z => by rw [n2] at z; cases z) (fun t ht => let ⟨p, hp, hl⟩ := PyData.shownKv_val_le _ t ht; Nat.le_trans hl (Nat.le_trans (dictText_mem_le hp) z'))
  have hb : ReadAtMost s.heap (PyData.depthKv (pairsD kvs ds)) (b1 ++ b2) := (hb1.mono (PyData.depthAll_keys_le _)).append (hb2.mono (PyData.depthAll_vals_le _))
  have whole : Reads s.heap (.ref a) (.dict (pairsD kvs ds)) _ := Reads.dict ho hc hdat rk rv
  have na : a ∉ b1 ++ b2 := not_mem_of_deeper whole (by simp only [PyData.depth]; omega) hb
  have dep : PyData.depthKv (pairsD kvs ds) + 1 ≤ n := by simpa only [PyData.depth] using hn
  refine call_repr_slot (by omega) ⟨o, ho, hc⟩ F.slot_dict_repr ?_
  refine call_dict_reprK (d := PyData.depthKv (pairsD kvs ds)) ho hc hdat hsm na (ReprEntriesK.of_two es.toList _ _
      (k1.more_le (fun b hb => List.mem_append_left _ hb) (PyData.depthAll_keys_le _)) (k2.more_le (fun b hb => List.mem_append_right _ hb) (PyData.depthAll_vals_le _)))
    gd (fun b _ => Clear.nil b) (by show X.A.units + 1 + (PyData.depthKv (pairsD kvs ds) + 1) < cLine; omega) (fun _ _ e => e) (fun h' u tk k => ?_) (by rw [← PyData.shownKv_eq]; exact z')
  refine ⟨_, u, rfl, .str _, H, I.kept (t' := tk) k, ⟨u, rfl⟩, ?_⟩
  simpa only [PyData.shown, PyData.shownKv_eq] using q
/-- repr of a bool -/
theorem call_reprB : CallR X (.builtin "repr") (fun vs H Q => ∃ b : Bool, vs = [.bl b] ∧ Q (.str (if b = true then ("True" : Str) else ("False" : Str))) H) := by
  intro pins s σ H xs us Q I r h
  obtain ⟨b, rfl, q⟩ := h
  obtain ⟨u, rfl, ru⟩ := vals1 r
  obtain rfl : u = Value.bool b := ru
  exact PySem.P.repr_of_bool ⟨.str _, H, I.tok _, ⟨_, rfl⟩, q⟩
end
end HX
/-! The plain laws of tables, in plain Lean. -/
namespace W76
/-- the three products -/
def pr (form n a b : Nat) : Nat := if form = 0 then min (a + b) (n - 1) else if form = 1 then (a + b) % n else max a b
theorem pr_lt {form n a b : Nat} (hn : 0 < n) (ha : a < n) (hb : b < n) : pr form n a b < n := by
  unfold pr
  split
  · omega
  · split
    · exact Nat.mod_lt _ hn
    · omega
theorem pr_unit {form n b : Nat} (hb : b < n) : pr form n 0 b = b := by
  unfold pr
  split
  · omega
  · split
    · rw [Nat.zero_add, Nat.mod_eq_of_lt hb]
    · omega
theorem pr_comm {form n a b : Nat} : pr form n a b = pr form n b a := by
  unfold pr
  rw [Nat.add_comm a b, Nat.max_comm a b]
theorem pr_assoc {form n a b c : Nat} (ha : a < n) (hb : b < n) (hc : c < n) : pr form n (pr form n a b) c = pr form n a (pr form n b c) := by
  unfold pr
  split
  · omega
  · split
    · rw [Nat.mod_add_mod, Nat.add_mod_mod, Nat.add_assoc]
    · omega
/-! ### tables as lists of rows -/
abbrev Rows := List (List Nat)
def tab (n : Nat) (f : Nat → Nat → Nat) : Rows := (List.range n).map fun a => (List.range n).map (f a)
def at1 (r : List Nat) (j : Nat) : Nat := r[j]?.getD 0
def rowAt (rows : Rows) (i : Nat) : List Nat := rows[i]?.getD []
def at2 (rows : Rows) (i j : Nat) : Nat := at1 (rowAt rows i) j
def rowOk (n : Nat) (r : List Nat) : Bool := decide (r.length = n) && r.all fun k => decide (k < n)
def shapeB (rows : Rows) : Bool := rows.all (rowOk rows.length) && decide (0 < rows.length)
def unitB (rows : Rows) : Bool := decide (rowAt rows 0 = List.range rows.length)
def orderB (rows : Rows) : Bool := (List.range rows.length).all fun i => (List.range i).all fun j => decide (at2 rows i j = at2 rows j i)
def groupB (rows : Rows) : Bool := rows.all fun row => (List.range rows.length).all fun j => decide (rowAt rows (at1 row j) = (rowAt rows j).map (at1 row))
theorem tab_len (n : Nat) (f : Nat → Nat → Nat) : (tab n f).length = n := by simp [tab]
theorem tab_get {n : Nat} {f : Nat → Nat → Nat} {i : Nat} (h : i < n) : (tab n f)[i]? = some ((List.range n).map (f i)) := by
  simp [tab, List.getElem?_map, List.getElem?_range h]
theorem rowAt_tab {n : Nat} {f : Nat → Nat → Nat} {i : Nat} (h : i < n) : rowAt (tab n f) i = (List.range n).map (f i) := by
  unfold rowAt
  rw [tab_get h]
  rfl
theorem at1_map {n : Nat} {g : Nat → Nat} {j : Nat} (h : j < n) : at1 ((List.range n).map g) j = g j := by
  simp [at1, List.getElem?_map, List.getElem?_range h]
theorem at2_tab {n : Nat} {f : Nat → Nat → Nat} {i j : Nat} (h : i < n) (hj : j < n) : at2 (tab n f) i j = f i j := by
  unfold at2
  rw [rowAt_tab h, at1_map hj]
theorem mem_tab {n : Nat} {f : Nat → Nat → Nat} {r : List Nat} (h : r ∈ tab n f) : ∃ i, i < n ∧ r = (List.range n).map (f i) := by
  unfold tab at h
  obtain ⟨i, hi, e⟩ := List.mem_map.mp h
  exact ⟨i, List.mem_range.mp hi, e.symm⟩
/-- closed, with unit, commutative, associative on the first n numbers -/
structure Good (n : Nat) (f : Nat → Nat → Nat) : Prop where
  pos : 0 < n
  lt : ∀ a b, a < n → b < n → f a b < n
  unit : ∀ b, b < n → f 0 b = b
  comm : ∀ a b, a < n → b < n → f a b = f b a
  assoc : ∀ a b c, a < n → b < n → c < n → f (f a b) c = f a (f b c)
theorem pr_good {form n : Nat} (hn : 0 < n) : Good n (pr form n) :=
  ⟨hn, fun _ _ => pr_lt hn, fun _ => pr_unit, fun _ _ _ _ => pr_comm, fun _ _ _ => pr_assoc⟩
theorem shape_tab {n : Nat} {f : Nat → Nat → Nat} (hn : 0 < n) (hl : ∀ a b, a < n → b < n → f a b < n) : shapeB (tab n f) = true := by
  unfold shapeB
  rw [tab_len, decide_eq_true hn, Bool.and_true, List.all_eq_true]
  intro r hr
  obtain ⟨i, hi, rfl⟩ := mem_tab hr
  simp [rowOk]
  intro j hj
  exact hl i j hi hj
theorem unit_tab {n : Nat} {f : Nat → Nat → Nat} (hn : 0 < n) (hu : ∀ b, b < n → f 0 b = b) : unitB (tab n f) = true := by
  unfold unitB
  rw [tab_len, rowAt_tab hn, decide_eq_true_eq]
  apply List.ext_getElem
  · simp
  · intro i h1 h2
    simp at h1
    simp [hu i h1]
theorem order_tab {n : Nat} {f : Nat → Nat → Nat} (hc : ∀ a b, a < n → b < n → f a b = f b a) : orderB (tab n f) = true := by
  unfold orderB
  rw [tab_len]
  simp only [List.all_eq_true, List.mem_range, decide_eq_true_eq]
  intro i hi j hj
  have h2 : j < n := by omega
  rw [at2_tab hi h2, at2_tab h2 hi]
  exact hc i j hi h2
theorem group_tab {n : Nat} {f : Nat → Nat → Nat} (hl : ∀ a b, a < n → b < n → f a b < n) (ha : ∀ a b c, a < n → b < n → c < n → f (f a b) c = f a (f b c)) : groupB (tab n f) = true := by
  unfold groupB
  rw [tab_len]
  simp only [List.all_eq_true, List.mem_range, decide_eq_true_eq]
  intro r hr j hj
  obtain ⟨i, hi, rfl⟩ := mem_tab hr
  rw [at1_map hj, rowAt_tab (hl i j hi hj), rowAt_tab hj, List.map_map]
  apply List.map_congr_left
  intro c hc
  have hc := List.mem_range.mp hc
  show f (f i j) c = at1 _ (f j c)
  rw [at1_map (hl j c hj hc)]
  exact ha i j c hi hj hc
/-! ### spoilt tables -/
/-- another last row -/
theorem shape_badRow {rows : Rows} {r : List Nat} (hr : r ∈ rows) (hb : rowOk rows.length r = false) : shapeB rows = false := by
  unfold shapeB
  have : rows.all (rowOk rows.length) = false := by
    rw [List.all_eq_false]
    exact ⟨r, hr, by rw [hb]; exact Bool.false_ne_true⟩
  rw [this, Bool.false_and]
def upd2 (f : Nat → Nat → Nat) (i j v : Nat) : Nat → Nat → Nat := fun a b => if a = i ∧ b = j then v else f a b
theorem range_map_set {n j v : Nat} {g : Nat → Nat} : ((List.range n).map g).set j v = (List.range n).map fun b => if b = j then v else g b := by
  apply List.ext_getElem
  · simp
  · intro k h1 h2
    simp at h1
    by_cases hk : k = j
    · subst hk
      simp
    · have hk' : ¬ j = k := fun e => hk e.symm
      simp [List.getElem_set, hk, hk']
theorem tab_set {n i j v : Nat} {f : Nat → Nat → Nat} (hi : i < n) : (tab n f).set i (((List.range n).map (f i)).set j v) = tab n (upd2 f i j v) := by
  apply List.ext_getElem
  · simp [tab]
  · intro k h1 h2
    simp [tab] at h1
    rw [List.getElem_set]
    by_cases hk : i = k
    · subst hk
      rw [if_pos rfl, range_map_set]
      simp only [tab, List.getElem_map, List.getElem_range]
      apply List.map_congr_left
      intro b _
      simp [upd2]
    · rw [if_neg hk]
      simp only [tab, List.getElem_map, List.getElem_range]
      apply List.map_congr_left
      intro b _
      have hk' : ¬ k = i := fun e => hk e.symm
      simp [upd2, hk']
theorem unit_bad {n d : Nat} {f : Nat → Nat → Nat} (h1 : 1 < n) (hd : d < n - 1) : unitB (tab n (upd2 f 0 (n - 1) d)) = false := by
  unfold unitB
  rw [tab_len, rowAt_tab (by omega), decide_eq_false_iff_not]
  intro e
  have e1 := congrArg (fun l => l[n - 1]?) e
  simp only [List.getElem?_map, List.getElem?_range (show n - 1 < n by omega), Option.map_some, Option.some.injEq] at e1
  simp [upd2] at e1
  omega
theorem shape_upd {n i j v : Nat} {f : Nat → Nat → Nat} (hn : 0 < n) (hl : ∀ a b, a < n → b < n → f a b < n) (hv : v < n) : ∀ a b, a < n → b < n → upd2 f i j v a b < n := by
  intro a b ha hb
  unfold upd2
  split
  · exact hv
  · exact hl a b ha hb
theorem order_bad {n : Nat} {f : Nat → Nat → Nat} (h2 : 2 < n) (hc : f (n - 1) (n - 2) = f (n - 2) (n - 1)) (hl : f (n - 1) (n - 2) < n) : orderB (tab n (upd2 f (n - 1) (n - 2) ((f (n - 1) (n - 2) + 1) % n))) = false := by
  unfold orderB
  rw [tab_len]
  rw [List.all_eq_false]
  refine ⟨n - 1, List.mem_range.mpr (by omega), ?_⟩
  rw [Bool.not_eq_true, List.all_eq_false]
  refine ⟨n - 2, List.mem_range.mpr (by omega), ?_⟩
  rw [at2_tab (by omega) (by omega), at2_tab (by omega) (by omega)]
  have e1 : upd2 f (n - 1) (n - 2) ((f (n - 1) (n - 2) + 1) % n) (n - 1) (n - 2) = (f (n - 1) (n - 2) + 1) % n := by simp [upd2]
  have e2 : upd2 f (n - 1) (n - 2) ((f (n - 1) (n - 2) + 1) % n) (n - 2) (n - 1) = f (n - 1) (n - 2) := by
    have : ¬ (n - 2 = n - 1 ∧ n - 1 = n - 2) := by omega
    unfold upd2
    rw [if_neg this, hc]
  rw [e1, e2, decide_eq_true_eq]
  intro e
  by_cases h : f (n - 1) (n - 2) + 1 < n
  · rw [Nat.mod_eq_of_lt h] at e
    omega
  · have : f (n - 1) (n - 2) + 1 = n := by omega
    rw [this, Nat.mod_self] at e
    omega
/-- the product of the last two elements is 1 on both sides, where the product is the greater of two -/
def bent (n : Nat) : Nat → Nat → Nat := upd2 (upd2 (pr 2 n) (n - 1) (n - 2) 1) (n - 2) (n - 1) 1
theorem bent_at {n a b : Nat} : bent n a b = if a = n - 2 ∧ b = n - 1 then 1 else if a = n - 1 ∧ b = n - 2 then 1 else max a b := by
  simp [bent, upd2, pr]
theorem bent_unit {n b : Nat} (h : 4 < n) (hb : b < n) : bent n 0 b = b := by
  rw [bent_at, if_neg (by omega), if_neg (by omega)]
  omega
theorem bent_comm {n a b : Nat} : bent n a b = bent n b a := by
  rw [bent_at, bent_at]
  by_cases h1 : a = n - 2 ∧ b = n - 1
  · rw [if_pos h1]
    by_cases h2 : b = n - 2 ∧ a = n - 1
    · rw [if_pos h2]
    · rw [if_neg h2, if_pos ⟨h1.2, h1.1⟩]
  · rw [if_neg h1]
    by_cases h3 : a = n - 1 ∧ b = n - 2
    · rw [if_pos h3, if_pos ⟨h3.2, h3.1⟩]
    · rw [if_neg h3, if_neg (fun z => h3 ⟨z.2, z.1⟩), if_neg (fun z => h1 ⟨z.2, z.1⟩), Nat.max_comm]
theorem bent_lt {n a b : Nat} (h : 4 < n) (ha : a < n) (hb : b < n) : bent n a b < n := by
  rw [bent_at]
  split
  · omega
  · split
    · omega
    · omega
theorem group_bad {n : Nat} (h : 4 < n) : groupB (tab n (bent n)) = false := by
  unfold groupB
  rw [tab_len, List.all_eq_false]
  refine ⟨(List.range n).map (bent n (n - 1)), ?_, ?_⟩
  · exact List.mem_map.mpr ⟨n - 1, List.mem_range.mpr (by omega), rfl⟩
  · rw [Bool.not_eq_true, List.all_eq_false]
    refine ⟨n - 2, List.mem_range.mpr (by omega), ?_⟩
    rw [at1_map (by omega)]
    have e1 : bent n (n - 1) (n - 2) = 1 := by
      rw [bent_at, if_neg (by omega), if_pos ⟨rfl, rfl⟩]
    rw [e1, rowAt_tab (by omega), rowAt_tab (by omega), decide_eq_true_eq]
    intro e
    have e2 := congrArg (fun l => l[2]?) e
    simp only [List.getElem?_map, List.getElem?_range (show 2 < n by omega), Option.map_some, Option.some.injEq] at e2
    have e3 : bent n 1 2 = 2 := by
      rw [bent_at, if_neg (by omega), if_neg (by omega)]
      omega
    have e4 : bent n (n - 2) 2 = n - 2 := by
      rw [bent_at, if_neg (by omega), if_neg (by omega)]
      omega
    rw [e3, e4, at1_map (by omega), e1] at e2
    omega
end W76
namespace HX
open PySem PySem.Spec PyProof.Rows L2
/-! ### frozen data: a part G of the heap that never changes any more -/
theorem Same.tup {K : PySem.W.Frag} {H H' : Hp} {a : Addr} {xs : List V} (e : Same H H') (h : SqT K H a xs) : SqT K H' a xs := by
  rcases h with (h | ⟨o, h⟩) | h
  · exact .inl (.inl (e _ _ h))
  · exact .inl (.inr ⟨o, e _ _ h⟩)
  · exact .inr h
theorem Same.new {H : Hp} {a : Addr} {o : HO} (h : H a = none) : Same H (upd H a o) := fun b u e => by
  rw [upd_ne (ne_of_none e h)]
  exact e
theorem Same.put {G H : Hp} {a : Addr} {o : HO} (e : Same G H) (h : G a = none) : Same G (upd H a o) := fun b u q => by
  rw [upd_ne (ne_of_none q h)]
  exact e b u q
theorem Same.both {G H : Hp} {a : Addr} {o : HO} (e : Same G H) : Same (upd G a o) (upd H a o) := fun b u q => by
  by_cases hb : b = a
  · subst hb
    rw [upd_same] at q ⊢
    exact q
  · rw [upd_ne hb] at q ⊢
    exact e b u q
theorem Same.none {G H : Hp} {a : Addr} (e : Same G H) (h : H a = Option.none) : G a = Option.none := e.free h
/-- what a piece of code does: from the frozen part G and the heap H to G' and H'; m: what it may change -/
structure Stp (m : Addr → Prop) (G H G' H' : Hp) : Prop where
  gg : Same G G'
  gh : Same G' H'
  nw : ∀ a, G a = none → H a ≠ none → G' a = none
  un : ∀ a o, ¬ m a → H a = some o → H' a = some o
  th : ∀ a, H a ≠ none → H' a ≠ none
abbrev nom : Addr → Prop := fun _ => False
section
variable {m m' : Addr → Prop} {G H G1 H1 G2 H2 : Hp} {a : Addr} {o u : HO}
theorem Stp.refl (e : Same G H) : Stp m G H G H := ⟨Same.refl G, e, fun _ h _ => h, fun _ _ _ h => h, fun _ h => h⟩
theorem Stp.trans (s : Stp m G H G1 H1) (t : Stp m' G1 H1 G2 H2) (hm : ∀ a, m' a → m a ∨ H a = none) : Stp m G H G2 H2 := by
  refine ⟨s.gg.trans t.gg, t.gh, fun a h1 h2 => t.nw a (s.nw a h1 h2) (s.th a h2), fun a o h1 h2 => t.un a o (fun z => ?_) (s.un a o h1 h2), fun a h => t.th a (s.th a h)⟩
  rcases hm a z with q | q
  · exact h1 q
  · rw [h2] at q
    cases q
theorem Stp.tr0 (s : Stp m G H G1 H1) (t : Stp nom G1 H1 G2 H2) : Stp m G H G2 H2 := s.trans t fun _ z => z.elim
theorem Stp.tr (s : Stp m G H G1 H1) (t : Stp m G1 H1 G2 H2) : Stp m G H G2 H2 := s.trans t fun _ z => Or.inl z
theorem Stp.wide (s : Stp m G H G1 H1) (h : ∀ a, m a → m' a) : Stp m' G H G1 H1 := ⟨s.gg, s.gh, s.nw, fun a o z => s.un a o fun q => z (h a q), s.th⟩
/-- a new object that will not change -/
theorem Stp.newF (s : Stp m G H G1 H1) (h : H1 a = none) : Stp m G H (upd G1 a o) (upd H1 a o) := by
  have hH : H a = none := by
    cases q : H a with
    | none => rfl
    | some z => exact absurd h (s.th a (by rw [q]; exact fun z => nomatch z))
  refine ⟨s.gg.trans (Same.new (Same.none s.gh h)), Same.both s.gh, fun b h1 h2 => ?_, fun b u h1 h2 => ?_, fun b h2 => ?_⟩
  · have hb : b ≠ a := fun z => h2 (by rw [z]; exact hH)
    rw [upd_ne hb]
    exact s.nw b h1 h2
  · rw [upd_ne (ne_of_none h2 hH)]
    exact s.un b u h1 h2
  · have hb : b ≠ a := fun z => h2 (by rw [z]; exact hH)
    rw [upd_ne hb]
    exact s.th b h2
/-- a new object that may change yet -/
theorem Stp.newM (s : Stp m G H G1 H1) (h : H1 a = none) : Stp m G H G1 (upd H1 a o) := by
  have hH : H a = none := by
    cases q : H a with
    | none => rfl
    | some z => exact absurd h (s.th a (by rw [q]; exact fun z => nomatch z))
  refine ⟨s.gg, Same.put s.gh (Same.none s.gh h), s.nw, fun b u h1 h2 => ?_, fun b h2 => ?_⟩
  · rw [upd_ne (ne_of_none h2 hH)]
    exact s.un b u h1 h2
  · have hb : b ≠ a := fun z => h2 (by rw [z]; exact hH)
    rw [upd_ne hb]
    exact s.th b h2
/-- an object is changed -/
theorem Stp.put (s : Stp m G H G1 H1) (h : m a ∨ H a = none) (hg : G1 a = none) : Stp m G H G1 (upd H1 a o) := by
  refine ⟨s.gg, Same.put s.gh hg, s.nw, fun b u h1 h2 => ?_, fun b h2 => ?_⟩
  · have hb : b ≠ a := fun z => by
      subst z
      rcases h with h | h
      · exact h1 h
      · rw [h2] at h
        cases h
    rw [upd_ne hb]
    exact s.un b u h1 h2
  · by_cases hb : b = a
    · subst hb
      rw [upd_same]
      exact fun z => nomatch z
    · rw [upd_ne hb]
      exact s.th b h2
/-- an object of one's own will not change any more -/
theorem Stp.freeze (s : Stp m G H G1 H1) (h : H a = none) (hg : G1 a = none) (e : H1 a = some o) : Stp m G H (upd G1 a o) H1 := by
  refine ⟨s.gg.trans (Same.new hg), fun b u q => ?_, fun b h1 h2 => ?_, s.un, s.th⟩
  · by_cases hb : b = a
    · subst hb
      rw [upd_same] at q
      rw [e, ← q]
    · rw [upd_ne hb] at q
      exact s.gh b u q
  · have hb : b ≠ a := fun z => h2 (by rw [z]; exact h)
    rw [upd_ne hb]
    exact s.nw b h1 h2
theorem Stp.g0 (s : Stp m G H G1 H1) (h : G a = none) (e : H a = some o) : G1 a = none := s.nw a h (by rw [e]; exact fun z => nomatch z)
/-- what is new behind the step was not there -/
theorem Stp.was (s : Stp m G H G1 H1) (h : H1 a = none) : H a = none := by
  cases q : H a with
  | none => rfl
  | some z => exact absurd h (s.th a (by rw [q]; exact fun z => nomatch z))
end
/-! ### data in the frozen part -/
section
variable (K : PySem.W.Frag)
abbrev iv (k : Nat) : V := .int (k : Int)
def Nats (G : Hp) (v : V) (ns : List Nat) : Prop := ∃ a, v = .ref a ∧ SqL K G a (ns.map iv)
def Bools (G : Hp) (v : V) (bs : List Bool) : Prop := ∃ a, v = .ref a ∧ SqL K G a (bs.map V.bl)
def Strs (G : Hp) (v : V) (ss : List Str) : Prop := ∃ a, v = .ref a ∧ SqL K G a (ss.map V.str)
/-- a list of things, each known by a predicate -/
def Each {α : Type} (P : Hp → V → α → Prop) (G : Hp) (v : V) (ds : List α) : Prop := ∃ a xs, v = .ref a ∧ SqL K G a xs ∧ Paired (P G) xs ds
abbrev Table (G : Hp) (v : V) (rows : List (List Nat)) : Prop := Each K (Nats K) G v rows
end
section
variable {K : PySem.W.Frag} {G G' : Hp} {v : V}
theorem Nats.mono {ns : List Nat} (e : Same G G') (h : Nats K G v ns) : Nats K G' v ns := let ⟨a, h1, h2⟩ := h; ⟨a, h1, e.seq h2⟩
theorem Bools.mono {bs : List Bool} (e : Same G G') (h : Bools K G v bs) : Bools K G' v bs := let ⟨a, h1, h2⟩ := h; ⟨a, h1, e.seq h2⟩
theorem Strs.mono {ss : List Str} (e : Same G G') (h : Strs K G v ss) : Strs K G' v ss := let ⟨a, h1, h2⟩ := h; ⟨a, h1, e.seq h2⟩
theorem Each.mono {α : Type} {P : Hp → V → α → Prop} {ds : List α} (hP : ∀ v d, P G v d → P G' v d) (e : Same G G') (h : Each K P G v ds) : Each K P G' v ds :=
  let ⟨a, xs, h1, h2, h3⟩ := h; ⟨a, xs, h1, e.seq h2, Paired.mapP h3 hP⟩
theorem Table.mono {rows : List (List Nat)} (e : Same G G') (h : Table K G v rows) : Table K G' v rows := Each.mono (fun _ _ => Nats.mono e) e h
theorem Paired.get {α β : Type} {F : α → β → Prop} : ∀ {xs : List α} {ds : List β} {i : Nat} {d : β}, Paired F xs ds → ds[i]? = some d → ∃ x, xs[i]? = some x ∧ F x d
  | _, _, _, _, .nil, h => by simp at h
  | _, _, 0, d, .cons r _, h => by
    simp at h
    subst h
    exact ⟨_, rfl, r⟩
  | _, _, i + 1, d, .cons _ t, h => by
    obtain ⟨x, h1, h2⟩ := Paired.get (i := i) t (by simpa using h)
    exact ⟨x, by simpa using h1, h2⟩
theorem Paired.getL {α β : Type} {F : α → β → Prop} : ∀ {xs : List α} {ds : List β} {i : Nat} {x : α}, Paired F xs ds → xs[i]? = some x → ∃ d, ds[i]? = some d ∧ F x d
  | _, _, _, _, .nil, h => by simp at h
  | _, _, 0, d, .cons r _, h => by
    simp at h
    subst h
    exact ⟨_, rfl, r⟩
  | _, _, i + 1, d, .cons _ t, h => by
    obtain ⟨x, h1, h2⟩ := Paired.getL (i := i) t (by simpa using h)
    exact ⟨x, by simpa using h1, h2⟩
theorem Paired.len {α β : Type} {F : α → β → Prop} : ∀ {xs : List α} {ds : List β}, Paired F xs ds → xs.length = ds.length
  | _, _, .nil => rfl
  | _, _, .cons _ t => by rw [List.length_cons, List.length_cons, Paired.len t]
theorem Paired.snoc {α β : Type} {F : α → β → Prop} {x : α} {d : β} (h : F x d) : ∀ {xs : List α} {ds : List β}, Paired F xs ds → Paired F (xs ++ [x]) (ds ++ [d])
  | _, _, .nil => .cons h .nil
  | _, _, .cons r t => .cons r (Paired.snoc h t)
theorem nats_at {ns : List Nat} {i k : Nat} (h : ns[i]? = some k) : (ns.map iv)[i]? = some (iv k) := by
  rw [List.getElem?_map, h]
  rfl
theorem bools_at {bs : List Bool} {i : Nat} {b : Bool} (h : bs[i]? = some b) : (bs.map V.bl)[i]? = some (V.bl b) := by
  rw [List.getElem?_map, h]
  rfl
theorem strs_at {ss : List Str} {i : Nat} {x : Str} (h : ss[i]? = some x) : (ss.map V.str)[i]? = some (V.str x) := by
  rw [List.getElem?_map, h]
  rfl
theorem atN {xs : List V} {j : Nat} {v : V} (h : xs[j]? = some v) : atI xs (j : Int) = some v := atI_nat h
theorem range_at {α : Type} {n i : Nat} {f : Nat → α} (h : i < n) : ((List.range n).map f)[i]? = some (f i) := by
  rw [List.getElem?_map, List.getElem?_range h]
  rfl
theorem range_snoc {α : Type} {n : Nat} {f : Nat → α} : (List.range (n + 1)).map f = (List.range n).map f ++ [f n] := by
  rw [List.range_succ, List.map_append]
  rfl
end
theorem sz1 {n : Nat} (h : n ≤ 100000) : n ≤ sizeLine := Nat.le_trans h (by decide)
theorem sz2 {n : Nat} (h : n < 100000) : n < sizeLine := Nat.lt_of_lt_of_le h (by decide)
end HX
namespace HX
open PySem PySem.Spec PyProof.Rows L2
/-! ### lists of numbers as data -/
abbrev natD (k : Nat) : PyData := .int (k : Int)
abbrev natsD (ns : List Nat) : PyData := .list (ns.map natD)
theorem canLay_nats : ∀ ns : List Nat, PyData.canLayAll0 (ns.map natD) = true
  | [] => by simp only [List.map_nil, PyData.canLayAll0]
  | n :: ns => by simp only [List.map_cons, PyData.canLayAll0, PyData.canLay0, canLay_nats ns, Bool.and_self]
theorem depth_nats : ∀ ns : List Nat, PyData.depthAll (ns.map natD) = 0
  | [] => by simp only [List.map_nil, PyData.depthAll]
  | n :: ns => by simp only [List.map_cons, PyData.depthAll, PyData.depth, depth_nats ns, Nat.max_self]
theorem shaped_nats (ns : List Nat) : SeqAt.shaped (natsD ns) = true := by
  unfold SeqAt.shaped
  rw [Bool.and_eq_true]
  refine ⟨?_, ?_⟩
  · show PyData.canLay0 (.list (ns.map natD)) = true
    simp only [PyData.canLay0, canLay_nats]
  · rw [decide_eq_true_eq]
    simp only [PyData.depth, depth_nats]
    decide
theorem eqvAll_nats : ∀ (a b : List Nat), PyData.eqvAll (a.map natD) (b.map natD) = decide (a = b)
  | [], [] => by simp [PyData.eqvAll]
  | [], y :: b => by simp [PyData.eqvAll]
  | x :: a, [] => by simp [PyData.eqvAll]
  | x :: a, y :: b => by
    simp only [List.map_cons, PyData.eqvAll, PyData.eqv, eqvAll_nats a b]
    by_cases h : x = y
    · subst h
      by_cases h2 : a = b
      · simp [h2]
      · simp [h2]
    · have h' : ((x : Int) == (y : Int)) = false := by
        rw [beq_eq_false_iff_ne]
        omega
      simp [h, h']
theorem eqv_nats (a b : List Nat) : PyData.eqv (natsD a) (natsD b) = decide (a = b) := by
  show PyData.eqv (.list (a.map natD)) (.list (b.map natD)) = _
  simp only [PyData.eqv, eqvAll_nats]
section
variable {K : PySem.W.Frag} {H : Hp} {v : V}
theorem dpAll_nats : ∀ ns : List Nat, DpAll K H (ns.map iv) (ns.map natD)
  | [] => .nil
  | n :: ns => .cons (.int _) (dpAll_nats ns)
theorem dp_sq {a : Addr} {ns : List Nat} (h : SqL K H a (ns.map iv)) : Dp K H (.ref a) (natsD ns) := .lst h (dpAll_nats ns)
theorem dp_nats {ns : List Nat} (h : Nats K H v ns) : Dp K H v (natsD ns) := by
  obtain ⟨a, rfl, h⟩ := h
  exact dp_sq h
end
end HX
namespace HX
open PySem PySem.Spec PyProof.Rows L2
/-! ### the rules with the written part named, for use within a comprehension -/
section
variable {X : Cx} (K : PySem.W.Frag)
theorem ixL (h : X.K = K := by rfl) : IxR X (rIxL K) := by
  subst h
  exact ix_list
theorem ixT (h : X.K = K := by rfl) : IxR X (rIxT K) := by
  subst h
  exact ix_tup
theorem lenS (h : X.K = K := by rfl) : CallR X (.builtin "len") (fun vs H Q => ∃ p ys, vs = [.ref p] ∧ (SqL K H p ys ∨ SqT K H p ys) ∧ Q (.int ys.length) H) := by
  subst h
  exact call_len_seq
theorem listS (h : X.K = K := by rfl) : CallR X (.type "list") (fun vs H Q => ∃ p ys, vs = [.ref p] ∧ (SqL K H p ys ∨ SqT K H p ys) ∧ ∀ l, H l = none → Q (.ref l) (upd H l (.lst ys))) := by
  subst h
  exact call_list_of
theorem tupleS (h : X.K = K := by rfl) : CallR X (.type "tuple") (fun vs H Q => ∃ p ys, vs = [.ref p] ∧ ((SqL K H p ys ∧ ∀ l, H l = none → Q (.ref l) (upd H l (.tup ys))) ∨ (SqT K H p ys ∧ Q (.ref p) H))) := by
  subst h
  exact call_tuple_of
theorem inS (h : X.K = K := by rfl) : OpR X (compareOp .In) (rIn K false) := by
  subst h
  exact op_in_seq
theorem ninS (h : X.K = K := by rfl) : OpR X (compareOp .NotIn) (rIn K true) := by
  subst h
  exact op_notIn_seq
theorem eqD (hu : X.A.units + 64 < cLine) (h : X.K = K := by rfl) : OpR X (compareOp .Eq) (rEqD K) := by
  subst h
  exact op_eqD hu
theorem neD (hu : X.A.units + 64 < cLine) (h : X.K = K := by rfl) : OpR X (compareOp .NotEq) (rNeD K) := by
  subst h
  exact op_neD hu
theorem slL (h : X.K = K := by rfl) : SlR X (rSlL K) := by
  subst h
  exact sl_list
theorem slT (h : X.K = K := by rfl) : SlR X (rSlT K) := by
  subst h
  exact sl_tup
theorem piL {tg l : Expr} {tl : TE} (hl : PE X l tl) (h : X.K = K := by rfl) : PI X tg l (iList K tl) := by
  subst h
  exact pi_list hl
theorem piT {tg l : Expr} {tl : TE} (hl : PE X l tl) (h : X.K = K := by rfl) : PI X tg l (iTup K tl) := by
  subst h
  exact pi_tup hl
theorem pe_fldK {e : Expr} {f : Str} {ta : TE} {pos : Pos} (he : PE X e ta) (hb : attributeBase e f X.env (eval e X.env) = eval e X.env) (h : X.K = K := by rfl) : PE X (.Attribute e f pos) (tFld K ta f) := by
  subst h
  exact pe_fld he hb
theorem pt_truthK {a : Expr} {ta : TE} (ha : PE X a ta) (he : ∀ whole, isTrue a X.env whole = (do let v ← whole; standAt a.pos; holding [v] (truthy v))) (h : X.K = K := by rfl) :
    PT X a (fun σ H Q => ta σ H fun x H' => ∃ k, TruV K x H' k ∧ Q k H') := by
  subst h
  exact pt_truth ha he
end
end HX
namespace HX
open PySem PySem.Spec PyProof.Rows L2
section
variable {X : Cx}
/-- name = {..} by a comprehension on one line, the name a local -/
theorem ps_setDc {i : Nat} {y : Str} {py : Pos} {kx vx tg iter : Expr} {ifs : List Expr} {scope : Scope} {own : List (Str × Nat)} {pos spos : Pos} {wi : TI} {g : TG} {tt : TT} {tk tv : TE} (calm : X.calm = true) (nd : X.N.Nodup) (at_ : X.N[i]? = some y)
    (loc : X.env.scope.names.lookup y = some .local) (sw : swapsWith (.DictComp kx vx [⟨tg, iter, ifs, 0⟩] scope pos) (some (.Name y py)) spos.line X.env = pure true) (walk : PI X tg iter wi) (ok : BlkOk X.N X.env.scope scope own)
    (hg : ∀ (s : Shared) (H : Hp) (C : Addr) (cl : List (Str × Addr)) (fp : List Addr), PG (X.blk s H scope (compEnvC scope cl C X.env) fp) tg g)
    (ht : ∀ (s : Shared) (H : Hp) (C : Addr) (cl : List (Str × Addr)) (fp : List Addr), PTs (X.blk s H scope (compEnvC scope cl C X.env) fp) ifs tt)
    (hk : ∀ (s : Shared) (H : Hp) (C : Addr) (cl : List (Str × Addr)) (fp : List Addr), PE (X.blk s H scope (compEnvC scope cl C X.env) fp) kx tk)
    (hv : ∀ (s : Shared) (H : Hp) (C : Addr) (cl : List (Str × Addr)) (fp : List Addr), PE (X.blk s H scope (compEnvC scope cl C X.env) fp) vx tv) (hs : ∀ x, foldedSetIterable iter X.env x = pure x := by intro _; rfl) :
    PS X (.Assign [.Name y py] (.DictComp kx vx [⟨tg, iter, ifs, 0⟩] scope pos) spos) (tAsg (tDc wi g tt tk tv (own.map (·.2))) (gName i)) := by
  constructor
  intro pins s σ H D I want
  rw [exec_Assign_Name_used _ _ _ _ sw]
  refine wpAny_bind (wpAny_standAt (wpAny_bind ?_))
  show wpAny _ X.A (do let _ ← comprehension (.DictComp kx vx [⟨tg, iter, ifs, 0⟩] scope pos) scope X.env (firstIterPos [⟨tg, iter, ifs, 0⟩] pos) newDict false (eval iter X.env) (some (assign (.Name y py) X.env))) _ _ s
  have want' : tDc wi g tt tk tv (own.map (·.2)) σ H (fun x H1 => gName i x σ H1 D.nx) := want
  refine wpAny_bind (thn (Q := fun _ s' => SP X pins D .next s') (dc_core calm nd I walk ok hg ht hk hv hs want' ?_) fun _ s' hq => wpAny_pure (wpAny_pure hq))
  intro L C s' m H' I' q hn f
  show wpAny _ _ (assign (.Name y py) X.env (.ref L)) _ _ _
  refine wpAny_assign_Name (store_ok2 (v := V.ref L) I' nd at_ (.inl loc) rfl (fun s2 I2 got => ?_) (.inr loc))
  obtain ⟨a, sb, ha⟩ := got
  obtain ⟨f0, f1, f2, f3, f4, f5⟩ := f
  have other : C ≠ a := by
    rcases ha with z | z
    · rw [z]
      exact f1
    · exact fun e => f4 y a z e.symm
  refine ⟨m, hn.sameBut sb other, fun h3 sb3 => ⟨_, H', ?_, q⟩⟩
  exact I2.turned (t' := s2.toks) (fun b o hb e => (sb3.2 b hb).trans e) f0 f1 f3 f4 f5
theorem sw_trueD {kx vx : Expr} {gs : List Comprehension} {scope : Scope} {pos py : Pos} {y : Str} {l : Nat} {env : Env} (hk : env.scope.kind = .function) (hy : env.scope.names.lookup y = some .local) (hl : (py.line == pos.line) = true)
    (ha : (scope.names.any fun (n, k) => n == y && (k == .local || k == .cell)) = false) : swapsWith (.DictComp kx vx gs scope pos) (some (.Name y py)) l env = pure true := by
  have e1 : env.kindOf y = some .local := hy
  have e2 : env.blockKind = .function := by
    unfold Env.blockKind
    rw [hk] <;> rfl
  unfold swapsWith
  simp only [e2, e1, ha, Expr.pos, hl] <;> rfl
end
end HX
namespace HX
open PySem PySem.Spec PyProof.Rows L2
/-- a predicate that keeps in a greater frozen part -/
def Mono {α : Type} (P : Hp → V → α → Prop) : Prop := ∀ G G' v d, Same G G' → P G v d → P G' v d
theorem mono_nats {K : PySem.W.Frag} : Mono (Nats K) := fun _ _ _ _ e h => Nats.mono e h
theorem mono_bools {K : PySem.W.Frag} : Mono (Bools K) := fun _ _ _ _ e h => Bools.mono e h
theorem mono_each {α : Type} {K : PySem.W.Frag} {P : Hp → V → α → Prop} (h : Mono P) : Mono (Each K P) := fun _ _ _ _ e q => Each.mono (fun v d => h _ _ v d e) e q
/-- a list that is being built at D, not frozen yet: its items are known -/
structure Build {α : Type} (P : Hp → V → α → Prop) (m : Addr → Prop) (G H : Hp) (D : Addr) (ds : List α) (G' H' : Hp) : Prop where
  stp : Stp m G H G' H'
  new : H D = none
  nog : G' D = none
  lst : ∃ ys, H' D = some (.lst ys) ∧ Paired (P G') ys ds
section
variable {α : Type} {P : Hp → V → α → Prop} {m m' : Addr → Prop} {G H G1 H1 G2 H2 : Hp} {D : Addr} {ds : List α}
theorem Build.start (s : Stp m G H G1 H1) (h : H1 D = none) : Build P m G H D [] G1 (upd H1 D (.lst [])) :=
  ⟨s.newM h, s.was h, Same.none s.gh h, [], upd_same, .nil⟩
theorem Build.step (b : Build P m G H D ds G1 H1) (mono : Mono P) (s : Stp m' G1 H1 G2 H2) (hm : ∀ a, m' a → m a ∨ H a = none) (nD : ¬ m' D) : Build P m G H D ds G2 H2 := by
  obtain ⟨ys, e, hp⟩ := b.lst
  refine ⟨b.stp.trans s hm, b.new, s.g0 b.nog e, ys, s.un D _ nD e, Paired.mapP hp fun v d => mono _ _ v d s.gg⟩
theorem Build.step0 (b : Build P m G H D ds G1 H1) (mono : Mono P) (s : Stp nom G1 H1 G2 H2) : Build P m G H D ds G2 H2 := b.step mono s (fun _ z => z.elim) fun z => z
/-- a new item -/
theorem Build.snoc (b : Build P m G H D ds G1 H1) {y : V} {d : α} (h : P G1 y d) : ∃ ys, H1 D = some (.lst ys) ∧ ys.length = ds.length ∧ Build P m G H D (ds ++ [d]) G1 (upd H1 D (.lst (ys ++ [y]))) := by
  obtain ⟨ys, e, hp⟩ := b.lst
  exact ⟨ys, e, Paired.len hp, b.stp.put (Or.inr b.new) b.nog, b.new, b.nog, ys ++ [y], upd_same, Paired.snoc h hp⟩
/-- it is frozen -/
theorem Build.done {K : PySem.W.Frag} (b : Build P m G H D ds G1 H1) (mono : Mono P) : ∃ G2, Stp m G H G2 H1 ∧ Same G1 G2 ∧ Each K P G2 (.ref D) ds := by
  obtain ⟨ys, e, hp⟩ := b.lst
  have s := b.stp.freeze b.new b.nog e
  exact ⟨upd G1 D (.lst ys), s, Same.new b.nog, D, ys, rfl, SqL.of upd_same, Paired.mapP hp fun v d => mono _ _ v d (Same.new b.nog)⟩
/-- .. and the address is told to be new -/
theorem Build.done' {K : PySem.W.Frag} (b : Build P m G H D ds G1 H1) (mono : Mono P) : ∃ G2, Stp m G H G2 H1 ∧ Same G1 G2 ∧ Each K P G2 (.ref D) ds ∧ ∀ a, a ≠ D → G2 a = G1 a := by
  obtain ⟨ys, e, hp⟩ := b.lst
  have s := b.stp.freeze b.new b.nog e
  exact ⟨upd G1 D (.lst ys), s, Same.new b.nog, ⟨D, ys, rfl, SqL.of upd_same, Paired.mapP hp fun v d => mono _ _ v d (Same.new b.nog)⟩, fun a h => upd_ne h⟩
end
/-- a new object beside -/
theorem stp_newF {m : Addr → Prop} {G H : Hp} {a : Addr} {o : HO} (e : Same G H) (h : H a = none) : Stp m G H (upd G a o) (upd H a o) := (Stp.refl e).newF h
theorem stp_newM {m : Addr → Prop} {G H : Hp} {a : Addr} {o : HO} (e : Same G H) (h : H a = none) : Stp m G H G (upd H a o) := (Stp.refl e).newM h
theorem nats_new {K : PySem.W.Frag} {G : Hp} {a : Addr} {ns : List Nat} : Nats K (upd G a (.lst (ns.map iv))) (.ref a) ns := ⟨a, rfl, SqL.of upd_same⟩
/-- scalars as items -/
def IsV (_ : Hp) (v : V) (d : V) : Prop := v = d
theorem mono_isV : Mono IsV := fun _ _ _ _ _ h => h
theorem isV_all {G : Hp} : ∀ {xs ds : List V}, Paired (IsV G) xs ds → xs = ds
  | _, _, .nil => rfl
  | _, _, .cons h t => by rw [show _ = _ from h, isV_all t]
theorem Build.vals {m : Addr → Prop} {G H G1 H1 : Hp} {D : Addr} {ds : List V} (b : Build IsV m G H D ds G1 H1) : H1 D = some (.lst ds) := by
  obtain ⟨ys, e, hp⟩ := b.lst
  rw [e, isV_all hp]
end HX
namespace HX
open PySem PySem.Spec PyProof.Rows L2
/-! ### x op y, both instances of an own class that has the operator's own method -/
section
variable {X : Cx} {CX : CXT} {k : Nat} {C g : Addr} {fd : FuncData} {ps : List Str} {sp : Sp} {E : XK} {op : Operator} {nm : Str}
theorem op_own (hnm : PySem.dunder op.info.2 = nm) (hs : PySem.W.findIn X.K (.ref C) nm = some (some (.ref g))) (hf : PySem.W.isFn X.K (.ref g) = true) (hc : PySem.W.selfFirst X.K C = true)
    (F : FnOk X.prog X.w X.K X.mg X.base CX k g fd ps sp) (hr : Room k X.A) (hb : Binds X.K fd ps []) (hx : Passes CX X E) :
    OpR X (binaryOp op) (fun x y H Q => ∃ (a b dx dy : Addr) (fs gs : List (Str × V)), x = .ref a ∧ y = .ref b ∧ H a = some (.ins C dx fs) ∧ H b = some (.ins C dy gs) ∧
      sp [.ref a, .ref b] H (fun v H' => ∃ c : Addr, v = .ref c ∧ Q (.ref c) H') E) := by
  subst hnm
  intro pins s σ H x y v u Q I rx ry h
  obtain ⟨a, b, dx, dy, fs, gs, rfl, rfl, ha, hb', q⟩ := h
  obtain rfl : v = Value.ref a := rx
  obtain rfl : u = Value.ref b := ry
  obtain ⟨_, O1, _, _, _, _⟩ := ins_get I.hok ha
  obtain ⟨_, J1, _⟩ := O1.look
  obtain ⟨_, O2, _, _, _, _⟩ := ins_get I.hok hb'
  obtain ⟨_, J2, _⟩ := O2.look
  obtain ⟨m, fr⟩ := I.fr
  have many : ([.ref a, .ref b] : List V).length = ps.length := F.len _ _ _ _ q
  have bd : BindsTo s fd ⟨[.ref a, .ref b], []⟩ (ps.zip [.ref a, .ref b]) := by
    have z := hb s [.ref a, .ref b] I.kIn (by rw [List.append_nil]; exact many)
    rwa [List.append_nil] at z
  refine PySem.W.binop_K fr I.ok.mod.kin J1 J2.type hc hs hf ?_
  refine wpAny_call (codeAny_mono (F.run X.A X.stack s H ⟨[.ref a, .ref b], []⟩ [.ref a, .ref b] [.ref a, .ref b] _ E hr I.env0 bd (.cons rfl (.cons rfl .nil)) q) fun r s' hq => ?_)
  cases r with
  | error er => exact hx pins σ H s er s' I hq
  | ok fl =>
    cases fl with
    | ret w2 =>
      obtain ⟨v2, H', I3, rv, c, rfl, q3⟩ := I.after hq
      obtain rfl : w2 = Value.ref c := rv
      exact ⟨.ref c, H', I3, rfl, q3⟩
    | next => exact hq.elim
    | brk => exact hq.elim
    | cont => exact hq.elim
end
/-! ### a def's promise that may tell of what is young -/
structure FnOkN (P : Program) (w : World) (K : PySem.W.Frag) (mg : Str → Option Value) (base : Heap) (CX : CXT) (k : Nat) (f : Addr) (fd : FuncData) (ps : List Str) (sp : Nat → Sp) : Prop where
  len : ∀ n vs H Q E, sp n vs H Q E → vs.length = ps.length
  go : ∀ (A : Around) (outer : List Env) (s : Shared) (H : Hp) (args : Args) (us : List Value) (vs : List V) (Q : VK) (E : XK), Room k A → Env0 P w K mg base A outer s H → BindsTo s fd args (ps.zip us) →
    Vals vs us → sp s.heap.objs.size vs H Q E → codeAny (model P w) A (.call (.ref f) args) (CR CX outer P w H s Q E) s
section
variable {P : Program} {w : World} {K : PySem.W.Frag} {mg : Str → Option Value} {base : Heap} {CX : CXT}
theorem FnOkN.mono {j k : Nat} {f : Addr} {fd : FuncData} {ps : List Str} {sp : Nat → Sp} (F : FnOkN P w K mg base CX j f fd ps sp) (h : j ≤ k) : FnOkN P w K mg base CX k f fd ps sp :=
  ⟨F.len, fun A outer s H args us vs Q E hr => F.go A outer s H args us vs Q E (hr.mono h)⟩
theorem Fun.okN {x qual : Str} {st : Stmt} {f : Addr} {fd : FuncData} {N ps : List Str} {k : Nat} {sp : Nat → Sp} (F : Fun K x qual st f fd) (S : FnScope N ps (defScope st)) (len : ∀ n vs H Q E, sp n vs H Q E → vs.length = ps.length)
    (body : ∀ (cdv : Value) (A : Around) (outer : List Env) (s : Shared) (H : Hp) (vs : List V) (Q : VK) (E : XK), Room k (A.deeper (envOfC qual (defScope st) s.heap.objs.size f cdv)) → sp s.heap.objs.size vs H Q E →
      ∃ t, PSs (cxOf CX P w K mg base N qual (defScope st) f cdv A outer s H E) (defBody st) t ∧ t { nx := fun _ H' => Q .non H', rt := Q } (start N vs) H) : FnOkN P w K mg base CX (k + 1) f fd ps sp := by
  obtain ⟨oc, od, kV, doc, pm, an, cdv, ct, osl, rfl, lk, code⟩ := F.ex
  refine ⟨len, ?_⟩
  intro A outer s H args us vs Q E hr e0 hb r want
  have keeps : ∀ b o, base.get? b = some o → s.heap.get? b = some o := fun b o e => (e0.bs b o e).1
  have inK : K.In s.heap := e0.mod.kin.keeps keeps
  have many := len _ _ _ _ _ want
  have kinds : ∀ y ∈ ps.zip us, (defScope st).names.lookup y.1 = some .local ∨ ((defScope st).names.lookup y.1 = some .cell ∧ ((cellsFrom (s.heap.objs.size + 1) (defScope st).names []).lookup y.1).isSome = true) := by
    rintro ⟨n, v⟩ hy
    have hn : n ∈ ps := (List.of_mem_zip hy).1
    rcases S.par n hn with q | q
    · exact Or.inl q
    · exact Or.inr ⟨q, PySem.W.cellsFrom_some _ _ _ (Or.inl q)⟩
  refine codeAny_call_function hr.depth (inK _ _ lk) rfl S.co S.gen rfl (PySem.W.codeRec_of inK code) (hb _ _ _ _ ?_)
  refine wpAny_newFunctionEnv_cells S.kind kinds fun env he s1 x => ?_
  subst he
  refine ⟨(e0.mod.nolimit.keeps keeps).keeps x.toInCall.keep, codeAny_func ?_⟩
  obtain ⟨t, ht, hq⟩ := body cdv A outer s H vs Q E (hr.deeper _) want
  have I := inv_start (P := P) (CX := CX) (E := E) (qual := qual) S hr.hd e0 many r x
  refine wpAny_mono (ht.run [] s1 (start N vs) H _ I hq) (fun fl s' hs => ?_) fun e s' hs => hs
  cases fl with
  | next =>
    obtain ⟨σ', H', J, q⟩ := hs
    exact ⟨V.non, H', J.os, J.bare, J.base, J.hok, rfl, q⟩
  | ret u =>
    obtain ⟨v, σ', H', J, rv, q⟩ := hs
    exact ⟨v, H', J.os, J.bare, J.base, J.hok, rv, q⟩
  | brk =>
    obtain ⟨_, _, _, q⟩ := hs
    exact q.elim
  | cont =>
    obtain ⟨_, _, _, q⟩ := hs
    exact q.elim
end
/-! ### iter(d), d a locked dict, and walks over an own class that gives such an iterator -/
/-- an iterator over the keys of d, at its start -/
def KitO (d : Addr) (o : Obj) (kvs : List (Key × V)) (it : Addr) : HO := .ext fun h => ∃ es ep, o.data = .dict es ep ∧ h.IsKeyIter it d 0 kvs.length ep
theorem kitO_ok {P : Program} {w : World} {H : Hp} {h : Heap} {d it : Addr} {o : Obj} {kvs : List (Key × V)} {es : Array DictEntry} {ep : Nat} (hd : o.data = .dict es ep) (e : h.IsKeyIter it d 0 kvs.length ep) : ObjOk P w H h it (KitO d o kvs it) := by
  obtain ⟨oi, e1, c⟩ := id e
  exact ⟨⟨es, ep, hd, e⟩, ⟨oi, e1⟩, fun h1 h2 p st => let ⟨es, ep, a, b⟩ := p; ⟨es, ep, a, b.at st⟩⟩
def rIterK (n : Nat) : List V → Hp → VK → Prop := fun xs H Q => ∃ (d : Addr) (o : Obj) (kvs : List (Key × V)), xs = [.ref d] ∧ H d = some (.frz o (.dK kvs)) ∧ ∀ it, H it = none → n ≤ it → Q (.ref it) (upd H it (KitO d o kvs it))
section
variable {X : Cx}
theorem call_iterK : CallR X (.builtin "iter") (rIterK X.s_0.heap.objs.size) := by
  intro pins s σ H xs us Q I r h
  obtain ⟨d, o, kvs, rfl, hd, q⟩ := h
  obtain ⟨u, rfl, ru⟩ := vals1 r
  obtain rfl : u = Value.ref d := ru
  obtain ⟨hs, hgd, hx, es, ep, vs, hdt, hsz, kv, hm⟩ := I.frzK hd
  refine Calls.call_function_entry (by decide +kernel) (by decide +kernel) PySem.W.kdk_entry_iter (PySem.W.kdk_args_iter _) ?_
  unfold Builtin.«iter»
  refine wpAny_bind (m := someArgs "iter" 1 2 _) (wpAny_of_eq (a := [Value.ref d]) (by first | rfl | kernel_rfl!) (show wpAny _ _ (pyIter (.ref d) >>= _) _ _ _ from wpAny_bind (iter_keys hs hgd hx hdt ?_)))
  refine wpAny_pure ⟨_, rfl, ?_⟩
  have st : (s.heap.push { cls := .type "dict_keyiterator", data := .fields #[.ref d, .int 0 0, .int es.size 0, .int ep 0] }).IsKeyIter s.heap.objs.size d 0 kvs.length ep := ⟨_, Heap.get?_push_size _ rfl, rfl, by rw [hsz] <;> rfl⟩
  exact ⟨.ref s.heap.objs.size, _, I.laid (t' := s.toks) (fun b u e => Heap.get?_push_of_some _ e) (Nat.le_refl _) (kitO_ok hdt st), rfl, q _ (I.hok.fresh (Nat.le_refl _)) I.sz⟩
end
section
variable {X : Cx} {CX : CXT} {k : Nat} {C g : Addr} {fd : FuncData} {sp : Nat → Sp} {E : XK} {tg e : Expr} {te : TE}
/-- for .. in o, o an instance of an own class whose __iter__ gives an iterator over a locked dict's keys -/
theorem pi_own (he : PE X e te) (hs : PySem.W.findIn X.K (.ref C) "__iter__" = some (some (.ref g))) (hf : PySem.W.isFn X.K (.ref g) = true) (F : FnOkN X.prog X.w X.K X.mg X.base CX k g fd ["self"] sp) (hr : Room k X.A)
    (hb : Binds X.K fd ["self"] []) (hx : Passes CX X E) :
    PI X tg e (fun σ H R => te σ H fun v H1 => ∃ (a dx : Addr) (fs : List (Str × V)), v = .ref a ∧ H1 a = some (.ins C dx fs) ∧ ∀ n, sp n [.ref a] H1 (fun v H2 => ∃ (it d : Addr) (o : Obj) (kvs : List (Key × V)), v = .ref it ∧ n ≤ it ∧
      H2 it = some (KitO d o kvs it) ∧ H2 d = some (.frz o (.dK kvs)) ∧ R (Itk d o kvs) (ItX.dropH H2 it)) E) := by
  refine ⟨fun pins s σ H R I h => ?_⟩
  refine thn (he.run pins s σ H _ I h) fun u s1 got => ?_
  obtain ⟨x, H1, I1, rx, a, dx, fs, rfl, ha, q⟩ := got
  obtain rfl : u = Value.ref a := rx
  obtain ⟨_, O, _, _, _, _⟩ := ins_get I1.hok ha
  obtain ⟨_, J, _⟩ := O.look
  obtain ⟨m, fr⟩ := I1.fr
  have want := q s1.heap.objs.size
  refine PySem.W.owit_iter fr I1.ok.mod.kin J hs hf ?_
  refine wpAny_call (codeAny_mono (F.go X.A X.stack s1 H1 ⟨[.ref a], []⟩ [.ref a] [.ref a] _ E hr I1.env0 (by simpa using hb s1 [.ref a] I1.kIn rfl) (.cons rfl .nil) want) fun r s' hq => ?_)
  cases r with
  | error er => exact hx pins σ H1 s1 er s' I1 hq
  | ok fl =>
    cases fl with
    | ret w2 =>
      obtain ⟨v2, H2, I3, rv, it, d, o, kvs, rfl, hn, hit, hd, q3⟩ := I1.after hq
      obtain rfl : w2 = Value.ref it := rv
      obtain ⟨⟨es, ep, hdt, st⟩, _, _⟩ := (show ObjOk X.prog X.w H2 s'.heap it (KitO d o kvs it) from I3.hok it _ hit)
      have young : X.s_0.heap.objs.size ≤ it := Nat.le_trans I1.sz hn
      unfold PySem.W.OwitIt
      refine wpAny_specialOf (name := Str.ofString "__next__") st.typeIs PySem.F.slot_dict_keyiterator_next.lookup ?_
      refine ⟨it, [it], _, Itk d o kvs, ItX.dropH H2 it, rfl, ItX.inv_drop I3 hit, turn_keys it hdt, st, fun b hb2 => ?_, q3⟩
      have e2 : b = it := by simpa using hb2
      rw [e2]
      exact ItX.inv_fp I3 hit young
    | next => exact hq.elim
    | brk => exact hq.elim
    | cont => exact hq.elim
end
end HX
namespace HX
open PySem PySem.Spec PyProof.Rows L2
/-! ### what is kept: all objects but those that m names -/
def Kp (m : Addr → Prop) (H H' : Hp) : Prop := ∀ b o, ¬ m b → H b = some o → H' b = some o
abbrev only1 (a : Addr) : Addr → Prop := fun b => b = a
section
variable {m m' : Addr → Prop} {H H1 H2 : Hp} {a b : Addr} {o : HO} {xs : List V} {K : PySem.W.Frag}
theorem Kp.refl : Kp m H H := fun _ _ _ h => h
theorem Kp.trans (h1 : Kp m H H1) (h2 : Kp m H1 H2) : Kp m H H2 := fun b o n e => h2 b o n (h1 b o n e)
theorem Kp.of (h : Same H H1) : Kp m H H1 := fun b o _ e => h b o e
theorem Kp.wide (h : Kp m H H1) (w : ∀ b, m b → m' b) : Kp m' H H1 := fun b o n e => h b o (fun z => n (w b z)) e
theorem Kp.same (h : Kp nom H H1) : Same H H1 := fun b o e => h b o (fun z => z) e
theorem Kp.new (h : Kp m H H1) (na : H1 a = none) : Kp m H (upd H1 a o) := fun b u n e => by
  have := h b u n e
  rw [upd_ne (ne_of_none this na)]
  exact this
theorem Kp.put (h : Kp m H H1) (ma : m a) : Kp m H (upd H1 a o) := fun b u n e => by
  have ne : b ≠ a := fun z => by
    subst z
    exact n ma
  rw [upd_ne ne]
  exact h b u n e
theorem Kp.own (h : Kp m H H1) (na : H a = none) : Kp m H (upd H1 a o) := fun b u n e => by
  rw [upd_ne (ne_of_none e na)]
  exact h b u n e
theorem Kp.tup1 (h : Kp m H H1) (hm : ∀ b, m b → ∃ o, H b = some o ∧ ∀ xs f, o ≠ .tup xs ∧ o ≠ .frz f (.tup xs)) (q : SqT K H a xs) : SqT K H1 a xs := by
  have no : ∀ o, H a = some o → (∃ f, o = .tup xs ∨ o = .frz f (.tup xs)) → ¬ m a := fun o e z n => by
    obtain ⟨u, e2, d⟩ := hm a n
    rw [e] at e2
    cases e2
    obtain ⟨f, z | z⟩ := z
    · exact (d xs f).1 z
    · exact (d xs f).2 z
  rcases q with (q | ⟨f, q⟩) | q
  · exact .inl (.inl (h _ _ (no _ q ⟨default, .inl rfl⟩) q))
  · exact .inl (.inr ⟨f, h _ _ (no _ q ⟨f, .inr rfl⟩) q⟩)
  · exact .inr q
theorem same_kp {H0 H' : Hp} (s : Same H H0) (k : Kp (only1 a) H0 H') (n : H a = none) : Same H H' := fun b o e => k _ _ (fun z => by
  have z : b = a := z
  rw [z, n] at e
  cases e) (s _ _ e)
end
/-- a step that keeps tuples -/
def KpT (m : Addr → Prop) (H H' : Hp) : Prop := Kp m H H' ∧ ∀ b, m b → ∃ o, H b = some o ∧ ∀ xs f, o ≠ .tup xs ∧ o ≠ .frz f (.tup xs)
section
variable {K : PySem.W.Frag} {m : Addr → Prop} {H H' : Hp} {v : V}
theorem KpT.tup {a : Addr} {xs : List V} (h : KpT m H H') (q : SqT K H a xs) : SqT K H' a xs := h.1.tup1 h.2 q
theorem kpT_same (h : Same H H') : KpT nom H H' := ⟨Kp.of h, fun _ z => z.elim⟩
theorem kpt1 {a : Addr} {u : HO} (k : Kp (only1 a) H H') (h : H a = some u) (n : ∀ xs f, u ≠ .tup xs ∧ u ≠ .frz f (.tup xs)) : KpT (only1 a) H H' := ⟨k, fun b hb => by
  have hb : b = a := hb
  subst hb
  exact ⟨_, h, n⟩⟩
theorem kpt_lst {a : Addr} {l : List V} (k : Kp (only1 a) H H') (h : H a = some (.lst l)) : KpT (only1 a) H H' := kpt1 k h fun xs f => ⟨(by intro z; cases z), (by intro z; cases z)⟩
theorem kpt_dK {a : Addr} {l : List (Key × V)} (k : Kp (only1 a) H H') (h : H a = some (.dK l)) : KpT (only1 a) H H' := kpt1 k h fun xs f => ⟨(by intro z; cases z), (by intro z; cases z)⟩
theorem at_t {b : Addr} {xs : List V} (h : H b = some (.tup xs)) : SqT K H b xs := .inl (.inl h)
theorem at_l {b : Addr} {xs : List V} (h : H b = some (.lst xs)) : SqL K H b xs := SqL.of h
end
/-! ### what is never reached; ways behind an if -/
def tNev : TE := fun _ _ _ => False
def tNevT : TT := fun _ _ _ => False
theorem pe_never {X : Cx} {e : Expr} : PE X e tNev := ⟨fun _ _ _ _ _ _ h => h.elim⟩
theorem pt_never {X : Cx} {e : Expr} : PT X e tNevT := ⟨fun _ _ _ _ _ _ h => h.elim⟩
theorem ifS_else {c : TT} {A B : TS} {D : Ends} {σ : L2.St} {H : Hp} (els : B D σ H) (h : B D σ H → tIfS c A B D σ H) : tIfS c A B D σ H := h els
theorem ifS_to {c : TT} {A B : TS} {D : Ends} {σ : L2.St} {H : Hp} (σ2 : L2.St) (els : D.nx σ2 H) (h : D.nx σ2 H → tIfS c A B D σ H) : tIfS c A B D σ H := h els
theorem for_stop {J : It} {g : TG} {tb : TS} {D : Ends} {σ : L2.St} {H : Hp} (h : J.stop 0 H) (q : D.nx σ H) : ∃ W : Nat → Nat → L2.St → Hp → Prop, (∃ m, W 0 m σ H) ∧ ∀ i m σ H, W i m σ H →
    (J.stop i H ∧ D.nx σ H) ∨ (J.go i H ∧ ∃ N : L2.St → Hp → Prop, (∀ σ' H', N σ' H' → ∃ m', m' < m ∧ W (i + 1) m' σ' H') ∧ ∀ x H', J.yld i H x H' → g x σ H' fun σ2 H2 => tb { D with nx := N, ct := N, bk := D.nx } σ2 H2) := by
  refine ⟨fun i m σ' H' => i = 0 ∧ σ' = σ ∧ H' = H, ⟨0, rfl, rfl, rfl⟩, ?_⟩
  rintro i m σ' H' ⟨rfl, rfl, rfl⟩
  exact .inl ⟨h, q⟩
theorem fn_false {P : Program} {w : World} {K : PySem.W.Frag} {mg : Str → Option Value} {base : Heap} {k : Nat} {f : Addr} {fd : FuncData} {ps : List Str} : FnOk P w K mg base CX0 k f fd ps (fun _ _ _ _ => False) := ⟨fun _ _ _ _ h => h.elim, fun _ _ _ _ _ _ _ _ _ _ _ _ _ h => h.elim⟩
theorem ne_same {x y : V} (h : x = y) : (!decide (x = y)) = false := by rw [decide_eq_true h]; rfl
/-! ### rules with the written part named -/
section
variable {X : Cx} (K : PySem.W.Frag)
theorem isiS (h : X.K = K := by rfl) : CallR X (.builtin "isinstance") (rIsi K) := by
  subst h
  exact call_isi
theorem sumS (h : X.K = K := by rfl) (hc : X.calm = true := by rfl) : CallR X (.builtin "sum") (rSum K) := by
  subst h
  exact cr_sum hc
theorem catA (h : X.K = K := by rfl) : OpR X (binaryOp .Add) (rCatA K) := by
  subst h
  exact op_catA
theorem slA (h : X.K = K := by rfl) : SlR X (rSlA K) := by
  subst h
  exact sl_tupA
theorem tupK {es : List Expr} {k : Nat} {t : TGs} {n : Nat} {pos : Pos} (hc : X.calm = true) (h : PGs X es t) (hk : X.K = K := by rfl)
    (hn : (assignEach es X.env).length = n := by rfl) (hst : (assignEach es X.env).findIdx? (·.1) = none := by rfl) : PG X (.Tuple es k pos) (gTup K n t) := by
  subst hk
  exact pg_tup hc h hn hst
theorem unl {es : List Expr} {k : Nat} {t : TGs} {n : Nat} {pos : Pos} (hc : X.calm = true) (h : PGs X es t) (hk : X.K = K := by rfl)
    (hn : (assignEach es X.env).length = n := by rfl) (hst : (assignEach es X.env).findIdx? (·.1) = none := by rfl) : PG X (.Tuple es k pos) (gUnl K n t) := by
  subst hk
  exact pg_unl hc h hn hst
theorem revL {tg e : Expr} {ta : TA} {p pos : Pos} (hg : Gl X "reversed") (hm : X.mg "reversed" = none) (ha : PA X [e] ta) (hk : X.K = K := by rfl) (hs : starEach [e] X.env = [(false, eval e X.env)] := by rfl) :
    PI X tg (.Call (.Name "reversed" p) [e] [] pos) (iRev K ta) := by
  subst hk
  exact pi_reversed hg hm ha hs
end
end HX
namespace HX
open PySem PySem.Spec PyProof.Rows L2
/-! ### data made of tuples, texts and numbers -/
section
variable (K : PySem.W.Frag) (H : Hp)
mutual
inductive Tp : V → PyData → Prop
  | str (x : Str) : Tp (.str x) (.str x)
  | int (i : Int) : Tp (.int i) (.int i)
  | tup {a : Addr} {xs : List V} {ds : List PyData} (q : SqT K H a xs) (t : TpAll xs ds) : Tp (.ref a) (.tuple ds)
inductive TpAll : List V → List PyData → Prop
  | nil : TpAll [] []
  | cons {v : V} {vs : List V} {d : PyData} {ds : List PyData} (h : Tp v d) (t : TpAll vs ds) : TpAll (v :: vs) (d :: ds)
end
end
section
variable {K : PySem.W.Frag} {H H' : Hp}
mutual
theorem Tp.kp {m : Addr → Prop} (k : KpT m H H') : ∀ (d : PyData) {v : V}, Tp K H v d → Tp K H' v d
  | .str x, _, .str _ => .str x
  | .int i, _, .int _ => .int i
  | .tuple ds, _, .tup q t => .tup (k.tup q) (TpAll.kp k ds t)
theorem TpAll.kp {m : Addr → Prop} (k : KpT m H H') : ∀ (ds : List PyData) {vs : List V}, TpAll K H vs ds → TpAll K H' vs ds
  | [], _, .nil => .nil
  | d :: ds, _, .cons h t => .cons (Tp.kp k d h) (TpAll.kp k ds t)
end
mutual
theorem Tp.dp : ∀ (d : PyData) {v : V}, Tp K H v d → Dp K H v d
  | .str x, _, .str _ => .str x
  | .int i, _, .int _ => .int i
  | .tuple ds, _, .tup q t => .tup q (TpAll.dp ds t)
theorem TpAll.dp : ∀ (ds : List PyData) {vs : List V}, TpAll K H vs ds → DpAll K H vs ds
  | [], _, .nil => .nil
  | d :: ds, _, .cons h t => .cons (Tp.dp d h) (TpAll.dp ds t)
end
variable {v : V} {d : PyData} {ds : List PyData} {vs : List V}
theorem Tp.k {m : Addr → Prop} (h : Tp K H v d) (k : KpT m H H') : Tp K H' v d := Tp.kp k d h
theorem Tp.s (h : Tp K H v d) (s : Same H H') : Tp K H' v d := Tp.kp (kpT_same s) d h
theorem TpAll.k {m : Addr → Prop} (h : TpAll K H vs ds) (k : KpT m H H') : TpAll K H' vs ds := TpAll.kp k ds h
theorem TpAll.s (h : TpAll K H vs ds) (s : Same H H') : TpAll K H' vs ds := TpAll.kp (kpT_same s) ds h
theorem Tp.dq (h : Tp K H v d) : Dp K H v d := Tp.dp d h
theorem Tp.str_ {x : Str} (h : Tp K H v (.str x)) : v = .str x := by cases h; rfl
theorem Tp.int_ {i : Int} (h : Tp K H v (.int i)) : v = .int i := by cases h; rfl
theorem Tp.tup_ (h : Tp K H v (.tuple ds)) : ∃ a xs, v = .ref a ∧ SqT K H a xs ∧ TpAll K H xs ds := by
  cases h with
  | tup q t => exact ⟨_, _, rfl, q, t⟩
theorem TpAll.cons_ (h : TpAll K H vs (d :: ds)) : ∃ x xs, vs = x :: xs ∧ Tp K H x d ∧ TpAll K H xs ds := by
  cases h with
  | cons h t => exact ⟨_, _, rfl, h, t⟩
theorem TpAll.nil_ (h : TpAll K H vs []) : vs = [] := by cases h; rfl
theorem TpAll.len (h : TpAll K H vs ds) : vs.length = ds.length := by
  induction ds generalizing vs with
  | nil => cases h; rfl
  | cons d ds ih =>
    cases h with
    | cons _ t => rw [List.length_cons, List.length_cons, ih t]
theorem TpAll.get (h : TpAll K H vs ds) {i : Nat} {d : PyData} (e : ds[i]? = some d) : ∃ x, vs[i]? = some x ∧ Tp K H x d := by
  induction ds generalizing vs i with
  | nil => simp at e
  | cons d ds ih =>
    cases h with
    | cons h t =>
      cases i with
      | zero =>
        simp at e
        subst e
        exact ⟨_, rfl, h⟩
      | succ i =>
        obtain ⟨x, e1, e2⟩ := ih t (by simpa using e)
        exact ⟨x, by simpa using e1, e2⟩
theorem TpAll.getL (h : TpAll K H vs ds) {i : Nat} {x : V} (e : vs[i]? = some x) : ∃ d, ds[i]? = some d ∧ Tp K H x d := by
  induction ds generalizing vs i with
  | nil => cases h; simp at e
  | cons d ds ih =>
    cases h with
    | cons h t =>
      cases i with
      | zero =>
        simp at e
        subst e
        exact ⟨_, rfl, h⟩
      | succ i =>
        obtain ⟨x, e1, e2⟩ := ih t (by simpa using e)
        exact ⟨x, by simpa using e1, e2⟩
theorem TpAll.app {ws : List V} {es : List PyData} (h : TpAll K H vs ds) (k : TpAll K H ws es) : TpAll K H (vs ++ ws) (ds ++ es) := by
  induction ds generalizing vs with
  | nil => cases h; exact k
  | cons d ds ih =>
    cases h with
    | cons h t => exact .cons h (ih t)
theorem TpAll.take (h : TpAll K H vs ds) (n : Nat) : TpAll K H (vs.take n) (ds.take n) := by
  induction ds generalizing vs n with
  | nil => cases h; rw [List.take_nil, List.take_nil]; exact .nil
  | cons d ds ih =>
    cases h with
    | cons h t =>
      cases n with
      | zero => exact .nil
      | succ n => exact .cons h (ih t n)
theorem TpAll.drop (h : TpAll K H vs ds) (n : Nat) : TpAll K H (vs.drop n) (ds.drop n) := by
  induction ds generalizing vs n with
  | nil => cases h; rw [List.drop_nil, List.drop_nil]; exact .nil
  | cons d ds ih =>
    cases h with
    | cons h t =>
      cases n with
      | zero => exact .cons h t
      | succ n => exact ih t n
theorem tp1 {a : PyData} (h : TpAll K H vs [a]) : ∃ x, vs = [x] ∧ Tp K H x a := by
  obtain ⟨x, xs, rfl, h1, t⟩ := h.cons_
  obtain rfl := t.nil_
  exact ⟨x, rfl, h1⟩
theorem tp2 {a b : PyData} (h : TpAll K H vs [a, b]) : ∃ x y, vs = [x, y] ∧ Tp K H x a ∧ Tp K H y b := by
  obtain ⟨x, xs, rfl, h1, t⟩ := h.cons_
  obtain ⟨y, rfl, h2⟩ := tp1 t
  exact ⟨x, y, rfl, h1, h2⟩
theorem tp3 {a b c : PyData} (h : TpAll K H vs [a, b, c]) : ∃ x y z, vs = [x, y, z] ∧ Tp K H x a ∧ Tp K H y b ∧ Tp K H z c := by
  obtain ⟨x, xs, rfl, h1, t⟩ := h.cons_
  obtain ⟨y, z, rfl, h2⟩ := tp2 t
  exact ⟨x, y, z, rfl, h1, h2⟩
theorem tp4 {a b c d : PyData} (h : TpAll K H vs [a, b, c, d]) : ∃ x y z u, vs = [x, y, z, u] ∧ Tp K H x a ∧ Tp K H y b ∧ Tp K H z c ∧ Tp K H u d := by
  obtain ⟨x, xs, rfl, h1, t⟩ := h.cons_
  obtain ⟨y, z, u, rfl, h2⟩ := tp3 t
  exact ⟨x, y, z, u, rfl, h1, h2⟩
theorem Tp.mk {b : Addr} {xs : List V} (h : H b = some (.tup xs)) (t : TpAll K H xs ds) : Tp K H (.ref b) (.tuple ds) := .tup (at_t h) t
end
end HX
namespace W81
open PySem PySem.Spec PyProof.Rows L2 HX
/-! ### sentences, kinds, derivations -/
inductive Kd where
  | once
  | box (n d : Nat)
def Kd.n : Kd → Nat
  | .once => 1
  | .box n _ => n
def Kd.dat : Kd → PyData
  | .once => .str "once"
  | .box n d => .tuple [.int n, .int d]
inductive Sn where
  | word (x : Str)
  | menu (a b : Sn)
  | trade (m : Kd) (a b : Sn)
def Sn.dat : Sn → PyData
  | .word x => .tuple [.str "word", .str x]
  | .menu a b => .tuple [.str "menu", a.dat, b.dat]
  | .trade m a b => .tuple [.str "trade", m.dat, a.dat, b.dat]
abbrev Rf := Key
def rfD : Rf → PyData
  | .inl i => .int i
  | .inr x => .str x
abbrev nmR (x : Str) : Rf := Sum.inr x
abbrev lvR (n : Nat) : Rf := Sum.inl (n : Int)
inductive Side where
  | l
  | r
def Side.str : Side → Str
  | .l => "left"
  | .r => "right"
inductive Dr where
  | own (r : Rf)
  | take (b : Dr)
  | offer (a b : Dr)
  | pick (r : Rf) (s : Side) (b : Dr)
  | pay (r : Rf) (m : Kd) (a b : Dr)
  | cut (m : Kd) (s : Sn) (a b : Dr)
def Dr.dat : Dr → PyData
  | .own r => .tuple [.str "own", rfD r]
  | .take b => .tuple [.str "take", b.dat]
  | .offer a b => .tuple [.str "offer", a.dat, b.dat]
  | .pick r s b => .tuple [.str "pick", rfD r, .str s.str, b.dat]
  | .pay r m a b => .tuple [.str "pay", rfD r, m.dat, a.dat, b.dat]
  | .cut m s a b => .tuple [.str "cut", m.dat, s.dat, a.dat, b.dat]
abbrev Hold := Str × Kd × Sn
def holdD (h : Hold) : PyData := .tuple [.str h.1, h.2.1.dat, h.2.2.dat]
abbrev Clm := List Hold × Sn
def clmD (c : Clm) : PyData := .tuple [.tuple (c.1.map holdD), c.2.dat]
def Dr.nm : Dr → Str
  | .own _ => "own"
  | .take _ => "take"
  | .offer _ _ => "offer"
  | .pick _ _ _ => "pick"
  | .pay _ _ _ _ => "pay"
  | .cut _ _ _ _ => "cut"
def Dr.kids : Dr → List Dr
  | .own _ => []
  | .take b => [b]
  | .offer a b => [a, b]
  | .pick _ _ b => [b]
  | .pay _ _ a b => [a, b]
  | .cut _ _ a b => [a, b]
def Dr.dp : Dr → Nat
  | .own _ => 0
  | .take b => b.dp + 1
  | .offer a b => max a.dp b.dp + 1
  | .pick _ _ b => b.dp + 1
  | .pay _ _ a b => max a.dp b.dp + 1
  | .cut _ _ a b => max a.dp b.dp + 1
def Dr.sz : Dr → Nat
  | .own _ => 1
  | .take b => b.sz + 1
  | .offer a b => a.sz + b.sz + 1
  | .pick _ _ b => b.sz + 1
  | .pay _ _ a b => a.sz + b.sz + 1
  | .cut _ _ a b => a.sz + b.sz + 1
def Sn.dp : Sn → Nat
  | .word _ => 0
  | .menu a b => max a.dp b.dp + 1
  | .trade _ a b => max a.dp b.dp + 1
section
variable {K : PySem.W.Frag} {H : Hp} {v : V}
theorem rf_is {r : Rf} (h : Tp K H v (rfD r)) : v = kV r := by
  cases r with
  | inl i => exact h.int_
  | inr x => exact h.str_
theorem rf_tp (r : Rf) : Tp K H (kV r) (rfD r) := by
  cases r with
  | inl i => exact .int i
  | inr x => exact .str x
theorem kd_dp {m : Kd} (h : Tp K H v m.dat) : Dp K H v m.dat := h.dq
theorem once_shaped : SeqAt.shaped (.str "once") = true := by decide +kernel
theorem kd_shaped (m : Kd) : SeqAt.shaped m.dat = true := by
  cases m with
  | once => exact once_shaped
  | box n d =>
    unfold SeqAt.shaped Kd.dat
    simp only [PyData.canLay0, PyData.canLayAll0, PyData.depth, PyData.depthAll, Bool.and_self]
    rfl
def Kd.isOnce : Kd → Bool
  | .once => true
  | .box _ _ => false
theorem kd_eqv (m : Kd) : PyData.eqv m.dat (.str "once") = m.isOnce := by
  cases m with
  | once => simp [Kd.dat, PyData.eqv, Kd.isOnce]
  | box n d => simp [Kd.dat, PyData.eqv, Kd.isOnce]
theorem kd_box {n d : Nat} (h : Tp K H v (Kd.box n d).dat) : ∃ a, v = .ref a ∧ SqT K H a [iv n, iv d] := by
  obtain ⟨a, xs, rfl, q, t⟩ := Tp.tup_ h
  obtain ⟨x, y, rfl, h1, h2⟩ := tp2 t
  rw [h1.int_, h2.int_] at q
  exact ⟨a, rfl, q⟩
/-- the head of a row -/
theorem row_hd {t : Dr} (h : Tp K H v t.dat) : ∃ a xs, v = .ref a ∧ SqT K H a (.str t.nm :: xs) := by
  have z : ∃ ds, t.dat = .tuple (.str t.nm :: ds) := by cases t <;> exact ⟨_, rfl⟩
  obtain ⟨ds, e⟩ := z
  rw [e] at h
  obtain ⟨a, xs, rfl, q, tt⟩ := Tp.tup_ h
  obtain ⟨x, ys, rfl, h1, _⟩ := tt.cons_
  rw [h1.str_] at q
  exact ⟨a, ys, rfl, q⟩
theorem own_at {r : Rf} (h : Tp K H v (Dr.own r).dat) : ∃ a, v = .ref a ∧ SqT K H a [.str "own", kV r] := by
  obtain ⟨a, xs, rfl, q, t⟩ := Tp.tup_ h
  obtain ⟨x, y, rfl, h1, h2⟩ := tp2 t
  rw [h1.str_, rf_is h2] at q
  exact ⟨a, rfl, q⟩
theorem take_at {b : Dr} (h : Tp K H v (Dr.take b).dat) : ∃ a y, v = .ref a ∧ SqT K H a [.str "take", y] ∧ Tp K H y b.dat := by
  obtain ⟨a, xs, rfl, q, t⟩ := Tp.tup_ h
  obtain ⟨x, y, rfl, h1, h2⟩ := tp2 t
  rw [h1.str_] at q
  exact ⟨a, y, rfl, q, h2⟩
theorem offer_at {b c : Dr} (h : Tp K H v (Dr.offer b c).dat) : ∃ a y z, v = .ref a ∧ SqT K H a [.str "offer", y, z] ∧ Tp K H y b.dat ∧ Tp K H z c.dat := by
  obtain ⟨a, xs, rfl, q, t⟩ := Tp.tup_ h
  obtain ⟨x, y, z, rfl, h1, h2, h3⟩ := tp3 t
  rw [h1.str_] at q
  exact ⟨a, y, z, rfl, q, h2, h3⟩
theorem pick_at {r : Rf} {s : Side} {b : Dr} (h : Tp K H v (Dr.pick r s b).dat) : ∃ a y, v = .ref a ∧ SqT K H a [.str "pick", kV r, .str s.str, y] ∧ Tp K H y b.dat := by
  obtain ⟨a, xs, rfl, q, t⟩ := Tp.tup_ h
  obtain ⟨x, y, z, u, rfl, h1, h2, h3, h4⟩ := tp4 t
  rw [h1.str_, rf_is h2, h3.str_] at q
  exact ⟨a, u, rfl, q, h4⟩
theorem pay_at {r : Rf} {m : Kd} {b c : Dr} (h : Tp K H v (Dr.pay r m b c).dat) : ∃ a mv y z, v = .ref a ∧ SqT K H a [.str "pay", kV r, mv, y, z] ∧ Tp K H mv m.dat ∧ Tp K H y b.dat ∧ Tp K H z c.dat := by
  obtain ⟨a, xs, rfl, q, t⟩ := Tp.tup_ h
  obtain ⟨x, ys, rfl, h1, t⟩ := t.cons_
  obtain ⟨y, z, u, w, rfl, h2, h3, h4, h5⟩ := tp4 t
  rw [h1.str_, rf_is h2] at q
  exact ⟨a, z, u, w, rfl, q, h3, h4, h5⟩
theorem cut_at {m : Kd} {s : Sn} {b c : Dr} (h : Tp K H v (Dr.cut m s b c).dat) : ∃ a mv sv y z, v = .ref a ∧ SqT K H a [.str "cut", mv, sv, y, z] ∧ Tp K H mv m.dat ∧ Tp K H sv s.dat ∧ Tp K H y b.dat ∧ Tp K H z c.dat := by
  obtain ⟨a, xs, rfl, q, t⟩ := Tp.tup_ h
  obtain ⟨x, ys, rfl, h1, t⟩ := t.cons_
  obtain ⟨y, z, u, w, rfl, h2, h3, h4, h5⟩ := tp4 t
  rw [h1.str_] at q
  exact ⟨a, y, z, u, w, rfl, q, h2, h3, h4, h5⟩
theorem word_at {x : Str} (h : Tp K H v (Sn.word x).dat) : ∃ a, v = .ref a ∧ SqT K H a [.str "word", .str x] := by
  obtain ⟨a, xs, rfl, q, t⟩ := Tp.tup_ h
  obtain ⟨x, y, rfl, h1, h2⟩ := tp2 t
  rw [h1.str_, h2.str_] at q
  exact ⟨a, rfl, q⟩
theorem menu_at {b c : Sn} (h : Tp K H v (Sn.menu b c).dat) : ∃ a y z, v = .ref a ∧ SqT K H a [.str "menu", y, z] ∧ Tp K H y b.dat ∧ Tp K H z c.dat := by
  obtain ⟨a, xs, rfl, q, t⟩ := Tp.tup_ h
  obtain ⟨x, y, z, rfl, h1, h2, h3⟩ := tp3 t
  rw [h1.str_] at q
  exact ⟨a, y, z, rfl, q, h2, h3⟩
theorem trade_at {m : Kd} {b c : Sn} (h : Tp K H v (Sn.trade m b c).dat) : ∃ a mv y z, v = .ref a ∧ SqT K H a [.str "trade", mv, y, z] ∧ Tp K H mv m.dat ∧ Tp K H y b.dat ∧ Tp K H z c.dat := by
  obtain ⟨a, xs, rfl, q, t⟩ := Tp.tup_ h
  obtain ⟨x, y, z, u, rfl, h1, h2, h3, h4⟩ := tp4 t
  rw [h1.str_] at q
  exact ⟨a, y, z, u, rfl, q, h2, h3, h4⟩
end
end W81
namespace HX
open PySem PySem.Spec PyProof.Rows L2
theorem upd_id {H : Hp} {a : Addr} {o : HO} (h : H a = some o) : upd H a o = H := by
  funext b
  by_cases hb : b = a
  · subst hb
    rw [upd_same, h]
  · rw [upd_ne hb]
/-- for k in d, the dict locked -/
theorem for_keys {d : Addr} {o : Obj} {kvs : List (Key × V)} {g : TG} {tb : TS} {D : Ends} {σ : L2.St} {H : Hp} (Pv : Nat → L2.St → Hp → Prop) (h0 : Pv 0 σ H) (hl : ∀ i σ H, Pv i σ H → H d = some (.frz o (.dK kvs)))
    (hs : ∀ i k v σ H, kvs[i]? = some (k, v) → Pv i σ H → g (kV k) σ H fun σ2 H2 => tb { D with nx := Pv (i + 1), ct := Pv (i + 1), bk := D.nx } σ2 H2) (hd : ∀ σ H, Pv kvs.length σ H → D.nx σ H) :
    ∃ W : Nat → Nat → L2.St → Hp → Prop, (∃ m, W 0 m σ H) ∧ ∀ i m σ H, W i m σ H →
      ((Itk d o kvs).stop i H ∧ D.nx σ H) ∨ ((Itk d o kvs).go i H ∧ ∃ N : L2.St → Hp → Prop, (∀ σ' H', N σ' H' → ∃ m', m' < m ∧ W (i + 1) m' σ' H') ∧ ∀ x H', (Itk d o kvs).yld i H x H' → g x σ H' fun σ2 H2 => tb { D with nx := N, ct := N, bk := D.nx } σ2 H2) := by
  refine ⟨fun i m σ H => i + m = kvs.length ∧ Pv i σ H, ⟨kvs.length, by omega, h0⟩, ?_⟩
  rintro i m σ H ⟨hm, p⟩
  have q := hl i σ H p
  by_cases hlt : i < kvs.length
  · refine Or.inr ⟨⟨q, hlt⟩, Pv (i + 1), fun σ' H' p' => ⟨m - 1, by omega, by omega, p'⟩, fun x H' y => ?_⟩
    obtain ⟨rfl, k, v, e, rfl⟩ := y
    exact hs i k v σ _ e p
  · have e : i = kvs.length := by omega
    subst e
    exact Or.inl ⟨⟨q, Nat.le_refl _⟩, hd σ H p⟩
/-- {..: .. for k in d} -/
theorem dc_keys {d : Addr} {o : Obj} {kvs : List (Key × V)} {g : TG} {tt : TT} {tk tv : TE} {vs : List Nat} {σ : L2.St} {H1 : Hp} {D : Addr} {Qd : Hp → Prop} (Pv : Nat → Hp → Prop) (h0 : Pv 0 (upd H1 D (.dK []))) (hl : ∀ i H, Pv i H → H d = some (.frz o (.dK kvs)))
    (hs : ∀ i k v H, kvs[i]? = some (k, v) → Pv i H → g (kV k) (wipe σ vs) H fun σ2 H2 => wipe σ2 vs = wipe σ vs ∧ tt σ2 H2 fun b H3 =>
      if b = true then tk σ2 H3 fun y H4 => tv σ2 H4 fun z H5 => ∃ ks k, y = kV k ∧ H5 D = some (.dK ks) ∧ ks.length < sizeLine ∧ Pv (i + 1) (upd H5 D (.dK (putK ks k z))) else Pv (i + 1) H3) (hd : ∀ H, Pv kvs.length H → Qd H) :
    ∃ W : Nat → Nat → Hp → Prop, (∃ m, W 0 m (upd H1 D (.dK []))) ∧ ∀ i m H, W i m H →
      ((Itk d o kvs).stop i H ∧ Qd H) ∨ ((Itk d o kvs).go i H ∧ ∃ Nx : Hp → Prop, (∀ H', Nx H' → ∃ m', m' < m ∧ W (i + 1) m' H') ∧ ∀ x H', (Itk d o kvs).yld i H x H' → g x (wipe σ vs) H' fun σ2 H2 => wipe σ2 vs = wipe σ vs ∧ tt σ2 H2 fun b H3 =>
        if b = true then tk σ2 H3 fun y H4 => tv σ2 H4 fun z H5 => ∃ ks k, y = kV k ∧ H5 D = some (.dK ks) ∧ ks.length < sizeLine ∧ Nx (upd H5 D (.dK (putK ks k z))) else Nx H3) := by
  refine ⟨fun i m H => i + m = kvs.length ∧ Pv i H, ⟨kvs.length, by omega, h0⟩, ?_⟩
  rintro i m H ⟨hm, p⟩
  have q := hl i H p
  by_cases hlt : i < kvs.length
  · refine Or.inr ⟨⟨q, hlt⟩, Pv (i + 1), fun H' p' => ⟨m - 1, by omega, by omega, p'⟩, fun x H' y => ?_⟩
    obtain ⟨rfl, k, v, e, rfl⟩ := y
    exact hs i k v _ e p
  · have e : i = kvs.length := by omega
    subst e
    exact Or.inl ⟨⟨q, Nat.le_refl _⟩, hd H p⟩
theorem nodup_putK {ks : List (Key × V)} (k : Key) (v : V) (h : (ks.map (·.1)).Nodup) : ((putK ks k v).map (·.1)).Nodup := by
  cases e : valV ks k with
  | none => exact nd_putK v h e
  | some u =>
    have any : (ks.any fun kv => decide (kv.1 = k)) = true := by
      rw [valV_any, e]
      rfl
    unfold putK
    rw [if_pos any, List.map_map]
    have : ((fun x : Key × V => x.1) ∘ fun kv => if kv.1 = k then (kv.1, v) else kv) = fun x => x.1 := by
      funext x
      show (if x.1 = k then (x.1, v) else x).1 = x.1
      split <;> rfl
    rw [this]
    exact h
abbrev inK (kvs : List (Key × V)) (k : Key) : Bool := (valV kvs k).isSome
/-! ### dicts by functions of their keys -/
section
variable {α : Type}
structure DcK (R : Hp → V → α → Prop) (H : Hp) (kvs : List (Key × V)) (c : Key → Option α) : Prop where
  nd : (kvs.map (·.1)).Nodup
  vl : ∀ k v, valV kvs k = some v → ∃ t, c k = some t ∧ R H v t
  nn : ∀ k, valV kvs k = none → c k = none
def DcAt (R : Hp → V → α → Prop) (H : Hp) (a : Addr) (c : Key → Option α) (n : Nat) : Prop := ∃ kvs, H a = some (.dK kvs) ∧ DcK R H kvs c ∧ kvs.length ≤ n
variable {R : Hp → V → α → Prop} {H H' : Hp} {kvs : List (Key × V)} {c : Key → Option α}
theorem DcK.of (h : DcK R H kvs c) (hR : ∀ v t, R H v t → R H' v t) : DcK R H' kvs c := ⟨h.nd, fun k v e => let ⟨t, e1, r⟩ := h.vl k v e; ⟨t, e1, hR v t r⟩, h.nn⟩
theorem DcK.nil : DcK R H [] (fun _ => none) := ⟨List.nodup_nil, fun k v e => (by cases e), fun _ _ => rfl⟩
theorem DcK.fn {c' : Key → Option α} (h : DcK R H kvs c) (e : ∀ k, c k = c' k) : DcK R H kvs c' := ⟨h.nd, fun k v z => by rw [← e]; exact h.vl k v z, fun k z => by rw [← e]; exact h.nn k z⟩
theorem DcK.put (h : DcK R H kvs c) {k : Key} {v : V} {t : α} (r : R H v t) : DcK R H (putK kvs k v) (fun j => if j = k then some t else c j) := by
  refine ⟨nodup_putK k v h.nd, fun j u e => ?_, fun j e => ?_⟩
  · rw [valV_put] at e
    by_cases z : j = k
    · rw [if_pos z] at e
      cases e
      exact ⟨t, if_pos z, r⟩
    · rw [if_neg z] at e
      obtain ⟨t', e1, r'⟩ := h.vl j u e
      exact ⟨t', by rw [if_neg z]; exact e1, r'⟩
  · rw [valV_put] at e
    by_cases z : j = k
    · rw [if_pos z] at e
      cases e
    · rw [if_neg z] at e
      rw [if_neg z]
      exact h.nn j e
theorem DcK.get (h : DcK R H kvs c) (k : Key) : (∃ v t, valV kvs k = some v ∧ c k = some t ∧ R H v t) ∨ (valV kvs k = none ∧ c k = none) := by
  cases e : valV kvs k with
  | none => exact .inr ⟨rfl, h.nn k e⟩
  | some v =>
    obtain ⟨t, e1, r⟩ := h.vl k v e
    exact .inl ⟨v, t, rfl, e1, r⟩
theorem val_at {i : Nat} {k : Key} {v : V} : ∀ {kvs : List (Key × V)} {i : Nat}, (kvs.map (·.1)).Nodup → kvs[i]? = some (k, v) → valV kvs k = some v ∧ k ∉ (kvs.take i).map (·.1)
  | [], i, _, e => by simp at e
  | p :: r, 0, nd, e => by
    simp at e
    subst e
    exact ⟨valV_pos rfl, by simp⟩
  | p :: r, i + 1, nd, e => by
    rw [List.map_cons, List.nodup_cons] at nd
    have e : r[i]? = some (k, v) := by simpa using e
    obtain ⟨h1, h2⟩ := val_at (i := i) nd.2 e
    have ne : ¬ p.1 = k := fun z => nd.1 (by rw [z]; exact List.mem_map.mpr ⟨(k, v), List.mem_of_getElem? e, rfl⟩)
    refine ⟨by rw [valV_neg ne]; exact h1, ?_⟩
    rw [List.take_succ_cons, List.map_cons, List.mem_cons, not_or]
    exact ⟨fun z => ne z.symm, h2⟩
theorem mem_keys {k : Key} : ∀ {kvs : List (Key × V)}, k ∈ kvs.map (·.1) ↔ (valV kvs k).isSome = true
  | [] => by simp [valV]
  | p :: r => by
    rw [List.map_cons, List.mem_cons]
    by_cases e : p.1 = k
    · rw [valV_pos e]
      exact ⟨fun _ => rfl, fun _ => .inl e.symm⟩
    · rw [valV_neg e, ← mem_keys]
      exact ⟨fun z => z.elim (fun z => absurd z.symm e) id, .inr⟩
theorem DcK.key (h : DcK R H kvs c) (k : Key) : k ∈ kvs.map (·.1) ↔ (c k).isSome = true := by
  rw [mem_keys]
  rcases h.get k with ⟨v, t, e1, e2, _⟩ | ⟨e1, e2⟩
  · rw [e1, e2]
    exact ⟨fun _ => rfl, fun _ => rfl⟩
  · rw [e1, e2]
    exact ⟨fun z => (by cases z), fun z => (by cases z)⟩
/-- the keys that were met have F, the others T -/
def mix (kvs : List (Key × V)) (F T : Key → Option α) (i : Nat) : Key → Option α := fun k => if inK (kvs.take i) k = true then F k else T k
theorem mix_zero {F T : Key → Option α} (k : Key) : T k = mix kvs F T 0 k := by
  unfold mix
  rw [List.take_zero, if_neg (by intro z; cases z)]
theorem mix_step {F T : Key → Option α} {i : Nat} {k : Key} {v : V} (e : kvs[i]? = some (k, v)) (j : Key) : (if j = k then F k else mix kvs F T i j) = mix kvs F T (i + 1) j := by
  unfold mix
  have z : ∀ x : Key, x ∈ (kvs.take (i + 1)).map (·.1) ↔ x ∈ (kvs.take i).map (·.1) ∨ x = k := fun x => by
    rw [List.take_add_one, e, List.map_append, List.mem_append]
    exact or_congr Iff.rfl List.mem_singleton
  by_cases h : j = k
  · subst h
    rw [if_pos rfl, if_pos (mem_keys.mp ((z j).mpr (.inr rfl)))]
  · rw [if_neg h]
    by_cases h2 : j ∈ (kvs.take i).map (·.1)
    · rw [if_pos (mem_keys.mp h2), if_pos (mem_keys.mp ((z j).mpr (.inl h2)))]
    · rw [if_neg (fun y => h2 (mem_keys.mpr y)), if_neg (fun y => ((z j).mp (mem_keys.mpr y)).elim h2 h)]
/-- for k in d: a dict is filled -/
theorem loop_fill {d tot : Addr} {od : Obj} {kvs ts0 : List (Key × V)} {F T : Key → Option α} {tb : TS} {D : Ends} {σ : L2.St} {S : L2.St → Prop} {i0 : Nat} {H1 : Hp} (hd1 : H1 d = some (.frz od (.dK kvs))) (nd : (kvs.map (·.1)).Nodup) (ht : H1 tot = some (.dK ts0)) (h0 : DcK R H1 ts0 T)
    (small : ts0.length + kvs.length ≤ 100000) (stay : ∀ H H' v t ks, H tot = some (.dK ks) → Kp (only1 tot) H H' → R H v t → R H' v t) (hσ : S σ)
    (step : ∀ k v σ' H' ts (Dn : Ends), valV kvs k = some v → S σ' → H' d = some (.frz od (.dK kvs)) → Kp (only1 tot) H1 H' → H' tot = some (.dK ts) → ts.length < 100000 → (∀ c', DcK R H' ts c' → c' k = T k →
      (∀ σ2 H2 ts2, S σ2 → Kp (only1 tot) H' H2 → H2 tot = some (.dK ts2) → DcK R H2 ts2 (fun j => if j = k then F k else c' j) → ts2.length ≤ ts.length + 1 → Dn.nx σ2 H2) → tb Dn (σ'.set i0 (some (kV k))) H'))
    (hd : ∀ σ' H' ts, S σ' → Kp (only1 tot) H1 H' → H' d = some (.frz od (.dK kvs)) → H' tot = some (.dK ts) → DcK R H' ts (fun k => if inK kvs k = true then F k else T k) → ts.length ≤ ts0.length + kvs.length → D.nx σ' H') :
    ∃ W : Nat → Nat → L2.St → Hp → Prop, (∃ m, W 0 m σ H1) ∧ ∀ i m σ H, W i m σ H →
      ((Itk d od kvs).stop i H ∧ D.nx σ H) ∨ ((Itk d od kvs).go i H ∧ ∃ N : L2.St → Hp → Prop, (∀ σ' H', N σ' H' → ∃ m', m' < m ∧ W (i + 1) m' σ' H') ∧ ∀ x H', (Itk d od kvs).yld i H x H' → gName i0 x σ H' fun σ2 H2 => tb { D with nx := N, ct := N, bk := D.nx } σ2 H2) := by
  have keep : ∀ H', Kp (only1 tot) H1 H' → H' d = some (.frz od (.dK kvs)) := fun H' k => k _ _ (ne_of hd1 ht (by intro z; cases z)) hd1
  refine for_keys (fun i σ' H' => i ≤ kvs.length ∧ Kp (only1 tot) H1 H' ∧ S σ' ∧ ∃ ts, H' tot = some (.dK ts) ∧ DcK R H' ts (mix kvs F T i) ∧ ts.length ≤ ts0.length + i) ⟨Nat.zero_le _, Kp.refl, hσ, ts0, ht, h0.fn mix_zero, Nat.le_refl _⟩ (fun i σ' H' h => keep H' h.2.1) ?_ ?_
  · rintro i k v σ' H' e ⟨hi, k1, hS, ts, hT, hc, hl⟩
    have hi2 : i < kvs.length := (List.getElem?_eq_some_iff.mp e).1
    obtain ⟨e1, e2⟩ := val_at (i := 0) nd e
    refine step k v σ' H' ts _ e1 hS (keep H' k1) k1 hT (by omega) _ hc (by unfold mix; rw [if_neg (fun y => e2 (mem_keys.mpr y))]) fun σ2 H2 ts2 hS2 k2 hT2 hc2 hl2 => ?_
    exact ⟨hi2, k1.trans k2, hS2, ts2, hT2, hc2.fn (mix_step e), by omega⟩
  · rintro σ' H' ⟨_, k1, hS, ts, hT, hc, hl⟩
    refine hd σ' H' ts hS k1 (keep H' k1) hT (hc.fn fun k => ?_) hl
    unfold mix
    rw [List.take_length]
/-- {k: .. for k in d if ..} -/
theorem comp_fill {d D : Addr} {od : Obj} {kvs : List (Key × V)} {F : Key → Option α} {g : TG} {tt : TT} {tk tv : TE} {vs : List Nat} {σ : L2.St} {H1 : Hp} {Qd : Hp → Prop} (hd1 : H1 d = some (.frz od (.dK kvs))) (nd : (kvs.map (·.1)).Nodup) (nD : H1 D = none)
    (small : kvs.length ≤ 100000) (stay : ∀ H H' v t ks, H D = some (.dK ks) → Kp (only1 D) H H' → R H v t → R H' v t)
    (step : ∀ k v H' ts (N : Hp → Prop), valV kvs k = some v → H' d = some (.frz od (.dK kvs)) → Same H1 H' → H' D = some (.dK ts) → ts.length < 100000 → (F k = none → N H') → (∀ H2 z t, Same H' H2 → F k = some t → R H2 z t → N (upd H2 D (.dK (putK ts k z)))) →
      g (kV k) (wipe σ vs) H' fun σ2 H2 => wipe σ2 vs = wipe σ vs ∧ tt σ2 H2 fun b H3 => if b = true then tk σ2 H3 fun y H4 => tv σ2 H4 fun z H5 => ∃ ks k, y = kV k ∧ H5 D = some (.dK ks) ∧ ks.length < sizeLine ∧ N (upd H5 D (.dK (putK ks k z))) else N H3)
    (hd : ∀ H' ts, Same H1 H' → H' d = some (.frz od (.dK kvs)) → H' D = some (.dK ts) → DcK R H' ts (fun k => if inK kvs k = true then F k else none) → ts.length ≤ kvs.length → Qd H') :
    ∃ W : Nat → Nat → Hp → Prop, (∃ m, W 0 m (upd H1 D (.dK []))) ∧ ∀ i m H, W i m H →
      ((Itk d od kvs).stop i H ∧ Qd H) ∨ ((Itk d od kvs).go i H ∧ ∃ Nx : Hp → Prop, (∀ H', Nx H' → ∃ m', m' < m ∧ W (i + 1) m' H') ∧ ∀ x H', (Itk d od kvs).yld i H x H' → g x (wipe σ vs) H' fun σ2 H2 => wipe σ2 vs = wipe σ vs ∧ tt σ2 H2 fun b H3 =>
        if b = true then tk σ2 H3 fun y H4 => tv σ2 H4 fun z H5 => ∃ ks k, y = kV k ∧ H5 D = some (.dK ks) ∧ ks.length < sizeLine ∧ Nx (upd H5 D (.dK (putK ks k z))) else Nx H3) := by
  refine dc_keys (fun i H' => i ≤ kvs.length ∧ Same H1 H' ∧ ∃ ts, H' D = some (.dK ts) ∧ DcK R H' ts (mix kvs F (fun _ => none) i) ∧ ts.length ≤ i) ⟨Nat.zero_le _, Same.new nD, [], upd_same, DcK.nil.fn mix_zero, Nat.le_refl _⟩ (fun i H' h => h.2.1 _ _ hd1) ?_ ?_
  · rintro i k v H' e ⟨hi, s1, ts, hT, hc, hl⟩
    have hi2 : i < kvs.length := (List.getElem?_eq_some_iff.mp e).1
    obtain ⟨e1, e2⟩ := val_at (i := 0) nd e
    refine step k v H' ts (fun H' => i + 1 ≤ kvs.length ∧ Same H1 H' ∧ ∃ ts, H' D = some (.dK ts) ∧ DcK R H' ts (mix kvs F (fun _ => none) (i + 1)) ∧ ts.length ≤ i + 1) e1 (s1 _ _ hd1) s1 hT (by omega) (fun hF => ?_) (fun H2 z t s2 hF hz => ?_)
    · refine ⟨hi2, s1, ts, hT, hc.fn fun j => ?_, by omega⟩
      rw [← mix_step e]
      by_cases h : j = k
      · subst h
        rw [if_pos rfl, hF]
        unfold mix
        rw [if_neg (fun y => e2 (mem_keys.mpr y))]
      · rw [if_neg h]
    · have hT2 := s2 _ _ hT
      have kp : Kp (only1 D) H2 (upd H2 D (.dK (putK ts k z))) := Kp.refl.put rfl
      have hc2 := hc.of (H' := H2) fun v t r => stay _ _ _ _ _ hT (Kp.of s2) r
      have hc3 := (hc2.put (k := k) hz).of (H' := upd H2 D (.dK (putK ts k z))) fun v t r => stay _ _ _ _ _ hT2 kp r
      refine ⟨hi2, Same.put (s1.trans s2) nD, _, upd_same, hc3.fn fun j => ?_, ?_⟩
      · rw [← mix_step e, hF]
      · have := length_putK ts k z
        omega
  · rintro H' ⟨_, s1, ts, hT, hc, hl⟩
    refine hd H' ts s1 (s1 _ _ hd1) hT (hc.fn fun k => ?_) hl
    unfold mix
    rw [List.take_length]
theorem DcK.put2 {tot : Addr} {ts : List (Key × V)} {k : Key} {v2 : V} {t2 : α} {F : Key → Option α} (stay : ∀ H H' v t ks, H tot = some (.dK ks) → Kp (only1 tot) H H' → R H v t → R H' v t) (hT : H tot = some (.dK ts)) (hc : DcK R H ts c) (r : R H v2 t2) (hF : F k = some t2) :
    DcK R (upd H tot (.dK (putK ts k v2))) (putK ts k v2) (fun j => if j = k then F k else c j) := by
  refine ((hc.put (k := k) r).of (H' := upd H tot (.dK (putK ts k v2))) fun v t z => stay _ _ _ _ _ hT (Kp.refl.put rfl) z).fn fun j => ?_
  rw [hF]
end
theorem kp_unlock {tot d : Addr} {H H' : Hp} {u : HO} {od : Obj} (hd : H d = some u) (k : Kp (only1 tot) (upd H d (.frz od u)) H') : Kp (only1 tot) H (upd H' d u) := fun b o n e => by
  by_cases h : b = d
  · subst h
    rw [hd] at e
    cases e
    exact upd_same
  · rw [upd_ne h]
    exact k _ _ n (by rw [upd_ne h]; exact e)
theorem same_unlock {d : Addr} {H H' : Hp} {u : HO} {od : Obj} (hd : H d = some u) (k : Same (upd H d (.frz od u)) H') : Same H (upd H' d u) := fun b o e => by
  by_cases h : b = d
  · subst h
    rw [hd] at e
    cases e
    exact upd_same
  · rw [upd_ne h]
    exact k _ _ (by rw [upd_ne h]; exact e)
theorem dget_f {d : Addr} {od : Obj} {kvs : List (Key × V)} {H : Hp} {k : Key} {v : V} (h : H d = some (.frz od (.dK kvs))) (e : valV kvs k = some v) : DGet H d (kV k) (some v) := .inl ⟨kvs, k, .inr ⟨od, h⟩, rfl, e.symm⟩
theorem dget_k {d : Addr} {kvs : List (Key × V)} {H : Hp} {k : Key} {o : Option V} (h : H d = some (.dK kvs)) (e : valV kvs k = o) : DGet H d (kV k) o := .inl ⟨kvs, k, .inl h, rfl, e.symm⟩
end HX
namespace W81
open PySem PySem.Spec PyProof.Rows L2 HX
/-! ### the text -/
def topS (i : Nat) : Stmt := PySem.Challenge.pw_heldanswers_k81_seam_large_expansions.main.body.getD i (.Pass ⟨0, 0, 0, 0⟩)
abbrev s_Count__init : Stmt := (inClass (topS 2) 0)
theorem sc_Count__init : FnScope ["self", "least", "most", "days"] ["self", "least", "most", "days"] (defScope s_Count__init) := ⟨rfl, rfl, rfl, by decide +kernel, rfl, by decide +kernel, by decide +kernel⟩
abbrev s_Count__add : Stmt := (inClass (topS 2) 1)
theorem sc_Count__add : FnScope ["self", "other"] ["self", "other"] (defScope s_Count__add) := ⟨rfl, rfl, rfl, by decide +kernel, rfl, by decide +kernel, by decide +kernel⟩
abbrev s_Count__or : Stmt := (inClass (topS 2) 2)
theorem sc_Count__or : FnScope ["self", "other", "least"] ["self", "other"] (defScope s_Count__or) := ⟨rfl, rfl, rfl, by decide +kernel, rfl, by decide +kernel, by decide +kernel⟩
abbrev s_Count_boxed : Stmt := (inClass (topS 2) 3)
theorem sc_Count_boxed : FnScope ["self", "kind"] ["self", "kind"] (defScope s_Count_boxed) := ⟨rfl, rfl, rfl, by decide +kernel, rfl, by decide +kernel, by decide +kernel⟩
abbrev s_Count_fits : Stmt := (inClass (topS 2) 4)
theorem sc_Count_fits : FnScope ["self", "kind"] ["self", "kind"] (defScope s_Count_fits) := ⟨rfl, rfl, rfl, by decide +kernel, rfl, by decide +kernel, by decide +kernel⟩
abbrev s_added : Stmt := (topS 3)
theorem sc_added : FnScope ["first", "second", "total", "ref"] ["first", "second"] (defScope s_added) := ⟨rfl, rfl, rfl, by decide +kernel, rfl, by decide +kernel, by decide +kernel⟩
abbrev s_either : Stmt := (topS 4)
theorem sc_either : FnScope ["first", "second", "total", "ref"] ["first", "second"] (defScope s_either) := ⟨rfl, rfl, rfl, by decide +kernel, rfl, by decide +kernel, by decide +kernel⟩
abbrev s_boxed_counts : Stmt := (topS 5)
theorem sc_boxed_counts : FnScope ["found", "kind", "ref"] ["found", "kind"] (defScope s_boxed_counts) := ⟨rfl, rfl, rfl, by decide +kernel, rfl, by decide +kernel, by decide +kernel⟩
abbrev s_without : Stmt := (topS 6)
theorem sc_without : FnScope ["found", "ref", "other"] ["found", "ref"] (defScope s_without) := ⟨rfl, rfl, rfl, by decide +kernel, rfl, by decide +kernel, by decide +kernel⟩
abbrev s_counts : Stmt := (topS 7)
theorem sc_counts : FnScope ["derivation", "level", "name", "body", "found"] ["derivation", "level"] (defScope s_counts) := ⟨rfl, rfl, rfl, by decide +kernel, rfl, by decide +kernel, by decide +kernel⟩
abbrev s_count_of : Stmt := (topS 8)
theorem sc_count_of : FnScope ["derivation", "level", "ref"] ["derivation", "level", "ref"] (defScope s_count_of) := ⟨rfl, rfl, rfl, by decide +kernel, rfl, by decide +kernel, by decide +kernel⟩
abbrev s_premises : Stmt := (topS 21)
theorem sc_premises : FnScope ["derivation", "count"] ["derivation"] (defScope s_premises) := ⟨rfl, rfl, rfl, by decide +kernel, rfl, by decide +kernel, by decide +kernel⟩
abbrev s_brings : Stmt := (topS 22)
theorem sc_brings : FnScope ["derivation"] ["derivation"] (defScope s_brings) := ⟨rfl, rfl, rfl, by decide +kernel, rfl, by decide +kernel, by decide +kernel⟩
abbrev s_rebuilt : Stmt := (topS 23)
theorem sc_rebuilt : FnScope ["derivation", "parts", "count"] ["derivation", "parts"] (defScope s_rebuilt) := ⟨rfl, rfl, rfl, by decide +kernel, rfl, by decide +kernel, by decide +kernel⟩
abbrev s_refers_to : Stmt := (topS 24)
theorem sc_refers_to : FnScope ["derivation"] ["derivation"] (defScope s_refers_to) := ⟨rfl, rfl, rfl, by decide +kernel, rfl, by decide +kernel, by decide +kernel⟩
abbrev s_scope_of : Stmt := (topS 26)
theorem sc_scope_of : FnScope ["claim", "name", "kind", "sentence"] ["claim"] (defScope s_scope_of) := ⟨rfl, rfl, rfl, by decide +kernel, rfl, by decide +kernel, by decide +kernel⟩
abbrev s_use_fault : Stmt := (topS 27)
theorem sc_use_fault : FnScope ["library", "sentence", "goal", "row", "name"] ["library", "sentence", "goal", "row"] (defScope s_use_fault) := ⟨rfl, rfl, rfl, by decide +kernel, rfl, by decide +kernel, by decide +kernel⟩
abbrev s_row_fault : Stmt := (topS 28)
theorem sc_row_fault : FnScope ["library", "scope", "goal", "row", "name"] ["library", "scope", "goal", "row"] (defScope s_row_fault) := ⟨rfl, rfl, rfl, by decide +kernel, rfl, by decide +kernel, by decide +kernel⟩
abbrev s_premise_goals : Stmt := (topS 29)
theorem sc_premise_goals : FnScope ["library", "scope", "goal", "row", "name"] ["library", "scope", "goal", "row"] (defScope s_premise_goals) := ⟨rfl, rfl, rfl, by decide +kernel, rfl, by decide +kernel, by decide +kernel⟩
abbrev s_new_hold : Stmt := (topS 30)
theorem sc_new_hold : FnScope ["library", "scope", "goal", "row", "name"] ["library", "scope", "goal", "row"] (defScope s_new_hold) := ⟨rfl, rfl, rfl, by decide +kernel, rfl, by decide +kernel, by decide +kernel⟩
abbrev s_places_above : Stmt := (topS 31)
theorem sc_places_above : FnScope ["library", "scope", "goal", "row", "level", "goals", "hold", "places", "index", "inner"] ["library", "scope", "goal", "row", "level"] (defScope s_places_above) := ⟨rfl, rfl, rfl, by decide +kernel, rfl, by decide +kernel, by decide +kernel⟩
abbrev s_check_part : Stmt := (topS 32)
theorem sc_check_part : FnScope ["library", "scope", "goal", "derivation", "level", "path", "reason", "parts", "places", "index", "inner", "wanted", "height", "hold"] ["library", "scope", "goal", "derivation", "level", "path"] (defScope s_check_part) := ⟨rfl, rfl, rfl, by decide +kernel, rfl, by decide +kernel, by decide +kernel⟩
abbrev s_check : Stmt := (topS 33)
theorem sc_check : FnScope ["library", "claim", "derivation", "found", "name", "kind", "_"] ["library", "claim", "derivation"] (defScope s_check) := ⟨rfl, rfl, rfl, by decide +kernel, rfl, by decide +kernel, by decide +kernel⟩
abbrev s_accepts : Stmt := (topS 34)
theorem sc_accepts : FnScope ["library", "claim", "derivation"] ["library", "claim", "derivation"] (defScope s_accepts) := ⟨rfl, rfl, rfl, by decide +kernel, rfl, by decide +kernel, by decide +kernel⟩
abbrev s_is_number : Stmt := (topS 36)
theorem sc_is_number : FnScope ["value"] ["value"] (defScope s_is_number) := ⟨rfl, rfl, rfl, by decide +kernel, rfl, by decide +kernel, by decide +kernel⟩
abbrev s_is_kind : Stmt := (topS 37)
theorem sc_is_kind : FnScope ["value"] ["value"] (defScope s_is_kind) := ⟨rfl, rfl, rfl, by decide +kernel, rfl, by decide +kernel, by decide +kernel⟩
abbrev s_pooled : Stmt := (topS 38)
theorem sc_pooled : FnScope ["first", "second", "kind"] ["first", "second"] (defScope s_pooled) := ⟨rfl, rfl, rfl, by decide +kernel, rfl, by decide +kernel, by decide +kernel⟩
abbrev s_covers : Stmt := (topS 39)
theorem sc_covers : FnScope ["room", "kind"] ["room", "kind"] (defScope s_covers) := ⟨rfl, rfl, rfl, by decide +kernel, rfl, by decide +kernel, by decide +kernel⟩
abbrev s_is_name : Stmt := (topS 44)
theorem sc_is_name : FnScope ["text", "char"] ["text"] (defScope s_is_name) := ⟨rfl, rfl, rfl, by decide +kernel, rfl, by decide +kernel, by decide +kernel⟩
abbrev s_make_claim : Stmt := (topS 46)
theorem sc_make_claim : FnScope ["holds", "goal", "names", "rows", "name", "kind", "sentence"] ["holds", "goal"] (defScope s_make_claim) := ⟨rfl, rfl, rfl, by decide +kernel, rfl, by decide +kernel, by decide +kernel⟩
abbrev s_hold_of : Stmt := (topS 47)
theorem sc_hold_of : FnScope ["claim", "name", "other", "kind", "sentence"] ["claim", "name"] (defScope s_hold_of) := ⟨rfl, rfl, rfl, by decide +kernel, rfl, by decide +kernel, by decide +kernel⟩
abbrev s_with_hold : Stmt := (topS 48)
theorem sc_with_hold : FnScope ["claim", "name", "kind", "sentence"] ["claim", "name", "kind", "sentence"] (defScope s_with_hold) := ⟨rfl, rfl, rfl, by decide +kernel, rfl, by decide +kernel, by decide +kernel⟩
abbrev s_without_hold : Stmt := (topS 49)
theorem sc_without_hold : FnScope ["claim", "name", "hold"] ["claim", "name"] (defScope s_without_hold) := ⟨rfl, rfl, rfl, by decide +kernel, rfl, by decide +kernel, by decide +kernel⟩
abbrev s_moved_ref : Stmt := (topS 51)
theorem sc_moved_ref : FnScope ["ref", "old", "new", "renamed"] ["ref", "old", "new", "renamed"] (defScope s_moved_ref) := ⟨rfl, rfl, rfl, by decide +kernel, rfl, by decide +kernel, by decide +kernel⟩
abbrev s_moved : Stmt := (topS 52)
theorem sc_moved : FnScope ["derivation", "old", "new", "renamed", "parts", "result", "ref", "premise"] ["derivation", "old", "new", "renamed"] (defScope s_moved) := ⟨rfl, rfl, rfl, by decide +kernel, rfl, by decide +kernel, by decide +kernel⟩
abbrev s_used : Stmt := (topS 54)
theorem sc_used : FnScope ["ref", "goal", "choice", "level"] ["ref", "goal", "choice", "level"] (defScope s_used) := ⟨rfl, rfl, rfl, by decide +kernel, rfl, by decide +kernel, by decide +kernel⟩
abbrev s_inverted : Stmt := (topS 55)
theorem sc_inverted : FnScope ["derivation", "goal", "choice", "level", "name", "parts", "last"] ["derivation", "goal", "choice", "level"] (defScope s_inverted) := ⟨rfl, rfl, rfl, by decide +kernel, rfl, by decide +kernel, by decide +kernel⟩
abbrev s_invert_take : Stmt := (topS 56)
theorem sc_invert_take : FnScope ["claim", "derivation", "name", "goal", "holds"] ["claim", "derivation", "name"] (defScope s_invert_take) := ⟨rfl, rfl, rfl, by decide +kernel, rfl, by decide +kernel, by decide +kernel⟩
abbrev s_invert_offer : Stmt := (topS 57)
theorem sc_invert_offer : FnScope ["claim", "derivation", "side", "goal", "wanted"] ["claim", "derivation", "side"] (defScope s_invert_offer) := ⟨rfl, rfl, rfl, by decide +kernel, rfl, by decide +kernel, by decide +kernel⟩
abbrev s_expanded_own : Stmt := (topS 58)
theorem sc_expanded_own : FnScope ["ref", "goal", "level", "left", "right", "paid", "body"] ["ref", "goal", "level"] (defScope s_expanded_own) := ⟨rfl, rfl, rfl, by decide +kernel, rfl, by decide +kernel, by decide +kernel⟩
abbrev s_expanded_part : Stmt := (topS 59)
theorem sc_expanded_part : FnScope ["library", "scope", "goal", "derivation", "level", "parts", "places", "index", "inner", "wanted", "height"] ["library", "scope", "goal", "derivation", "level"] (defScope s_expanded_part) := ⟨rfl, rfl, rfl, by decide +kernel, rfl, by decide +kernel, by decide +kernel⟩
abbrev s_expanded : Stmt := (topS 60)
theorem sc_expanded : FnScope ["library", "claim", "derivation"] ["library", "claim", "derivation"] (defScope s_expanded) := ⟨rfl, rfl, rfl, by decide +kernel, rfl, by decide +kernel, by decide +kernel⟩
abbrev s_Library__init : Stmt := (inClass (topS 62) 0)
theorem sc_Library__init : FnScope ["self"] ["self"] (defScope s_Library__init) := ⟨rfl, rfl, rfl, by decide +kernel, rfl, by decide +kernel, by decide +kernel⟩
abbrev s_with_kind : Stmt := (topS 64)
theorem sc_with_kind : FnScope ["claim", "name", "kind", "holds", "hold"] ["claim", "name", "kind"] (defScope s_with_kind) := ⟨rfl, rfl, rfl, by decide +kernel, rfl, by decide +kernel, by decide +kernel⟩
abbrev s_with_room : Stmt := (topS 65)
theorem sc_with_room : FnScope ["claim", "name", "kind"] ["claim", "name", "kind"] (defScope s_with_room) := ⟨rfl, rfl, rfl, by decide +kernel, rfl, by decide +kernel, by decide +kernel⟩
abbrev s_pooled_holds : Stmt := (topS 66)
theorem sc_pooled_holds : FnScope ["claim", "derivation", "first", "second", "kind", "sentence", "other_kind", "other_sentence", "joined"] ["claim", "derivation", "first", "second"] (defScope s_pooled_holds) := ⟨rfl, rfl, rfl, by decide +kernel, rfl, by decide +kernel, by decide +kernel⟩
abbrev s_least_kinds : Stmt := (topS 67)
theorem sc_least_kinds : FnScope ["claim", "derivation", "found", "holds", "name", "kind", "sentence"] ["claim", "derivation"] (defScope s_least_kinds) := ⟨rfl, rfl, rfl, by decide +kernel, rfl, by decide +kernel, by decide +kernel⟩
abbrev s_law_cell : Stmt := (topS 69)
theorem sc_law_cell : FnScope ["script", "k"] ["script", "k"] (defScope s_law_cell) := ⟨rfl, rfl, rfl, by decide +kernel, rfl, by decide +kernel, by decide +kernel⟩
abbrev s_law_pool : Stmt := (topS 70)
theorem sc_law_pool : FnScope ["script", "k", "cell"] ["script", "k"] (defScope s_law_pool) := ⟨rfl, rfl, rfl, by decide +kernel, rfl, by decide +kernel, by decide +kernel⟩
abbrev s_law_next : Stmt := (topS 71)
theorem sc_law_next : FnScope ["pool", "many", "digit", "mixed"] ["pool", "many"] (defScope s_law_next) := ⟨rfl, rfl, rfl, by decide +kernel, rfl, by decide +kernel, by decide +kernel⟩
abbrev s_law_names : Stmt := (topS 72)
theorem sc_law_names : FnScope ["pool", "many", "names", "k", "name", "j"] ["pool", "many"] (defScope s_law_names) := ⟨rfl, rfl, rfl, by decide +kernel, rfl, by decide +kernel, by decide +kernel⟩
abbrev s_law_same : Stmt := (topS 73)
theorem sc_law_same : FnScope ["told", "due"] ["told", "due"] (defScope s_law_same) := ⟨rfl, rfl, rfl, by decide +kernel, rfl, by decide +kernel, by decide +kernel⟩
abbrev s_law_wrapped : Stmt := (topS 74)
theorem sc_law_wrapped : FnScope ["pool", "words", "rows", "sentence", "great", "k", "other", "pick", "mode"] ["pool", "words", "rows"] (defScope s_law_wrapped) := ⟨rfl, rfl, rfl, by decide +kernel, rfl, by decide +kernel, by decide +kernel⟩
abbrev s_law_tower : Stmt := (topS 75)
theorem sc_law_tower : FnScope ["pool", "sentence", "many", "base", "rows", "wait", "k", "ref"] ["pool", "sentence", "many", "base"] (defScope s_law_tower) := ⟨rfl, rfl, rfl, by decide +kernel, rfl, by decide +kernel, by decide +kernel⟩
abbrev s_law_joined : Stmt := (topS 76)
theorem sc_law_joined : FnScope ["rows", "top", "row"] ["rows", "top"] (defScope s_law_joined) := ⟨rfl, rfl, rfl, by decide +kernel, rfl, by decide +kernel, by decide +kernel⟩
abbrev s_law_opened : Stmt := (topS 77)
theorem sc_law_opened : FnScope ["ref", "sentence", "level", "one", "paid"] ["ref", "sentence", "level"] (defScope s_law_opened) := ⟨rfl, rfl, rfl, by decide +kernel, rfl, by decide +kernel, by decide +kernel⟩
abbrev s_law_is_row : Stmt := (topS 79)
theorem sc_law_is_row : FnScope ["item"] ["item"] (defScope s_law_is_row) := ⟨rfl, rfl, rfl, by decide +kernel, rfl, by decide +kernel, by decide +kernel⟩
abbrev s_law_size : Stmt := (topS 78)
theorem sc_law_size : FnScope ["tree", "item"] ["tree"] (defScope s_law_size) := ⟨rfl, rfl, rfl, by decide +kernel, rfl, by decide +kernel, by decide +kernel⟩
abbrev s_law_count : Stmt := (topS 80)
theorem sc_law_count : FnScope ["rows", "top", "name", "uses", "days", "row"] ["rows", "top", "name"] (defScope s_law_count) := ⟨rfl, rfl, rfl, by decide +kernel, rfl, by decide +kernel, by decide +kernel⟩
abbrev s_law_inverted : Stmt := (topS 81)
theorem sc_law_inverted : FnScope ["tree", "goal", "choice", "level"] ["tree", "goal", "choice", "level"] (defScope s_law_inverted) := ⟨rfl, rfl, rfl, by decide +kernel, rfl, by decide +kernel, by decide +kernel⟩
abbrev s_law_taken_apart : Stmt := (topS 82)
theorem sc_law_taken_apart : FnScope ["pool", "claim", "tree", "names", "name", "goal", "told", "due", "side", "choice"] ["pool", "claim", "tree", "names"] (defScope s_law_taken_apart) := ⟨rfl, rfl, rfl, by decide +kernel, rfl, by decide +kernel, by decide +kernel⟩
abbrev s_law_renamed : Stmt := (topS 83)
theorem sc_law_renamed : FnScope ["rows", "top", "old", "new", "found", "row", "ref"] ["rows", "top", "old", "new"] (defScope s_law_renamed) := ⟨rfl, rfl, rfl, by decide +kernel, rfl, by decide +kernel, by decide +kernel⟩
abbrev s_law_mended : Stmt := (topS 84)
theorem sc_law_mended : FnScope ["pool", "claim", "tree", "rows", "top", "counts_v", "holds", "at", "name", "mode", "sentence", "more", "due", "x", "y", "left", "row", "other", "least", "hold"] ["pool", "claim", "tree", "rows", "top", "counts_v"] (defScope s_law_mended) := ⟨rfl, rfl, rfl, by decide +kernel, rfl, by decide +kernel, by decide +kernel⟩
abbrev s_law : Stmt := (topS 85)
theorem sc_law : FnScope ["script", "pool", "names", "more", "rows", "many", "sentence", "base", "found", "top", "tree", "due", "k", "counts_v", "holds", "name", "claim"] ["script"] (defScope s_law) := ⟨rfl, rfl, rfl, by decide +kernel, rfl, by decide +kernel, by decide +kernel⟩
/-- what the top has written -/
structure Tx (K : PySem.W.Frag) (mg : Str → Option Value) (w : World) where
  a_Count__init : Addr
  d_Count__init : FuncData
  F_Count__init : Fun K "__init__" "Count.__init__" s_Count__init a_Count__init d_Count__init
  b_Count__init : Binds K d_Count__init ["self", "least", "most", "days"] []
  a_Count__add : Addr
  d_Count__add : FuncData
  F_Count__add : Fun K "__add__" "Count.__add__" s_Count__add a_Count__add d_Count__add
  b_Count__add : Binds K d_Count__add ["self", "other"] []
  a_Count__or : Addr
  d_Count__or : FuncData
  F_Count__or : Fun K "__or__" "Count.__or__" s_Count__or a_Count__or d_Count__or
  b_Count__or : Binds K d_Count__or ["self", "other"] []
  a_Count_boxed : Addr
  d_Count_boxed : FuncData
  F_Count_boxed : Fun K "boxed" "Count.boxed" s_Count_boxed a_Count_boxed d_Count_boxed
  b_Count_boxed : Binds K d_Count_boxed ["self", "kind"] []
  a_Count_fits : Addr
  d_Count_fits : FuncData
  F_Count_fits : Fun K "fits" "Count.fits" s_Count_fits a_Count_fits d_Count_fits
  b_Count_fits : Binds K d_Count_fits ["self", "kind"] []
  a_added : Addr
  d_added : FuncData
  F_added : Fun K "added" "added" s_added a_added d_added
  b_added : Binds K d_added ["first", "second"] []
  m_added : mg "added" = some (.ref a_added)
  a_either : Addr
  d_either : FuncData
  F_either : Fun K "either" "either" s_either a_either d_either
  b_either : Binds K d_either ["first", "second"] []
  m_either : mg "either" = some (.ref a_either)
  a_boxed_counts : Addr
  d_boxed_counts : FuncData
  F_boxed_counts : Fun K "boxed_counts" "boxed_counts" s_boxed_counts a_boxed_counts d_boxed_counts
  b_boxed_counts : Binds K d_boxed_counts ["found", "kind"] []
  m_boxed_counts : mg "boxed_counts" = some (.ref a_boxed_counts)
  a_without : Addr
  d_without : FuncData
  F_without : Fun K "without" "without" s_without a_without d_without
  b_without : Binds K d_without ["found", "ref"] []
  m_without : mg "without" = some (.ref a_without)
  a_counts : Addr
  d_counts : FuncData
  F_counts : FunD K "counts" "counts" (defArgs s_counts) (defBody s_counts) (defScope s_counts) [.int 0] [] a_counts d_counts
  u_counts : List Value
  b1_counts : Binds K d_counts ["derivation", "level"] u_counts
  v_counts : Vals [.int 0] u_counts
  b_counts : Binds K d_counts ["derivation", "level"] []
  m_counts : mg "counts" = some (.ref a_counts)
  a_count_of : Addr
  d_count_of : FuncData
  F_count_of : Fun K "count_of" "count_of" s_count_of a_count_of d_count_of
  b_count_of : Binds K d_count_of ["derivation", "level", "ref"] []
  m_count_of : mg "count_of" = some (.ref a_count_of)
  a_premises : Addr
  d_premises : FuncData
  F_premises : Fun K "premises" "premises" s_premises a_premises d_premises
  b_premises : Binds K d_premises ["derivation"] []
  m_premises : mg "premises" = some (.ref a_premises)
  a_brings : Addr
  d_brings : FuncData
  F_brings : Fun K "brings" "brings" s_brings a_brings d_brings
  b_brings : Binds K d_brings ["derivation"] []
  m_brings : mg "brings" = some (.ref a_brings)
  a_rebuilt : Addr
  d_rebuilt : FuncData
  F_rebuilt : Fun K "rebuilt" "rebuilt" s_rebuilt a_rebuilt d_rebuilt
  b_rebuilt : Binds K d_rebuilt ["derivation", "parts"] []
  m_rebuilt : mg "rebuilt" = some (.ref a_rebuilt)
  a_refers_to : Addr
  d_refers_to : FuncData
  F_refers_to : Fun K "refers_to" "refers_to" s_refers_to a_refers_to d_refers_to
  b_refers_to : Binds K d_refers_to ["derivation"] []
  m_refers_to : mg "refers_to" = some (.ref a_refers_to)
  a_scope_of : Addr
  d_scope_of : FuncData
  F_scope_of : Fun K "scope_of" "scope_of" s_scope_of a_scope_of d_scope_of
  b_scope_of : Binds K d_scope_of ["claim"] []
  m_scope_of : mg "scope_of" = some (.ref a_scope_of)
  a_use_fault : Addr
  d_use_fault : FuncData
  F_use_fault : Fun K "use_fault" "use_fault" s_use_fault a_use_fault d_use_fault
  b_use_fault : Binds K d_use_fault ["library", "sentence", "goal", "row"] []
  m_use_fault : mg "use_fault" = some (.ref a_use_fault)
  a_row_fault : Addr
  d_row_fault : FuncData
  F_row_fault : Fun K "row_fault" "row_fault" s_row_fault a_row_fault d_row_fault
  b_row_fault : Binds K d_row_fault ["library", "scope", "goal", "row"] []
  m_row_fault : mg "row_fault" = some (.ref a_row_fault)
  a_premise_goals : Addr
  d_premise_goals : FuncData
  F_premise_goals : Fun K "premise_goals" "premise_goals" s_premise_goals a_premise_goals d_premise_goals
  b_premise_goals : Binds K d_premise_goals ["library", "scope", "goal", "row"] []
  m_premise_goals : mg "premise_goals" = some (.ref a_premise_goals)
  a_new_hold : Addr
  d_new_hold : FuncData
  F_new_hold : Fun K "new_hold" "new_hold" s_new_hold a_new_hold d_new_hold
  b_new_hold : Binds K d_new_hold ["library", "scope", "goal", "row"] []
  m_new_hold : mg "new_hold" = some (.ref a_new_hold)
  a_places_above : Addr
  d_places_above : FuncData
  F_places_above : Fun K "places_above" "places_above" s_places_above a_places_above d_places_above
  b_places_above : Binds K d_places_above ["library", "scope", "goal", "row", "level"] []
  m_places_above : mg "places_above" = some (.ref a_places_above)
  a_check_part : Addr
  d_check_part : FuncData
  F_check_part : Fun K "_check_part" "_check_part" s_check_part a_check_part d_check_part
  b_check_part : Binds K d_check_part ["library", "scope", "goal", "derivation", "level", "path"] []
  m_check_part : mg "_check_part" = some (.ref a_check_part)
  a_check : Addr
  d_check : FuncData
  F_check : Fun K "check" "check" s_check a_check d_check
  b_check : Binds K d_check ["library", "claim", "derivation"] []
  m_check : mg "check" = some (.ref a_check)
  a_accepts : Addr
  d_accepts : FuncData
  F_accepts : Fun K "accepts" "accepts" s_accepts a_accepts d_accepts
  b_accepts : Binds K d_accepts ["library", "claim", "derivation"] []
  m_accepts : mg "accepts" = some (.ref a_accepts)
  a_is_number : Addr
  d_is_number : FuncData
  F_is_number : Fun K "is_number" "is_number" s_is_number a_is_number d_is_number
  b_is_number : Binds K d_is_number ["value"] []
  m_is_number : mg "is_number" = some (.ref a_is_number)
  a_is_kind : Addr
  d_is_kind : FuncData
  F_is_kind : Fun K "is_kind" "is_kind" s_is_kind a_is_kind d_is_kind
  b_is_kind : Binds K d_is_kind ["value"] []
  m_is_kind : mg "is_kind" = some (.ref a_is_kind)
  a_pooled : Addr
  d_pooled : FuncData
  F_pooled : Fun K "pooled" "pooled" s_pooled a_pooled d_pooled
  b_pooled : Binds K d_pooled ["first", "second"] []
  m_pooled : mg "pooled" = some (.ref a_pooled)
  a_covers : Addr
  d_covers : FuncData
  F_covers : Fun K "covers" "covers" s_covers a_covers d_covers
  b_covers : Binds K d_covers ["room", "kind"] []
  m_covers : mg "covers" = some (.ref a_covers)
  a_is_name : Addr
  d_is_name : FuncData
  F_is_name : Fun K "is_name" "is_name" s_is_name a_is_name d_is_name
  b_is_name : Binds K d_is_name ["text"] []
  m_is_name : mg "is_name" = some (.ref a_is_name)
  a_make_claim : Addr
  d_make_claim : FuncData
  F_make_claim : Fun K "make_claim" "make_claim" s_make_claim a_make_claim d_make_claim
  b_make_claim : Binds K d_make_claim ["holds", "goal"] []
  m_make_claim : mg "make_claim" = some (.ref a_make_claim)
  a_hold_of : Addr
  d_hold_of : FuncData
  F_hold_of : Fun K "hold_of" "hold_of" s_hold_of a_hold_of d_hold_of
  b_hold_of : Binds K d_hold_of ["claim", "name"] []
  m_hold_of : mg "hold_of" = some (.ref a_hold_of)
  a_with_hold : Addr
  d_with_hold : FuncData
  F_with_hold : Fun K "with_hold" "with_hold" s_with_hold a_with_hold d_with_hold
  b_with_hold : Binds K d_with_hold ["claim", "name", "kind", "sentence"] []
  m_with_hold : mg "with_hold" = some (.ref a_with_hold)
  a_without_hold : Addr
  d_without_hold : FuncData
  F_without_hold : Fun K "without_hold" "without_hold" s_without_hold a_without_hold d_without_hold
  b_without_hold : Binds K d_without_hold ["claim", "name"] []
  m_without_hold : mg "without_hold" = some (.ref a_without_hold)
  a_moved_ref : Addr
  d_moved_ref : FuncData
  F_moved_ref : Fun K "moved_ref" "moved_ref" s_moved_ref a_moved_ref d_moved_ref
  b_moved_ref : Binds K d_moved_ref ["ref", "old", "new", "renamed"] []
  m_moved_ref : mg "moved_ref" = some (.ref a_moved_ref)
  a_moved : Addr
  d_moved : FuncData
  F_moved : Fun K "moved" "moved" s_moved a_moved d_moved
  b_moved : Binds K d_moved ["derivation", "old", "new", "renamed"] []
  m_moved : mg "moved" = some (.ref a_moved)
  a_used : Addr
  d_used : FuncData
  F_used : Fun K "_used" "_used" s_used a_used d_used
  b_used : Binds K d_used ["ref", "goal", "choice", "level"] []
  m_used : mg "_used" = some (.ref a_used)
  a_inverted : Addr
  d_inverted : FuncData
  F_inverted : Fun K "_inverted" "_inverted" s_inverted a_inverted d_inverted
  b_inverted : Binds K d_inverted ["derivation", "goal", "choice", "level"] []
  m_inverted : mg "_inverted" = some (.ref a_inverted)
  a_invert_take : Addr
  d_invert_take : FuncData
  F_invert_take : Fun K "invert_take" "invert_take" s_invert_take a_invert_take d_invert_take
  b_invert_take : Binds K d_invert_take ["claim", "derivation", "name"] []
  m_invert_take : mg "invert_take" = some (.ref a_invert_take)
  a_invert_offer : Addr
  d_invert_offer : FuncData
  F_invert_offer : Fun K "invert_offer" "invert_offer" s_invert_offer a_invert_offer d_invert_offer
  b_invert_offer : Binds K d_invert_offer ["claim", "derivation", "side"] []
  m_invert_offer : mg "invert_offer" = some (.ref a_invert_offer)
  a_expanded_own : Addr
  d_expanded_own : FuncData
  F_expanded_own : Fun K "expanded_own" "expanded_own" s_expanded_own a_expanded_own d_expanded_own
  b_expanded_own : Binds K d_expanded_own ["ref", "goal", "level"] []
  m_expanded_own : mg "expanded_own" = some (.ref a_expanded_own)
  a_expanded_part : Addr
  d_expanded_part : FuncData
  F_expanded_part : Fun K "_expanded_part" "_expanded_part" s_expanded_part a_expanded_part d_expanded_part
  b_expanded_part : Binds K d_expanded_part ["library", "scope", "goal", "derivation", "level"] []
  m_expanded_part : mg "_expanded_part" = some (.ref a_expanded_part)
  a_expanded : Addr
  d_expanded : FuncData
  F_expanded : Fun K "expanded" "expanded" s_expanded a_expanded d_expanded
  b_expanded : Binds K d_expanded ["library", "claim", "derivation"] []
  m_expanded : mg "expanded" = some (.ref a_expanded)
  a_Library__init : Addr
  d_Library__init : FuncData
  F_Library__init : Fun K "__init__" "Library.__init__" s_Library__init a_Library__init d_Library__init
  b_Library__init : Binds K d_Library__init ["self"] []
  a_with_kind : Addr
  d_with_kind : FuncData
  F_with_kind : Fun K "with_kind" "with_kind" s_with_kind a_with_kind d_with_kind
  b_with_kind : Binds K d_with_kind ["claim", "name", "kind"] []
  m_with_kind : mg "with_kind" = some (.ref a_with_kind)
  a_with_room : Addr
  d_with_room : FuncData
  F_with_room : Fun K "with_room" "with_room" s_with_room a_with_room d_with_room
  b_with_room : Binds K d_with_room ["claim", "name", "kind"] []
  m_with_room : mg "with_room" = some (.ref a_with_room)
  a_pooled_holds : Addr
  d_pooled_holds : FuncData
  F_pooled_holds : Fun K "pooled_holds" "pooled_holds" s_pooled_holds a_pooled_holds d_pooled_holds
  b_pooled_holds : Binds K d_pooled_holds ["claim", "derivation", "first", "second"] []
  m_pooled_holds : mg "pooled_holds" = some (.ref a_pooled_holds)
  a_least_kinds : Addr
  d_least_kinds : FuncData
  F_least_kinds : Fun K "least_kinds" "least_kinds" s_least_kinds a_least_kinds d_least_kinds
  b_least_kinds : Binds K d_least_kinds ["claim", "derivation"] []
  m_least_kinds : mg "least_kinds" = some (.ref a_least_kinds)
  a_law_cell : Addr
  d_law_cell : FuncData
  F_law_cell : Fun K "_law_cell" "_law_cell" s_law_cell a_law_cell d_law_cell
  b_law_cell : Binds K d_law_cell ["script", "k"] []
  m_law_cell : mg "_law_cell" = some (.ref a_law_cell)
  a_law_pool : Addr
  d_law_pool : FuncData
  F_law_pool : Fun K "_law_pool" "_law_pool" s_law_pool a_law_pool d_law_pool
  b_law_pool : Binds K d_law_pool ["script", "k"] []
  m_law_pool : mg "_law_pool" = some (.ref a_law_pool)
  a_law_next : Addr
  d_law_next : FuncData
  F_law_next : Fun K "_law_next" "_law_next" s_law_next a_law_next d_law_next
  b_law_next : Binds K d_law_next ["pool", "many"] []
  m_law_next : mg "_law_next" = some (.ref a_law_next)
  a_law_names : Addr
  d_law_names : FuncData
  F_law_names : Fun K "_law_names" "_law_names" s_law_names a_law_names d_law_names
  b_law_names : Binds K d_law_names ["pool", "many"] []
  m_law_names : mg "_law_names" = some (.ref a_law_names)
  a_law_same : Addr
  d_law_same : FuncData
  F_law_same : Fun K "_law_same" "_law_same" s_law_same a_law_same d_law_same
  b_law_same : Binds K d_law_same ["told", "due"] []
  m_law_same : mg "_law_same" = some (.ref a_law_same)
  a_law_wrapped : Addr
  d_law_wrapped : FuncData
  F_law_wrapped : Fun K "_law_wrapped" "_law_wrapped" s_law_wrapped a_law_wrapped d_law_wrapped
  b_law_wrapped : Binds K d_law_wrapped ["pool", "words", "rows"] []
  m_law_wrapped : mg "_law_wrapped" = some (.ref a_law_wrapped)
  a_law_tower : Addr
  d_law_tower : FuncData
  F_law_tower : Fun K "_law_tower" "_law_tower" s_law_tower a_law_tower d_law_tower
  b_law_tower : Binds K d_law_tower ["pool", "sentence", "many", "base"] []
  m_law_tower : mg "_law_tower" = some (.ref a_law_tower)
  a_law_joined : Addr
  d_law_joined : FuncData
  F_law_joined : Fun K "_law_joined" "_law_joined" s_law_joined a_law_joined d_law_joined
  b_law_joined : Binds K d_law_joined ["rows", "top"] []
  m_law_joined : mg "_law_joined" = some (.ref a_law_joined)
  a_law_opened : Addr
  d_law_opened : FuncData
  F_law_opened : Fun K "_law_opened" "_law_opened" s_law_opened a_law_opened d_law_opened
  b_law_opened : Binds K d_law_opened ["ref", "sentence", "level"] []
  m_law_opened : mg "_law_opened" = some (.ref a_law_opened)
  a_law_is_row : Addr
  d_law_is_row : FuncData
  F_law_is_row : Fun K "_law_is_row" "_law_is_row" s_law_is_row a_law_is_row d_law_is_row
  b_law_is_row : Binds K d_law_is_row ["item"] []
  m_law_is_row : mg "_law_is_row" = some (.ref a_law_is_row)
  a_law_size : Addr
  d_law_size : FuncData
  F_law_size : Fun K "_law_size" "_law_size" s_law_size a_law_size d_law_size
  b_law_size : Binds K d_law_size ["tree"] []
  m_law_size : mg "_law_size" = some (.ref a_law_size)
  a_law_count : Addr
  d_law_count : FuncData
  F_law_count : Fun K "_law_count" "_law_count" s_law_count a_law_count d_law_count
  b_law_count : Binds K d_law_count ["rows", "top", "name"] []
  m_law_count : mg "_law_count" = some (.ref a_law_count)
  a_law_inverted : Addr
  d_law_inverted : FuncData
  F_law_inverted : Fun K "_law_inverted" "_law_inverted" s_law_inverted a_law_inverted d_law_inverted
  b_law_inverted : Binds K d_law_inverted ["tree", "goal", "choice", "level"] []
  m_law_inverted : mg "_law_inverted" = some (.ref a_law_inverted)
  a_law_taken_apart : Addr
  d_law_taken_apart : FuncData
  F_law_taken_apart : Fun K "_law_taken_apart" "_law_taken_apart" s_law_taken_apart a_law_taken_apart d_law_taken_apart
  b_law_taken_apart : Binds K d_law_taken_apart ["pool", "claim", "tree", "names"] []
  m_law_taken_apart : mg "_law_taken_apart" = some (.ref a_law_taken_apart)
  a_law_renamed : Addr
  d_law_renamed : FuncData
  F_law_renamed : Fun K "_law_renamed" "_law_renamed" s_law_renamed a_law_renamed d_law_renamed
  b_law_renamed : Binds K d_law_renamed ["rows", "top", "old", "new"] []
  m_law_renamed : mg "_law_renamed" = some (.ref a_law_renamed)
  a_law_mended : Addr
  d_law_mended : FuncData
  F_law_mended : Fun K "_law_mended" "_law_mended" s_law_mended a_law_mended d_law_mended
  b_law_mended : Binds K d_law_mended ["pool", "claim", "tree", "rows", "top", "counts_v"] []
  m_law_mended : mg "_law_mended" = some (.ref a_law_mended)
  a_law : Addr
  d_law : FuncData
  F_law : Fun K "law" "law" s_law a_law d_law
  b_law : Binds K d_law ["script"] []
  m_law : mg "law" = some (.ref a_law)
  z_bool : mg "bool" = none
  z_len : mg "len" = none
  z_range : mg "range" = none
  z_int : mg "int" = none
  z_abs : mg "abs" = none
  z_str : mg "str" = none
  z_min : mg "min" = none
  z_max : mg "max" = none
  z_list : mg "list" = none
  z_tuple : mg "tuple" = none
  z_repr : mg "repr" = none
  z_dict : mg "dict" = none
  z_isinstance : mg "isinstance" = none
  z_reversed : mg "reversed" = none
  z_sum : mg "sum" = none
  C_Count : Addr
  cl_Count : Cls K C_Count
  c_Count : mg "Count" = some (.ref C_Count)
  k_Count : Mk K C_Count a_Count__init
  sf_Count : PySem.W.selfFirst K C_Count = true
  n_least : NoAttr K C_Count "least"
  n_most : NoAttr K C_Count "most"
  n_days : NoAttr K C_Count "days"
  mt_Count_boxed : Meth K C_Count "boxed" a_Count_boxed
  mt_Count_fits : Meth K C_Count "fits" a_Count_fits
  of_Count__add : PySem.W.findIn K (.ref C_Count) "__add__" = some (some (.ref a_Count__add))
  oi_Count__add : PySem.W.isFn K (.ref a_Count__add) = true
  of_Count__or : PySem.W.findIn K (.ref C_Count) "__or__" = some (some (.ref a_Count__or))
  oi_Count__or : PySem.W.isFn K (.ref a_Count__or) = true
  C_Library : Addr
  cl_Library : Cls K C_Library
  c_Library : mg "Library" = some (.ref C_Library)
  k_Library : Mk K C_Library a_Library__init
  n_changes : NoAttr K C_Library "changes"
  n_words : NoAttr K C_Library "_words"
  n_meetings : NoAttr K C_Library "_meetings"
  n_entries : NoAttr K C_Library "_entries"
  a_PREMISES : Addr
  m_PREMISES : mg "PREMISES" = some (.ref a_PREMISES)
  a_BRINGS : Addr
  m_BRINGS : mg "BRINGS" = some (.ref a_BRINGS)
  pr_own : KDct K w a_PREMISES "own" (.int 0)
  tb_own : Addr
  br_own : KDct K w a_BRINGS "own" (.ref tb_own)
  bt_own : ∀ H, SqT K H tb_own []
  pr_take : KDct K w a_PREMISES "take" (.int 1)
  tb_take : Addr
  br_take : KDct K w a_BRINGS "take" (.ref tb_take)
  bt_take : ∀ H, SqT K H tb_take [.bl true]
  pr_offer : KDct K w a_PREMISES "offer" (.int 2)
  tb_offer : Addr
  br_offer : KDct K w a_BRINGS "offer" (.ref tb_offer)
  bt_offer : ∀ H, SqT K H tb_offer [.bl false, .bl false]
  pr_pick : KDct K w a_PREMISES "pick" (.int 1)
  tb_pick : Addr
  br_pick : KDct K w a_BRINGS "pick" (.ref tb_pick)
  bt_pick : ∀ H, SqT K H tb_pick [.bl true]
  pr_pay : KDct K w a_PREMISES "pay" (.int 2)
  tb_pay : Addr
  br_pay : KDct K w a_BRINGS "pay" (.ref tb_pay)
  bt_pay : ∀ H, SqT K H tb_pay [.bl false, .bl true]
  pr_cut : KDct K w a_PREMISES "cut" (.int 2)
  tb_cut : Addr
  br_cut : KDct K w a_BRINGS "cut" (.ref tb_cut)
  bt_cut : ∀ H, SqT K H tb_cut [.bl false, .bl true]
  t_LETTERS : Tok
  m_LETTERS : mg "LETTERS" = some (.str "abcdefghijklmnopqrstuvwxyz" t_LETTERS)
  t_DIGITS : Tok
  m_DIGITS : mg "DIGITS" = some (.str "0123456789" t_DIGITS)
  t_LONGEST_NAME : Tok
  m_LONGEST_NAME : mg "LONGEST_NAME" = some (.int 12 t_LONGEST_NAME)
end W81
namespace W81
open PySem PySem.Spec PyProof.Rows L2 HX
section
variable {P : Program} {w : World} {K : PySem.W.Frag} {mg : Str → Option Value} {base : Heap}
/-! ### the pool of draws: only its form matters -/
def Pool (l : List V) : Prop := ∃ a b c : Int, l = [.int a, .int b, .int c] ∧ 0 ≤ a
def spCell (K : PySem.W.Frag) : Sp := fun vs H Q _ => ∃ (a : Addr) (ns : List Int) (k : Int), vs = [.ref a, .int k] ∧ SqL K H a (ns.map V.int) ∧ ns.length ≤ 63 ∧ 0 ≤ k ∧ ∀ c : Int, 0 ≤ c → Q (.int c) H
theorem ok_law_cell {k : Nat} (T : Tx K mg w) : FnOk P w K mg base CX0 (k + 1) T.a_law_cell T.d_law_cell ["script", "k"] (spCell K) := by
  refine T.F_law_cell.ok sc_law_cell (fun vs H Q E h => ?_) (fun cdv A outer s H vs Q E hr h => ?_)
  · obtain ⟨a, ns, k, rfl, _⟩ := h
    rfl
  obtain ⟨a, ns, i, rfl, hS, h63, h0, q⟩ := h
  refine ⟨_, (pss_cons (ps_if (pt_cmpR op_lt (pv 1) (pe_callB (lenS K) (by rfl) T.z_len PySem.boot_len (pa_cons (pv 0) pa_nil)) (nomark _)) (pss_one (ps_ret (pe_callB call_abs (by rfl) T.z_abs (by decide +kernel) (pa_cons (pe_ix (ixL K) (pv 0) (pv 1) (fun _ _ => rfl)) pa_nil)))) pss_nil)
      (pss_one (ps_ret pe_int))), ?_⟩
  refine ⟨_, rfl, _, rfl, a, _, rfl, .inl hS, _, _, rfl, rfl, _, rfl, ?_⟩
  refine ite2 (fun c => ?_) (fun c => ?_)
  · have c' := of_decide_eq_true c
    rw [List.length_map] at c'
    have hi : i.toNat < ns.length := by omega
    have e : i = ((i.toNat : Nat) : Int) := by omega
    have g : atI (ns.map V.int) i = some (.int ns[i.toNat]) := by
      refine at_of e ?_
      rw [List.getElem?_map, List.getElem?_eq_getElem hi]
      rfl
    refine ⟨_, rfl, _, rfl, a, _, _, _, rfl, rfl, hS, g, _, rfl, ?_⟩
    exact q _ (by split <;> omega)
  · exact q 0 (Int.le_refl 0)
def spPool (K : PySem.W.Frag) : Sp := fun vs H Q _ => ∃ (a : Addr) (ns : List Int) (k : Int), vs = [.ref a, .int k] ∧ SqL K H a (ns.map V.int) ∧ ns.length ≤ 63 ∧ 0 ≤ k ∧ ∀ p l, H p = none → Pool l → Q (.ref p) (upd H p (.lst l))
theorem ok_law_pool {k : Nat} (T : Tx K mg w) (G_law_cell : FnOk P w K mg base CX0 k T.a_law_cell T.d_law_cell ["script", "k"] (spCell K)) : FnOk P w K mg base CX0 (k + 1) T.a_law_pool T.d_law_pool ["script", "k"] (spPool K) := by
  refine T.F_law_pool.ok sc_law_pool (fun vs H Q E h => ?_) (fun cdv A outer s H vs Q E hr h => ?_)
  · obtain ⟨a, ns, k, rfl, _⟩ := h
    rfl
  obtain ⟨a, ns, i, rfl, hS, h63, h0, q⟩ := h
  refine ⟨_, (pss_cons (ps_set (i := 2) sc_law_pool.nd rfl (Or.inl rfl) (pe_call G_law_cell hr (by rfl) T.m_law_cell T.F_law_cell.kp T.b_law_cell .nil pass0 (pa_cons (pv 0) (pa_cons (pv 1) pa_nil))))
      (pss_cons (ps_if (pt_cmpR op_ge (pv 2) (pe_op op_pow pe_int pe_int) (nomark _)) (pss_one (ps_ret (pe_lst (pa_cons (pv 2) (pa_cons pe_int (pa_cons (pe_op op_mod (pe_callTy call_int1 (by rfl) T.z_int (by decide +kernel) (pa_cons (pv 2) pa_nil)) pe_int) pa_nil)))))) pss_nil)
      (pss_one (ps_ret (pe_lst (pa_cons pe_int (pa_cons pe_int (pa_cons (pv 2) pa_nil)))))))), ?_⟩
  refine ⟨_, rfl, _, rfl, a, ns, i, rfl, hS, h63, h0, fun c hc => ?_⟩
  refine ⟨_, rfl, 10, 18, rfl, rfl, ⟨by decide, by decide, by decide⟩, _, _, rfl, rfl, _, rfl, ?_⟩
  refine ite2 (fun _ => ?_) (fun _ => ?_)
  · refine ⟨_, rfl, _, rfl, .inl ⟨c, rfl, c, 1000003, rfl, rfl, (by show (0 : Int) < 1000003; decide), (by show 3 ≤ sizeLine; decide), fun p hp => ?_⟩⟩
    exact q p _ hp ⟨_, _, _, rfl, hc⟩
  · refine ⟨_, rfl, (by show 3 ≤ sizeLine; decide), fun p hp => ?_⟩
    exact q p _ hp ⟨_, _, _, rfl, Int.le_refl 0⟩
theorem small_mod {x m : Int} (h : 0 < m) (h2 : m < 2 ^ 64) : -(2 ^ 64) < x % m ∧ x % m < 2 ^ 64 := by
  have e1 := Int.emod_nonneg x (show m ≠ 0 by omega)
  have e2 := Int.emod_lt_of_pos x h
  omega
def spNext : Sp := fun vs H Q _ => ∃ (p : Addr) (l : List V) (n : Int), vs = [.ref p, .int n] ∧ H p = some (.lst l) ∧ Pool l ∧ 0 < n ∧ n < 1000000 ∧ ∀ (d : Nat) l', Pool l' → (d : Int) < n → Q (.int d) (upd H p (.lst l'))
theorem ok_law_next {k : Nat} (T : Tx K mg w) : FnOk P w K mg base CX0 (k + 1) T.a_law_next T.d_law_next ["pool", "many"] spNext := by
  refine T.F_law_next.ok sc_law_next (fun vs H Q E h => ?_) (fun cdv A outer s H vs Q E hr h => ?_)
  · obtain ⟨p, l, n, rfl, _⟩ := h
    rfl
  obtain ⟨p, l, n, rfl, hp, ⟨a, b, c, rfl, ha⟩, h0, h1, q⟩ := h
  refine ⟨_, (pss_cons (ps_if (pt_cmpR op_gt (pe_ix (ixL K) (pv 0) pe_int (fun _ _ => rfl)) pe_int (nomark _)) (pss_cons (ps_set (i := 2) sc_law_next.nd rfl (Or.inl rfl) (pe_op op_modN (pe_callTy call_int1 (by rfl) T.z_int (by decide +kernel) (pa_cons (pe_ix (ixL K) (pv 0) pe_int (fun _ _ => rfl)) pa_nil)) (pv 1)))
      (pss_cons (ps_asg (pe_op op_fdivN (pe_ix (ixL K) (pv 0) pe_int (fun _ _ => rfl)) (pv 1)) (pg_sub (pv 0) pe_int set_list))
      (pss_one (ps_ret (pv 2))))) pss_nil)
      (pss_cons (ps_asg (pe_op op_add (pe_ix (ixL K) (pv 0) pe_int (fun _ _ => rfl)) pe_int) (pg_sub (pv 0) pe_int set_list))
      (pss_cons (ps_set (i := 3) sc_law_next.nd rfl (Or.inl rfl) (pe_op op_mod (pe_callTy call_int1 (by rfl) T.z_int (by decide +kernel) (pa_cons (pe_op op_add (pe_op op_add (pe_ix (ixL K) (pv 0) pe_int (fun _ _ => rfl)) (pe_op op_mul pe_int (pe_ix (ixL K) (pv 0) pe_int (fun _ _ => rfl)))) pe_int) pa_nil)) pe_int))
      (pss_cons (ps_set (i := 3) sc_law_next.nd rfl (Or.inl rfl) (pe_op op_mod (pe_callTy call_int1 (by rfl) T.z_int (by decide +kernel) (pa_cons (pe_op op_mul (pv 3) (pe_op op_add (pv 3) pe_int)) pa_nil)) pe_int))
      (pss_cons (ps_set (i := 3) sc_law_next.nd rfl (Or.inl rfl) (pe_op op_mod (pe_callTy call_int1 (by rfl) T.z_int (by decide +kernel) (pa_cons (pe_op op_add (pe_op op_mul (pv 3) (pe_op op_add (pv 3) pe_int)) (pe_op op_mul pe_int (pe_ix (ixL K) (pv 0) pe_int (fun _ _ => rfl)))) pa_nil)) pe_int))
      (pss_one (ps_ret (pe_op op_modN (pe_callTy call_int1 (by rfl) T.z_int (by decide +kernel) (pa_cons (pe_op op_fdiv (pv 3) pe_int) pa_nil)) (pv 1))))))))), ?_⟩
  have fin : ∀ (m : Int) (l' : List V), Pool l' → Q (.int (m.fmod n)) (upd H p (.lst l')) := fun m l' hl => by
    have e1 : 0 ≤ m.fmod n := Int.fmod_nonneg_of_pos _ h0
    have e2 : m.fmod n < n := Int.fmod_lt_of_pos _ h0
    have e3 : m.fmod n = (((m.fmod n).toNat : Nat) : Int) := by omega
    rw [e3]
    exact q _ l' hl (by omega)
  have sq : SqL K H p [.int a, .int b, .int c] := SqL.of hp
  refine ⟨_, rfl, p, _, 0, _, rfl, rfl, sq, rfl, _, _, rfl, rfl, _, rfl, ?_⟩
  refine ite2 (fun _ => ?_) (fun _ => ?_)
  · refine ⟨_, rfl, p, _, 0, _, rfl, rfl, sq, rfl, .inl ⟨a, rfl, _, rfl, a, n, rfl, rfl, by omega, ?_⟩⟩
    refine ⟨_, rfl, p, _, 0, _, rfl, rfl, sq, rfl, _, rfl, a, n, rfl, rfl, ⟨by omega, by omega⟩, _, rfl, p, _, 0, 0, rfl, rfl, hp, rfl, ?_⟩
    refine ⟨_, rfl, fin a _ ⟨_, _, _, rfl, ?_⟩⟩
    rw [Int.fdiv_eq_ediv_of_nonneg _ (by omega)]
    exact Int.ediv_nonneg ha (by omega)
  · refine ⟨_, rfl, p, _, 1, _, rfl, rfl, sq, rfl, _, _, rfl, rfl, _, rfl, p, _, 1, 1, rfl, rfl, hp, rfl, ?_⟩
    have sq2 : SqL K (upd H p (.lst [.int a, .int (b + 1), .int c])) p [.int a, .int (b + 1), .int c] := SqL.of upd_same
    refine ⟨_, rfl, p, _, 2, _, rfl, rfl, sq2, rfl, _, rfl, p, _, 1, _, rfl, rfl, sq2, rfl, _, _, rfl, rfl, .inl ⟨by decide, by decide⟩, _, _, rfl, rfl, _, _, rfl, rfl, .inl ⟨_, rfl, _, _, rfl, rfl, (by show (0 : Int) < 2147483647; decide), ?_⟩⟩
    refine ⟨_, rfl, _, rfl, _, _, rfl, rfl, _, _, rfl, rfl, .inl (small_mod (by decide) (by decide)), .inl ⟨_, rfl, _, _, rfl, rfl, (by show (0 : Int) < 2147483629; decide), ?_⟩⟩
    refine ⟨_, rfl, _, rfl, _, _, rfl, rfl, _, _, rfl, rfl, .inl (small_mod (by decide) (by decide)), _, rfl, p, _, 1, _, rfl, rfl, sq2, rfl, _, _, rfl, rfl, .inl ⟨by decide, by decide⟩, _, _, rfl, rfl, .inl ⟨_, rfl, _, _, rfl, rfl, (by show (0 : Int) < 2147483647; decide), ?_⟩⟩
    refine ⟨_, rfl, _, _, rfl, rfl, ⟨by decide, by decide⟩, .inl ⟨_, rfl, _, rfl, _, _, rfl, rfl, by omega, ?_⟩⟩
    exact fin _ _ ⟨_, _, _, rfl, ha⟩
end
end W81
namespace W81
open PySem PySem.Spec PyProof.Rows L2 HX
/-! ### counts -/
structure C3 where
  l : Nat
  m : Nat
  d : Nat
def C3.add (a b : C3) : C3 := ⟨a.l + b.l, a.m + b.m, max a.d b.d⟩
def C3.or (a b : C3) : C3 := ⟨min a.l b.l, max a.m b.m, max a.d b.d⟩
def C3.box (a : C3) : Kd → C3
  | .once => a
  | .box n d => ⟨0, n * a.m, d + a.d⟩
def C3.fits (a : C3) : Kd → Bool
  | .once => a.l == 1 && a.m == 1
  | .box n d => decide (a.m ≤ n) && decide (a.d ≤ d)
def C3.one : C3 := ⟨1, 1, 0⟩
def C3.zero : C3 := ⟨0, 0, 0⟩
theorem log_lt {a : Nat} (h : a < 2 ^ 400000) : ((a : Int)).natAbs.log2 < 400000 := by
  rw [Int.natAbs_natCast]
  by_cases h0 : a = 0
  · subst h0
    decide
  · exact (Nat.log2_lt h0).mpr h
theorem mulW {a b : Nat} (ha : a < 2 ^ 400000) (hb : b < 2 ^ 400000) : CMulW (a : Int) (b : Int) := by
  have h1 := log_lt ha
  have h2 := log_lt hb
  unfold CMulW
  omega
theorem small_nat {k : Nat} (h : k < 2 ^ 30) : k < 2 ^ 400000 := Nat.lt_of_lt_of_le h (Nat.pow_le_pow_right (show 0 < 2 by decide) (show 30 ≤ 400000 by decide))
def cf (t : C3) : List (Str × V) := [("least", iv t.l), ("most", iv t.m), ("days", iv t.d)]
theorem cf_l {t : C3} : (cf t).lookup ("least" : Str) = some (iv t.l) := rfl
theorem cf_m {t : C3} : (cf t).lookup ("most" : Str) = some (iv t.m) := by
  have e : (("most" : Str) == ("least" : Str)) = false := by decide +kernel
  unfold cf
  rw [List.lookup_cons, e, List.lookup_cons, beq_self_eq_true]
theorem cf_d {t : C3} : (cf t).lookup ("days" : Str) = some (iv t.d) := by
  have e : (("days" : Str) == ("least" : Str)) = false := by decide +kernel
  have e2 : (("days" : Str) == ("most" : Str)) = false := by decide +kernel
  unfold cf
  rw [List.lookup_cons, e, List.lookup_cons, e2, List.lookup_cons, beq_self_eq_true]
theorem cf_no {t : C3} {m : Str} (h1 : (m == ("least" : Str)) = false := by decide +kernel) (h2 : (m == ("most" : Str)) = false := by decide +kernel) (h3 : (m == ("days" : Str)) = false := by decide +kernel) : (cf t).lookup m = none := by
  unfold cf
  rw [List.lookup_cons, h1, List.lookup_cons, h2, List.lookup_cons, h3]
  rfl
def CtAt (C : Addr) (H : Hp) (v : V) (t : C3) : Prop := ∃ x dx, v = .ref x ∧ H x = some (.ins C dx (cf t))
theorem CtAt.same {C : Addr} {H H' : Hp} {v : V} {t : C3} (h : CtAt C H v t) (s : Same H H') : CtAt C H' v t := let ⟨x, dx, e, q⟩ := h; ⟨x, dx, e, s _ _ q⟩
def Gives (C : Addr) (H : Hp) (Q : VK) (t : C3) : Prop := ∀ H' v, Same H H' → CtAt C H' v t → Q v H'
theorem max2 {a b : Int} : nuMax2 (.int a) (.int b) = some (.int (if a < b then b else a)) := by
  have e : nuLt (.int a) (.int b) = some (decide (a < b)) := rfl
  unfold nuMax2
  rw [e, Option.map_some]
  by_cases h : a < b
  · rw [decide_eq_true h, if_pos rfl, if_pos h]
  · rw [decide_eq_false h, if_neg (by decide), if_neg h]
theorem max3 {a b c : Int} : nuMax3 (.int a) (.int b) (.int c) = some (.int (if (if a < b then b else a) < c then c else (if a < b then b else a))) := by
  unfold nuMax3
  rw [max2, Option.bind_some, max2]
section
variable {P : Program} {w : World} {K : PySem.W.Frag} {mg : Str → Option Value} {base : Heap}
def spCInit (C : Addr) : Sp := fun vs H Q _ => ∃ (x dx : Addr) (t : C3), vs = [.ref x, iv t.l, iv t.m, iv t.d] ∧ H x = some (.ins C dx []) ∧ Q .non (upd H x (.ins C dx (cf t)))
theorem ok_Count__init {k : Nat} (T : Tx K mg w) : FnOk P w K mg base CX0 (k + 1) T.a_Count__init T.d_Count__init ["self", "least", "most", "days"] (spCInit T.C_Count) := by
  refine T.F_Count__init.ok sc_Count__init (fun vs H Q E h => ?_) (fun cdv A outer s H vs Q E hr h => ?_)
  · obtain ⟨_, _, _, rfl, _⟩ := h
    rfl
  obtain ⟨x, dx, t, rfl, hx, q⟩ := h
  refine ⟨_, (pss_cons (ps_fld (pv 0) (pv 1) rfl)
      (pss_cons (ps_fld (pv 0) (pv 2) rfl)
      (pss_one (ps_fld (pv 0) (pv 3) rfl)))), ?_⟩
  refine ⟨_, rfl, _, rfl, x, T.C_Count, dx, _, rfl, hx, T.cl_Count, T.n_least, (by decide), ?_⟩
  refine ⟨_, rfl, _, rfl, x, T.C_Count, dx, _, rfl, upd_same, T.cl_Count, T.n_most, (by show 1 < 1000; decide), ?_⟩
  refine ⟨_, rfl, _, rfl, x, T.C_Count, dx, _, rfl, upd_same, T.cl_Count, T.n_days, (by show 2 < 1000; decide), ?_⟩
  rw [upd_upd, upd_upd]
  exact q
theorem make_ct {C : Addr} {H : Hp} {Q : VK} {t : C3} {x dx : Addr} {vs : List V} (hv : vs = [.ref x, iv t.l, iv t.m, iv t.d]) (q : Gives C H Q t) (nx : H x = none) (ndx : H dx = none) (ne : dx ≠ x) :
    spCInit C vs (upd (upd H dx (.own x)) x (.ins C dx [])) (fun v H2 => v = .non ∧ Q (.ref x) H2) E0 := by
  have s1 : Same H (upd (upd H dx (.own x)) x (.ins C dx [])) := (Same.new ndx).trans (Same.new (by rw [upd_ne (Ne.symm ne)]; exact nx))
  refine ⟨x, dx, t, hv, upd_same, rfl, q _ _ (fun b o hb => ?_) ⟨x, dx, rfl, upd_same⟩⟩
  rw [upd_ne (ne_of_none hb nx)]
  exact s1 b o hb
/-- .. where the continuation is no variable -/
theorem make_ct1 {C : Addr} {H : Hp} {R : VK} {t : C3} {x dx : Addr} {vs : List V} (hv : vs = [.ref x, iv t.l, iv t.m, iv t.d]) (nx : H x = none) (ndx : H dx = none) (ne : dx ≠ x) (q : ∀ H', Same H H' → CtAt C H' (.ref x) t → R .non H') :
    spCInit C vs (upd (upd H dx (.own x)) x (.ins C dx [])) R E0 :=
  make_ct (Q := fun v H' => v = .ref x → R .non H') hv (fun H' v s h e => by subst e; exact q H' s h) nx ndx ne |> fun ⟨a, b, c, e1, e2, h1, h2⟩ => ⟨a, b, c, e1, e2, h2 rfl⟩
def spCAdd (C : Addr) : Sp := fun vs H Q _ => ∃ (v u : V) (a b : C3), vs = [v, u] ∧ CtAt C H v a ∧ CtAt C H u b ∧ Gives C H Q (a.add b)
theorem ok_Count__add {k : Nat} (T : Tx K mg w) (G_Count__init : FnOk P w K mg base CX0 k T.a_Count__init T.d_Count__init ["self", "least", "most", "days"] (spCInit T.C_Count)) : FnOk P w K mg base CX0 (k + 2) T.a_Count__add T.d_Count__add ["self", "other"] (spCAdd T.C_Count) := by
  refine T.F_Count__add.ok sc_Count__add (fun vs H Q E h => ?_) (fun cdv A outer s H vs Q E hr h => ?_)
  · obtain ⟨_, _, _, _, rfl, _⟩ := h
    rfl
  obtain ⟨v, u, a, b, rfl, ⟨x, dx, rfl, hx⟩, ⟨y, dy, rfl, hy⟩, q⟩ := h
  refine ⟨_, (pss_one (ps_ret (pe_make T.k_Count G_Count__init hr (by rfl) T.c_Count T.b_Count__init .nil pass0 (pa_cons (pe_op op_add (pe_fldK K (pv 0) rfl) (pe_fldK K (pv 1) rfl)) (pa_cons (pe_op op_add (pe_fldK K (pv 0) rfl) (pe_fldK K (pv 1) rfl)) (pa_cons (pe_callB (call_max3Nu rfl) (by rfl) T.z_max (by decide +kernel) (pa_cons pe_int (pa_cons (pe_fldK K (pv 0) rfl) (pa_cons (pe_fldK K (pv 1) rfl) pa_nil)))) pa_nil)))))), ?_⟩
  refine ⟨_, rfl, x, T.C_Count, dx, _, _, rfl, hx, T.cl_Count, T.n_least, cf_l, _, rfl, y, T.C_Count, dy, _, _, rfl, hy, T.cl_Count, T.n_least, cf_l, _, _, rfl, rfl, ?_⟩
  refine ⟨_, rfl, x, T.C_Count, dx, _, _, rfl, hx, T.cl_Count, T.n_most, cf_m, _, rfl, y, T.C_Count, dy, _, _, rfl, hy, T.cl_Count, T.n_most, cf_m, _, _, rfl, rfl, ?_⟩
  refine ⟨_, rfl, x, T.C_Count, dx, _, _, rfl, hx, T.cl_Count, T.n_days, cf_d, _, rfl, y, T.C_Count, dy, _, _, rfl, hy, T.cl_Count, T.n_days, cf_d, _, _, _, _, rfl, max3, ?_⟩
  intro z dz nz ndz ne
  refine make_ct (t := a.add b) ?_ q nz ndz ne
  have e : V.int (if (if 0 < (a.d : Int) then (a.d : Int) else 0) < (b.d : Int) then (b.d : Int) else (if 0 < (a.d : Int) then (a.d : Int) else 0)) = iv (max a.d b.d) := by
    show V.int _ = V.int _
    congr 1
    split <;> split <;> omega
  rw [e]
  rfl
def spCOr (C : Addr) : Sp := fun vs H Q _ => ∃ (v u : V) (a b : C3), vs = [v, u] ∧ CtAt C H v a ∧ CtAt C H u b ∧ Gives C H Q (a.or b)
theorem ok_Count__or {k : Nat} (T : Tx K mg w) (G_Count__init : FnOk P w K mg base CX0 k T.a_Count__init T.d_Count__init ["self", "least", "most", "days"] (spCInit T.C_Count)) : FnOk P w K mg base CX0 (k + 2) T.a_Count__or T.d_Count__or ["self", "other"] (spCOr T.C_Count) := by
  refine T.F_Count__or.ok sc_Count__or (fun vs H Q E h => ?_) (fun cdv A outer s H vs Q E hr h => ?_)
  · obtain ⟨_, _, _, _, rfl, _⟩ := h
    rfl
  obtain ⟨v, u, a, b, rfl, ⟨x, dx, rfl, hx⟩, ⟨y, dy, rfl, hy⟩, q⟩ := h
  refine ⟨_, (pss_cons (ps_set (i := 2) sc_Count__or.nd rfl (Or.inl rfl) (pe_fldK K (pv 0) rfl))
      (pss_cons (ps_if (pt_cmpR op_lt (pe_fldK K (pv 1) rfl) (pv 2) (nomark _)) (pss_one (ps_set (i := 2) sc_Count__or.nd rfl (Or.inl rfl) (pe_fldK K (pv 1) rfl))) pss_nil)
      (pss_one (ps_ret (pe_make T.k_Count G_Count__init hr (by rfl) T.c_Count T.b_Count__init .nil pass0 (pa_cons (pv 2) (pa_cons (pe_callB (call_max3Nu rfl) (by rfl) T.z_max (by decide +kernel) (pa_cons pe_int (pa_cons (pe_fldK K (pv 0) rfl) (pa_cons (pe_fldK K (pv 1) rfl) pa_nil)))) (pa_cons (pe_callB (call_max3Nu rfl) (by rfl) T.z_max (by decide +kernel) (pa_cons pe_int (pa_cons (pe_fldK K (pv 0) rfl) (pa_cons (pe_fldK K (pv 1) rfl) pa_nil)))) pa_nil)))))))), ?_⟩
  refine ⟨_, rfl, x, T.C_Count, dx, _, _, rfl, hx, T.cl_Count, T.n_least, cf_l, ?_⟩
  dsimp only [tNext, tSeq, tAsg, tC, gName]
  refine ifS_to [some (.ref x), some (.ref y), some (iv (min a.l b.l))] ?_ fun els => ?_
  · refine ⟨_, rfl, ?_⟩
    refine ⟨_, rfl, x, T.C_Count, dx, _, _, rfl, hx, T.cl_Count, T.n_most, cf_m, _, rfl, y, T.C_Count, dy, _, _, rfl, hy, T.cl_Count, T.n_most, cf_m, _, _, _, _, rfl, max3, ?_⟩
    refine ⟨_, rfl, x, T.C_Count, dx, _, _, rfl, hx, T.cl_Count, T.n_days, cf_d, _, rfl, y, T.C_Count, dy, _, _, rfl, hy, T.cl_Count, T.n_days, cf_d, _, _, _, _, rfl, max3, ?_⟩
    intro z dz nz ndz ne
    refine make_ct (t := a.or b) ?_ q nz ndz ne
    have e : ∀ p r : Nat, V.int (if (if 0 < (p : Int) then (p : Int) else 0) < (r : Int) then (r : Int) else (if 0 < (p : Int) then (p : Int) else 0)) = iv (max p r) := fun p r => by
      show V.int _ = V.int _
      congr 1
      split <;> split <;> omega
    rw [e, e]
    rfl
  · refine ⟨_, rfl, y, T.C_Count, dy, _, _, rfl, hy, T.cl_Count, T.n_least, cf_l, _, rfl, _, _, rfl, rfl, _, rfl, ite2 (fun c => ?_) (fun c => ?_)⟩
    · have c := of_decide_eq_true c
      refine ⟨_, rfl, y, T.C_Count, dy, _, _, rfl, hy, T.cl_Count, T.n_least, cf_l, ?_⟩
      have e : min a.l b.l = b.l := by omega
      rw [e] at els
      exact els
    · have c : ¬ (b.l : Int) < (a.l : Int) := fun z => c (decide_eq_true z)
      have e : min a.l b.l = a.l := by omega
      rw [e] at els
      exact els
def spCBox (K : PySem.W.Frag) (C : Addr) : Sp := fun vs H Q _ => ∃ (v u : V) (a : C3) (m : Kd), vs = [v, u] ∧ CtAt C H v a ∧ Tp K H u m.dat ∧ m.n < 2 ^ 400000 ∧ a.m < 2 ^ 400000 ∧ Gives C H Q (a.box m)
theorem ok_Count_boxed {k : Nat} (T : Tx K mg w) (G_Count__init : FnOk P w K mg base CX0 k T.a_Count__init T.d_Count__init ["self", "least", "most", "days"] (spCInit T.C_Count)) : FnOk P w K mg base CX0 (k + 2) T.a_Count_boxed T.d_Count_boxed ["self", "kind"] (spCBox K T.C_Count) := by
  refine T.F_Count_boxed.ok sc_Count_boxed (fun vs H Q E h => ?_) (fun cdv A outer s H vs Q E hr h => ?_)
  · obtain ⟨_, _, _, _, rfl, _⟩ := h
    rfl
  obtain ⟨v, u, a, m, rfl, ⟨x, dx, rfl, hx⟩, hm, h1, h2, q⟩ := h
  refine ⟨_, (pss_cons (ps_if (pt_cmpR (eqD K hr.units) (pv 1) pe_str (nomark _)) (pss_one (ps_ret (pe_make T.k_Count G_Count__init hr (by rfl) T.c_Count T.b_Count__init .nil pass0 (pa_cons (pe_fldK K (pv 0) rfl) (pa_cons (pe_fldK K (pv 0) rfl) (pa_cons (pe_fldK K (pv 0) rfl) pa_nil)))))) pss_nil)
      (pss_one (ps_ret (pe_make T.k_Count G_Count__init hr (by rfl) T.c_Count T.b_Count__init .nil pass0 (pa_cons pe_int (pa_cons (pe_op op_mulW (pe_ix (ixT K) (pv 1) pe_int (fun _ _ => rfl)) (pe_fldK K (pv 0) rfl)) (pa_cons (pe_op op_add (pe_ix (ixT K) (pv 1) pe_int (fun _ _ => rfl)) (pe_fldK K (pv 0) rfl)) pa_nil))))))), ?_⟩
  refine ⟨_, rfl, _, _, kd_dp hm, .str _, kd_shaped m, once_shaped, _, rfl, ?_⟩
  rw [kd_eqv]
  cases m with
  | once =>
    refine iteT ?_
    refine ⟨_, rfl, x, T.C_Count, dx, _, _, rfl, hx, T.cl_Count, T.n_least, cf_l, _, rfl, x, T.C_Count, dx, _, _, rfl, hx, T.cl_Count, T.n_most, cf_m, _, rfl, x, T.C_Count, dx, _, _, rfl, hx, T.cl_Count, T.n_days, cf_d, ?_⟩
    exact fun z dz nz ndz ne => make_ct (t := a) rfl q nz ndz ne
  | box n d =>
    refine iteF ?_
    obtain ⟨c, rfl, hc⟩ := kd_box hm
    refine ⟨_, rfl, c, _, 0, _, rfl, rfl, hc, rfl, _, rfl, x, T.C_Count, dx, _, _, rfl, hx, T.cl_Count, T.n_most, cf_m, _, _, rfl, rfl, mulW h1 h2, ?_⟩
    refine ⟨_, rfl, c, _, 1, _, rfl, rfl, hc, rfl, _, rfl, x, T.C_Count, dx, _, _, rfl, hx, T.cl_Count, T.n_days, cf_d, _, _, rfl, rfl, ?_⟩
    exact fun z dz nz ndz ne => make_ct (t := a.box (.box n d)) rfl q nz ndz ne
def spCFits (K : PySem.W.Frag) (C : Addr) : Sp := fun vs H Q _ => ∃ (v u : V) (a : C3) (m : Kd), vs = [v, u] ∧ CtAt C H v a ∧ Tp K H u m.dat ∧ a.fits m = true ∧ Q (.bl true) H
theorem ok_Count_fits {k : Nat} (T : Tx K mg w) : FnOk P w K mg base CX0 (k + 1) T.a_Count_fits T.d_Count_fits ["self", "kind"] (spCFits K T.C_Count) := by
  refine T.F_Count_fits.ok sc_Count_fits (fun vs H Q E h => ?_) (fun cdv A outer s H vs Q E hr h => ?_)
  · obtain ⟨_, _, _, _, rfl, _⟩ := h
    rfl
  obtain ⟨v, u, a, m, rfl, ⟨x, dx, rfl, hx⟩, hm, hf, q⟩ := h
  refine ⟨_, (pss_cons (ps_if (pt_cmpR (eqD K hr.units) (pv 1) pe_str (nomark _)) (pss_one (ps_ret (pe_and (pe_cmpR op_eq (pe_fldK K (pv 0) rfl) pe_int (nomark _)) (pe_one (pe_cmpR op_eq (pe_fldK K (pv 0) rfl) pe_int (nomark _)))))) pss_nil)
      (pss_one (ps_ret (pe_and (pe_cmpR op_le (pe_fldK K (pv 0) rfl) (pe_ix (ixT K) (pv 1) pe_int (fun _ _ => rfl)) (nomark _)) (pe_one (pe_cmpR op_le (pe_fldK K (pv 0) rfl) (pe_ix (ixT K) (pv 1) pe_int (fun _ _ => rfl)) (nomark _))))))), ?_⟩
  refine ⟨_, rfl, _, _, kd_dp hm, .str _, kd_shaped m, once_shaped, _, rfl, ?_⟩
  rw [kd_eqv]
  cases m with
  | once =>
    obtain ⟨l, m, d⟩ := a
    have hf : (l == 1 && m == 1) = true := hf
    rw [Bool.and_eq_true, beq_iff_eq, beq_iff_eq] at hf
    obtain ⟨rfl, rfl⟩ := hf
    refine iteT ?_
    refine ⟨_, rfl, x, T.C_Count, dx, _, _, rfl, hx, T.cl_Count, T.n_least, cf_l, rfl, ?_⟩
    refine ⟨_, rfl, ?_⟩
    refine iteT ?_
    exact ⟨_, rfl, x, T.C_Count, dx, _, _, rfl, hx, T.cl_Count, T.n_most, cf_m, rfl, q⟩
  | box n d =>
    have hf : (decide (a.m ≤ n) && decide (a.d ≤ d)) = true := hf
    rw [Bool.and_eq_true, decide_eq_true_eq, decide_eq_true_eq] at hf
    refine iteF ?_
    obtain ⟨c, rfl, hc⟩ := kd_box hm
    refine ⟨_, rfl, x, T.C_Count, dx, _, _, rfl, hx, T.cl_Count, T.n_most, cf_m, _, rfl, c, _, 0, _, rfl, rfl, hc, rfl, _, _, rfl, rfl, ?_⟩
    have e1 : decide ((a.m : Int) ≤ (n : Int)) = true := decide_eq_true (by omega)
    have e2 : decide ((a.d : Int) ≤ (d : Int)) = true := decide_eq_true (by omega)
    dsimp only
    rw [e1]
    refine ⟨_, rfl, iteT ?_⟩
    refine ⟨_, rfl, x, T.C_Count, dx, _, _, rfl, hx, T.cl_Count, T.n_days, cf_d, _, rfl, c, _, 1, _, rfl, rfl, hc, rfl, _, _, rfl, rfl, ?_⟩
    dsimp only
    rw [e2]
    exact q
end
end W81
namespace W81
open PySem PySem.Spec PyProof.Rows L2 HX
/-! ### counts by reference -/
abbrev Cn := Key → Option C3
def addF (c1 c2 : Cn) : Cn := fun k => match c1 k, c2 k with
  | some a, some b => some (a.add b)
  | some a, none => some a
  | none, o => o
def orF (c1 c2 : Cn) : Cn := fun k => match c1 k, c2 k with
  | some a, some b => some (a.or b)
  | some a, none => some (a.or .zero)
  | none, some b => some (b.or .zero)
  | none, none => none
def boxF (c : Cn) (m : Kd) : Cn := fun k => (c k).map fun a => a.box m
def woF (c : Cn) (r : Key) : Cn := fun k => if k = r then none else c k
def oneF (r : Key) : Cn := fun k => if k = r then some C3.one else none
def Dr.cn : Dr → Nat → Cn
  | .own r, _ => oneF r
  | .take b, lv => woF (b.cn (lv + 1)) (lvR lv)
  | .offer a b, lv => orF (a.cn lv) (b.cn lv)
  | .pick r _ b, lv => addF (oneF r) (woF (b.cn (lv + 1)) (lvR lv))
  | .pay r m a b, lv => addF (addF (oneF r) (boxF (a.cn lv) m)) (woF (b.cn (lv + 1)) (lvR lv))
  | .cut m _ a b, lv => addF (boxF (a.cn lv) m) (woF (b.cn (lv + 1)) (lvR lv))
def Cn.le (c : Cn) (B : Nat) : Prop := ∀ k t, c k = some t → t.m ≤ B
/-- kinds are small -/
def Dr.Kn : Dr → Prop
  | .own _ => True
  | .take b => b.Kn
  | .offer a b => a.Kn ∧ b.Kn
  | .pick _ _ b => b.Kn
  | .pay _ m a b => m.n ≤ 1000 ∧ a.Kn ∧ b.Kn
  | .cut m _ a b => m.n ≤ 1000 ∧ a.Kn ∧ b.Kn
theorem le_one (r : Key) : (oneF r).le 1 := fun k t h => by
  unfold oneF at h
  split at h
  · cases h
    exact Nat.le_refl _
  · cases h
theorem Cn.le.mono {c : Cn} {a b : Nat} (h : c.le a) (e : a ≤ b) : c.le b := fun k t z => Nat.le_trans (h k t z) e
theorem le_wo {c : Cn} {B : Nat} {r : Key} (h : c.le B) : (woF c r).le B := fun k t z => by
  unfold woF at z
  split at z
  · cases z
  · exact h k t z
theorem le_add {c d : Cn} {A B : Nat} (h : c.le A) (g : d.le B) : (addF c d).le (A + B) := fun k t z => by
  unfold addF at z
  cases e1 : c k with
  | none =>
    rw [e1] at z
    exact Nat.le_trans (g k t z) (Nat.le_add_left _ _)
  | some a =>
    rw [e1] at z
    cases e2 : d k with
    | none =>
      rw [e2] at z
      cases z
      exact Nat.le_trans (h k _ e1) (Nat.le_add_right _ _)
    | some b =>
      rw [e2] at z
      cases z
      exact Nat.add_le_add (h k _ e1) (g k _ e2)
theorem le_or {c d : Cn} {A B : Nat} (h : c.le A) (g : d.le B) : (orF c d).le (A + B) := fun k t z => by
  unfold orF at z
  cases e1 : c k with
  | none =>
    rw [e1] at z
    cases e2 : d k with
    | none => rw [e2] at z; cases z
    | some b =>
      rw [e2] at z
      cases z
      have := g k _ e2
      show max b.m 0 ≤ A + B
      omega
  | some a =>
    rw [e1] at z
    have ha := h k _ e1
    cases e2 : d k with
    | none =>
      rw [e2] at z
      cases z
      show max a.m 0 ≤ A + B
      omega
    | some b =>
      rw [e2] at z
      cases z
      have := g k _ e2
      show max a.m b.m ≤ A + B
      omega
theorem le_box {c : Cn} {B : Nat} {m : Kd} (h : c.le B) (hm : m.n ≤ 1000) : (boxF c m).le (1000 * B) := fun k t z => by
  unfold boxF at z
  cases e : c k with
  | none => rw [e] at z; cases z
  | some a =>
    rw [e] at z
    cases z
    have ha := h k _ e
    cases m with
    | once =>
      show a.m ≤ 1000 * B
      omega
    | box n d => exact Nat.mul_le_mul hm ha
theorem p1000 (n : Nat) : 1 ≤ 1000 ^ n := Nat.pow_pos (by decide)
theorem Dr.cn_le : ∀ (t : Dr) (lv : Nat), t.Kn → (t.cn lv).le (1000 ^ t.sz)
  | .own r, _, _ => (le_one r).mono (by show 1 ≤ 1000 ^ 1; decide)
  | .take b, lv, h => (le_wo (Dr.cn_le b (lv + 1) h)).mono (Nat.pow_le_pow_right (by decide) (Nat.le_succ _))
  | .offer a b, lv, h => (le_or (Dr.cn_le a lv h.1) (Dr.cn_le b lv h.2)).mono (by
      show 1000 ^ a.sz + 1000 ^ b.sz ≤ 1000 ^ (a.sz + b.sz + 1)
      have e : 1000 ^ (a.sz + b.sz + 1) = 1000 ^ a.sz * 1000 ^ b.sz * 1000 := by rw [Nat.pow_succ, Nat.pow_add]
      have z1 := Nat.le_mul_of_pos_right (1000 ^ a.sz) (p1000 b.sz)
      have z2 := Nat.le_mul_of_pos_left (1000 ^ b.sz) (p1000 a.sz)
      omega)
  | .pick r _ b, lv, h => (le_add (le_one r) (le_wo (Dr.cn_le b (lv + 1) h))).mono (by
      show 1 + 1000 ^ b.sz ≤ 1000 ^ (b.sz + 1)
      have := p1000 b.sz
      rw [Nat.pow_succ]
      omega)
  | .pay r m a b, lv, h => (le_add (le_add (le_one r) (le_box (Dr.cn_le a lv h.2.1) h.1)) (le_wo (Dr.cn_le b (lv + 1) h.2.2))).mono (by
      show 1 + 1000 * 1000 ^ a.sz + 1000 ^ b.sz ≤ 1000 ^ (a.sz + b.sz + 1)
      obtain ⟨q, hq⟩ : ∃ q, b.sz = q + 1 := ⟨b.sz - 1, by cases b <;> simp only [Dr.sz] <;> omega⟩
      have e : 1000 ^ (a.sz + b.sz + 1) = 1000 * 1000 ^ a.sz * 1000 ^ b.sz := by rw [Nat.pow_succ, Nat.pow_add]; rw [Nat.mul_comm, ← Nat.mul_assoc]
      have z1 := p1000 a.sz
      have z2 : 1000 ≤ 1000 ^ b.sz := by rw [hq, Nat.pow_succ]; have := p1000 q; omega
      have z3 : 1000 * 1000 ^ a.sz * 1000 ^ b.sz = 1000 * 1000 ^ a.sz * (1000 ^ b.sz - 2) + 1000 * 1000 ^ a.sz * 2 := by
        rw [← Nat.mul_add]
        congr 1
        omega
      have z4 : 1000 ^ b.sz - 2 ≤ 1000 * 1000 ^ a.sz * (1000 ^ b.sz - 2) := Nat.le_mul_of_pos_left _ (by omega)
      omega)
  | .cut m _ a b, lv, h => (le_add (le_box (Dr.cn_le a lv h.2.1) h.1) (le_wo (Dr.cn_le b (lv + 1) h.2.2))).mono (by
      show 1000 * 1000 ^ a.sz + 1000 ^ b.sz ≤ 1000 ^ (a.sz + b.sz + 1)
      obtain ⟨q, hq⟩ : ∃ q, b.sz = q + 1 := ⟨b.sz - 1, by cases b <;> simp only [Dr.sz] <;> omega⟩
      have e : 1000 ^ (a.sz + b.sz + 1) = 1000 * 1000 ^ a.sz * 1000 ^ b.sz := by rw [Nat.pow_succ, Nat.pow_add]; rw [Nat.mul_comm, ← Nat.mul_assoc]
      have z1 := p1000 a.sz
      have z2 : 1000 ≤ 1000 ^ b.sz := by rw [hq, Nat.pow_succ]; have := p1000 q; omega
      have z3 : 1000 * 1000 ^ a.sz * 1000 ^ b.sz = 1000 * 1000 ^ a.sz * (1000 ^ b.sz - 2) + 1000 * 1000 ^ a.sz * 2 := by
        rw [← Nat.mul_add]
        congr 1
        omega
      have z4 : 1000 ^ b.sz - 2 ≤ 1000 * 1000 ^ a.sz * (1000 ^ b.sz - 2) := Nat.le_mul_of_pos_left _ (by omega)
      omega)
theorem p_small {n : Nat} (h : n ≤ 20000) : 1000 ^ n < 2 ^ 400000 := by
  have e : 1000 ^ n ≤ (2 ^ 10) ^ n := Nat.pow_le_pow_left (by decide) n
  rw [← Nat.pow_mul] at e
  refine Nat.lt_of_le_of_lt e (Nat.pow_lt_pow_right (by decide) (by omega))
section
variable {P : Program} {w : World} {K : PySem.W.Frag} {mg : Str → Option Value} {base : Heap}
theorem ct_stay {C tot : Addr} : ∀ (H H' : Hp) (v : V) (t : C3) (ks : List (Key × V)), H tot = some (.dK ks) → Kp (only1 tot) H H' → CtAt C H v t → CtAt C H' v t := fun H H' v t ks e k h => by
  obtain ⟨x, dx, e1, q⟩ := h
  exact ⟨x, dx, e1, k _ _ (ne_of q e (by intro z; cases z)) q⟩
theorem dck_same {C : Addr} {H H' : Hp} {kvs : List (Key × V)} {c : Cn} (h : DcK (CtAt C) H kvs c) (s : Same H H') : DcK (CtAt C) H' kvs c := h.of fun v t r => r.same s
theorem dcat_same {C a : Addr} {H H' : Hp} {c : Cn} {n : Nat} (h : DcAt (CtAt C) H a c n) (s : Same H H') : DcAt (CtAt C) H' a c n := let ⟨kvs, e, d, l⟩ := h; ⟨kvs, s _ _ e, d.of fun v t r => r.same s, l⟩
/-- a new dict of counts -/
def GivesC (C : Addr) (H : Hp) (Q : VK) (c : Cn) (n : Nat) : Prop := ∀ p H', Same H H' → H p = none → DcAt (CtAt C) H' p c n → Q (.ref p) H'
def spAdded (C : Addr) : Sp := fun vs H Q _ => ∃ (a b : Addr) (c1 c2 : Cn) (n1 n2 : Nat), vs = [.ref a, .ref b] ∧ DcAt (CtAt C) H a c1 n1 ∧ DcAt (CtAt C) H b c2 n2 ∧ n1 + n2 ≤ 100000 ∧ GivesC C H Q (addF c1 c2) (n1 + n2)
theorem ok_added {k : Nat} (T : Tx K mg w) (G_Count__add : FnOk P w K mg base CX0 k T.a_Count__add T.d_Count__add ["self", "other"] (spCAdd T.C_Count)) : FnOk P w K mg base CX0 (k + 1) T.a_added T.d_added ["first", "second"] (spAdded T.C_Count) := by
  refine T.F_added.ok sc_added (fun vs H Q E h => ?_) (fun cdv A outer s H vs Q E hr h => ?_)
  · obtain ⟨_, _, _, _, _, _, rfl, _⟩ := h
    rfl
  obtain ⟨a, b, c1, c2, n1, n2, rfl, ⟨ka, ha, da, la⟩, ⟨kb, hb, db, lb⟩, hn, q⟩ := h
  have hu := hu_of hr
  refine ⟨_, (pss_cons (ps_set (i := 2) sc_added.nd rfl (Or.inl rfl) pe_dnewK)
      (pss_cons (ps_lock (ps_for PassesOwn.never rfl (pi_keys (pv 0)) (pg_name (i := 3) sc_added.nd rfl (Or.inl rfl)) (pss_one (ps_dput hu (pv 2) (pv 3) (pe_dget hu (pv 0) (pv 3) (fun _ _ => rfl)) rfl))))
      (pss_cons (ps_lock (ps_for PassesOwn.never rfl (pi_keys (pv 1)) (pg_name (i := 3) sc_added.nd rfl (Or.inl rfl)) (pss_one (ps_if (pt_cmp (pc_din hu (pv 3) (pv 2))) (pss_one (ps_dput hu (pv 2) (pv 3) (pe_op (op_own rfl T.of_Count__add T.oi_Count__add T.sf_Count G_Count__add hr T.b_Count__add pass0) (pe_dget hu (pv 2) (pv 3) (fun _ _ => rfl)) (pe_dget hu (pv 1) (pv 3) (fun _ _ => rfl))) rfl)) (pss_one (ps_dput hu (pv 2) (pv 3) (pe_dget hu (pv 1) (pv 3) (fun _ _ => rfl)) rfl))))))
      (pss_one (ps_ret (pv 2)))))), ?_⟩
  refine fun p np => ?_
  have s0 : Same H (upd H p (.dK [])) := Same.new np
  have hp0 : (upd H p (.dK [])) p = some (.dK []) := upd_same
  generalize upd H p (.dK []) = H0 at s0 hp0 ⊢
  have ha0 := s0 _ _ ha
  have hb0 := s0 _ _ hb
  have nap : a ≠ p := fun z => by rw [z, np] at ha; cases ha
  have nbp : b ≠ p := fun z => by rw [z, np] at hb; cases hb
  refine ⟨a, _, ha0, trivial, fun od => ⟨_, rfl, a, od, rfl, .inl ⟨ka, upd_same, ?_⟩⟩⟩
  have kl : Kp (only1 a) H0 (upd H0 a (.frz od (.dK ka))) := Kp.refl.put rfl
  have hpl : (upd H0 a (.frz od (.dK ka))) p = some (.dK []) := by rw [upd_ne (Ne.symm nap)]; exact hp0
  have dal : DcK (CtAt T.C_Count) (upd H0 a (.frz od (.dK ka))) ka c1 := (dck_same da s0).of fun v t r => ct_stay _ _ _ _ _ ha0 kl r
  refine loop_fill (R := CtAt T.C_Count) (d := a) (tot := p) (kvs := ka) (ts0 := []) (F := c1) (T := fun _ => none) (S := fun σ => ∃ y, σ = [some (.ref a), some (.ref b), some (.ref p), y]) upd_same da.nd hpl DcK.nil (by show 0 + ka.length ≤ 100000; omega) ct_stay ⟨_, rfl⟩ ?_ ?_
  · rintro k v σ' H' ts Dn hv ⟨y, rfl⟩ hfz k1 hT hl c' hc hk cont
    obtain ⟨t, ht, hvt⟩ := dal.vl k v hv
    have hvt' := ct_stay _ _ _ _ _ hpl k1 hvt
    refine ⟨_, rfl, _, rfl, a, v, rfl, dget_f hfz hv, _, rfl, _, rfl, p, _, rfl, DPut.k hT (sz2 hl), ?_⟩
    exact cont _ _ _ ⟨_, rfl⟩ (Kp.refl.put rfl) upd_same (hc.put2 ct_stay hT hvt' ht) (length_putK _ _ _)
  · rintro σ' H' ts ⟨y, rfl⟩ k1 hfz hT hc hl
    have k2 := kp_unlock ha0 k1
    refine ⟨hfz, ?_⟩
    have hT2 : (upd H' a (.dK ka)) p = some (.dK ts) := by rw [upd_ne (Ne.symm nap)]; exact hT
    have hc2 : DcK (CtAt T.C_Count) (upd H' a (.dK ka)) ts c1 := (hc.of fun v t r => by
      obtain ⟨x, dx, e1, qx⟩ := r
      exact ⟨x, dx, e1, by rw [upd_ne (ne_of qx hfz (by intro z; cases z))]; exact qx⟩).fn fun k => by
        by_cases z : inK ka k = true
        · rw [if_pos z]
        · rw [if_neg z]
          rcases da.get k with ⟨v, t, e1, e2, _⟩ | ⟨e1, e2⟩
          · exact absurd (by unfold inK; rw [e1]; rfl) z
          · exact e2.symm
    generalize upd H' a (.dK ka) = H2 at k2 hT2 hc2 ⊢
    have hb2 := k2 _ _ nbp hb0
    have db2 : DcK (CtAt T.C_Count) H2 kb c2 := (dck_same db s0).of fun v t r => ct_stay _ _ _ _ _ hp0 k2 r
    refine ⟨b, _, hb2, trivial, fun od2 => ⟨_, rfl, b, od2, rfl, .inl ⟨kb, upd_same, ?_⟩⟩⟩
    have kl2 : Kp (only1 b) H2 (upd H2 b (.frz od2 (.dK kb))) := Kp.refl.put rfl
    have hpl2 : (upd H2 b (.frz od2 (.dK kb))) p = some (.dK ts) := by rw [upd_ne (Ne.symm nbp)]; exact hT2
    have dbl := db2.of (H' := upd H2 b (.frz od2 (.dK kb))) fun v t r => ct_stay _ _ _ _ _ hb2 kl2 r
    have tsl := hc2.of (H' := upd H2 b (.frz od2 (.dK kb))) fun v t r => ct_stay _ _ _ _ _ hb2 kl2 r
    have hl0 : ts.length ≤ n1 := by
      have : ([] : List (Key × V)).length = 0 := rfl
      omega
    refine loop_fill (R := CtAt T.C_Count) (d := b) (tot := p) (kvs := kb) (ts0 := ts) (F := addF c1 c2) (T := c1) (S := fun σ => ∃ y, σ = [some (.ref a), some (.ref b), some (.ref p), y]) upd_same db.nd hpl2 tsl (by omega) ct_stay ⟨_, rfl⟩ ?_ ?_
    · rintro k v σ' H3 ts3 Dn hv ⟨y, rfl⟩ hfz3 k3 hT3 hl3 c' hc3 hk cont
      obtain ⟨t, ht, hvt⟩ := dbl.vl k v hv
      have hvt' := ct_stay _ _ _ _ _ hpl2 k3 hvt
      rcases hc3.get k with ⟨v1, t1, e1, e2, r1⟩ | ⟨e1, e2⟩
      · refine ⟨_, rfl, _, rfl, p, _, rfl, dget_k hT3 e1, _, rfl, iteT ?_⟩
        obtain ⟨x1, d1, rfl, q1⟩ := id r1
        obtain ⟨x2, d2, rfl, q2⟩ := id hvt'
        refine ⟨_, rfl, _, rfl, p, _, rfl, dget_k hT3 e1, _, rfl, _, rfl, b, _, rfl, dget_f hfz3 hv, x1, x2, d1, d2, _, _, rfl, rfl, q1, q2, .ref x1, .ref x2, t1, t, rfl, r1, hvt', fun H4 u4 s4 h4 => ?_⟩
        obtain ⟨x4, d4, rfl, q4⟩ := id h4
        have hF : addF c1 c2 k = some (t1.add t) := by
          unfold addF
          rw [← hk, e2, ht]
        refine ⟨x4, rfl, _, rfl, _, rfl, p, _, rfl, DPut.k (s4 _ _ hT3) (sz2 hl3), ?_⟩
        exact cont _ _ _ ⟨_, rfl⟩ ((Kp.of s4).put rfl) upd_same ((dck_same hc3 s4).put2 ct_stay (s4 _ _ hT3) h4 hF) (length_putK _ _ _)
      · refine ⟨_, rfl, _, rfl, p, _, rfl, dget_k hT3 e1, _, rfl, iteF ?_⟩
        have hF : addF c1 c2 k = some t := by
          unfold addF
          rw [← hk, e2, ht]
        refine ⟨_, rfl, _, rfl, b, v, rfl, dget_f hfz3 hv, _, rfl, _, rfl, p, _, rfl, DPut.k hT3 (sz2 hl3), ?_⟩
        exact cont _ _ _ ⟨_, rfl⟩ (Kp.refl.put rfl) upd_same (hc3.put2 ct_stay hT3 hvt' hF) (length_putK _ _ _)
    · rintro σ' H3 ts3 ⟨y, rfl⟩ k3 hfz3 hT3 hc3 hl3
      have k4 := kp_unlock hb2 k3
      refine ⟨hfz3, _, rfl, ?_⟩
      refine q p _ (same_kp s0 (k2.trans k4) np) np ⟨ts3, by rw [upd_ne (Ne.symm nbp)]; exact hT3, (hc3.of fun v t r => by
        obtain ⟨x, dx, e1, qx⟩ := r
        exact ⟨x, dx, e1, by rw [upd_ne (ne_of qx hfz3 (by intro z; cases z))]; exact qx⟩).fn fun k => ?_, by omega⟩
      by_cases z : inK kb k = true
      · rw [if_pos z]
      · rw [if_neg z]
        rcases db.get k with ⟨v, t, e1, e2, _⟩ | ⟨e1, e2⟩
        · exact absurd (by unfold inK; rw [e1]; rfl) z
        · unfold addF
          rw [e2]
          cases c1 k <;> rfl
end
end W81
namespace W81
open PySem PySem.Spec PyProof.Rows L2 HX
theorem kV_inj {a b : Key} (h : kV a = kV b) : a = b := by
  cases a with
  | inl i => cases b with
    | inl j => cases h; rfl
    | inr y => cases h
  | inr x => cases b with
    | inl j => cases h
    | inr y => cases h; rfl
theorem scal_kk (a b : Key) : scal (kV a) (kV b) = true := by
  cases a <;> cases b <;> rfl
theorem in_of {kvs : List (Key × V)} {R : Hp → V → C3 → Prop} {H : Hp} {c : Cn} (d : DcK R H kvs c) (k : Key) : ¬ inK kvs k = true → c k = none := fun z => by
  rcases d.get k with ⟨v, t, e1, e2, _⟩ | ⟨e1, e2⟩
  · exact absurd (by unfold inK; rw [e1]; rfl) z
  · exact e2
theorem ct_unl {C d : Addr} {H : Hp} {od : Obj} {u o : HO} {v : V} {t : C3} (h : CtAt C H v t) (e : H d = some (.frz od u)) : CtAt C (upd H d o) v t := by
  obtain ⟨x, dx, e1, q⟩ := h
  exact ⟨x, dx, e1, by rw [upd_ne (ne_of q e (by intro z; cases z))]; exact q⟩
section
variable {P : Program} {w : World} {K : PySem.W.Frag} {mg : Str → Option Value} {base : Heap}
def spEither (C : Addr) : Sp := fun vs H Q _ => ∃ (a b : Addr) (c1 c2 : Cn) (n1 n2 : Nat), vs = [.ref a, .ref b] ∧ DcAt (CtAt C) H a c1 n1 ∧ DcAt (CtAt C) H b c2 n2 ∧ a ≠ b ∧ n1 + n2 ≤ 100000 ∧ GivesC C H Q (orF c1 c2) (n1 + n2)
theorem ok_either {k : Nat} (T : Tx K mg w) (G_Count__init : FnOk P w K mg base CX0 k T.a_Count__init T.d_Count__init ["self", "least", "most", "days"] (spCInit T.C_Count)) (G_Count__or : FnOk P w K mg base CX0 (k + 1) T.a_Count__or T.d_Count__or ["self", "other"] (spCOr T.C_Count)) :
    FnOk P w K mg base CX0 (k + 2) T.a_either T.d_either ["first", "second"] (spEither T.C_Count) := by
  refine T.F_either.ok sc_either (fun vs H Q E h => ?_) (fun cdv A outer s H vs Q E hr h => ?_)
  · obtain ⟨_, _, _, _, _, _, rfl, _⟩ := h
    rfl
  obtain ⟨a, b, c1, c2, n1, n2, rfl, ⟨ka, ha, da, la⟩, ⟨kb, hb, db, lb⟩, nab, hn, q⟩ := h
  have hu := hu_of hr
  refine ⟨_, (pss_cons (ps_set (i := 2) sc_either.nd rfl (Or.inl rfl) pe_dnewK)
      (pss_cons (ps_lock (ps_for PassesOwn.never rfl (pi_keys (pv 0)) (pg_name (i := 3) sc_either.nd rfl (Or.inl rfl)) (pss_one (ps_dput hu (pv 2) (pv 3) (pe_op (op_own rfl T.of_Count__or T.oi_Count__or T.sf_Count G_Count__or hr T.b_Count__or pass0) (pe_dget hu (pv 0) (pv 3) (fun _ _ => rfl)) (pe_dget2 hu (pv 1) (pv 3) (pe_make T.k_Count G_Count__init hr (by rfl) T.c_Count T.b_Count__init .nil pass0 (pa_cons pe_int (pa_cons pe_int (pa_cons pe_int pa_nil)))) ⟨rfl, rfl, rfl, rfl⟩)) rfl))))
      (pss_cons (ps_lock (ps_for PassesOwn.never rfl (pi_keys (pv 1)) (pg_name (i := 3) sc_either.nd rfl (Or.inl rfl)) (pss_one (ps_if (pt_cmp (pc_dnotin hu (pv 3) (pv 0))) (pss_one (ps_dput hu (pv 2) (pv 3) (pe_op (op_own rfl T.of_Count__or T.oi_Count__or T.sf_Count G_Count__or hr T.b_Count__or pass0) (pe_dget hu (pv 1) (pv 3) (fun _ _ => rfl)) (pe_make T.k_Count G_Count__init hr (by rfl) T.c_Count T.b_Count__init .nil pass0 (pa_cons pe_int (pa_cons pe_int (pa_cons pe_int pa_nil))))) rfl)) pss_nil))))
      (pss_one (ps_ret (pv 2)))))), ?_⟩
  refine fun p np => ?_
  have s0 : Same H (upd H p (.dK [])) := Same.new np
  have hp0 : (upd H p (.dK [])) p = some (.dK []) := upd_same
  generalize upd H p (.dK []) = H0 at s0 hp0 ⊢
  have ha0 := s0 _ _ ha
  have hb0 := s0 _ _ hb
  have nap : a ≠ p := fun z => by rw [z, np] at ha; cases ha
  have nbp : b ≠ p := fun z => by rw [z, np] at hb; cases hb
  refine ⟨a, _, ha0, trivial, fun od => ⟨_, rfl, a, od, rfl, .inl ⟨ka, upd_same, ?_⟩⟩⟩
  have kl : Kp (only1 a) H0 (upd H0 a (.frz od (.dK ka))) := Kp.refl.put rfl
  have hpl : (upd H0 a (.frz od (.dK ka))) p = some (.dK []) := by rw [upd_ne (Ne.symm nap)]; exact hp0
  have hbl : (upd H0 a (.frz od (.dK ka))) b = some (.dK kb) := kl _ _ (Ne.symm nab) hb0
  have dal : DcK (CtAt T.C_Count) (upd H0 a (.frz od (.dK ka))) ka c1 := (dck_same da s0).of fun v t r => ct_stay _ _ _ _ _ ha0 kl r
  have dbl : DcK (CtAt T.C_Count) (upd H0 a (.frz od (.dK ka))) kb c2 := (dck_same db s0).of fun v t r => ct_stay _ _ _ _ _ ha0 kl r
  refine loop_fill (R := CtAt T.C_Count) (d := a) (tot := p) (kvs := ka) (ts0 := []) (F := orF c1 c2) (T := fun _ => none) (S := fun σ => ∃ y, σ = [some (.ref a), some (.ref b), some (.ref p), y]) upd_same da.nd hpl DcK.nil (by show 0 + ka.length ≤ 100000; omega) ct_stay ⟨_, rfl⟩ ?_ ?_
  · rintro k v σ' H' ts Dn hv ⟨y, rfl⟩ hfz k1 hT hl c' hc hk cont
    obtain ⟨t, ht, hvt⟩ := dal.vl k v hv
    have hvt' := ct_stay _ _ _ _ _ hpl k1 hvt
    have hb' := k1 _ _ nbp hbl
    obtain ⟨x1, d1, rfl, q1⟩ := id hvt'
    refine ⟨_, rfl, _, rfl, a, _, rfl, dget_f hfz hv, _, rfl, b, rfl, .inl ⟨_, .inl hb'⟩, _, rfl, fun z dz nz ndz ne => ?_⟩
    refine make_ct1 (t := C3.zero) rfl nz ndz ne fun H2 s2 h2 => ⟨rfl, ?_⟩
    have q1' := s2 _ _ q1
    have hT2 := s2 _ _ hT
    rcases dbl.get k with ⟨v2, t2, e1, e2, r2⟩ | ⟨e1, e2⟩
    · have r2' := (ct_stay _ _ _ _ _ hpl k1 r2).same s2
      refine ⟨_, dget_k (s2 _ _ hb') e1, ?_⟩
      obtain ⟨x2, d2, rfl, q2⟩ := id r2'
      refine ⟨x1, x2, d1, d2, _, _, rfl, rfl, q1', q2, .ref x1, .ref x2, t, t2, rfl, ⟨x1, d1, rfl, q1'⟩, r2', fun H4 u4 s4 h4 => ?_⟩
      obtain ⟨x4, d4, rfl, q4⟩ := id h4
      have hF : orF c1 c2 k = some (t.or t2) := by
        unfold orF
        rw [ht, e2]
      refine ⟨x4, rfl, _, rfl, _, rfl, p, _, rfl, DPut.k (s4 _ _ hT2) (sz2 hl), ?_⟩
      exact cont _ _ _ ⟨_, rfl⟩ ((Kp.of (s2.trans s4)).put rfl) upd_same ((dck_same hc (s2.trans s4)).put2 ct_stay (s4 _ _ hT2) h4 hF) (length_putK _ _ _)
    · refine ⟨_, dget_k (s2 _ _ hb') e1, ?_⟩
      obtain ⟨x2, d2, e3, q2⟩ := id h2
      cases e3
      refine ⟨x1, z, d1, d2, _, _, rfl, rfl, q1', q2, .ref x1, .ref z, t, C3.zero, rfl, ⟨x1, d1, rfl, q1'⟩, h2, fun H4 u4 s4 h4 => ?_⟩
      obtain ⟨x4, d4, rfl, q4⟩ := id h4
      have hF : orF c1 c2 k = some (t.or C3.zero) := by
        unfold orF
        rw [ht, e2]
      refine ⟨x4, rfl, _, rfl, _, rfl, p, _, rfl, DPut.k (s4 _ _ hT2) (sz2 hl), ?_⟩
      exact cont _ _ _ ⟨_, rfl⟩ ((Kp.of (s2.trans s4)).put rfl) upd_same ((dck_same hc (s2.trans s4)).put2 ct_stay (s4 _ _ hT2) h4 hF) (length_putK _ _ _)
  · rintro σ' H' ts ⟨y, rfl⟩ k1 hfz hT hc hl
    have k2 := kp_unlock ha0 k1
    refine ⟨hfz, ?_⟩
    have hT2 : (upd H' a (.dK ka)) p = some (.dK ts) := by rw [upd_ne (Ne.symm nap)]; exact hT
    have hc2 := hc.of (H' := upd H' a (.dK ka)) fun v t r => ct_unl r hfz
    have ha2 : (upd H' a (.dK ka)) a = some (.dK ka) := upd_same
    generalize upd H' a (.dK ka) = H2 at k2 hT2 hc2 ha2 ⊢
    have hb2 := k2 _ _ nbp hb0
    have db2 : DcK (CtAt T.C_Count) H2 kb c2 := (dck_same db s0).of fun v t r => ct_stay _ _ _ _ _ hp0 k2 r
    refine ⟨b, _, hb2, trivial, fun od2 => ⟨_, rfl, b, od2, rfl, .inl ⟨kb, upd_same, ?_⟩⟩⟩
    have kl2 : Kp (only1 b) H2 (upd H2 b (.frz od2 (.dK kb))) := Kp.refl.put rfl
    have hpl2 : (upd H2 b (.frz od2 (.dK kb))) p = some (.dK ts) := by rw [upd_ne (Ne.symm nbp)]; exact hT2
    have hal2 := kl2 _ _ nab ha2
    have dbl := db2.of (H' := upd H2 b (.frz od2 (.dK kb))) fun v t r => ct_stay _ _ _ _ _ hb2 kl2 r
    have tsl := hc2.of (H' := upd H2 b (.frz od2 (.dK kb))) fun v t r => ct_stay _ _ _ _ _ hb2 kl2 r
    have hl0 : ts.length ≤ n1 := by
      have : ([] : List (Key × V)).length = 0 := rfl
      omega
    refine loop_fill (R := CtAt T.C_Count) (d := b) (tot := p) (kvs := kb) (ts0 := ts) (F := orF c1 c2) (T := fun k => if inK ka k = true then orF c1 c2 k else none) (S := fun σ => ∃ y, σ = [some (.ref a), some (.ref b), some (.ref p), y]) upd_same db.nd hpl2 tsl (by omega) ct_stay ⟨_, rfl⟩ ?_ ?_
    · rintro k v σ' H3 ts3 Dn hv ⟨y, rfl⟩ hfz3 k3 hT3 hl3 c' hc3 hk cont
      obtain ⟨t, ht, hvt⟩ := dbl.vl k v hv
      have hvt' := ct_stay _ _ _ _ _ hpl2 k3 hvt
      have ha3 := k3 _ _ nap hal2
      rcases da.get k with ⟨v1, t1, e1, e2, _⟩ | ⟨e1, e2⟩
      · refine ⟨_, rfl, _, rfl, a, _, rfl, dget_k ha3 e1, _, rfl, iteF ?_⟩
        refine cont _ _ ts3 ⟨_, rfl⟩ Kp.refl hT3 (hc3.fn fun j => ?_) (Nat.le_succ _)
        by_cases z : j = k
        · subst z
          rw [if_pos rfl, hk, if_pos (by unfold inK; rw [e1]; rfl)]
        · rw [if_neg z]
      · refine ⟨_, rfl, _, rfl, a, _, rfl, dget_k ha3 e1, _, rfl, iteT ?_⟩
        have hF : orF c1 c2 k = some (t.or C3.zero) := by
          unfold orF
          rw [e2, ht]
        obtain ⟨x2, d2, rfl, q2⟩ := id hvt'
        refine ⟨_, rfl, _, rfl, b, _, rfl, dget_f hfz3 hv, fun z dz nz ndz ne => ?_⟩
        refine make_ct1 (t := C3.zero) rfl nz ndz ne fun H5 s5 h5 => ⟨rfl, ?_⟩
        obtain ⟨x5, d5, e5, q5⟩ := id h5
        cases e5
        refine ⟨x2, z, d2, d5, _, _, rfl, rfl, s5 _ _ q2, q5, .ref x2, .ref z, t, C3.zero, rfl, ⟨x2, d2, rfl, s5 _ _ q2⟩, h5, fun H4 u4 s4 h4 => ?_⟩
        obtain ⟨x4, d4, rfl, q4⟩ := id h4
        refine ⟨x4, rfl, _, rfl, _, rfl, p, _, rfl, DPut.k ((s5.trans s4) _ _ hT3) (sz2 hl3), ?_⟩
        exact cont _ _ _ ⟨_, rfl⟩ ((Kp.of (s5.trans s4)).put rfl) upd_same ((dck_same hc3 (s5.trans s4)).put2 ct_stay ((s5.trans s4) _ _ hT3) h4 hF) (length_putK _ _ _)
    · rintro σ' H3 ts3 ⟨y, rfl⟩ k3 hfz3 hT3 hc3 hl3
      have k4 := kp_unlock hb2 k3
      refine ⟨hfz3, _, rfl, ?_⟩
      refine q p _ (same_kp s0 (k2.trans k4) np) np ⟨ts3, by rw [upd_ne (Ne.symm nbp)]; exact hT3, (hc3.of fun v t r => ct_unl r hfz3).fn fun k => ?_, by omega⟩
      by_cases z : inK kb k = true
      · rw [if_pos z]
      · rw [if_neg z]
        by_cases z2 : inK ka k = true
        · rw [if_pos z2]
        · rw [if_neg z2]
          unfold orF
          rw [in_of da k z2, in_of db k z]
def spBoxC (K : PySem.W.Frag) (C : Addr) : Sp := fun vs H Q _ => ∃ (a : Addr) (u : V) (c : Cn) (n : Nat) (m : Kd), vs = [.ref a, u] ∧ DcAt (CtAt C) H a c n ∧ Tp K H u m.dat ∧ n ≤ 100000 ∧ m.n < 2 ^ 400000 ∧ (∀ k t, c k = some t → t.m < 2 ^ 400000) ∧ GivesC C H Q (boxF c m) n
theorem ok_boxed_counts {k : Nat} (T : Tx K mg w) (G_Count_boxed : FnOk P w K mg base CX0 k T.a_Count_boxed T.d_Count_boxed ["self", "kind"] (spCBox K T.C_Count)) : FnOk P w K mg base CX0 (k + 1) T.a_boxed_counts T.d_boxed_counts ["found", "kind"] (spBoxC K T.C_Count) := by
  refine T.F_boxed_counts.ok sc_boxed_counts (fun vs H Q E h => ?_) (fun cdv A outer s H vs Q E hr h => ?_)
  · obtain ⟨_, _, _, _, _, rfl, _⟩ := h
    rfl
  obtain ⟨a, u, c, n, m, rfl, ⟨ka, ha, da, la⟩, hm, hn, hmn, hcm, q⟩ := h
  have hu := hu_of hr
  refine ⟨_, (pss_one (ps_ret (pe_lock (pe_dc (own := [("ref", 2)]) (g := gName 2) (by rfl) sc_boxed_counts.nd (pi_keys (pv 0)) (blkOk_by (own := [("ref", 2)]) (N := ["found", "kind", "ref"]) (sc := defScope s_boxed_counts) (by decide +kernel)) (fun _ _ _ _ _ => (pg_name (i := 2) sc_boxed_counts.nd rfl (Or.inl rfl))) (fun _ _ _ _ _ => pts_nil) (fun _ _ _ _ _ => (pv 2)) (fun _ _ _ _ _ => (pe_meth (pe_dget hu (pv 0) (pv 2) (fun _ _ => rfl)) T.cl_Count T.mt_Count_boxed G_Count_boxed hr T.b_Count_boxed .nil pass0 (pa_cons (pv 1) pa_nil))))))), ?_⟩
  refine ⟨a, _, ha, trivial, fun od => ⟨_, rfl, a, od, rfl, .inl ⟨ka, upd_same, fun D nD => ?_⟩⟩⟩
  have kl : Kp (only1 a) H (upd H a (.frz od (.dK ka))) := Kp.refl.put rfl
  have dal : DcK (CtAt T.C_Count) (upd H a (.frz od (.dK ka))) ka c := da.of fun v t r => ct_stay _ _ _ _ _ ha kl r
  have hml := hm.k (kpt_dK kl ha)
  refine comp_fill (R := CtAt T.C_Count) (F := boxF c m) upd_same da.nd nD (by omega) ct_stay ?_ ?_
  · intro k v H' ts N hv hfz s1 hT hl _ cont
    obtain ⟨t, ht, hvt⟩ := dal.vl k v hv
    have hvt' := hvt.same s1
    refine ⟨rfl, ?_⟩
    dsimp only [tYes]
    rw [if_pos rfl]
    obtain ⟨x1, d1, rfl, q1⟩ := id hvt'
    refine ⟨_, rfl, _, rfl, _, rfl, a, _, rfl, dget_f hfz hv, x1, d1, _, rfl, q1, cf_no, _, rfl, .ref x1, u, t, m, rfl, hvt', hml.s s1, hmn, hcm k t ht, fun H2 z s2 hz => ?_⟩
    exact ⟨ts, k, rfl, s2 _ _ hT, sz2 hl, cont H2 z (t.box m) s2 (by unfold boxF; rw [ht]; rfl) hz⟩
  · intro H' ts s1 hfz hT hc hl
    have s2 := same_unlock ha s1
    have naD : a ≠ D := ne_of_none upd_same nD
    refine ⟨hfz, q D _ s2 ?_ ⟨ts, by rw [upd_ne (Ne.symm naD)]; exact hT, (hc.of fun v t r => ct_unl r hfz).fn fun k => ?_, by omega⟩⟩
    · rw [← nD, upd_ne (Ne.symm naD)]
    · by_cases z : inK ka k = true
      · rw [if_pos z]
      · rw [if_neg z]
        unfold boxF
        rw [in_of da k z]
        rfl
def spWithout (C : Addr) : Sp := fun vs H Q _ => ∃ (a : Addr) (r : Key) (c : Cn) (n : Nat), vs = [.ref a, kV r] ∧ DcAt (CtAt C) H a c n ∧ n ≤ 100000 ∧ GivesC C H Q (woF c r) n
theorem ok_without {k : Nat} (T : Tx K mg w) : FnOk P w K mg base CX0 (k + 1) T.a_without T.d_without ["found", "ref"] (spWithout T.C_Count) := by
  refine T.F_without.ok sc_without (fun vs H Q E h => ?_) (fun cdv A outer s H vs Q E hr h => ?_)
  · obtain ⟨_, _, _, _, rfl, _⟩ := h
    rfl
  obtain ⟨a, r, c, n, rfl, ⟨ka, ha, da, la⟩, hn, q⟩ := h
  have hu := hu_of hr
  refine ⟨_, (pss_one (ps_ret (pe_lock (pe_dc (own := [("other", 2)]) (g := gName 2) (by rfl) sc_without.nd (pi_keys (pv 0)) (blkOk_by (own := [("other", 2)]) (N := ["found", "ref", "other"]) (sc := defScope s_without) (by decide +kernel)) (fun _ _ _ _ _ => (pg_name (i := 2) sc_without.nd rfl (Or.inl rfl))) (fun _ _ _ _ _ => (pts_one (pt_cmpR op_ne (pv 2) (pv 1) (nomark _)))) (fun _ _ _ _ _ => (pv 2)) (fun _ _ _ _ _ => (pe_dget hu (pv 0) (pv 2) (fun _ _ => rfl))))))), ?_⟩
  refine ⟨a, _, ha, trivial, fun od => ⟨_, rfl, a, od, rfl, .inl ⟨ka, upd_same, fun D nD => ?_⟩⟩⟩
  have kl : Kp (only1 a) H (upd H a (.frz od (.dK ka))) := Kp.refl.put rfl
  have dal : DcK (CtAt T.C_Count) (upd H a (.frz od (.dK ka))) ka c := da.of fun v t r => ct_stay _ _ _ _ _ ha kl r
  refine comp_fill (R := CtAt T.C_Count) (F := woF c r) upd_same da.nd nD (by omega) ct_stay ?_ ?_
  · intro k v H' ts N hv hfz s1 hT hl c1 cont
    obtain ⟨t, ht, hvt⟩ := dal.vl k v hv
    have hvt' := hvt.same s1
    refine ⟨rfl, ?_⟩
    refine ⟨_, rfl, _, rfl, scal_kk k r, _, rfl, ?_⟩
    by_cases z : k = r
    · rw [ne_same (show kV k = kV r by rw [z])]
      refine iteF (c1 ?_)
      unfold woF
      rw [if_pos z]
    · have e : (!decide (kV k = kV r)) = true := by
        rw [decide_eq_false (fun y => z (kV_inj y))]
        rfl
      rw [e]
      refine iteT ?_
      refine ⟨_, rfl, _, rfl, _, rfl, a, _, rfl, dget_f hfz hv, ts, k, rfl, hT, sz2 hl, cont H' v t (Same.refl _) (by unfold woF; rw [if_neg z]; exact ht) hvt'⟩
  · intro H' ts s1 hfz hT hc hl
    have s2 := same_unlock ha s1
    have naD : a ≠ D := ne_of_none upd_same nD
    refine ⟨hfz, q D _ s2 ?_ ⟨ts, by rw [upd_ne (Ne.symm naD)]; exact hT, (hc.of fun v t r => ct_unl r hfz).fn fun k => ?_, by omega⟩⟩
    · rw [← nD, upd_ne (Ne.symm naD)]
    · by_cases z : inK ka k = true
      · rw [if_pos z]
      · rw [if_neg z]
        unfold woF
        rw [in_of da k z]
        split <;> rfl
/-! ### counts of a derivation -/
def spCounts (K : PySem.W.Frag) (C : Addr) (d : Nat) : Sp := fun vs H Q _ => ∃ (v : V) (lv : Nat) (t : Dr), vs = [v, iv lv] ∧ Tp K H v t.dat ∧ t.Kn ∧ t.sz ≤ 20000 ∧ t.dp < d ∧ GivesC C H Q (t.cn lv) t.sz
theorem Dr.cn_lt {t : Dr} {lv : Nat} (h : t.Kn) (hz : t.sz ≤ 20000) : ∀ k c, t.cn lv k = some c → c.m < 2 ^ 400000 := fun k c e => Nat.lt_of_le_of_lt (Dr.cn_le t lv h k c e) (p_small hz)
theorem kn_small {n : Nat} (h : n ≤ 1000) : n < 2 ^ 400000 := small_nat (by omega)
theorem lv1 {lv : Nat} : V.int ((lv : Int) + 1) = iv (lv + 1) := rfl
theorem gives1 {C : Addr} {H : Hp} {p : Addr} {kv : Key} {v : V} (hp : H p = some (.dK [])) (h : CtAt C H v C3.one) : DcAt (CtAt C) (upd H p (.dK [(kv, v)])) p (oneF kv) 1 := by
  refine ⟨_, upd_same, ⟨List.nodup_cons.mpr ⟨List.not_mem_nil, List.nodup_nil⟩, fun k u e => ?_, fun k e => ?_⟩, Nat.le_refl _⟩
  · by_cases z : kv = k
    · rw [valV_pos z] at e
      cases e
      refine ⟨C3.one, by unfold oneF; rw [if_pos z.symm], ct_stay _ _ _ _ _ hp (Kp.refl.put rfl) h⟩
    · rw [valV_neg z] at e
      cases e
  · by_cases z : kv = k
    · rw [valV_pos z] at e
      cases e
    · unfold oneF
      rw [if_neg (fun y => z y.symm)]
end
end W81
namespace W81
open PySem PySem.Spec PyProof.Rows L2 HX
section
variable {P : Program} {w : World} {K : PySem.W.Frag} {mg : Str → Option Value} {base : Heap}
theorem dcat_mono {C a : Addr} {H : Hp} {c : Cn} {n n' : Nat} (h : DcAt (CtAt C) H a c n) (e : n ≤ n') : DcAt (CtAt C) H a c n' := let ⟨kvs, e1, d, l⟩ := h; ⟨kvs, e1, d, Nat.le_trans l e⟩
theorem dcat_ref {C a : Addr} {H : Hp} {c : Cn} {n : Nat} (h : DcAt (CtAt C) H a c n) : ∃ o, H a = some o := let ⟨kvs, e1, _⟩ := h; ⟨_, e1⟩
theorem counts_step {k d : Nat} (T : Tx K mg w) (G_Count__init : FnOk P w K mg base CX0 k T.a_Count__init T.d_Count__init ["self", "least", "most", "days"] (spCInit T.C_Count)) (G_counts : FnOk P w K mg base CX0 (k + 1) T.a_counts T.d_counts ["derivation", "level"] (spCounts K T.C_Count d))
    (G_without : FnOk P w K mg base CX0 (k + 1) T.a_without T.d_without ["found", "ref"] (spWithout T.C_Count)) (G_either : FnOk P w K mg base CX0 (k + 1) T.a_either T.d_either ["first", "second"] (spEither T.C_Count))
    (G_added : FnOk P w K mg base CX0 (k + 1) T.a_added T.d_added ["first", "second"] (spAdded T.C_Count)) (G_boxed_counts : FnOk P w K mg base CX0 (k + 1) T.a_boxed_counts T.d_boxed_counts ["found", "kind"] (spBoxC K T.C_Count)) :
    FnOk P w K mg base CX0 (k + 2) T.a_counts T.d_counts ["derivation", "level"] (spCounts K T.C_Count (d + 1)) := by
  refine T.F_counts.ok sc_counts (fun vs H Q E h => ?_) (fun cdv A outer s H vs Q E hr h => ?_)
  · obtain ⟨_, _, _, rfl, _⟩ := h
    rfl
  obtain ⟨v, lv, t, rfl, hv, hkn, hsz, hd, q⟩ := h
  refine ⟨_, (pss_cons (ps_set (i := 2) sc_counts.nd rfl (Or.inl rfl) (pe_ix (ixT K) (pv 0) pe_int (fun _ _ => rfl)))
      (pss_cons (ps_if (pt_cmpR op_eq (pv 2) pe_str (nomark _)) (pss_one (ps_ret (pe_disp (pps_cons (pe_ix (ixT K) (pv 0) pe_int (fun _ _ => rfl)) (pe_make T.k_Count G_Count__init hr (by rfl) T.c_Count T.b_Count__init .nil pass0 (pa_cons pe_int (pa_cons pe_int (pa_cons pe_int pa_nil)))) pps_nil) rfl rfl (by intro z; cases z) (by decide)))) pss_nil)
      (pss_cons (ps_if (pt_cmpR op_eq (pv 2) pe_str (nomark _)) (pss_one (ps_ret pe_dnewK)) pss_nil)
      (pss_cons (ps_if (pt_cmpR op_eq (pv 2) pe_str (nomark _)) (pss_one (ps_ret (pe_call G_without hr (by rfl) T.m_without T.F_without.kp T.b_without .nil pass0 (pa_cons (pe_call G_counts hr (by rfl) T.m_counts T.F_counts.kp T.b_counts .nil pass0 (pa_cons (pe_ix (ixT K) (pv 0) pe_int (fun _ _ => rfl)) (pa_cons (pe_op op_add (pv 1) pe_int) pa_nil))) (pa_cons (pv 1) pa_nil))))) pss_nil)
      (pss_cons (ps_if (pt_cmpR op_eq (pv 2) pe_str (nomark _)) (pss_one (ps_ret (pe_call G_counts hr (by rfl) T.m_counts T.F_counts.kp T.b_counts .nil pass0 (pa_cons (pe_ix (ixT K) (pv 0) pe_int (fun _ _ => rfl)) (pa_cons (pv 1) pa_nil))))) pss_nil)
      (pss_cons (ps_if (pt_cmpR op_eq (pv 2) pe_str (nomark _)) (pss_one (ps_ret (pe_call G_either hr (by rfl) T.m_either T.F_either.kp T.b_either .nil pass0 (pa_cons (pe_call G_counts hr (by rfl) T.m_counts T.F_counts.kp T.b_counts .nil pass0 (pa_cons (pe_ix (ixT K) (pv 0) pe_int (fun _ _ => rfl)) (pa_cons (pv 1) pa_nil))) (pa_cons (pe_call G_counts hr (by rfl) T.m_counts T.F_counts.kp T.b_counts .nil pass0 (pa_cons (pe_ix (ixT K) (pv 0) pe_int (fun _ _ => rfl)) (pa_cons (pv 1) pa_nil))) pa_nil))))) pss_nil)
      (pss_cons (ps_set (i := 3) sc_counts.nd rfl (Or.inl rfl) (pe_call G_without hr (by rfl) T.m_without T.F_without.kp T.b_without .nil pass0 (pa_cons (pe_call G_counts hr (by rfl) T.m_counts T.F_counts.kp T.b_counts .nil pass0 (pa_cons (pe_ix (ixT K) (pv 0) (pe_op op_sub (pe_callB (lenS K) (by rfl) T.z_len PySem.boot_len (pa_cons (pv 0) pa_nil)) pe_int) (fun _ _ => rfl)) (pa_cons (pe_op op_add (pv 1) pe_int) pa_nil))) (pa_cons (pv 1) pa_nil))))
      (pss_cons (ps_if (pt_cmpR op_eq (pv 2) pe_str (nomark _)) (pss_one (ps_ret (pe_call G_added hr (by rfl) T.m_added T.F_added.kp T.b_added .nil pass0 (pa_cons (pe_call G_boxed_counts hr (by rfl) T.m_boxed_counts T.F_boxed_counts.kp T.b_boxed_counts .nil pass0 (pa_cons (pe_call G_counts hr (by rfl) T.m_counts T.F_counts.kp T.b_counts .nil pass0 (pa_cons (pe_ix (ixT K) (pv 0) pe_int (fun _ _ => rfl)) (pa_cons (pv 1) pa_nil))) (pa_cons (pe_ix (ixT K) (pv 0) pe_int (fun _ _ => rfl)) pa_nil))) (pa_cons (pv 3) pa_nil))))) pss_nil)
      (pss_cons (ps_set (i := 4) sc_counts.nd rfl (Or.inl rfl) (pe_disp (pps_cons (pe_ix (ixT K) (pv 0) pe_int (fun _ _ => rfl)) (pe_make T.k_Count G_Count__init hr (by rfl) T.c_Count T.b_Count__init .nil pass0 (pa_cons pe_int (pa_cons pe_int (pa_cons pe_int pa_nil)))) pps_nil) rfl rfl (by intro z; cases z) (by decide)))
      (pss_cons (ps_if (pt_cmpR op_eq (pv 2) pe_str (nomark _)) (pss_one (ps_set (i := 4) sc_counts.nd rfl (Or.inl rfl) (pe_call G_added hr (by rfl) T.m_added T.F_added.kp T.b_added .nil pass0 (pa_cons (pv 4) (pa_cons (pe_call G_boxed_counts hr (by rfl) T.m_boxed_counts T.F_boxed_counts.kp T.b_boxed_counts .nil pass0 (pa_cons (pe_call G_counts hr (by rfl) T.m_counts T.F_counts.kp T.b_counts .nil pass0 (pa_cons (pe_ix (ixT K) (pv 0) pe_int (fun _ _ => rfl)) (pa_cons (pv 1) pa_nil))) (pa_cons (pe_ix (ixT K) (pv 0) pe_int (fun _ _ => rfl)) pa_nil))) pa_nil))))) pss_nil)
      (pss_one (ps_ret (pe_call G_added hr (by rfl) T.m_added T.F_added.kp T.b_added .nil pass0 (pa_cons (pv 4) (pa_cons (pv 3) pa_nil))))))))))))))), ?_⟩
  cases t with
  | own r =>
    obtain ⟨a, rfl, ha⟩ := own_at hv
    refine ⟨_, rfl, a, _, 0, _, rfl, rfl, ha, rfl, _, rfl, rfl, _, rfl, iteT ?_⟩
    refine fun p np => ?_
    have s1 : Same H (upd H p (.dK [])) := Same.new np
    have hp : (upd H p (.dK [])) p = some (.dK []) := upd_same
    generalize upd H p (.dK []) = H1 at s1 hp ⊢
    refine ⟨_, rfl, a, _, 1, _, rfl, rfl, (kpT_same s1).tup ha, rfl, fun z dz nz ndz ne => make_ct1 (t := C3.one) rfl nz ndz ne fun H2 s2 h2 => ⟨rfl, s2 _ _ hp, [(r, .ref z)], rfl, by show 1 ≤ 15; decide, ?_⟩⟩
    exact q p _ (Same.put (s1.trans s2) np) np (gives1 (s2 _ _ hp) h2)
  | take b =>
    obtain ⟨a, y, rfl, ha, hb⟩ := take_at hv
    refine ⟨_, rfl, a, _, 0, _, rfl, rfl, ha, rfl, _, rfl, rfl, _, rfl, iteF ⟨_, rfl, rfl, _, rfl, iteF ⟨_, rfl, rfl, _, rfl, iteT ?_⟩⟩⟩
    have hsz : b.sz + 1 ≤ 20000 := hsz
    refine ⟨_, rfl, a, _, 1, _, rfl, rfl, ha, rfl, _, rfl, _, _, rfl, rfl, y, lv + 1, b, rfl, hb, hkn, by omega, by have : b.dp + 1 < d + 1 := hd; omega, fun a1 H1 s1 na1 h1 => ?_⟩
    refine ⟨_, rfl, a1, lvR lv, _, _, rfl, h1, by omega, fun p H2 s2 np2 h2 => ?_⟩
    exact q p H2 (s1.trans s2) (s1.free np2) (dcat_mono h2 (Nat.le_succ _))
  | offer b c =>
    obtain ⟨a, y, z, rfl, ha, hb, hc⟩ := offer_at hv
    refine ⟨_, rfl, a, _, 0, _, rfl, rfl, ha, rfl, _, rfl, rfl, _, rfl, iteF ⟨_, rfl, rfl, _, rfl, iteF ⟨_, rfl, rfl, _, rfl, iteF ⟨_, rfl, rfl, _, rfl, iteF ⟨_, rfl, rfl, _, rfl, iteT ?_⟩⟩⟩⟩⟩
    have hsz : b.sz + c.sz + 1 ≤ 20000 := hsz
    have hd : max b.dp c.dp + 1 < d + 1 := hd
    refine ⟨_, rfl, a, _, 1, _, rfl, rfl, ha, rfl, _, rfl, y, lv, b, rfl, hb, hkn.1, by omega, by omega, fun a1 H1 s1 na1 h1 => ?_⟩
    refine ⟨_, rfl, a, _, 2, _, rfl, rfl, (kpT_same s1).tup ha, rfl, _, rfl, z, lv, c, rfl, hc.s s1, hkn.2, by omega, by omega, fun a2 H2 s2 na2 h2 => ?_⟩
    obtain ⟨o1, e1⟩ := dcat_ref h1
    refine ⟨a1, a2, _, _, _, _, rfl, dcat_same h1 s2, h2, (fun z => by rw [← z, e1] at na2; cases na2), by omega, fun p H3 s3 np3 h3 => ?_⟩
    exact q p H3 ((s1.trans s2).trans s3) ((s1.trans s2).free np3) (dcat_mono h3 (Nat.le_succ _))
  | pick r sd b =>
    obtain ⟨a, y, rfl, ha, hb⟩ := pick_at hv
    refine ⟨_, rfl, a, _, 0, _, rfl, rfl, ha, rfl, _, rfl, rfl, _, rfl, iteF ⟨_, rfl, rfl, _, rfl, iteF ⟨_, rfl, rfl, _, rfl, iteF ⟨_, rfl, rfl, _, rfl, iteF ⟨_, rfl, rfl, _, rfl, iteF ?_⟩⟩⟩⟩⟩
    have hsz : b.sz + 1 ≤ 20000 := hsz
    refine ⟨_, rfl, _, rfl, a, _, rfl, .inr ha, _, _, rfl, rfl, a, _, _, _, rfl, rfl, ha, rfl, _, rfl, _, _, rfl, rfl, y, lv + 1, b, rfl, hb, hkn, by omega, by have : b.dp + 1 < d + 1 := hd; omega, fun a1 H1 s1 na1 h1 => ?_⟩
    refine ⟨_, rfl, a1, lvR lv, _, _, rfl, h1, by omega, fun a2 H2 s2 na2 h2 => ?_⟩
    refine ⟨_, rfl, rfl, _, rfl, iteF ?_⟩
    refine fun p np => ?_
    have s3 : Same H2 (upd H2 p (.dK [])) := Same.new np
    have hp : (upd H2 p (.dK [])) p = some (.dK []) := upd_same
    generalize upd H2 p (.dK []) = H3 at s3 hp ⊢
    have s13 := (s1.trans s2).trans s3
    refine ⟨_, rfl, a, _, 1, _, rfl, rfl, (kpT_same s13).tup ha, rfl, fun z dz nz ndz ne => make_ct1 (t := C3.one) rfl nz ndz ne fun H4 s4 h4 => ⟨rfl, s4 _ _ hp, [(r, .ref z)], rfl, by show 1 ≤ 15; decide, ?_⟩⟩
    have hg := gives1 (kv := r) (s4 _ _ hp) h4
    have s5 : Same H2 (upd H4 p (.dK [(r, .ref z)])) := Same.put (s3.trans s4) np
    refine ⟨_, rfl, rfl, _, rfl, iteF ?_⟩
    refine ⟨_, rfl, _, rfl, p, a2, _, _, _, _, rfl, hg, dcat_same h2 s5, by omega, fun p6 H6 s6 np6 h6 => ?_⟩
    have s26 := s5.trans s6
    exact q p6 H6 ((s1.trans s2).trans s26) (((s1.trans s2).trans s5).free np6) (dcat_mono h6 (by show 1 + b.sz ≤ b.sz + 1; omega))
  | pay r m b c =>
    obtain ⟨a, mv, y, z, rfl, ha, hm, hb, hc⟩ := pay_at hv
    refine ⟨_, rfl, a, _, 0, _, rfl, rfl, ha, rfl, _, rfl, rfl, _, rfl, iteF ⟨_, rfl, rfl, _, rfl, iteF ⟨_, rfl, rfl, _, rfl, iteF ⟨_, rfl, rfl, _, rfl, iteF ⟨_, rfl, rfl, _, rfl, iteF ?_⟩⟩⟩⟩⟩
    have hsz : b.sz + c.sz + 1 ≤ 20000 := hsz
    have hd : max b.dp c.dp + 1 < d + 1 := hd
    refine ⟨_, rfl, _, rfl, a, _, rfl, .inr ha, _, _, rfl, rfl, a, _, _, _, rfl, rfl, ha, rfl, _, rfl, _, _, rfl, rfl, z, lv + 1, c, rfl, hc, hkn.2.2, by omega, by omega, fun a1 H1 s1 na1 h1 => ?_⟩
    refine ⟨_, rfl, a1, lvR lv, _, _, rfl, h1, by omega, fun a2 H2 s2 na2 h2 => ?_⟩
    refine ⟨_, rfl, rfl, _, rfl, iteF ?_⟩
    refine fun p np => ?_
    have s3 : Same H2 (upd H2 p (.dK [])) := Same.new np
    have hp : (upd H2 p (.dK [])) p = some (.dK []) := upd_same
    generalize upd H2 p (.dK []) = H3 at s3 hp ⊢
    have s13 := (s1.trans s2).trans s3
    refine ⟨_, rfl, a, _, 1, _, rfl, rfl, (kpT_same s13).tup ha, rfl, fun zz dz nz ndz ne => make_ct1 (t := C3.one) rfl nz ndz ne fun H4 s4 h4 => ⟨rfl, s4 _ _ hp, [(r, .ref zz)], rfl, by show 1 ≤ 15; decide, ?_⟩⟩
    have hg := gives1 (kv := r) (s4 _ _ hp) h4
    have s5 : Same H2 (upd H4 p (.dK [(r, .ref zz)])) := Same.put (s3.trans s4) np
    rw [show mergeK [] [(r, V.ref zz)] = [(r, V.ref zz)] from rfl]
    generalize upd H4 p (.dK [(r, .ref zz)]) = H5 at hg s5 ⊢
    have s15 := (s1.trans s2).trans s5
    refine ⟨_, rfl, rfl, _, rfl, iteT ?_⟩
    refine ⟨_, rfl, _, rfl, a, _, 3, _, rfl, rfl, (kpT_same s15).tup ha, rfl, _, rfl, y, lv, b, rfl, hb.s s15, hkn.2.1, by omega, by omega, fun a6 H6 s6 na6 h6 => ?_⟩
    refine ⟨_, rfl, a, _, 2, _, rfl, rfl, (kpT_same (s15.trans s6)).tup ha, rfl, a6, mv, _, _, m, rfl, h6, hm.s (s15.trans s6), by omega, kn_small hkn.1, Dr.cn_lt hkn.2.1 (by omega), fun a7 H7 s7 na7 h7 => ?_⟩
    refine ⟨p, a7, _, _, _, _, rfl, dcat_same hg (s6.trans s7), h7, by omega, fun a8 H8 s8 na8 h8 => ?_⟩
    have s58 := (s6.trans s7).trans s8
    refine ⟨_, rfl, _, rfl, a8, a2, _, _, _, _, rfl, h8, dcat_same h2 (s5.trans s58), by omega, fun p9 H9 s9 np9 h9 => ?_⟩
    exact q p9 H9 ((s15.trans s58).trans s9) ((s15.trans s58).free np9) (dcat_mono h9 (by show 1 + b.sz + c.sz ≤ b.sz + c.sz + 1; omega))
  | cut m sn b c =>
    obtain ⟨a, mv, sv, y, z, rfl, ha, hm, hs, hb, hc⟩ := cut_at hv
    refine ⟨_, rfl, a, _, 0, _, rfl, rfl, ha, rfl, _, rfl, rfl, _, rfl, iteF ⟨_, rfl, rfl, _, rfl, iteF ⟨_, rfl, rfl, _, rfl, iteF ⟨_, rfl, rfl, _, rfl, iteF ⟨_, rfl, rfl, _, rfl, iteF ?_⟩⟩⟩⟩⟩
    have hsz : b.sz + c.sz + 1 ≤ 20000 := hsz
    have hd : max b.dp c.dp + 1 < d + 1 := hd
    refine ⟨_, rfl, _, rfl, a, _, rfl, .inr ha, _, _, rfl, rfl, a, _, _, _, rfl, rfl, ha, rfl, _, rfl, _, _, rfl, rfl, z, lv + 1, c, rfl, hc, hkn.2.2, by omega, by omega, fun a1 H1 s1 na1 h1 => ?_⟩
    refine ⟨_, rfl, a1, lvR lv, _, _, rfl, h1, by omega, fun a2 H2 s2 na2 h2 => ?_⟩
    have s12 := s1.trans s2
    refine ⟨_, rfl, rfl, _, rfl, iteT ?_⟩
    refine ⟨_, rfl, a, _, 3, _, rfl, rfl, (kpT_same s12).tup ha, rfl, _, rfl, y, lv, b, rfl, hb.s s12, hkn.2.1, by omega, by omega, fun a6 H6 s6 na6 h6 => ?_⟩
    refine ⟨_, rfl, a, _, 1, _, rfl, rfl, (kpT_same (s12.trans s6)).tup ha, rfl, a6, mv, _, _, m, rfl, h6, hm.s (s12.trans s6), by omega, kn_small hkn.1, Dr.cn_lt hkn.2.1 (by omega), fun a7 H7 s7 na7 h7 => ?_⟩
    refine ⟨_, rfl, a7, a2, _, _, _, _, rfl, h7, dcat_same h2 (s6.trans s7), by omega, fun p9 H9 s9 np9 h9 => ?_⟩
    have s29 := (s6.trans s7).trans s9
    exact q p9 H9 (s12.trans s29) ((s12.trans (s6.trans s7)).free np9) (dcat_mono h9 (by show b.sz + c.sz ≤ b.sz + c.sz + 1; omega))
/-- the count of one reference -/
def spCountOf (K : PySem.W.Frag) (C : Addr) (d : Nat) : Sp := fun vs H Q _ => ∃ (v : V) (lv : Nat) (r : Key) (t : Dr), vs = [v, iv lv, kV r] ∧ Tp K H v t.dat ∧ t.Kn ∧ t.sz ≤ 20000 ∧ t.dp < d ∧ Gives C H Q ((t.cn lv r).getD C3.zero)
theorem ok_count_of {k d : Nat} (T : Tx K mg w) (G_Count__init : FnOk P w K mg base CX0 k T.a_Count__init T.d_Count__init ["self", "least", "most", "days"] (spCInit T.C_Count)) (G_counts : FnOk P w K mg base CX0 (k + 1) T.a_counts T.d_counts ["derivation", "level"] (spCounts K T.C_Count d)) :
    FnOk P w K mg base CX0 (k + 2) T.a_count_of T.d_count_of ["derivation", "level", "ref"] (spCountOf K T.C_Count d) := by
  refine T.F_count_of.ok sc_count_of (fun vs H Q E h => ?_) (fun cdv A outer s H vs Q E hr h => ?_)
  · obtain ⟨_, _, _, _, rfl, _⟩ := h
    rfl
  obtain ⟨v, lv, r, t, rfl, hv, hkn, hsz, hd, q⟩ := h
  have hu := hu_of hr
  refine ⟨_, (pss_one (ps_ret (pe_dget2 hu (pe_call G_counts hr (by rfl) T.m_counts T.F_counts.kp T.b_counts .nil pass0 (pa_cons (pv 0) (pa_cons (pv 1) pa_nil))) (pv 2) (pe_make T.k_Count G_Count__init hr (by rfl) T.c_Count T.b_Count__init .nil pass0 (pa_cons pe_int (pa_cons pe_int (pa_cons pe_int pa_nil)))) ⟨rfl, rfl, rfl, rfl⟩))), ?_⟩
  refine ⟨_, rfl, _, rfl, v, lv, t, rfl, hv, hkn, hsz, hd, fun a H1 s1 na ⟨ks, ha, dk, _⟩ => ?_⟩
  refine ⟨a, rfl, .inl ⟨_, .inl ha⟩, _, rfl, fun z dz nz ndz ne => make_ct1 (t := C3.zero) rfl nz ndz ne fun H2 s2 h2 => ⟨rfl, ?_⟩⟩
  rcases dk.get r with ⟨v1, t1, e1, e2, r1⟩ | ⟨e1, e2⟩
  · refine ⟨_, dget_k (s2 _ _ ha) e1, ?_⟩
    refine q H2 v1 (s1.trans s2) ?_
    rw [e2]
    exact r1.same s2
  · refine ⟨_, dget_k (s2 _ _ ha) e1, ?_⟩
    refine q H2 _ (s1.trans s2) ?_
    rw [e2]
    exact h2
end
end W81
namespace W81
open PySem PySem.Spec PyProof.Rows L2 HX
/-! ### rows -/
def Dr.brs : Dr → List Bool
  | .own _ => []
  | .take _ => [true]
  | .offer _ _ => [false, false]
  | .pick _ _ _ => [true]
  | .pay _ _ _ _ => [false, true]
  | .cut _ _ _ _ => [false, true]
/-- with other premises -/
def Dr.wk : Dr → List Dr → Dr
  | .take _, [x] => .take x
  | .offer _ _, [x, y] => .offer x y
  | .pick r s _, [x] => .pick r s x
  | .pay r m _ _, [x, y] => .pay r m x y
  | .cut m s _ _, [x, y] => .cut m s x y
  | t, _ => t
def Dr.ref : Dr → Option Key
  | .own r => some r
  | .pick r _ _ => some r
  | .pay r _ _ _ => some r
  | _ => none
def refV : Option Key → V
  | some r => kV r
  | none => .non
section
variable {P : Program} {w : World} {K : PySem.W.Frag} {mg : Str → Option Value} {base : Heap}
theorem nz {xs : List V} {n : Nat} {c : Int} (hn : xs.length = n) (h : ¬ HT.sIx n 0 (some ((n : Int) - c)) = 0) : ¬ HT.sIx xs.length 0 (some ((xs.length : Int) - c)) = 0 := by
  rw [hn]
  exact h
def spPremises (K : PySem.W.Frag) : Sp := fun vs H Q _ => ∃ (v : V) (t : Dr), vs = [v] ∧ Tp K H v t.dat ∧ ∀ H' p ys, Same H H' → H p = none → H' p = some (.lst ys) → TpAll K H' ys (t.kids.map Dr.dat) → Q (.ref p) H'
theorem ok_premises {k : Nat} (T : Tx K mg w) : FnOk P w K mg base CX0 (k + 1) T.a_premises T.d_premises ["derivation"] (spPremises K) := by
  refine T.F_premises.ok sc_premises (fun vs H Q E h => ?_) (fun cdv A outer s H vs Q E hr h => ?_)
  · obtain ⟨_, _, rfl, _⟩ := h
    rfl
  obtain ⟨v, t, rfl, hv, q⟩ := h
  refine ⟨_, (pss_cons (ps_set (i := 1) sc_premises.nd rfl (Or.inl rfl) (pe_ix ix_kdict (pe_glob (v := .ref T.a_PREMISES) (by rfl) T.m_PREMISES rfl) (pe_ix (ixT K) (pv 0) pe_int (fun _ _ => rfl)) (fun _ _ => rfl)))
      (pss_one (ps_ret (pe_callTy (listS K) (by rfl) T.z_list (by decide +kernel) (pa_cons (pe_slice (slT K) (pv 0) (po_some (pe_op op_sub (pe_callB (lenS K) (by rfl) T.z_len PySem.boot_len (pa_cons (pv 0) pa_nil)) (pv 1))) po_none) pa_nil))))), ?_⟩
  cases t with
  | own r =>
    obtain ⟨a, rfl, ha⟩ := own_at hv
    refine ⟨_, rfl, a, _, 0, _, rfl, rfl, ha, rfl, _, _, _, rfl, rfl, T.pr_own, ?_⟩
    refine ⟨_, rfl, _, rfl, a, _, rfl, .inr ha, _, rfl, _, _, rfl, rfl, _, rfl, a, _, rfl, ha, (fun z => nz (n := 2) (c := 0) rfl (by decide) z.1), fun p np => ?_⟩
    refine ⟨p, _, rfl, .inr (.inl (.inl upd_same)), fun l nl => ?_⟩
    exact q _ l _ ((Same.new np).trans (Same.new nl)) ((Same.new np).free nl) upd_same .nil
  | take b =>
    obtain ⟨a, y, rfl, ha, hb⟩ := take_at hv
    refine ⟨_, rfl, a, _, 0, _, rfl, rfl, ha, rfl, _, _, _, rfl, rfl, T.pr_take, ?_⟩
    refine ⟨_, rfl, _, rfl, a, _, rfl, .inr ha, _, rfl, _, _, rfl, rfl, _, rfl, a, _, rfl, ha, (fun z => nz (n := 2) (c := 1) rfl (by decide) z.1), fun p np => ?_⟩
    refine ⟨p, _, rfl, .inr (.inl (.inl upd_same)), fun l nl => ?_⟩
    have sm : Same H _ := (Same.new (o := .tup [y]) np).trans (Same.new (o := .lst [y]) nl)
    exact q _ l _ sm ((Same.new np).free nl) upd_same (.cons (hb.s sm) .nil)
  | pick r sd b =>
    obtain ⟨a, y, rfl, ha, hb⟩ := pick_at hv
    refine ⟨_, rfl, a, _, 0, _, rfl, rfl, ha, rfl, _, _, _, rfl, rfl, T.pr_pick, ?_⟩
    refine ⟨_, rfl, _, rfl, a, _, rfl, .inr ha, _, rfl, _, _, rfl, rfl, _, rfl, a, _, rfl, ha, (fun z => nz (n := 4) (c := 1) rfl (by decide) z.1), fun p np => ?_⟩
    refine ⟨p, _, rfl, .inr (.inl (.inl upd_same)), fun l nl => ?_⟩
    have sm : Same H _ := (Same.new (o := .tup [y]) np).trans (Same.new (o := .lst [y]) nl)
    exact q _ l _ sm ((Same.new np).free nl) upd_same (.cons (hb.s sm) .nil)
  | offer b c =>
    obtain ⟨a, y, z, rfl, ha, hb, hc⟩ := offer_at hv
    refine ⟨_, rfl, a, _, 0, _, rfl, rfl, ha, rfl, _, _, _, rfl, rfl, T.pr_offer, ?_⟩
    refine ⟨_, rfl, _, rfl, a, _, rfl, .inr ha, _, rfl, _, _, rfl, rfl, _, rfl, a, _, rfl, ha, (fun z => nz (n := 3) (c := 2) rfl (by decide) z.1), fun p np => ?_⟩
    refine ⟨p, _, rfl, .inr (.inl (.inl upd_same)), fun l nl => ?_⟩
    have sm : Same H _ := (Same.new (o := .tup [y, z]) np).trans (Same.new (o := .lst [y, z]) nl)
    exact q _ l _ sm ((Same.new np).free nl) upd_same (.cons (hb.s sm) (.cons (hc.s sm) .nil))
  | pay r m b c =>
    obtain ⟨a, mv, y, z, rfl, ha, hm, hb, hc⟩ := pay_at hv
    refine ⟨_, rfl, a, _, 0, _, rfl, rfl, ha, rfl, _, _, _, rfl, rfl, T.pr_pay, ?_⟩
    refine ⟨_, rfl, _, rfl, a, _, rfl, .inr ha, _, rfl, _, _, rfl, rfl, _, rfl, a, _, rfl, ha, (fun z => nz (n := 5) (c := 2) rfl (by decide) z.1), fun p np => ?_⟩
    refine ⟨p, _, rfl, .inr (.inl (.inl upd_same)), fun l nl => ?_⟩
    have sm : Same H _ := (Same.new (o := .tup [y, z]) np).trans (Same.new (o := .lst [y, z]) nl)
    exact q _ l _ sm ((Same.new np).free nl) upd_same (.cons (hb.s sm) (.cons (hc.s sm) .nil))
  | cut m sn b c =>
    obtain ⟨a, mv, sv, y, z, rfl, ha, hm, hs, hb, hc⟩ := cut_at hv
    refine ⟨_, rfl, a, _, 0, _, rfl, rfl, ha, rfl, _, _, _, rfl, rfl, T.pr_cut, ?_⟩
    refine ⟨_, rfl, _, rfl, a, _, rfl, .inr ha, _, rfl, _, _, rfl, rfl, _, rfl, a, _, rfl, ha, (fun z => nz (n := 5) (c := 2) rfl (by decide) z.1), fun p np => ?_⟩
    refine ⟨p, _, rfl, .inr (.inl (.inl upd_same)), fun l nl => ?_⟩
    have sm : Same H _ := (Same.new (o := .tup [y, z]) np).trans (Same.new (o := .lst [y, z]) nl)
    exact q _ l _ sm ((Same.new np).free nl) upd_same (.cons (hb.s sm) (.cons (hc.s sm) .nil))
def spBrings (K : PySem.W.Frag) : Sp := fun vs H Q _ => ∃ (v : V) (t : Dr), vs = [v] ∧ Tp K H v t.dat ∧ ∀ b, (∀ H', SqT K H' b (t.brs.map V.bl)) → Q (.ref b) H
theorem ok_brings {k : Nat} (T : Tx K mg w) : FnOk P w K mg base CX0 (k + 1) T.a_brings T.d_brings ["derivation"] (spBrings K) := by
  refine T.F_brings.ok sc_brings (fun vs H Q E h => ?_) (fun cdv A outer s H vs Q E hr h => ?_)
  · obtain ⟨_, _, rfl, _⟩ := h
    rfl
  obtain ⟨v, t, rfl, hv, q⟩ := h
  refine ⟨_, (pss_one (ps_ret (pe_ix ix_kdict (pe_glob (v := .ref T.a_BRINGS) (by rfl) T.m_BRINGS rfl) (pe_ix (ixT K) (pv 0) pe_int (fun _ _ => rfl)) (fun _ _ => rfl)))), ?_⟩
  cases t with
  | own r =>
    obtain ⟨a, rfl, ha⟩ := own_at hv
    exact ⟨_, rfl, a, _, 0, _, rfl, rfl, ha, rfl, _, _, _, rfl, rfl, T.br_own, q _ T.bt_own⟩
  | take b =>
    obtain ⟨a, y, rfl, ha, hb⟩ := take_at hv
    exact ⟨_, rfl, a, _, 0, _, rfl, rfl, ha, rfl, _, _, _, rfl, rfl, T.br_take, q _ T.bt_take⟩
  | pick r sd b =>
    obtain ⟨a, y, rfl, ha, hb⟩ := pick_at hv
    exact ⟨_, rfl, a, _, 0, _, rfl, rfl, ha, rfl, _, _, _, rfl, rfl, T.br_pick, q _ T.bt_pick⟩
  | offer b c =>
    obtain ⟨a, y, z, rfl, ha, hb, hc⟩ := offer_at hv
    exact ⟨_, rfl, a, _, 0, _, rfl, rfl, ha, rfl, _, _, _, rfl, rfl, T.br_offer, q _ T.bt_offer⟩
  | pay r m b c =>
    obtain ⟨a, mv, y, z, rfl, ha, hm, hb, hc⟩ := pay_at hv
    exact ⟨_, rfl, a, _, 0, _, rfl, rfl, ha, rfl, _, _, _, rfl, rfl, T.br_pay, q _ T.bt_pay⟩
  | cut m sn b c =>
    obtain ⟨a, mv, sv, y, z, rfl, ha, hm, hs, hb, hc⟩ := cut_at hv
    exact ⟨_, rfl, a, _, 0, _, rfl, rfl, ha, rfl, _, _, _, rfl, rfl, T.br_cut, q _ T.bt_cut⟩
def spRebuilt (K : PySem.W.Frag) : Sp := fun vs H Q _ => ∃ (v : V) (p : Addr) (t : Dr) (ys : List V) (ks : List Dr), vs = [v, .ref p] ∧ Tp K H v t.dat ∧ H p = some (.lst ys) ∧ TpAll K H ys (ks.map Dr.dat) ∧ ks.length = t.kids.length ∧ ∀ u H', Same H H' → Tp K H' u (t.wk ks).dat → Q u H'
theorem ks0 {ks : List Dr} (h : ks.length = 0) : ks = [] := List.length_eq_zero_iff.mp h
theorem ks1 {ks : List Dr} (h : ks.length = 1) : ∃ x, ks = [x] := by
  match ks, h with
  | [x], _ => exact ⟨x, rfl⟩
theorem ks2 {ks : List Dr} (h : ks.length = 2) : ∃ x y, ks = [x, y] := by
  match ks, h with
  | [x, y], _ => exact ⟨x, y, rfl⟩
theorem ok_rebuilt {k : Nat} (T : Tx K mg w) : FnOk P w K mg base CX0 (k + 1) T.a_rebuilt T.d_rebuilt ["derivation", "parts"] (spRebuilt K) := by
  refine T.F_rebuilt.ok sc_rebuilt (fun vs H Q E h => ?_) (fun cdv A outer s H vs Q E hr h => ?_)
  · obtain ⟨_, _, _, _, _, rfl, _⟩ := h
    rfl
  obtain ⟨v, p, t, ys, ks, rfl, hv, hp, hys, hlen, q⟩ := h
  refine ⟨_, (pss_cons (ps_set (i := 2) sc_rebuilt.nd rfl (Or.inl rfl) (pe_ix ix_kdict (pe_glob (v := .ref T.a_PREMISES) (by rfl) T.m_PREMISES rfl) (pe_ix (ixT K) (pv 0) pe_int (fun _ _ => rfl)) (fun _ _ => rfl)))
      (pss_one (ps_ret (pe_op (catA K) (pe_slice (slA K) (pv 0) po_none (po_some (pe_op op_sub (pe_callB (lenS K) (by rfl) T.z_len PySem.boot_len (pa_cons (pv 0) pa_nil)) (pv 2)))) (pe_callTy (tupleS K) (by rfl) T.z_tuple (by decide +kernel) (pa_cons (pv 1) pa_nil)))))), ?_⟩
  cases t with
  | own r =>
    obtain rfl := ks0 hlen
    obtain rfl := hys.nil_
    have hv0 := hv
    obtain ⟨a, rfl, ha⟩ := own_at hv
    refine ⟨_, rfl, a, _, 0, _, rfl, rfl, ha, rfl, _, _, _, rfl, rfl, T.pr_own, ?_⟩
    refine ⟨_, rfl, _, rfl, a, _, rfl, .inr ha, _, rfl, _, _, rfl, rfl, _, rfl, a, _, rfl, ha, fun _ => ?_, fun n => absurd ⟨rfl, rfl⟩ n⟩
    refine ⟨_, rfl, p, [], rfl, .inl ⟨at_l hp, fun l nl => ?_⟩⟩
    have s1 : Same H (upd H l (.tup [])) := Same.new nl
    exact ⟨a, l, _, [], rfl, rfl, (kpT_same s1).tup ha, at_t upd_same, by show 2 + 0 ≤ sizeLine; decide, fun z => (by cases z), fun _ _ => q _ _ s1 (hv0.s s1), fun _ z => absurd rfl z⟩
  | take b =>
    obtain ⟨x, rfl⟩ := ks1 hlen
    obtain ⟨y1, rfl, h1⟩ := tp1 hys
    obtain ⟨a, y, rfl, ha, hb⟩ := take_at hv
    refine ⟨_, rfl, a, _, 0, _, rfl, rfl, ha, rfl, _, _, _, rfl, rfl, T.pr_take, ?_⟩
    refine ⟨_, rfl, _, rfl, a, _, rfl, .inr ha, _, rfl, _, _, rfl, rfl, _, rfl, a, _, rfl, ha, fun n => absurd n (by show ¬ (HT.sIx 2 0 none = 0 ∧ HT.sIx 2 2 (some (2 - 1)) = 2); decide), fun _ b1 nb1 => ?_⟩
    have s1 : Same H (upd H b1 (.tup [.str "take"])) := Same.new nb1
    have hb1 : (upd H b1 (.tup [.str "take"])) b1 = some (.tup [.str "take"]) := upd_same
    rw [show cutV [V.str "take", y] none (some (([V.str "take", y].length : Int) - 1)) = [V.str "take"] from rfl]
    generalize upd H b1 (.tup [.str "take"]) = H1 at s1 hb1 ⊢
    refine ⟨_, rfl, p, [y1], rfl, .inl ⟨at_l (s1 _ _ hp), fun l nl => ?_⟩⟩
    have s2 : Same H1 (upd H1 l (.tup [y1])) := Same.new nl
    refine ⟨b1, l, _, [y1], rfl, rfl, at_t (s2 _ _ hb1), at_t upd_same, by show 1 + 1 ≤ sizeLine; decide, fun z => (by cases z), fun _ z => (by cases z), fun _ _ c nc => ?_⟩
    have s3 := (s1.trans s2).trans (Same.new (o := .tup [.str "take", y1]) nc)
    exact q _ _ s3 (.mk upd_same (.cons (.str _) (.cons (h1.s s3) .nil)))
  | pick r sd b =>
    obtain ⟨x, rfl⟩ := ks1 hlen
    obtain ⟨y1, rfl, h1⟩ := tp1 hys
    obtain ⟨a, y, rfl, ha, hb⟩ := pick_at hv
    refine ⟨_, rfl, a, _, 0, _, rfl, rfl, ha, rfl, _, _, _, rfl, rfl, T.pr_pick, ?_⟩
    refine ⟨_, rfl, _, rfl, a, _, rfl, .inr ha, _, rfl, _, _, rfl, rfl, _, rfl, a, _, rfl, ha, fun n => absurd n (by show ¬ (HT.sIx 4 0 none = 0 ∧ HT.sIx 4 4 (some (4 - 1)) = 4); decide), fun _ b1 nb1 => ?_⟩
    have s1 : Same H (upd H b1 (.tup [.str "pick", kV r, .str sd.str])) := Same.new nb1
    have hb1 : (upd H b1 (.tup [.str "pick", kV r, .str sd.str])) b1 = some (.tup [.str "pick", kV r, .str sd.str]) := upd_same
    rw [show cutV [V.str "pick", kV r, .str sd.str, y] none (some (([V.str "pick", kV r, .str sd.str, y].length : Int) - 1)) = [V.str "pick", kV r, .str sd.str] from rfl]
    generalize upd H b1 (.tup [.str "pick", kV r, .str sd.str]) = H1 at s1 hb1 ⊢
    refine ⟨_, rfl, p, [y1], rfl, .inl ⟨at_l (s1 _ _ hp), fun l nl => ?_⟩⟩
    have s2 : Same H1 (upd H1 l (.tup [y1])) := Same.new nl
    refine ⟨b1, l, _, [y1], rfl, rfl, at_t (s2 _ _ hb1), at_t upd_same, by show 3 + 1 ≤ sizeLine; decide, fun z => (by cases z), fun _ z => (by cases z), fun _ _ c nc => ?_⟩
    have s3 := (s1.trans s2).trans (Same.new (o := .tup [.str "pick", kV r, .str sd.str, y1]) nc)
    exact q _ _ s3 (.mk upd_same (.cons (.str _) (.cons (rf_tp r) (.cons (.str _) (.cons (h1.s s3) .nil)))))
  | offer b c =>
    obtain ⟨x1, x2, rfl⟩ := ks2 hlen
    obtain ⟨y1, y2, rfl, h1, h2⟩ := tp2 hys
    obtain ⟨a, y, z, rfl, ha, hb, hc⟩ := offer_at hv
    refine ⟨_, rfl, a, _, 0, _, rfl, rfl, ha, rfl, _, _, _, rfl, rfl, T.pr_offer, ?_⟩
    refine ⟨_, rfl, _, rfl, a, _, rfl, .inr ha, _, rfl, _, _, rfl, rfl, _, rfl, a, _, rfl, ha, fun n => absurd n (by show ¬ (HT.sIx 3 0 none = 0 ∧ HT.sIx 3 3 (some (3 - 2)) = 3); decide), fun _ b1 nb1 => ?_⟩
    have s1 : Same H (upd H b1 (.tup [.str "offer"])) := Same.new nb1
    have hb1 : (upd H b1 (.tup [.str "offer"])) b1 = some (.tup [.str "offer"]) := upd_same
    rw [show cutV [V.str "offer", y, z] none (some (([V.str "offer", y, z].length : Int) - 2)) = [V.str "offer"] from rfl]
    generalize upd H b1 (.tup [.str "offer"]) = H1 at s1 hb1 ⊢
    refine ⟨_, rfl, p, [y1, y2], rfl, .inl ⟨at_l (s1 _ _ hp), fun l nl => ?_⟩⟩
    have s2 : Same H1 (upd H1 l (.tup [y1, y2])) := Same.new nl
    refine ⟨b1, l, _, [y1, y2], rfl, rfl, at_t (s2 _ _ hb1), at_t upd_same, by show 1 + 2 ≤ sizeLine; decide, fun z => (by cases z), fun _ z => (by cases z), fun _ _ c nc => ?_⟩
    have s3 := (s1.trans s2).trans (Same.new (o := .tup [.str "offer", y1, y2]) nc)
    exact q _ _ s3 (.mk upd_same (.cons (.str _) (.cons (h1.s s3) (.cons (h2.s s3) .nil))))
  | pay r m b c =>
    obtain ⟨x1, x2, rfl⟩ := ks2 hlen
    obtain ⟨y1, y2, rfl, h1, h2⟩ := tp2 hys
    obtain ⟨a, mv, y, z, rfl, ha, hm, hb, hc⟩ := pay_at hv
    refine ⟨_, rfl, a, _, 0, _, rfl, rfl, ha, rfl, _, _, _, rfl, rfl, T.pr_pay, ?_⟩
    refine ⟨_, rfl, _, rfl, a, _, rfl, .inr ha, _, rfl, _, _, rfl, rfl, _, rfl, a, _, rfl, ha, fun n => absurd n (by show ¬ (HT.sIx 5 0 none = 0 ∧ HT.sIx 5 5 (some (5 - 2)) = 5); decide), fun _ b1 nb1 => ?_⟩
    have s1 : Same H (upd H b1 (.tup [.str "pay", kV r, mv])) := Same.new nb1
    have hb1 : (upd H b1 (.tup [.str "pay", kV r, mv])) b1 = some (.tup [.str "pay", kV r, mv]) := upd_same
    rw [show cutV [V.str "pay", kV r, mv, y, z] none (some (([V.str "pay", kV r, mv, y, z].length : Int) - 2)) = [V.str "pay", kV r, mv] from rfl]
    generalize upd H b1 (.tup [.str "pay", kV r, mv]) = H1 at s1 hb1 ⊢
    refine ⟨_, rfl, p, [y1, y2], rfl, .inl ⟨at_l (s1 _ _ hp), fun l nl => ?_⟩⟩
    have s2 : Same H1 (upd H1 l (.tup [y1, y2])) := Same.new nl
    refine ⟨b1, l, _, [y1, y2], rfl, rfl, at_t (s2 _ _ hb1), at_t upd_same, by show 3 + 2 ≤ sizeLine; decide, fun z => (by cases z), fun _ z => (by cases z), fun _ _ c nc => ?_⟩
    have s3 := (s1.trans s2).trans (Same.new (o := .tup [.str "pay", kV r, mv, y1, y2]) nc)
    exact q _ _ s3 (.mk upd_same (.cons (.str _) (.cons (rf_tp r) (.cons (hm.s s3) (.cons (h1.s s3) (.cons (h2.s s3) .nil))))))
  | cut m sn b c =>
    obtain ⟨x1, x2, rfl⟩ := ks2 hlen
    obtain ⟨y1, y2, rfl, h1, h2⟩ := tp2 hys
    obtain ⟨a, mv, sv, y, z, rfl, ha, hm, hs, hb, hc⟩ := cut_at hv
    refine ⟨_, rfl, a, _, 0, _, rfl, rfl, ha, rfl, _, _, _, rfl, rfl, T.pr_cut, ?_⟩
    refine ⟨_, rfl, _, rfl, a, _, rfl, .inr ha, _, rfl, _, _, rfl, rfl, _, rfl, a, _, rfl, ha, fun n => absurd n (by show ¬ (HT.sIx 5 0 none = 0 ∧ HT.sIx 5 5 (some (5 - 2)) = 5); decide), fun _ b1 nb1 => ?_⟩
    have s1 : Same H (upd H b1 (.tup [.str "cut", mv, sv])) := Same.new nb1
    have hb1 : (upd H b1 (.tup [.str "cut", mv, sv])) b1 = some (.tup [.str "cut", mv, sv]) := upd_same
    rw [show cutV [V.str "cut", mv, sv, y, z] none (some (([V.str "cut", mv, sv, y, z].length : Int) - 2)) = [V.str "cut", mv, sv] from rfl]
    generalize upd H b1 (.tup [.str "cut", mv, sv]) = H1 at s1 hb1 ⊢
    refine ⟨_, rfl, p, [y1, y2], rfl, .inl ⟨at_l (s1 _ _ hp), fun l nl => ?_⟩⟩
    have s2 : Same H1 (upd H1 l (.tup [y1, y2])) := Same.new nl
    refine ⟨b1, l, _, [y1, y2], rfl, rfl, at_t (s2 _ _ hb1), at_t upd_same, by show 3 + 2 ≤ sizeLine; decide, fun z => (by cases z), fun _ z => (by cases z), fun _ _ c nc => ?_⟩
    have s3 := (s1.trans s2).trans (Same.new (o := .tup [.str "cut", mv, sv, y1, y2]) nc)
    exact q _ _ s3 (.mk upd_same (.cons (.str _) (.cons (hm.s s3) (.cons (hs.s s3) (.cons (h1.s s3) (.cons (h2.s s3) .nil))))))
def spRefers (K : PySem.W.Frag) : Sp := fun vs H Q _ => ∃ (v : V) (t : Dr), vs = [v] ∧ Tp K H v t.dat ∧ ∀ H', Same H H' → Q (refV t.ref) H'
theorem ok_refers_to {k : Nat} (T : Tx K mg w) : FnOk P w K mg base CX0 (k + 1) T.a_refers_to T.d_refers_to ["derivation"] (spRefers K) := by
  refine T.F_refers_to.ok sc_refers_to (fun vs H Q E h => ?_) (fun cdv A outer s H vs Q E hr h => ?_)
  · obtain ⟨_, _, rfl, _⟩ := h
    rfl
  obtain ⟨v, t, rfl, hv, q⟩ := h
  refine ⟨_, (pss_cons (ps_if (pt_cmpR (inS K) (pe_ix (ixT K) (pv 0) pe_int (fun _ _ => rfl)) (pe_tup (pa_cons pe_str (pa_cons pe_str (pa_cons pe_str (pa_cons pe_str pa_nil))))) (by rfl)) (pss_one (ps_ret (pe_ix (ixT K) (pv 0) pe_int (fun _ _ => rfl)))) pss_nil)
      (pss_one (ps_ret pe_non))), ?_⟩
  cases t with
  | own r =>
    obtain ⟨a, rfl, ha⟩ := own_at hv
    refine ⟨_, rfl, a, _, 0, _, rfl, rfl, ha, rfl, (by show 4 ≤ sizeLine; decide), fun e ne => ⟨e, _, rfl, .inr (at_t upd_same), rfl, by decide, _, rfl, iteT ?_⟩⟩
    exact ⟨_, rfl, a, _, 1, _, rfl, rfl, (kpT_same (Same.new ne)).tup ha, rfl, q _ (Same.new ne)⟩
  | take b =>
    obtain ⟨a, y, rfl, ha, hb⟩ := take_at hv
    exact ⟨_, rfl, a, _, 0, _, rfl, rfl, ha, rfl, (by show 4 ≤ sizeLine; decide), fun e ne => ⟨e, _, rfl, .inr (at_t upd_same), rfl, by decide, _, rfl, iteF (q _ (Same.new ne))⟩⟩
  | pick r sd b =>
    obtain ⟨a, y, rfl, ha, hb⟩ := pick_at hv
    refine ⟨_, rfl, a, _, 0, _, rfl, rfl, ha, rfl, (by show 4 ≤ sizeLine; decide), fun e ne => ⟨e, _, rfl, .inr (at_t upd_same), rfl, by decide, _, rfl, iteT ?_⟩⟩
    exact ⟨_, rfl, a, _, 1, _, rfl, rfl, (kpT_same (Same.new ne)).tup ha, rfl, q _ (Same.new ne)⟩
  | offer b c =>
    obtain ⟨a, y, z, rfl, ha, hb, hc⟩ := offer_at hv
    exact ⟨_, rfl, a, _, 0, _, rfl, rfl, ha, rfl, (by show 4 ≤ sizeLine; decide), fun e ne => ⟨e, _, rfl, .inr (at_t upd_same), rfl, by decide, _, rfl, iteF (q _ (Same.new ne))⟩⟩
  | pay r m b c =>
    obtain ⟨a, mv, y, z, rfl, ha, hm, hb, hc⟩ := pay_at hv
    refine ⟨_, rfl, a, _, 0, _, rfl, rfl, ha, rfl, (by show 4 ≤ sizeLine; decide), fun e ne => ⟨e, _, rfl, .inr (at_t upd_same), rfl, by decide, _, rfl, iteT ?_⟩⟩
    exact ⟨_, rfl, a, _, 1, _, rfl, rfl, (kpT_same (Same.new ne)).tup ha, rfl, q _ (Same.new ne)⟩
  | cut m sn b c =>
    obtain ⟨a, mv, sv, y, z, rfl, ha, hm, hs, hb, hc⟩ := cut_at hv
    exact ⟨_, rfl, a, _, 0, _, rfl, rfl, ha, rfl, (by show 4 ≤ sizeLine; decide), fun e ne => ⟨e, _, rfl, .inr (at_t upd_same), rfl, by decide, _, rfl, iteF (q _ (Same.new ne))⟩⟩
end
end W81
namespace W81
open PySem PySem.Spec PyProof.Rows L2 HX
/-! ### scopes -/
abbrev Prr := Kd × Sn
def prD (h : Prr) : PyData := .tuple [h.1.dat, h.2.dat]
abbrev Sco := Key → Option Prr
def updF (G : Sco) (k : Key) (h : Prr) : Sco := fun j => if j = k then some h else G j
def scF (hs : List Hold) : Sco := hs.foldl (fun G h => updF G (nmR h.1) h.2) (fun _ => none)
theorem scF_snoc (hs : List Hold) (h : Hold) : scF (hs ++ [h]) = updF (scF hs) (nmR h.1) h.2 := by
  unfold scF
  rw [List.foldl_append]
  rfl
/-- the goals of the premises, and the new hold -/
def goalsF (G : Sco) (g : Sn) : Dr → List Sn
  | .own _ => []
  | .take _ => match g with
    | .trade _ _ b => [b]
    | _ => []
  | .offer _ _ => match g with
    | .menu a b => [a, b]
    | _ => []
  | .pick _ _ _ => [g]
  | .pay r _ _ _ => match G r with
    | some (_, .trade _ x _) => [x, g]
    | _ => []
  | .cut _ s _ _ => [s, g]
def newF (G : Sco) (g : Sn) : Dr → Option Prr
  | .own _ => none
  | .take _ => match g with
    | .trade m a _ => some (m, a)
    | _ => none
  | .offer _ _ => none
  | .pick r s _ => match G r with
    | some (_, .menu x y) => some (.once, match s with | .l => x | .r => y)
    | _ => none
  | .pay r _ _ _ => match G r with
    | some (_, .trade _ _ y) => some (.once, y)
    | _ => none
  | .cut m s _ _ => some (m, s)
/-- a row that fits -/
def RowOk (G : Sco) (g : Sn) : Dr → Prop
  | .own r => SeqAt.shaped g.dat = true ∧ ∃ m, G r = some (m, g)
  | .take _ => ∃ m a b, g = .trade m a b
  | .offer _ _ => ∃ a b, g = .menu a b
  | .pick r _ _ => ∃ m x y, G r = some (m, .menu x y)
  | .pay r k _ _ => ∃ m x y, G r = some (m, .trade k x y)
  | .cut _ _ _ _ => True
section
variable {P : Program} {w : World} {K : PySem.W.Frag} {mg : Str → Option Value} {base : Heap}
def PrAt (K : PySem.W.Frag) (H : Hp) (v : V) (h : Prr) : Prop := Tp K H v (prD h)
theorem pr_stay {K : PySem.W.Frag} {tot : Addr} : ∀ (H H' : Hp) (v : V) (t : Prr) (ks : List (Key × V)), H tot = some (.dK ks) → Kp (only1 tot) H H' → PrAt K H v t → PrAt K H' v t := fun H H' v t ks e k h => Tp.k h (kpt_dK k e)
abbrev ScAt (K : PySem.W.Frag) (H : Hp) (a : Addr) (G : Sco) (n : Nat) : Prop := DcAt (PrAt K) H a G n
theorem sc_same {a : Addr} {H H' : Hp} {G : Sco} {n : Nat} (h : ScAt K H a G n) (s : Same H H') : ScAt K H' a G n := let ⟨kvs, e, d, l⟩ := h; ⟨kvs, s _ _ e, d.of fun v t r => Tp.s r s, l⟩
theorem sc_get {a : Addr} {H : Hp} {G : Sco} {n : Nat} {r : Key} {h : Prr} (s : ScAt K H a G n) (e : G r = some h) : ∃ kvs v, H a = some (.dK kvs) ∧ valV kvs r = some v ∧ PrAt K H v h := by
  obtain ⟨kvs, ha, d, _⟩ := s
  rcases d.get r with ⟨v, t, e1, e2, r1⟩ | ⟨e1, e2⟩
  · rw [e] at e2
    cases e2
    exact ⟨kvs, v, ha, e1, r1⟩
  · rw [e] at e2
    cases e2
theorem pr_at {H : Hp} {v : V} {h : Prr} (p : PrAt K H v h) : ∃ a mv sv, v = .ref a ∧ SqT K H a [mv, sv] ∧ Tp K H mv h.1.dat ∧ Tp K H sv h.2.dat := by
  obtain ⟨a, xs, rfl, q, t⟩ := Tp.tup_ p
  obtain ⟨x, y, rfl, h1, h2⟩ := tp2 t
  exact ⟨a, x, y, rfl, q, h1, h2⟩
theorem hold_at {H : Hp} {v : V} {h : Hold} (p : Tp K H v (holdD h)) : ∃ a mv sv, v = .ref a ∧ SqT K H a [.str h.1, mv, sv] ∧ Tp K H mv h.2.1.dat ∧ Tp K H sv h.2.2.dat := by
  obtain ⟨a, xs, rfl, q, t⟩ := Tp.tup_ p
  obtain ⟨x, y, z, rfl, h1, h2, h3⟩ := tp3 t
  rw [h1.str_] at q
  exact ⟨a, y, z, rfl, q, h2, h3⟩
theorem clm_at {H : Hp} {v : V} {c : Clm} (p : Tp K H v (clmD c)) : ∃ a ha hs gv, v = .ref a ∧ SqT K H a [.ref ha, gv] ∧ SqT K H ha hs ∧ TpAll K H hs (c.1.map holdD) ∧ Tp K H gv c.2.dat := by
  obtain ⟨a, xs, rfl, q, t⟩ := Tp.tup_ p
  obtain ⟨x, y, rfl, h1, h2⟩ := tp2 t
  obtain ⟨b, hs, rfl, q2, t2⟩ := Tp.tup_ h1
  exact ⟨a, b, hs, y, rfl, q, q2, t2, h2⟩
def spScopeOf (K : PySem.W.Frag) : Sp := fun vs H Q _ => ∃ (v : V) (c : Clm), vs = [v] ∧ Tp K H v (clmD c) ∧ c.1.length ≤ 1000 ∧ ∀ p H', Same H H' → H p = none → ScAt K H' p (scF c.1) c.1.length → Q (.ref p) H'
theorem ok_scope_of {k : Nat} (T : Tx K mg w) : FnOk P w K mg base CX0 (k + 1) T.a_scope_of T.d_scope_of ["claim"] (spScopeOf K) := by
  refine T.F_scope_of.ok sc_scope_of (fun vs H Q E h => ?_) (fun cdv A outer s H vs Q E hr h => ?_)
  · obtain ⟨_, _, rfl, _⟩ := h
    rfl
  obtain ⟨v, c, rfl, hv, hl, q⟩ := h
  refine ⟨_, (pss_one (ps_ret (pe_dc (own := [("name", 1), ("kind", 2), ("sentence", 3)]) (by rfl) sc_scope_of.nd (piT K (pe_ix (ixT K) (pv 0) pe_int (fun _ _ => rfl))) (blkOk_by (own := [("name", 1), ("kind", 2), ("sentence", 3)]) (N := ["claim", "name", "kind", "sentence"]) (sc := defScope s_scope_of) (by decide +kernel)) (fun _ _ _ _ _ => (tupK (n := 3) K rfl (pgs_cons (pg_name (i := 1) sc_scope_of.nd rfl (Or.inl rfl)) (pgs_cons (pg_name (i := 2) sc_scope_of.nd rfl (Or.inl rfl)) (pgs_cons (pg_name (i := 3) sc_scope_of.nd rfl (Or.inl rfl)) pgs_nil))))) (fun _ _ _ _ _ => pts_nil) (fun _ _ _ _ _ => (pv 1)) (fun _ _ _ _ _ => (pe_tup (pa_cons (pv 2) (pa_cons (pv 3) pa_nil))))))), ?_⟩
  obtain ⟨a, ha, hs, gv, rfl, h1, h2, h3, _⟩ := clm_at hv
  refine ⟨_, rfl, a, _, 0, _, rfl, rfl, h1, rfl, ha, rfl, ⟨hs, h2⟩, fun D nD => ?_⟩
  have len := h3.len
  rw [List.length_map] at len
  refine dc_tup (K := K) (a := ha) (xs := hs) (fun i H' => Same H H' ∧ ∃ ts, H' D = some (.dK ts) ∧ DcK (PrAt K) H' ts (scF (c.1.take i)) ∧ ts.length ≤ i) ⟨Same.new nD, [], upd_same, DcK.nil, Nat.le_refl _⟩ (fun i H' _ h => (kpT_same h.1).tup h2) ?_ ?_
  · rintro i x H' hx ⟨s1, ts, hT, hc, hlt⟩
    have hi : i < hs.length := (List.getElem?_eq_some_iff.mp hx).1
    obtain ⟨d, hd, hxd⟩ := h3.getL hx
    rw [List.getElem?_map] at hd
    cases e : c.1[i]? with
    | none => rw [e] at hd; cases hd
    | some h =>
      rw [e] at hd
      cases hd
      obtain ⟨b, mv, sv, rfl, hb, hm, hsn⟩ := hold_at (hxd.s s1)
      refine ⟨b, _, rfl, hb, rfl, _, _, rfl, _, _, rfl, _, _, rfl, rfl, rfl, ?_⟩
      dsimp only [tYes]
      rw [if_pos rfl]
      refine ⟨_, rfl, _, rfl, _, rfl, (by show 2 ≤ sizeLine; decide), fun z nz => ?_⟩
      have sz := Same.new (o := .tup [mv, sv]) nz
      have hz : PrAt K (upd H' z (.tup [mv, sv])) (.ref z) h.2 := .mk upd_same (.cons (hm.s sz) (.cons (hsn.s sz) .nil))
      generalize upd H' z (.tup [mv, sv]) = H2 at sz hz ⊢
      have hT2 := sz _ _ hT
      refine ⟨ts, nmR h.1, rfl, hT2, sz2 (by omega), Same.put (s1.trans sz) nD, _, upd_same, ?_, ?_⟩
      · rw [List.take_add_one, e]
        show DcK _ _ _ (scF (c.1.take i ++ [h]))
        rw [scF_snoc]
        have hc2 := hc.of (H' := H2) fun v t r => Tp.s r sz
        exact ((hc2.put (k := nmR h.1) hz).of (H' := upd H2 D _) fun v t r => pr_stay _ _ _ _ _ hT2 (Kp.refl.put rfl) r)
      · have := length_putK ts (nmR h.1) (.ref z)
        omega
  · rintro H' ⟨s1, ts, hT, hc, hlt⟩
    rw [len, List.take_length] at hc
    exact q D H' s1 nD ⟨ts, hT, hc, by omega⟩
/-! ### rows that fit raise nothing -/
def spUse (K : PySem.W.Frag) : Sp := fun vs H Q _ => ∃ (lv sv gv v : V) (t : Dr) (s g : Sn), vs = [lv, sv, gv, v] ∧ Tp K H sv s.dat ∧ Tp K H gv g.dat ∧ Tp K H v t.dat ∧
  (match t with
    | .own _ => s = g ∧ SeqAt.shaped g.dat = true
    | .pick _ _ _ => ∃ x y, s = .menu x y
    | .pay _ m _ _ => ∃ x y, s = .trade m x y
    | _ => False) ∧ Q .non H
theorem eqv_self {d : PyData} (h : SeqAt.shaped d = true) : PyData.eqv d d = true := SeqAt.eqv_refl d (SeqAt.canLay_of_shaped h)
theorem ok_use_fault {k : Nat} (T : Tx K mg w) : FnOk P w K mg base CX0 (k + 1) T.a_use_fault T.d_use_fault ["library", "sentence", "goal", "row"] (spUse K) := by
  refine T.F_use_fault.ok sc_use_fault (fun vs H Q E h => ?_) (fun cdv A outer s H vs Q E hr h => ?_)
  · obtain ⟨_, _, _, _, _, _, _, rfl, _⟩ := h
    rfl
  obtain ⟨lv, sv, gv, v, t, sn, g, rfl, hs, hg, hv, ok, q⟩ := h
  refine ⟨_, (pss_cons (ps_set (i := 4) sc_use_fault.nd rfl (Or.inl rfl) (pe_ix (ixT K) (pv 3) pe_int (fun _ _ => rfl)))
      (pss_cons (ps_if (pt_cmpR op_eq (pv 4) pe_str (nomark _)) (pss_one (ps_if (pt_cmpR (neD K hr.units) (pv 1) (pv 2) (nomark _)) (pss_one ps_never) pss_nil)) (pss_one (ps_if (pt_cmpR op_eq (pv 4) pe_str (nomark _)) (pss_one (ps_if (pt_cmpR op_ne (pe_ix (ixT K) (pv 1) pe_int (fun _ _ => rfl)) pe_str (nomark _)) (pss_one ps_never) pss_nil)) (pss_one (ps_if (pt_cmpR op_eq (pv 4) pe_str (nomark _)) (pss_cons (ps_if (pt_cmpR op_ne (pe_ix (ixT K) (pv 1) pe_int (fun _ _ => rfl)) pe_str (nomark _)) (pss_one ps_never) pss_nil)
      (pss_one (ps_if (pt_cmpR (neD K hr.units) (pe_ix (ixT K) (pv 1) pe_int (fun _ _ => rfl)) (pe_ix (ixT K) (pv 3) pe_int (fun _ _ => rfl)) (nomark _)) (pss_one ps_never) pss_nil))) (pss_cons ps_never
      (pss_one ps_never)))))))
      (pss_one (ps_ret pe_non)))), ?_⟩
  cases t with
  | own r =>
    obtain ⟨rfl, hsh⟩ := ok
    obtain ⟨a, rfl, ha⟩ := own_at hv
    refine ⟨_, rfl, a, _, 0, _, rfl, rfl, ha, rfl, _, rfl, rfl, _, rfl, iteT ?_⟩
    refine ⟨_, rfl, _, rfl, _, _, hs.dq, hg.dq, hsh, hsh, _, rfl, ?_⟩
    rw [eqv_self hsh]
    exact iteF q
  | take b => exact ok.elim
  | offer b c => exact ok.elim
  | cut m s b c => exact ok.elim
  | pick r sd b =>
    obtain ⟨x, y, rfl⟩ := ok
    obtain ⟨a, z, rfl, ha, hb⟩ := pick_at hv
    obtain ⟨a2, y2, z2, rfl, h2, _, _⟩ := menu_at hs
    refine ⟨_, rfl, a, _, 0, _, rfl, rfl, ha, rfl, _, rfl, rfl, _, rfl, iteF ⟨_, rfl, rfl, _, rfl, iteT ?_⟩⟩
    exact ⟨_, rfl, a2, _, 0, _, rfl, rfl, h2, rfl, rfl, _, rfl, iteF q⟩
  | pay r m b c =>
    obtain ⟨x, y, rfl⟩ := ok
    obtain ⟨a, mv, y1, z1, rfl, ha, hm, hb, hc⟩ := pay_at hv
    obtain ⟨a2, mv2, y2, z2, rfl, h2, hm2, _, _⟩ := trade_at hs
    refine ⟨_, rfl, a, _, 0, _, rfl, rfl, ha, rfl, _, rfl, rfl, _, rfl, iteF ⟨_, rfl, rfl, _, rfl, iteF ⟨_, rfl, rfl, _, rfl, iteT ?_⟩⟩⟩
    refine ⟨_, rfl, a2, _, 0, _, rfl, rfl, h2, rfl, rfl, _, rfl, iteF ?_⟩
    refine ⟨_, rfl, a2, _, 1, _, rfl, rfl, h2, rfl, _, rfl, a, _, 2, _, rfl, rfl, ha, rfl, _, _, hm2.dq, hm.dq, kd_shaped m, kd_shaped m, _, rfl, ?_⟩
    rw [eqv_self (kd_shaped m)]
    exact iteF q
def spRow (K : PySem.W.Frag) : Sp := fun vs H Q _ => ∃ (lv gv v : V) (sc : Addr) (t : Dr) (g : Sn) (G : Sco) (n : Nat), vs = [lv, .ref sc, gv, v] ∧ ScAt K H sc G n ∧ Tp K H gv g.dat ∧ Tp K H v t.dat ∧ RowOk G g t ∧ ∀ H', Same H H' → Q .non H'
theorem ok_row_fault {k : Nat} (T : Tx K mg w) (G_use_fault : FnOk P w K mg base CX0 k T.a_use_fault T.d_use_fault ["library", "sentence", "goal", "row"] (spUse K)) :
    FnOk P w K mg base CX0 (k + 1) T.a_row_fault T.d_row_fault ["library", "scope", "goal", "row"] (spRow K) := by
  refine T.F_row_fault.ok sc_row_fault (fun vs H Q E h => ?_) (fun cdv A outer s H vs Q E hr h => ?_)
  · obtain ⟨_, _, _, _, _, _, _, _, rfl, _⟩ := h
    rfl
  obtain ⟨lv, gv, v, sc, t, g, G, n, rfl, hsc, hg, hv, ok, q⟩ := h
  have hu := hu_of hr
  refine ⟨_, (pss_cons (ps_set (i := 4) sc_row_fault.nd rfl (Or.inl rfl) (pe_ix (ixT K) (pv 3) pe_int (fun _ _ => rfl)))
      (pss_cons (ps_if (pt_cmpR (inS K) (pv 4) (pe_tup (pa_cons pe_str (pa_cons pe_str (pa_cons pe_str (pa_cons pe_str pa_nil))))) (by rfl)) (pss_cons (ps_if (pt_cmp (pc_dnotin hu (pe_ix (ixT K) (pv 3) pe_int (fun _ _ => rfl)) (pv 1))) (pss_one ps_never) pss_nil)
      (pss_one (ps_ret (pe_call G_use_fault hr (by rfl) T.m_use_fault T.F_use_fault.kp T.b_use_fault .nil pass0 (pa_cons (pv 0) (pa_cons (pe_ix (ixT K) (pe_dget hu (pv 1) (pe_ix (ixT K) (pv 3) pe_int (fun _ _ => rfl)) (fun _ _ => rfl)) pe_int (fun _ _ => rfl)) (pa_cons (pv 2) (pa_cons (pv 3) pa_nil)))))))) pss_nil)
      (pss_cons (ps_if (PW.pt (pw_and (pt_cmpR op_eq (pv 4) pe_str (nomark _)) (pw_and1 (pt_cmpR op_ne (pe_ix (ixT K) (pv 2) pe_int (fun _ _ => rfl)) pe_str (nomark _))))) (pss_one ps_never) pss_nil)
      (pss_cons (ps_if (PW.pt (pw_and (pt_cmpR op_eq (pv 4) pe_str (nomark _)) (pw_and1 (pt_cmpR op_ne (pe_ix (ixT K) (pv 2) pe_int (fun _ _ => rfl)) pe_str (nomark _))))) (pss_one ps_never) pss_nil)
      (pss_cons (ps_if (pt_cmpR op_eq (pv 4) pe_str (nomark _)) (pss_cons ps_never
      (pss_one ps_never)) pss_nil)
      (pss_cons (ps_if (pt_cmpR op_eq (pv 4) pe_str (nomark _)) (pss_cons ps_never
      (pss_one ps_never)) pss_nil)
      (pss_one (ps_ret pe_non)))))))), ?_⟩
  cases t with
  | own r =>
    obtain ⟨hsh, m, hG⟩ := ok
    have hv0 := hv
    obtain ⟨a, rfl, ha⟩ := own_at hv
    refine ⟨_, rfl, a, _, 0, _, rfl, rfl, ha, rfl, _, rfl, (by show 4 ≤ sizeLine; decide), fun e ne => ⟨e, _, rfl, .inr (at_t upd_same), rfl, by decide, _, rfl, iteT ?_⟩⟩
    have s1 := Same.new (o := .tup [.str "own", .str "pick", .str "pay", .str "open"]) ne
    generalize upd H e (.tup [.str "own", .str "pick", .str "pay", .str "open"]) = H1 at s1 ⊢
    obtain ⟨kvs, pv, hk, hval, hp⟩ := sc_get (sc_same hsc s1) hG
    obtain ⟨pa, mv, sv, rfl, hpa, _, hsv⟩ := pr_at hp
    have ha1 := (kpT_same s1).tup ha
    refine ⟨_, rfl, a, _, 1, _, rfl, rfl, ha1, rfl, _, rfl, sc, _, rfl, dget_k hk hval, _, rfl, iteF ?_⟩
    exact ⟨_, rfl, _, rfl, _, rfl, a, _, 1, _, rfl, rfl, ha1, rfl, sc, _, rfl, dget_k hk hval, pa, _, 1, _, rfl, rfl, hpa, rfl, _, rfl, _, rfl, lv, sv, gv, .ref a, .own r, g, g, rfl, hsv, hg.s s1, hv0.s s1, ⟨rfl, hsh⟩, q _ s1⟩
  | take b =>
    obtain ⟨m, x, y, rfl⟩ := ok
    obtain ⟨a, z, rfl, ha, hb⟩ := take_at hv
    obtain ⟨a2, mv2, y2, z2, rfl, h2, hm2, _, _⟩ := trade_at hg
    refine ⟨_, rfl, a, _, 0, _, rfl, rfl, ha, rfl, _, rfl, (by show 4 ≤ sizeLine; decide), fun e ne => ⟨e, _, rfl, .inr (at_t upd_same), rfl, by decide, _, rfl, iteF ?_⟩⟩
    have s1 := Same.new (o := .tup [.str "own", .str "pick", .str "pay", .str "open"]) ne
    generalize upd H e (.tup [.str "own", .str "pick", .str "pay", .str "open"]) = H1 at s1 ⊢
    refine ⟨_, rfl, rfl, _, rfl, iteT ⟨_, rfl, a2, _, 0, _, rfl, rfl, (kpT_same s1).tup h2, rfl, rfl, _, rfl, iteF ?_⟩⟩
    exact ⟨_, rfl, rfl, _, rfl, iteF (iteF ⟨_, rfl, rfl, _, rfl, iteF ⟨_, rfl, rfl, _, rfl, iteF (q _ s1)⟩⟩)⟩
  | offer b c =>
    obtain ⟨x, y, rfl⟩ := ok
    obtain ⟨a, z, z3, rfl, ha, hb, _⟩ := offer_at hv
    obtain ⟨a2, y2, z2, rfl, h2, _, _⟩ := menu_at hg
    refine ⟨_, rfl, a, _, 0, _, rfl, rfl, ha, rfl, _, rfl, (by show 4 ≤ sizeLine; decide), fun e ne => ⟨e, _, rfl, .inr (at_t upd_same), rfl, by decide, _, rfl, iteF ?_⟩⟩
    have s1 := Same.new (o := .tup [.str "own", .str "pick", .str "pay", .str "open"]) ne
    generalize upd H e (.tup [.str "own", .str "pick", .str "pay", .str "open"]) = H1 at s1 ⊢
    refine ⟨_, rfl, rfl, _, rfl, iteF (iteF ?_)⟩
    refine ⟨_, rfl, rfl, _, rfl, iteT ⟨_, rfl, a2, _, 0, _, rfl, rfl, (kpT_same s1).tup h2, rfl, rfl, _, rfl, iteF ?_⟩⟩
    exact ⟨_, rfl, rfl, _, rfl, iteF ⟨_, rfl, rfl, _, rfl, iteF (q _ s1)⟩⟩
  | pick r sd b =>
    obtain ⟨m, x, y, hG⟩ := ok
    have hv0 := hv
    obtain ⟨a, z, rfl, ha, hb⟩ := pick_at hv
    refine ⟨_, rfl, a, _, 0, _, rfl, rfl, ha, rfl, _, rfl, (by show 4 ≤ sizeLine; decide), fun e ne => ⟨e, _, rfl, .inr (at_t upd_same), rfl, by decide, _, rfl, iteT ?_⟩⟩
    have s1 := Same.new (o := .tup [.str "own", .str "pick", .str "pay", .str "open"]) ne
    generalize upd H e (.tup [.str "own", .str "pick", .str "pay", .str "open"]) = H1 at s1 ⊢
    obtain ⟨kvs, pv, hk, hval, hp⟩ := sc_get (sc_same hsc s1) hG
    obtain ⟨pa, mv, sv, rfl, hpa, _, hsv⟩ := pr_at hp
    have ha1 := (kpT_same s1).tup ha
    refine ⟨_, rfl, a, _, 1, _, rfl, rfl, ha1, rfl, _, rfl, sc, _, rfl, dget_k hk hval, _, rfl, iteF ?_⟩
    exact ⟨_, rfl, _, rfl, _, rfl, a, _, 1, _, rfl, rfl, ha1, rfl, sc, _, rfl, dget_k hk hval, pa, _, 1, _, rfl, rfl, hpa, rfl, _, rfl, _, rfl, lv, sv, gv, .ref a, .pick r sd b, .menu x y, g, rfl, hsv, hg.s s1, hv0.s s1, ⟨x, y, rfl⟩, q _ s1⟩
  | pay r m2 b c =>
    obtain ⟨m, x, y, hG⟩ := ok
    have hv0 := hv
    obtain ⟨a, mvv, z, z2, rfl, ha, _, hb, _⟩ := pay_at hv
    refine ⟨_, rfl, a, _, 0, _, rfl, rfl, ha, rfl, _, rfl, (by show 4 ≤ sizeLine; decide), fun e ne => ⟨e, _, rfl, .inr (at_t upd_same), rfl, by decide, _, rfl, iteT ?_⟩⟩
    have s1 := Same.new (o := .tup [.str "own", .str "pick", .str "pay", .str "open"]) ne
    generalize upd H e (.tup [.str "own", .str "pick", .str "pay", .str "open"]) = H1 at s1 ⊢
    obtain ⟨kvs, pv, hk, hval, hp⟩ := sc_get (sc_same hsc s1) hG
    obtain ⟨pa, mv, sv, rfl, hpa, _, hsv⟩ := pr_at hp
    have ha1 := (kpT_same s1).tup ha
    refine ⟨_, rfl, a, _, 1, _, rfl, rfl, ha1, rfl, _, rfl, sc, _, rfl, dget_k hk hval, _, rfl, iteF ?_⟩
    exact ⟨_, rfl, _, rfl, _, rfl, a, _, 1, _, rfl, rfl, ha1, rfl, sc, _, rfl, dget_k hk hval, pa, _, 1, _, rfl, rfl, hpa, rfl, _, rfl, _, rfl, lv, sv, gv, .ref a, .pay r m2 b c, .trade m2 x y, g, rfl, hsv, hg.s s1, hv0.s s1, ⟨x, y, rfl⟩, q _ s1⟩
  | cut m sn b c =>
    obtain ⟨a, mv, sv, z, z2, rfl, ha, _, _, hb, _⟩ := cut_at hv
    refine ⟨_, rfl, a, _, 0, _, rfl, rfl, ha, rfl, _, rfl, (by show 4 ≤ sizeLine; decide), fun e ne => ⟨e, _, rfl, .inr (at_t upd_same), rfl, by decide, _, rfl, iteF ?_⟩⟩
    have s1 := Same.new (o := .tup [.str "own", .str "pick", .str "pay", .str "open"]) ne
    generalize upd H e (.tup [.str "own", .str "pick", .str "pay", .str "open"]) = H1 at s1 ⊢
    exact ⟨_, rfl, rfl, _, rfl, iteF (iteF ⟨_, rfl, rfl, _, rfl, iteF (iteF ⟨_, rfl, rfl, _, rfl, iteF ⟨_, rfl, rfl, _, rfl, iteF (q _ s1)⟩⟩)⟩)⟩
end
end W81
namespace W81
open PySem PySem.Spec PyProof.Rows L2 HX
/-! ### what stands above a row -/
section
variable {P : Program} {w : World} {K : PySem.W.Frag} {mg : Str → Option Value} {base : Heap}
def spGoals (K : PySem.W.Frag) : Sp := fun vs H Q _ => ∃ (lv gv v : V) (sc : Addr) (t : Dr) (g : Sn) (G : Sco) (n : Nat), vs = [lv, .ref sc, gv, v] ∧ ScAt K H sc G n ∧ Tp K H gv g.dat ∧ Tp K H v t.dat ∧ RowOk G g t ∧
  ∀ H' p ys, Same H H' → H p = none → H' p = some (.lst ys) → TpAll K H' ys ((goalsF G g t).map Sn.dat) → Q (.ref p) H'
theorem ok_premise_goals {k : Nat} (T : Tx K mg w) : FnOk P w K mg base CX0 (k + 1) T.a_premise_goals T.d_premise_goals ["library", "scope", "goal", "row"] (spGoals K) := by
  refine T.F_premise_goals.ok sc_premise_goals (fun vs H Q E h => ?_) (fun cdv A outer s H vs Q E hr h => ?_)
  · obtain ⟨_, _, _, _, _, _, _, _, rfl, _⟩ := h
    rfl
  obtain ⟨lv, gv, v, sc, t, g, G, n, rfl, hsc, hg, hv, ok, q⟩ := h
  have hu := hu_of hr
  refine ⟨_, (pss_cons (ps_set (i := 4) sc_premise_goals.nd rfl (Or.inl rfl) (pe_ix (ixT K) (pv 3) pe_int (fun _ _ => rfl)))
      (pss_cons (ps_if (pt_cmpR op_eq (pv 4) pe_str (nomark _)) (pss_one (ps_ret (pe_lst (pa_cons (pe_ix (ixT K) (pv 2) pe_int (fun _ _ => rfl)) pa_nil)))) pss_nil)
      (pss_cons (ps_if (pt_cmpR op_eq (pv 4) pe_str (nomark _)) (pss_one (ps_ret (pe_lst (pa_cons (pe_ix (ixT K) (pv 2) pe_int (fun _ _ => rfl)) (pa_cons (pe_ix (ixT K) (pv 2) pe_int (fun _ _ => rfl)) pa_nil))))) pss_nil)
      (pss_cons (ps_if (pt_cmpR op_eq (pv 4) pe_str (nomark _)) (pss_one (ps_ret (pe_lst (pa_cons (pe_ix (ixT K) (pe_ix (ixT K) (pe_dget hu (pv 1) (pe_ix (ixT K) (pv 3) pe_int (fun _ _ => rfl)) (fun _ _ => rfl)) pe_int (fun _ _ => rfl)) pe_int (fun _ _ => rfl)) (pa_cons (pv 2) pa_nil))))) pss_nil)
      (pss_cons (ps_if (pt_cmpR op_eq (pv 4) pe_str (nomark _)) (pss_one ps_never) pss_nil)
      (pss_cons (ps_if (pt_cmpR op_eq (pv 4) pe_str (nomark _)) (pss_one (ps_ret (pe_lst (pa_cons (pe_ix (ixT K) (pv 3) pe_int (fun _ _ => rfl)) (pa_cons (pv 2) pa_nil))))) pss_nil)
      (pss_cons (ps_if (pt_cmpR (inS K) (pv 4) (pe_tup (pa_cons pe_str (pa_cons pe_str pa_nil))) (by rfl)) (pss_one (ps_ret (pe_lst (pa_cons (pv 2) pa_nil)))) pss_nil)
      (pss_one (ps_ret (pe_lst pa_nil)))))))))), ?_⟩
  cases t with
  | own r =>
    obtain ⟨a, rfl, ha⟩ := own_at hv
    refine ⟨_, rfl, a, _, 0, _, rfl, rfl, ha, rfl, _, rfl, rfl, _, rfl, iteF ⟨_, rfl, rfl, _, rfl, iteF ⟨_, rfl, rfl, _, rfl, iteF ⟨_, rfl, rfl, _, rfl, iteF ⟨_, rfl, rfl, _, rfl, iteF ?_⟩⟩⟩⟩⟩
    refine ⟨_, rfl, (by show 2 ≤ sizeLine; decide), fun e ne => ⟨e, _, rfl, .inr (at_t upd_same), rfl, by decide, _, rfl, iteF ?_⟩⟩
    exact ⟨(by show 0 ≤ sizeLine; decide), fun l nl => q _ l _ ((Same.new ne).trans (Same.new nl)) ((Same.new ne).free nl) upd_same .nil⟩
  | take b =>
    obtain ⟨m, x, y, rfl⟩ := ok
    obtain ⟨a, z, rfl, ha, hb⟩ := take_at hv
    obtain ⟨a2, mv2, y2, z2, rfl, h2, hm2, hx, hy⟩ := trade_at hg
    refine ⟨_, rfl, a, _, 0, _, rfl, rfl, ha, rfl, _, rfl, rfl, _, rfl, iteT ?_⟩
    refine ⟨_, rfl, a2, _, 3, _, rfl, rfl, h2, rfl, (by show 1 ≤ sizeLine; decide), fun l nl => ?_⟩
    have s1 : Same H (upd H l (.lst [z2])) := Same.new nl
    exact q _ l _ s1 nl upd_same (.cons (hy.s s1) .nil)
  | offer b c =>
    obtain ⟨x, y, rfl⟩ := ok
    obtain ⟨a, z, z3, rfl, ha, hb, _⟩ := offer_at hv
    obtain ⟨a2, y2, z2, rfl, h2, hx, hy⟩ := menu_at hg
    refine ⟨_, rfl, a, _, 0, _, rfl, rfl, ha, rfl, _, rfl, rfl, _, rfl, iteF ⟨_, rfl, rfl, _, rfl, iteT ?_⟩⟩
    refine ⟨_, rfl, a2, _, 1, _, rfl, rfl, h2, rfl, _, rfl, a2, _, 2, _, rfl, rfl, h2, rfl, (by show 2 ≤ sizeLine; decide), fun l nl => ?_⟩
    have s1 : Same H (upd H l (.lst [y2, z2])) := Same.new nl
    exact q _ l _ s1 nl upd_same (.cons (hx.s s1) (.cons (hy.s s1) .nil))
  | pick r sd b =>
    obtain ⟨m, x, y, hG⟩ := ok
    obtain ⟨a, z, rfl, ha, hb⟩ := pick_at hv
    refine ⟨_, rfl, a, _, 0, _, rfl, rfl, ha, rfl, _, rfl, rfl, _, rfl, iteF ⟨_, rfl, rfl, _, rfl, iteF ⟨_, rfl, rfl, _, rfl, iteF ⟨_, rfl, rfl, _, rfl, iteF ⟨_, rfl, rfl, _, rfl, iteF ?_⟩⟩⟩⟩⟩
    refine ⟨_, rfl, (by show 2 ≤ sizeLine; decide), fun e ne => ⟨e, _, rfl, .inr (at_t upd_same), rfl, by decide, _, rfl, iteT ?_⟩⟩
    refine ⟨_, rfl, (by show 1 ≤ sizeLine; decide), fun l nl => ?_⟩
    have s1 := (Same.new (o := .tup [.str "pick", .str "open"]) ne).trans (Same.new (o := .lst [gv]) nl)
    exact q _ l _ s1 ((Same.new ne).free nl) upd_same (.cons (hg.s s1) .nil)
  | pay r m2 b c =>
    obtain ⟨m, x, y, hG⟩ := ok
    obtain ⟨a, mvv, z, z2, rfl, ha, _, hb, _⟩ := pay_at hv
    obtain ⟨kvs, pv, hk, hval, hp⟩ := sc_get hsc hG
    obtain ⟨pa, mv, sv, rfl, hpa, _, hsv⟩ := pr_at hp
    obtain ⟨a2, mv2, y2, z3, rfl, h2, hm2, hx, hy⟩ := trade_at hsv
    refine ⟨_, rfl, a, _, 0, _, rfl, rfl, ha, rfl, _, rfl, rfl, _, rfl, iteF ⟨_, rfl, rfl, _, rfl, iteF ⟨_, rfl, rfl, _, rfl, iteT ?_⟩⟩⟩
    refine ⟨_, rfl, _, rfl, a, _, 1, _, rfl, rfl, ha, rfl, sc, _, rfl, dget_k hk hval, pa, _, 1, _, rfl, rfl, hpa, rfl, a2, _, 2, _, rfl, rfl, h2, rfl, _, rfl, (by show 2 ≤ sizeLine; decide), fun l nl => ?_⟩
    have s1 : Same H (upd H l (.lst [y2, gv])) := Same.new nl
    refine q _ l _ s1 nl upd_same ?_
    rw [show goalsF G g (Dr.pay r m2 b c) = [x, g] by simp only [goalsF, hG]]
    exact .cons (hx.s s1) (.cons (hg.s s1) .nil)
  | cut m sn b c =>
    obtain ⟨a, mv, sv, z, z2, rfl, ha, _, hs, hb, _⟩ := cut_at hv
    refine ⟨_, rfl, a, _, 0, _, rfl, rfl, ha, rfl, _, rfl, rfl, _, rfl, iteF ⟨_, rfl, rfl, _, rfl, iteF ⟨_, rfl, rfl, _, rfl, iteF ⟨_, rfl, rfl, _, rfl, iteF ⟨_, rfl, rfl, _, rfl, iteT ?_⟩⟩⟩⟩⟩
    refine ⟨_, rfl, a, _, 2, _, rfl, rfl, ha, rfl, _, rfl, (by show 2 ≤ sizeLine; decide), fun l nl => ?_⟩
    have s1 : Same H (upd H l (.lst [sv, gv])) := Same.new nl
    exact q _ l _ s1 nl upd_same (.cons (hs.s s1) (.cons (hg.s s1) .nil))
def NewAt (K : PySem.W.Frag) (H : Hp) (v : V) : Option Prr → Prop
  | none => v = .non
  | some h => PrAt K H v h
theorem NewAt.s {H H' : Hp} {v : V} {o : Option Prr} (h : NewAt K H v o) (s : Same H H') : NewAt K H' v o := by
  cases o with
  | none => exact h
  | some p => exact Tp.s h s
def spNew (K : PySem.W.Frag) : Sp := fun vs H Q _ => ∃ (lv gv v : V) (sc : Addr) (t : Dr) (g : Sn) (G : Sco) (n : Nat), vs = [lv, .ref sc, gv, v] ∧ ScAt K H sc G n ∧ Tp K H gv g.dat ∧ Tp K H v t.dat ∧ RowOk G g t ∧
  ∀ H' u, Same H H' → NewAt K H' u (newF G g t) → Q u H'
theorem ok_new_hold {k : Nat} (T : Tx K mg w) : FnOk P w K mg base CX0 (k + 1) T.a_new_hold T.d_new_hold ["library", "scope", "goal", "row"] (spNew K) := by
  refine T.F_new_hold.ok sc_new_hold (fun vs H Q E h => ?_) (fun cdv A outer s H vs Q E hr h => ?_)
  · obtain ⟨_, _, _, _, _, _, _, _, rfl, _⟩ := h
    rfl
  obtain ⟨lv, gv, v, sc, t, g, G, n, rfl, hsc, hg, hv, ok, q⟩ := h
  have hu := hu_of hr
  refine ⟨_, (pss_cons (ps_set (i := 4) sc_new_hold.nd rfl (Or.inl rfl) (pe_ix (ixT K) (pv 3) pe_int (fun _ _ => rfl)))
      (pss_cons (ps_if (pt_cmpR op_eq (pv 4) pe_str (nomark _)) (pss_one (ps_ret (pe_tup (pa_cons (pe_ix (ixT K) (pv 2) pe_int (fun _ _ => rfl)) (pa_cons (pe_ix (ixT K) (pv 2) pe_int (fun _ _ => rfl)) pa_nil))))) pss_nil)
      (pss_cons (ps_if (pt_cmpR op_eq (pv 4) pe_str (nomark _)) (pss_one (ps_ret (pe_tup (pa_cons (pe_ix (ixT K) (pv 3) pe_int (fun _ _ => rfl)) (pa_cons (pe_ix (ixT K) (pv 3) pe_int (fun _ _ => rfl)) pa_nil))))) pss_nil)
      (pss_cons (ps_if (pt_cmpR op_eq (pv 4) pe_str (nomark _)) (pss_one (ps_ret (pe_tup (pa_cons pe_str (pa_cons (pe_ix (ixT K) (pe_ix (ixT K) (pe_dget hu (pv 1) (pe_ix (ixT K) (pv 3) pe_int (fun _ _ => rfl)) (fun _ _ => rfl)) pe_int (fun _ _ => rfl)) pe_int (fun _ _ => rfl)) pa_nil))))) pss_nil)
      (pss_cons (ps_if (pt_cmpR op_eq (pv 4) pe_str (nomark _)) (pss_one ps_never) pss_nil)
      (pss_cons (ps_if (pt_cmpR op_eq (pv 4) pe_str (nomark _)) (pss_cons (ps_if (pt_cmpR op_eq (pe_ix (ixT K) (pv 3) pe_int (fun _ _ => rfl)) pe_str (nomark _)) (pss_one (ps_ret (pe_tup (pa_cons pe_str (pa_cons (pe_ix (ixT K) (pe_ix (ixT K) (pe_dget hu (pv 1) (pe_ix (ixT K) (pv 3) pe_int (fun _ _ => rfl)) (fun _ _ => rfl)) pe_int (fun _ _ => rfl)) pe_int (fun _ _ => rfl)) pa_nil))))) pss_nil)
      (pss_one (ps_ret (pe_tup (pa_cons pe_str (pa_cons (pe_ix (ixT K) (pe_ix (ixT K) (pe_dget hu (pv 1) (pe_ix (ixT K) (pv 3) pe_int (fun _ _ => rfl)) (fun _ _ => rfl)) pe_int (fun _ _ => rfl)) pe_int (fun _ _ => rfl)) pa_nil)))))) pss_nil)
      (pss_one (ps_ret pe_non)))))))), ?_⟩
  cases t with
  | own r =>
    obtain ⟨a, rfl, ha⟩ := own_at hv
    refine ⟨_, rfl, a, _, 0, _, rfl, rfl, ha, rfl, _, rfl, rfl, _, rfl, iteF ⟨_, rfl, rfl, _, rfl, iteF ⟨_, rfl, rfl, _, rfl, iteF ⟨_, rfl, rfl, _, rfl, iteF ⟨_, rfl, rfl, _, rfl, iteF ?_⟩⟩⟩⟩⟩
    exact q _ _ (Same.refl _) rfl
  | take b =>
    obtain ⟨m, x, y, rfl⟩ := ok
    obtain ⟨a, z, rfl, ha, hb⟩ := take_at hv
    obtain ⟨a2, mv2, y2, z2, rfl, h2, hm2, hx, hy⟩ := trade_at hg
    refine ⟨_, rfl, a, _, 0, _, rfl, rfl, ha, rfl, _, rfl, rfl, _, rfl, iteT ?_⟩
    refine ⟨_, rfl, a2, _, 1, _, rfl, rfl, h2, rfl, _, rfl, a2, _, 2, _, rfl, rfl, h2, rfl, (by show 2 ≤ sizeLine; decide), fun l nl => ?_⟩
    have s1 : Same H (upd H l (.tup [mv2, y2])) := Same.new nl
    exact q _ _ s1 (.mk upd_same (.cons (hm2.s s1) (.cons (hx.s s1) .nil)))
  | offer b c =>
    obtain ⟨a, z, z3, rfl, ha, hb, _⟩ := offer_at hv
    refine ⟨_, rfl, a, _, 0, _, rfl, rfl, ha, rfl, _, rfl, rfl, _, rfl, iteF ⟨_, rfl, rfl, _, rfl, iteF ⟨_, rfl, rfl, _, rfl, iteF ⟨_, rfl, rfl, _, rfl, iteF ⟨_, rfl, rfl, _, rfl, iteF ?_⟩⟩⟩⟩⟩
    exact q _ _ (Same.refl _) rfl
  | pick r sd b =>
    obtain ⟨m, x, y, hG⟩ := ok
    obtain ⟨a, z, rfl, ha, hb⟩ := pick_at hv
    obtain ⟨kvs, pv, hk, hval, hp⟩ := sc_get hsc hG
    obtain ⟨pa, mv, sv, rfl, hpa, _, hsv⟩ := pr_at hp
    obtain ⟨a2, y2, z3, rfl, h2, hx, hy⟩ := menu_at hsv
    refine ⟨_, rfl, a, _, 0, _, rfl, rfl, ha, rfl, _, rfl, rfl, _, rfl, iteF ⟨_, rfl, rfl, _, rfl, iteF ⟨_, rfl, rfl, _, rfl, iteF ⟨_, rfl, rfl, _, rfl, iteF ⟨_, rfl, rfl, _, rfl, iteT ?_⟩⟩⟩⟩⟩
    cases sd with
    | l =>
      refine ⟨_, rfl, a, _, 2, _, rfl, rfl, ha, rfl, rfl, _, rfl, iteT ?_⟩
      refine ⟨_, rfl, _, rfl, a, _, 1, _, rfl, rfl, ha, rfl, sc, _, rfl, dget_k hk hval, pa, _, 1, _, rfl, rfl, hpa, rfl, a2, _, 1, _, rfl, rfl, h2, rfl, (by show 2 ≤ sizeLine; decide), fun l nl => ?_⟩
      have s1 : Same H (upd H l (.tup [.str "once", y2])) := Same.new nl
      refine q _ _ s1 ?_
      rw [show newF G g (Dr.pick r .l b) = some (.once, x) by simp only [newF, hG]]
      exact .mk upd_same (.cons (.str _) (.cons (hx.s s1) .nil))
    | r =>
      refine ⟨_, rfl, a, _, 2, _, rfl, rfl, ha, rfl, rfl, _, rfl, iteF ?_⟩
      refine ⟨_, rfl, _, rfl, a, _, 1, _, rfl, rfl, ha, rfl, sc, _, rfl, dget_k hk hval, pa, _, 1, _, rfl, rfl, hpa, rfl, a2, _, 2, _, rfl, rfl, h2, rfl, (by show 2 ≤ sizeLine; decide), fun l nl => ?_⟩
      have s1 : Same H (upd H l (.tup [.str "once", z3])) := Same.new nl
      refine q _ _ s1 ?_
      rw [show newF G g (Dr.pick r .r b) = some (.once, y) by simp only [newF, hG]]
      exact .mk upd_same (.cons (.str _) (.cons (hy.s s1) .nil))
  | pay r m2 b c =>
    obtain ⟨m, x, y, hG⟩ := ok
    obtain ⟨a, mvv, z, z2, rfl, ha, _, hb, _⟩ := pay_at hv
    obtain ⟨kvs, pv, hk, hval, hp⟩ := sc_get hsc hG
    obtain ⟨pa, mv, sv, rfl, hpa, _, hsv⟩ := pr_at hp
    obtain ⟨a2, mv2, y2, z3, rfl, h2, hm2, hx, hy⟩ := trade_at hsv
    refine ⟨_, rfl, a, _, 0, _, rfl, rfl, ha, rfl, _, rfl, rfl, _, rfl, iteF ⟨_, rfl, rfl, _, rfl, iteF ⟨_, rfl, rfl, _, rfl, iteT ?_⟩⟩⟩
    refine ⟨_, rfl, _, rfl, a, _, 1, _, rfl, rfl, ha, rfl, sc, _, rfl, dget_k hk hval, pa, _, 1, _, rfl, rfl, hpa, rfl, a2, _, 3, _, rfl, rfl, h2, rfl, (by show 2 ≤ sizeLine; decide), fun l nl => ?_⟩
    have s1 : Same H (upd H l (.tup [.str "once", z3])) := Same.new nl
    refine q _ _ s1 ?_
    rw [show newF G g (Dr.pay r m2 b c) = some (.once, y) by simp only [newF, hG]]
    exact .mk upd_same (.cons (.str _) (.cons (hy.s s1) .nil))
  | cut m sn b c =>
    obtain ⟨a, mv, sv, z, z2, rfl, ha, hm, hs, hb, _⟩ := cut_at hv
    refine ⟨_, rfl, a, _, 0, _, rfl, rfl, ha, rfl, _, rfl, rfl, _, rfl, iteF ⟨_, rfl, rfl, _, rfl, iteT ?_⟩⟩
    refine ⟨_, rfl, a, _, 1, _, rfl, rfl, ha, rfl, _, rfl, a, _, 2, _, rfl, rfl, ha, rfl, (by show 2 ≤ sizeLine; decide), fun l nl => ?_⟩
    have s1 : Same H (upd H l (.tup [mv, sv])) := Same.new nl
    exact q _ _ s1 (.mk upd_same (.cons (hm.s s1) (.cons (hs.s s1) .nil)))
end
end W81
namespace W81
open PySem PySem.Spec PyProof.Rows L2 HX
/-! ### the places above a row -/
abbrev Plc := Sco × Sn × Nat
def placeF (G : Sco) (o : Option Prr) (lv : Nat) (x : Sn) : Bool → Plc
  | true => (match o with | some h => updF G (lvR lv) h | none => G, x, lv + 1)
  | false => (G, x, lv)
def placesF (G : Sco) (g : Sn) (t : Dr) (lv : Nat) : List Plc := ((goalsF G g t).zip t.brs).map fun p => placeF G (newF G g t) lv p.1 p.2
theorem row_len {G : Sco} {g : Sn} {t : Dr} (h : RowOk G g t) : (goalsF G g t).length = t.brs.length ∧ t.brs.length = t.kids.length ∧ t.brs.length ≤ 2 ∧ ((newF G g t).isNone = true → ∀ b, b ∈ t.brs → b = false) := by
  cases t with
  | own r => exact ⟨rfl, rfl, by show 0 ≤ 2; decide, fun _ b hb => by cases hb⟩
  | take b =>
    obtain ⟨m, x, y, rfl⟩ := h
    exact ⟨rfl, rfl, by show 1 ≤ 2; decide, fun z => by cases z⟩
  | offer b c =>
    obtain ⟨x, y, rfl⟩ := h
    refine ⟨rfl, rfl, by show 2 ≤ 2; decide, fun _ d hd => ?_⟩
    have hd : d ∈ [false, false] := hd
    simpa using hd
  | pick r s b =>
    obtain ⟨m, x, y, hG⟩ := h
    refine ⟨rfl, rfl, by show 1 ≤ 2; decide, fun z => ?_⟩
    simp only [newF, hG] at z
    cases z
  | pay r k b c =>
    obtain ⟨m, x, y, hG⟩ := h
    refine ⟨by simp only [goalsF, hG]; rfl, rfl, by show 2 ≤ 2; decide, fun z => ?_⟩
    simp only [newF, hG] at z
    cases z
  | cut m s b c => exact ⟨rfl, rfl, by show 2 ≤ 2; decide, fun z => by cases z⟩
section
variable {P : Program} {w : World} {K : PySem.W.Frag} {mg : Str → Option Value} {base : Heap}
theorem at_nat {xs : List V} {i : Nat} {v : V} (h : xs[i]? = some v) : atI xs (0 + (i : Int)) = some v := by
  rw [Int.zero_add]
  exact atI_nat h
def PlcAt (K : PySem.W.Frag) (H : Hp) (n : Nat) (v : V) (p : Plc) : Prop := ∃ a sc gv, v = .ref a ∧ SqT K H a [.ref sc, gv, iv p.2.2] ∧ ScAt K H sc p.1 n ∧ Tp K H gv p.2.1.dat
theorem sc_kp {l a : Addr} {H H' : Hp} {xs : List V} {G : Sco} {n : Nat} (h : ScAt K H a G n) (k : Kp (only1 l) H H') (hl : H l = some (.lst xs)) : ScAt K H' a G n :=
  let ⟨kvs, e, d, z⟩ := h
  ⟨kvs, k _ _ (ne_of e hl (by intro z; cases z)) e, d.of fun v t r => Tp.k r (kpt_lst k hl), z⟩
theorem PlcAt.kp {l : Addr} {H H' : Hp} {xs : List V} {n : Nat} {v : V} {p : Plc} (h : PlcAt K H n v p) (k : Kp (only1 l) H H') (hl : H l = some (.lst xs)) : PlcAt K H' n v p :=
  let ⟨a, sc, gv, e, q, s, t⟩ := h
  ⟨a, sc, gv, e, (kpt_lst k hl).tup q, sc_kp s k hl, t.k (kpt_lst k hl)⟩
theorem PlcAt.s {H H' : Hp} {n : Nat} {v : V} {p : Plc} (h : PlcAt K H n v p) (k : Same H H') : PlcAt K H' n v p :=
  let ⟨a, sc, gv, e, q, s, t⟩ := h
  ⟨a, sc, gv, e, (kpT_same k).tup q, sc_same s k, t.s k⟩
def PlcL (K : PySem.W.Frag) (H : Hp) (n : Nat) (ys : List V) (ps : List Plc) : Prop := ys.length = ps.length ∧ ∀ (i : Nat) (p : Plc), ps[i]? = some p → ∃ y, ys[i]? = some y ∧ PlcAt K H n y p
theorem PlcL.snoc {H : Hp} {n : Nat} {ys : List V} {ps : List Plc} {y : V} {p : Plc} (h : PlcL K H n ys ps) (k : PlcAt K H n y p) : PlcL K H n (ys ++ [y]) (ps ++ [p]) := by
  refine ⟨by rw [List.length_append, List.length_append, h.1]; rfl, fun i q e => ?_⟩
  by_cases hi : i < ps.length
  · rw [List.getElem?_append_left hi] at e
    obtain ⟨z, e1, e2⟩ := h.2 i q e
    exact ⟨z, by rw [List.getElem?_append_left (by rw [h.1]; exact hi)]; exact e1, e2⟩
  · rw [List.getElem?_append_right (by omega)] at e
    have hz : i - ps.length = 0 := by
      have := (List.getElem?_eq_some_iff.mp e).1
      simp at this
      omega
    rw [hz] at e
    cases e
    exact ⟨y, by rw [List.getElem?_append_right (by rw [h.1]; omega), h.1, hz]; rfl, k⟩
theorem PlcL.s {H H' : Hp} {n : Nat} {ys : List V} {ps : List Plc} (h : PlcL K H n ys ps) (k : Same H H') : PlcL K H' n ys ps := ⟨h.1, fun i p e => let ⟨y, e1, e2⟩ := h.2 i p e; ⟨y, e1, e2.s k⟩⟩
theorem PlcL.kp {l : Addr} {H H' : Hp} {xs : List V} {n : Nat} {ys : List V} {ps : List Plc} (h : PlcL K H n ys ps) (k : Kp (only1 l) H H') (hl : H l = some (.lst xs)) : PlcL K H' n ys ps := ⟨h.1, fun i p e => let ⟨y, e1, e2⟩ := h.2 i p e; ⟨y, e1, e2.kp k hl⟩⟩
theorem sc_mono {a : Addr} {H : Hp} {G : Sco} {n m : Nat} (h : ScAt K H a G n) (e : n ≤ m) : ScAt K H a G m := let ⟨kvs, e1, d, l⟩ := h; ⟨kvs, e1, d, Nat.le_trans l e⟩
def spPlaces (K : PySem.W.Frag) : Sp := fun vs H Q _ => ∃ (lb gv v : V) (sc : Addr) (t : Dr) (g : Sn) (G : Sco) (n lv : Nat), vs = [lb, .ref sc, gv, v, iv lv] ∧ ScAt K H sc G n ∧ n ≤ 50000 ∧ Tp K H gv g.dat ∧ Tp K H v t.dat ∧ RowOk G g t ∧
  ∀ H' p ys, Same H H' → H p = none → H' p = some (.lst ys) → PlcL K H' (n + 1) ys (placesF G g t lv) → Q (.ref p) H'
theorem ok_places_above {k : Nat} (T : Tx K mg w) (G_premise_goals : FnOk P w K mg base CX0 k T.a_premise_goals T.d_premise_goals ["library", "scope", "goal", "row"] (spGoals K))
    (G_new_hold : FnOk P w K mg base CX0 k T.a_new_hold T.d_new_hold ["library", "scope", "goal", "row"] (spNew K)) (G_brings : FnOk P w K mg base CX0 k T.a_brings T.d_brings ["derivation"] (spBrings K)) :
    FnOk P w K mg base CX0 (k + 1) T.a_places_above T.d_places_above ["library", "scope", "goal", "row", "level"] (spPlaces K) := by
  refine T.F_places_above.ok sc_places_above (fun vs H Q E h => ?_) (fun cdv A outer s H vs Q E hr h => ?_)
  · obtain ⟨_, _, _, _, _, _, _, _, _, rfl, _⟩ := h
    rfl
  obtain ⟨lb, gv, v, sc, t, g, G, n, lv, rfl, hsc, hn, hg, hv, ok, q⟩ := h
  have hu := hu_of hr
  obtain ⟨L1, L2, L3, L4⟩ := row_len ok
  refine ⟨_, (pss_cons (ps_set (i := 5) sc_places_above.nd rfl (Or.inl rfl) (pe_call G_premise_goals hr (by rfl) T.m_premise_goals T.F_premise_goals.kp T.b_premise_goals .nil pass0 (pa_cons (pv 0) (pa_cons (pv 1) (pa_cons (pv 2) (pa_cons (pv 3) pa_nil))))))
      (pss_cons (ps_set (i := 6) sc_places_above.nd rfl (Or.inl rfl) (pe_call G_new_hold hr (by rfl) T.m_new_hold T.F_new_hold.kp T.b_new_hold .nil pass0 (pa_cons (pv 0) (pa_cons (pv 1) (pa_cons (pv 2) (pa_cons (pv 3) pa_nil))))))
      (pss_cons (ps_set (i := 7) sc_places_above.nd rfl (Or.inl rfl) (pe_lst pa_nil))
      (pss_cons (ps_for PassesOwn.never rfl (pi_range1 (by rfl) T.z_range (pa_cons (pe_callB (lenS K) (by rfl) T.z_len PySem.boot_len (pa_cons (pv 5) pa_nil)) pa_nil)) (pg_name (i := 8) sc_places_above.nd rfl (Or.inl rfl)) (pss_one (ps_if (pt_val (pe_ix (ixT K) (pe_call G_brings hr (by rfl) T.m_brings T.F_brings.kp T.b_brings .nil pass0 (pa_cons (pv 3) pa_nil)) (pv 8) (fun _ _ => rfl))) (pss_cons (ps_set (i := 9) sc_places_above.nd rfl (Or.inl rfl) (pe_callTy call_dictD (by rfl) T.z_dict (by decide +kernel) (pa_cons (pv 1) pa_nil)))
      (pss_cons (ps_dput hu (pv 9) (pv 4) (pv 6) rfl)
      (pss_one (ps_expr (pe_bm PySem.F.plainAttrs_list PySem.F.slot_list_append PySem.F.type_list_append mt_append (pv 7) (pa_cons (pe_tup (pa_cons (pv 9) (pa_cons (pe_ix (ixL K) (pv 5) (pv 8) (fun _ _ => rfl)) (pa_cons (pe_op op_add (pv 4) pe_int) pa_nil)))) pa_nil)))))) (pss_one (ps_expr (pe_bm PySem.F.plainAttrs_list PySem.F.slot_list_append PySem.F.type_list_append mt_append (pv 7) (pa_cons (pe_tup (pa_cons (pv 1) (pa_cons (pe_ix (ixL K) (pv 5) (pv 8) (fun _ _ => rfl)) (pa_cons (pv 4) pa_nil)))) pa_nil)))))))
      (pss_one (ps_ret (pv 7))))))), ?_⟩
  refine ⟨_, rfl, _, rfl, _, rfl, _, rfl, lb, gv, v, sc, t, g, G, n, rfl, hsc, hg, hv, ok, fun H1 l gs s1 nl hl hgs => ?_⟩
  refine ⟨_, rfl, _, rfl, _, rfl, _, rfl, lb, gv, v, sc, t, g, G, n, rfl, sc_same hsc s1, hg.s s1, hv.s s1, ok, fun H2 hd s2 hhd => ?_⟩
  refine ⟨(by show 0 ≤ sizeLine; decide), fun p np => ?_⟩
  have lg := hgs.len
  rw [List.length_map] at lg
  have s12 := s1.trans s2
  have hl2 := s2 _ _ hl
  have hgs2 := hgs.s s2
  have hsc2 := sc_same hsc s12
  have hg2 := hg.s s12
  have hv2 := hv.s s12
  have s3 : Same H2 (upd H2 p (.lst [])) := Same.new np
  refine ⟨_, rfl, l, _, rfl, .inl (at_l (s3 _ _ hl2)), _, rfl, by omega, by omega, ?_⟩
  refine for_range (n := gs.length) (fun i σ' H' => i ≤ gs.length ∧ Same H2 H' ∧ ∃ ys x8 x9, H' p = some (.lst ys) ∧ PlcL K H' (n + 1) ys ((placesF G g t lv).take i) ∧ σ' = [some lb, some (.ref sc), some gv, some v, some (iv lv), some (.ref l), some hd, some (.ref p), x8, x9])
    ⟨Nat.zero_le _, s3, [], none, none, upd_same, ⟨rfl, fun i p e => by simp at e⟩, rfl⟩ ?_ ?_
  · rintro i σ' H' hi ⟨_, sm, ys, x8, x9, hp, hpl, rfl⟩
    have hi2 : i < (goalsF G g t).length := by omega
    have hi3 : i < t.brs.length := by omega
    obtain ⟨x, hx⟩ : ∃ x, (goalsF G g t)[i]? = some x := ⟨_, List.getElem?_eq_getElem hi2⟩
    obtain ⟨b, hb⟩ : ∃ b, t.brs[i]? = some b := ⟨_, List.getElem?_eq_getElem hi3⟩
    have hz : (placesF G g t lv)[i]? = some (placeF G (newF G g t) lv x b) := by
      unfold placesF
      rw [List.getElem?_map, show ((goalsF G g t).zip t.brs)[i]? = some (x, b) from List.getElem?_zip_eq_some.mpr ⟨hx, hb⟩]
      rfl
    have ht : (placesF G g t lv).take (i + 1) = (placesF G g t lv).take i ++ [placeF G (newF G g t) lv x b] := by rw [List.take_add_one, hz]; rfl
    have hgs' := hgs2.s sm
    obtain ⟨gx, hgx, hgd⟩ := hgs'.get (i := i) (d := x.dat) (by rw [List.getElem?_map, hx]; rfl)
    have hys : ys.length < 1000 := by
      rw [hpl.1, List.length_take]
      omega
    refine ⟨_, rfl, v, t, rfl, hv2.s sm, fun ba hba => ?_⟩
    refine ⟨_, rfl, ba, _, _, .bl b, rfl, rfl, hba _, at_nat (by rw [List.getElem?_map, hb]; rfl), b, rfl, ?_⟩
    cases b with
    | false =>
      refine iteF ?_
      refine ⟨_, rfl, .inl ⟨rfl, _, at_l hp⟩, _, rfl, _, rfl, _, rfl, l, _, _, gx, rfl, rfl, at_l (sm _ _ hl2), at_nat hgx, _, rfl, (by show 3 ≤ sizeLine; decide), fun z nz => ?_⟩
      have sz : Same H' (upd H' z (.tup [.ref sc, gx, iv lv])) := Same.new nz
      have hz1 : PlcAt K (upd H' z (.tup [.ref sc, gx, iv lv])) (n + 1) (.ref z) (placeF G (newF G g t) lv x false) := ⟨z, sc, gx, rfl, at_t upd_same, sc_mono (sc_same hsc2 (sm.trans sz)) (Nat.le_succ n), hgd.s sz⟩
      generalize upd H' z (.tup [.ref sc, gx, iv lv]) = H3 at sz hz1 ⊢
      have hp3 := sz _ _ hp
      refine ⟨p, ys, .ref z, rfl, rfl, hp3, sz2 (by omega), hi, Same.put (sm.trans sz) np, _, _, _, upd_same, ?_, rfl⟩
      rw [ht]
      exact ((hpl.s sz).snoc hz1).kp (Kp.refl.put rfl) hp3
    | true =>
      refine iteT ?_
      have hs2 : NewAt K H2 hd (newF G g t) := hhd
      cases en : newF G g t with
      | none => exact absurd (L4 (by rw [en]; rfl) true (List.mem_of_getElem? hb)) (by decide)
      | some h =>
        rw [en] at hs2
        have hh' : PrAt K H' hd h := Tp.s hs2 sm
        obtain ⟨kvs, hk, hdc, hlen⟩ := sc_same hsc2 sm
        refine ⟨_, rfl, sc, kvs, rfl, .inl hk, fun d nd => ?_⟩
        refine ⟨_, rfl, _, rfl, _, rfl, d, _, rfl, DPut.k (k := lvR lv) upd_same (sz2 (by omega)), ?_⟩
        rw [upd_upd]
        have sd : Same H' (upd H' d (.dK (putK kvs (lvR lv) hd))) := Same.new nd
        have hsd : ScAt K (upd H' d (.dK (putK kvs (lvR lv) hd))) d (updF G (lvR lv) h) (n + 1) := by
          refine ⟨_, upd_same, ((hdc.put (k := lvR lv) hh').of fun v t r => Tp.s r sd), ?_⟩
          have := length_putK kvs (lvR lv) hd
          omega
        have nd2 := sm.free nd
        generalize upd H' d (.dK (putK kvs (lvR lv) hd)) = H4 at sd hsd ⊢
        have sm4 := sm.trans sd
        have hp4 := sd _ _ hp
        refine ⟨_, rfl, .inl ⟨rfl, _, at_l hp4⟩, _, rfl, _, rfl, _, rfl, l, _, _, gx, rfl, rfl, at_l (sm4 _ _ hl2), at_nat hgx, _, rfl, _, _, rfl, rfl, (by show 3 ≤ sizeLine; decide), fun z nz => ?_⟩
        have sz : Same H4 (upd H4 z (.tup [.ref d, gx, iv (lv + 1)])) := Same.new nz
        have hz1 : PlcAt K (upd H4 z (.tup [.ref d, gx, iv (lv + 1)])) (n + 1) (.ref z) (placeF G (newF G g t) lv x true) := by
          rw [en]
          exact ⟨z, d, gx, rfl, at_t upd_same, sc_same hsd sz, hgd.s (sd.trans sz)⟩
        have e1 : (upd H4 z (.tup [.ref d, gx, .int ((lv : Int) + 1)])) = (upd H4 z (.tup [.ref d, gx, iv (lv + 1)])) := rfl
        rw [e1]
        generalize upd H4 z (.tup [.ref d, gx, iv (lv + 1)]) = H3 at sz hz1 ⊢
        have hp3 := sz _ _ hp4
        refine ⟨p, ys, .ref z, rfl, rfl, hp3, sz2 (by omega), hi, Same.put (sm4.trans sz) np, _, _, _, upd_same, ?_, rfl⟩
        rw [ht]
        exact ((hpl.s (sd.trans sz)).snoc hz1).kp (Kp.refl.put rfl) hp3
  · rintro σ' H' ⟨_, sm, ys, x8, x9, hp, hpl, rfl⟩
    refine ⟨_, rfl, ?_⟩
    rw [List.take_of_length_le (by unfold placesF; rw [List.length_map, List.length_zip]; omega)] at hpl
    exact q H' p ys (s12.trans sm) (s12.free np) hp hpl
end
end W81
namespace W81
open PySem PySem.Spec PyProof.Rows L2 HX
/-! ### derivations that are shown -/
def Fit (b : Dr) (lv : Nat) (m : Kd) : Prop := C3.fits ((b.cn (lv + 1) (lvR lv)).getD C3.zero) m = true
def Side.sel : Side → Sn → Sn → Sn
  | .l, x, _ => x
  | .r, _, y => y
def Chk : Dr → Sco → Sn → Nat → Prop
  | .own r, G, g, _ => RowOk G g (.own r)
  | .take b, G, g, lv => ∃ m x y, g = .trade m x y ∧ Chk b (updF G (lvR lv) (m, x)) y (lv + 1) ∧ Fit b lv m
  | .offer a b, G, g, lv => ∃ x y, g = .menu x y ∧ Chk a G x lv ∧ Chk b G y lv
  | .pick r s b, G, g, lv => ∃ m x y, G r = some (m, .menu x y) ∧ Chk b (updF G (lvR lv) (.once, s.sel x y)) g (lv + 1) ∧ Fit b lv .once
  | .pay r k a b, G, g, lv => ∃ m x y, G r = some (m, .trade k x y) ∧ Chk a G x lv ∧ Chk b (updF G (lvR lv) (.once, y)) g (lv + 1) ∧ Fit b lv .once
  | .cut m s a b, G, g, lv => Chk a G s lv ∧ Chk b (updF G (lvR lv) (m, s)) g (lv + 1) ∧ Fit b lv m
theorem new_pick {G : Sco} {g : Sn} {r : Rf} {s : Side} {b : Dr} {m : Kd} {x y : Sn} (h : G r = some (m, .menu x y)) : newF G g (.pick r s b) = some (.once, s.sel x y) := by
  cases s <;> simp only [newF, h] <;> rfl
theorem new_pay {G : Sco} {g : Sn} {r : Rf} {k m : Kd} {a b : Dr} {x y : Sn} (h : G r = some (m, .trade k x y)) : newF G g (.pay r k a b) = some (.once, y) := by simp only [newF, h]
theorem chk_row {t : Dr} {G : Sco} {g : Sn} {lv : Nat} (h : Chk t G g lv) : RowOk G g t := by
  cases t with
  | own r => exact h
  | take b => obtain ⟨m, x, y, e, _⟩ := h; exact ⟨m, x, y, e⟩
  | offer a b => obtain ⟨x, y, e, _⟩ := h; exact ⟨x, y, e⟩
  | pick r s b => obtain ⟨m, x, y, e, _⟩ := h; exact ⟨m, x, y, e⟩
  | pay r k a b => obtain ⟨m, x, y, e, _⟩ := h; exact ⟨m, x, y, e⟩
  | cut m s a b => trivial
theorem one_at {α : Type} {a p : α} {i : Nat} (h : [a][i]? = some p) : i = 0 ∧ p = a := by
  match i, h with
  | 0, h => cases h; exact ⟨rfl, rfl⟩
  | i + 1, h => simp at h
theorem two_at {α : Type} {a b p : α} {i : Nat} (h : [a, b][i]? = some p) : (i = 0 ∧ p = a) ∨ (i = 1 ∧ p = b) := by
  match i, h with
  | 0, h => cases h; exact .inl ⟨rfl, rfl⟩
  | 1, h => cases h; exact .inr ⟨rfl, rfl⟩
  | i + 2, h => simp at h
theorem chk_kids {t : Dr} {G : Sco} {g : Sn} {lv : Nat} (h : Chk t G g lv) {i : Nat} {p : Plc} {u : Dr} (hp : (placesF G g t lv)[i]? = some p) (hu : t.kids[i]? = some u) : Chk u p.1 p.2.1 p.2.2 := by
  cases t with
  | own r => simp [Dr.kids] at hu
  | take b =>
    obtain ⟨m, x, y, rfl, h1, _⟩ := h
    obtain ⟨rfl, rfl⟩ := one_at hu
    cases hp
    exact h1
  | offer a b =>
    obtain ⟨x, y, rfl, h1, h2⟩ := h
    rcases two_at hu with ⟨rfl, rfl⟩ | ⟨rfl, rfl⟩
    · cases hp
      exact h1
    · cases hp
      exact h2
  | pick r s b =>
    obtain ⟨m, x, y, e, h1, _⟩ := h
    obtain ⟨rfl, rfl⟩ := one_at hu
    unfold placesF at hp
    rw [new_pick e] at hp
    cases hp
    exact h1
  | pay r k a b =>
    obtain ⟨m, x, y, e, h1, h2, _⟩ := h
    have e2 : placesF G g (.pay r k a b) lv = [(G, x, lv), (updF G (lvR lv) (.once, y), g, lv + 1)] := by
      unfold placesF
      rw [new_pay e]
      simp only [goalsF, e]
      rfl
    rw [e2] at hp
    rcases two_at hu with ⟨rfl, rfl⟩ | ⟨rfl, rfl⟩
    · cases hp
      exact h1
    · cases hp
      exact h2
  | cut m s a b =>
    obtain ⟨h1, h2, _⟩ := h
    rcases two_at hu with ⟨rfl, rfl⟩ | ⟨rfl, rfl⟩
    · cases hp
      exact h1
    · cases hp
      exact h2
theorem chk_fit {t : Dr} {G : Sco} {g : Sn} {lv : Nat} (h : Chk t G g lv) {p : Prr} (e : newF G g t = some p) : ∃ b j, t.kids.length = j + 1 ∧ t.kids[j]? = some b ∧ Fit b lv p.1 := by
  cases t with
  | own r => cases e
  | offer a b => cases e
  | take b =>
    obtain ⟨m, x, y, rfl, _, f⟩ := h
    cases e
    exact ⟨b, 0, rfl, rfl, f⟩
  | pick r s b =>
    obtain ⟨m, x, y, e1, _, f⟩ := h
    rw [new_pick e1] at e
    cases e
    exact ⟨b, 0, rfl, rfl, f⟩
  | pay r k a b =>
    obtain ⟨m, x, y, e1, _, _, f⟩ := h
    rw [new_pay e1] at e
    cases e
    exact ⟨b, 1, rfl, rfl, f⟩
  | cut m s a b =>
    obtain ⟨_, _, f⟩ := h
    cases e
    exact ⟨b, 1, rfl, rfl, f⟩
theorem kid_of {t u : Dr} {i : Nat} (h : t.kids[i]? = some u) : u.dp < t.dp ∧ u.sz < t.sz ∧ (t.Kn → u.Kn) := by
  cases t with
  | own r => simp [Dr.kids] at h
  | take b => obtain ⟨rfl, rfl⟩ := one_at h; exact ⟨by show _ < _ + 1; omega, by show _ < _ + 1; omega, id⟩
  | pick r s b => obtain ⟨rfl, rfl⟩ := one_at h; exact ⟨by show _ < _ + 1; omega, by show _ < _ + 1; omega, id⟩
  | offer a b =>
    rcases two_at h with ⟨rfl, rfl⟩ | ⟨rfl, rfl⟩
    · exact ⟨by show _ < max _ _ + 1; omega, by show _ < _ + _ + 1; omega, fun z => z.1⟩
    · exact ⟨by show _ < max _ _ + 1; omega, by show _ < _ + _ + 1; omega, fun z => z.2⟩
  | pay r k a b =>
    rcases two_at h with ⟨rfl, rfl⟩ | ⟨rfl, rfl⟩
    · exact ⟨by show _ < max _ _ + 1; omega, by show _ < _ + _ + 1; omega, fun z => z.2.1⟩
    · exact ⟨by show _ < max _ _ + 1; omega, by show _ < _ + _ + 1; omega, fun z => z.2.2⟩
  | cut m s a b =>
    rcases two_at h with ⟨rfl, rfl⟩ | ⟨rfl, rfl⟩
    · exact ⟨by show _ < max _ _ + 1; omega, by show _ < _ + _ + 1; omega, fun z => z.2.1⟩
    · exact ⟨by show _ < max _ _ + 1; omega, by show _ < _ + _ + 1; omega, fun z => z.2.2⟩
section
variable {P : Program} {w : World} {K : PySem.W.Frag} {mg : Str → Option Value} {base : Heap}
def spCheckPart (K : PySem.W.Frag) (d : Nat) : Sp := fun vs H Q _ => ∃ (lb gv v : V) (sc pa : Addr) (pxs : List V) (t : Dr) (g : Sn) (G : Sco) (n lv : Nat), vs = [lb, .ref sc, gv, v, iv lv, .ref pa] ∧ ScAt K H sc G n ∧ n + t.dp ≤ 50000 ∧ Tp K H gv g.dat ∧ Tp K H v t.dat ∧
  Chk t G g lv ∧ SqT K H pa pxs ∧ pxs.length + t.dp ≤ 50000 ∧ t.Kn ∧ t.sz ≤ 20000 ∧ t.dp < d ∧ ∀ H', Same H H' → Q .non H'
theorem check_step {k d D : Nat} (hD : d ≤ D) (T : Tx K mg w) (G_row_fault : FnOk P w K mg base CX0 k T.a_row_fault T.d_row_fault ["library", "scope", "goal", "row"] (spRow K))
    (G_premises : FnOk P w K mg base CX0 k T.a_premises T.d_premises ["derivation"] (spPremises K)) (G_places_above : FnOk P w K mg base CX0 k T.a_places_above T.d_places_above ["library", "scope", "goal", "row", "level"] (spPlaces K))
    (G_check_part : FnOk P w K mg base CX0 k T.a_check_part T.d_check_part ["library", "scope", "goal", "derivation", "level", "path"] (spCheckPart K d))
    (G_new_hold : FnOk P w K mg base CX0 k T.a_new_hold T.d_new_hold ["library", "scope", "goal", "row"] (spNew K)) (G_count_of : FnOk P w K mg base CX0 k T.a_count_of T.d_count_of ["derivation", "level", "ref"] (spCountOf K T.C_Count D))
    (G_Count_fits : FnOk P w K mg base CX0 k T.a_Count_fits T.d_Count_fits ["self", "kind"] (spCFits K T.C_Count)) :
    FnOk P w K mg base CX0 (k + 1) T.a_check_part T.d_check_part ["library", "scope", "goal", "derivation", "level", "path"] (spCheckPart K (d + 1)) := by
  refine T.F_check_part.ok sc_check_part (fun vs H Q E h => ?_) (fun cdv A outer s H vs Q E hr h => ?_)
  · obtain ⟨_, _, _, _, _, _, _, _, _, _, _, rfl, _⟩ := h
    rfl
  obtain ⟨lb, gv, v, sc, pa, pxs, t, g, G, n, lv, rfl, hsc, hn, hg, hv, hc, hpa, hpl, hkn, hsz, hdp, q⟩ := h
  have hu := hu_of hr
  have ok := chk_row hc
  obtain ⟨L1, L2, L3, L4⟩ := row_len ok
  refine ⟨_, (pss_cons (ps_set (i := 6) sc_check_part.nd rfl (Or.inl rfl) (pe_call G_row_fault hr (by rfl) T.m_row_fault T.F_row_fault.kp T.b_row_fault .nil pass0 (pa_cons (pv 0) (pa_cons (pv 1) (pa_cons (pv 2) (pa_cons (pv 3) pa_nil))))))
      (pss_cons (ps_if (pt_cmpR op_notN (pv 6) pe_non (nomark _)) (pss_one ps_never) pss_nil)
      (pss_cons (ps_set (i := 7) sc_check_part.nd rfl (Or.inl rfl) (pe_call G_premises hr (by rfl) T.m_premises T.F_premises.kp T.b_premises .nil pass0 (pa_cons (pv 3) pa_nil)))
      (pss_cons (ps_set (i := 8) sc_check_part.nd rfl (Or.inl rfl) (pe_call G_places_above hr (by rfl) T.m_places_above T.F_places_above.kp T.b_places_above .nil pass0 (pa_cons (pv 0) (pa_cons (pv 1) (pa_cons (pv 2) (pa_cons (pv 3) (pa_cons (pv 4) pa_nil)))))))
      (pss_cons (ps_for PassesOwn.never rfl (pi_range1 (by rfl) T.z_range (pa_cons (pe_callB (lenS K) (by rfl) T.z_len PySem.boot_len (pa_cons (pv 7) pa_nil)) pa_nil)) (pg_name (i := 9) sc_check_part.nd rfl (Or.inl rfl)) (pss_cons (ps_asg (pe_ix (ixL K) (pv 8) (pv 9) (fun _ _ => rfl)) (tupK (n := 3) K rfl (pgs_cons (pg_name (i := 10) sc_check_part.nd rfl (Or.inl rfl)) (pgs_cons (pg_name (i := 11) sc_check_part.nd rfl (Or.inl rfl)) (pgs_cons (pg_name (i := 12) sc_check_part.nd rfl (Or.inl rfl)) pgs_nil)))))
      (pss_one (ps_expr (pe_call G_check_part hr (by rfl) T.m_check_part T.F_check_part.kp T.b_check_part .nil pass0 (pa_cons (pv 0) (pa_cons (pv 10) (pa_cons (pv 11) (pa_cons (pe_ix (ixL K) (pv 7) (pv 9) (fun _ _ => rfl)) (pa_cons (pv 12) (pa_cons (pe_op (catA K) (pv 5) (pe_tup (pa_cons (pv 9) pa_nil))) pa_nil)))))))))))
      (pss_cons (ps_set (i := 13) sc_check_part.nd rfl (Or.inl rfl) (pe_call G_new_hold hr (by rfl) T.m_new_hold T.F_new_hold.kp T.b_new_hold .nil pass0 (pa_cons (pv 0) (pa_cons (pv 1) (pa_cons (pv 2) (pa_cons (pv 3) pa_nil))))))
      (pss_one (ps_if (PW.pt (pw_and (pt_cmpR op_notN (pv 13) pe_non (nomark _)) (pw_and1 (pt_not (pt_val (pe_meth (pe_call G_count_of hr (by rfl) T.m_count_of T.F_count_of.kp T.b_count_of .nil pass0 (pa_cons (pe_ix (ixL K) (pv 7) (pe_op op_sub (pe_callB (lenS K) (by rfl) T.z_len PySem.boot_len (pa_cons (pv 7) pa_nil)) pe_int) (fun _ _ => rfl)) (pa_cons (pe_op op_add (pv 4) pe_int) (pa_cons (pv 4) pa_nil)))) T.cl_Count T.mt_Count_fits G_Count_fits hr T.b_Count_fits .nil pass0 (pa_cons (pe_ix (ixT K) (pv 13) pe_int (fun _ _ => rfl)) pa_nil))))))) (pss_one ps_never) pss_nil)))))))), ?_⟩
  refine ⟨_, rfl, _, rfl, _, rfl, _, rfl, lb, gv, v, sc, t, g, G, n, rfl, hsc, hg, hv, ok, fun H1 s1 => ?_⟩
  refine ⟨_, rfl, rfl, _, rfl, ?_⟩
  rw [ne_same rfl]
  refine iteF ?_
  refine ⟨_, rfl, v, t, rfl, hv.s s1, fun H2 l ys s2 nl hl hys => ?_⟩
  have s12 := s1.trans s2
  refine ⟨_, rfl, _, rfl, _, rfl, _, rfl, _, rfl, lb, gv, v, sc, t, g, G, n, lv, rfl, sc_same hsc s12, by omega, hg.s s12, hv.s s12, ok, fun H3 p ps s3 np hp hps => ?_⟩
  have s13 := s12.trans s3
  have ylen := hys.len
  rw [List.length_map] at ylen
  refine ⟨_, rfl, l, _, rfl, .inl (at_l (s3 _ _ hl)), _, rfl, by omega, by omega, ?_⟩
  refine for_range (n := ys.length) (fun i σ' H' => Same H3 H' ∧ ∃ x9 x10 x11 x12 x13, σ' = [some lb, some (.ref sc), some gv, some v, some (iv lv), some (.ref pa), some .non, some (.ref l), some (.ref p), x9, x10, x11, x12, x13])
    ⟨Same.refl _, none, none, none, none, none, rfl⟩ ?_ ?_
  · rintro i σ' H' hi ⟨sm, x9, x10, x11, x12, x13, rfl⟩
    have plen : (placesF G g t lv).length = t.kids.length := by
      unfold placesF
      rw [List.length_map, List.length_zip]
      omega
    obtain ⟨pl, hpl1⟩ : ∃ pl, (placesF G g t lv)[i]? = some pl := ⟨_, List.getElem?_eq_getElem (by omega)⟩
    obtain ⟨u, hu1⟩ : ∃ u, t.kids[i]? = some u := ⟨_, List.getElem?_eq_getElem (by omega)⟩
    obtain ⟨py, hpy, pc, psc, pgv, rfl, hq, hsc2, hgv2⟩ := (hps.s sm).2 i pl hpl1
    obtain ⟨uv, huv, hut⟩ := (hys.s (s3.trans sm)).get (i := i) (d := u.dat) (by rw [List.getElem?_map, hu1]; rfl)
    obtain ⟨hk1, hk2, hk3⟩ := kid_of hu1
    have ck := chk_kids hc hpl1 hu1
    have hl' := sm _ _ (s3 _ _ hl)
    refine ⟨_, rfl, _, rfl, p, _, _, _, rfl, rfl, at_l (sm _ _ hp), at_nat hpy, ?_⟩
    refine ⟨pc, _, rfl, hq, rfl, _, _, rfl, _, _, rfl, _, _, rfl, rfl, ?_⟩
    refine ⟨_, rfl, _, rfl, _, rfl, _, rfl, _, rfl, l, _, _, uv, rfl, rfl, at_l hl', at_nat huv, _, rfl, ?_⟩
    refine ⟨_, rfl, _, rfl, (by show 1 ≤ sizeLine; decide), fun e ne => ?_⟩
    have se : Same H' (upd H' e (.tup [.int (0 + (i : Int))])) := Same.new ne
    have he : SqT K (upd H' e (.tup [.int (0 + (i : Int))])) e [.int (0 + (i : Int))] := at_t upd_same
    generalize upd H' e (.tup [.int (0 + (i : Int))]) = H5 at se he ⊢
    have s15 := (s13.trans sm).trans se
    refine ⟨pa, e, pxs, _, rfl, rfl, (kpT_same s15).tup hpa, he, sz1 (by show pxs.length + 1 ≤ 100000; omega), fun _ => ?_, fun _ z => (by cases z), fun _ _ f nf => ?_⟩
    · exact ⟨lb, pgv, uv, psc, e, _, u, pl.2.1, pl.1, n + 1, pl.2.2, rfl, sc_same hsc2 (se.trans (Same.refl _)), by omega, hgv2.s (se.trans (Same.refl _)), hut.s (se.trans (Same.refl _)), ck, he, by show 1 + _ ≤ _; omega, hk3 hkn, by omega, by omega, fun H7 s7 => ⟨((sm.trans se).trans (Same.refl _)).trans s7, _, _, _, _, _, rfl⟩⟩
    · exact ⟨lb, pgv, uv, psc, f, _, u, pl.2.1, pl.1, n + 1, pl.2.2, rfl, sc_same hsc2 (se.trans (Same.new nf)), by omega, hgv2.s (se.trans (Same.new nf)), hut.s (se.trans (Same.new nf)), ck, at_t upd_same, by rw [List.length_append]; show _ + 1 + _ ≤ _; omega, hk3 hkn, by omega, by omega, fun H7 s7 => ⟨((sm.trans se).trans (Same.new nf)).trans s7, _, _, _, _, _, rfl⟩⟩
  · rintro σ' H' ⟨sm, x9, x10, x11, x12, x13, rfl⟩
    have s14 := s13.trans sm
    refine ⟨_, rfl, _, rfl, _, rfl, _, rfl, lb, gv, v, sc, t, g, G, n, rfl, sc_same hsc s14, hg.s s14, hv.s s14, ok, fun H5 hd s5 hhd => ?_⟩
    refine ⟨_, rfl, rfl, ?_⟩
    cases en : newF G g t with
    | none =>
      rw [en] at hhd
      obtain rfl : hd = .non := hhd
      refine ⟨false, by rw [ne_same rfl], ?_⟩
      exact iteF (iteF (q _ (s14.trans s5)))
    | some h =>
      rw [en] at hhd
      obtain ⟨ha, hm, hs, rfl, hq, hhm, _⟩ := pr_at hhd
      refine ⟨true, rfl, iteT ?_⟩
      obtain ⟨b, j, hj1, hj2, hfit⟩ := chk_fit hc en
      obtain ⟨hk1, hk2, hk3⟩ := kid_of hj2
      have s35 := (s3.trans sm).trans s5
      obtain ⟨uv, huv, hut⟩ := (hys.s s35).get (i := j) (d := b.dat) (by rw [List.getElem?_map, hj2]; rfl)
      have hl5 := s35 _ _ hl
      refine ⟨_, rfl, _, rfl, l, _, rfl, .inl (at_l hl5), _, _, rfl, rfl, l, _, _, uv, rfl, rfl, at_l hl5, at_of (j := j) (by omega) huv, ?_⟩
      refine ⟨_, rfl, _, _, rfl, rfl, _, rfl, ?_⟩
      refine ⟨uv, lv + 1, lvR lv, b, rfl, hut, hk3 hkn, by omega, by omega, fun H6 c s6 hct => ?_⟩
      obtain ⟨cx, dx, rfl, hcx⟩ := id hct
      refine ⟨cx, dx, _, rfl, hcx, ?_⟩
      refine ⟨cf_no, _, rfl, ha, _, 0, _, rfl, rfl, (kpT_same s6).tup hq, rfl, ?_⟩
      refine ⟨.ref cx, _, _, h.1, rfl, hct, hhm.s s6, hfit, true, rfl, iteF ?_⟩
      exact q _ (s14.trans (s5.trans s6))
end
end W81
namespace W81
open PySem PySem.Spec PyProof.Rows L2 HX
/-! ### claims that are shown -/
section
variable {P : Program} {w : World} {K : PySem.W.Frag} {mg : Str → Option Value} {base : Heap}
def Shown (t : Dr) (c : Clm) : Prop := Chk t (scF c.1) c.2 0 ∧ ∀ h, h ∈ c.1 → C3.fits ((t.cn 0 (nmR h.1)).getD C3.zero) h.2.1 = true
def spCheck (K : PySem.W.Frag) (D : Nat) : Sp := fun vs H Q _ => ∃ (lb cv v : V) (t : Dr) (c : Clm), vs = [lb, cv, v] ∧ Tp K H cv (clmD c) ∧ Tp K H v t.dat ∧ Shown t c ∧ c.1.length ≤ 1000 ∧ t.Kn ∧ t.sz ≤ 20000 ∧ t.dp < D ∧ t.dp ≤ 1000 ∧ ∀ H', Same H H' → Q .non H'
theorem ok_check {k D : Nat} (T : Tx K mg w) (G_check_part : FnOk P w K mg base CX0 (k + 1) T.a_check_part T.d_check_part ["library", "scope", "goal", "derivation", "level", "path"] (spCheckPart K D))
    (G_scope_of : FnOk P w K mg base CX0 (k + 1) T.a_scope_of T.d_scope_of ["claim"] (spScopeOf K)) (G_counts : FnOk P w K mg base CX0 (k + 1) T.a_counts T.d_counts ["derivation", "level"] (spCounts K T.C_Count D))
    (G_Count__init : FnOk P w K mg base CX0 k T.a_Count__init T.d_Count__init ["self", "least", "most", "days"] (spCInit T.C_Count)) (G_Count_fits : FnOk P w K mg base CX0 (k + 1) T.a_Count_fits T.d_Count_fits ["self", "kind"] (spCFits K T.C_Count)) :
    FnOk P w K mg base CX0 (k + 2) T.a_check T.d_check ["library", "claim", "derivation"] (spCheck K D) := by
  refine T.F_check.ok sc_check (fun vs H Q E h => ?_) (fun cdv A outer s H vs Q E hr h => ?_)
  · obtain ⟨_, _, _, _, _, rfl, _⟩ := h
    rfl
  obtain ⟨lb, cv, v, t, c, rfl, hcv, hv, ⟨hc, hfit⟩, hlen, hkn, hsz, hd, hd2, q⟩ := h
  have hu := hu_of hr
  refine ⟨_, (pss_cons (ps_expr (pe_call G_check_part hr (by rfl) T.m_check_part T.F_check_part.kp T.b_check_part .nil pass0 (pa_cons (pv 0) (pa_cons (pe_call G_scope_of hr (by rfl) T.m_scope_of T.F_scope_of.kp T.b_scope_of .nil pass0 (pa_cons (pv 1) pa_nil)) (pa_cons (pe_ix (ixT K) (pv 1) pe_int (fun _ _ => rfl)) (pa_cons (pv 2) (pa_cons pe_int (pa_cons (pe_tup pa_nil) pa_nil))))))))
      (pss_cons (ps_set (i := 3) sc_check.nd rfl (Or.inl rfl) (pe_call G_counts hr (by rfl) T.m_counts T.F_counts.kp T.b1_counts T.v_counts pass0 (pa_cons (pv 2) pa_nil)))
      (pss_one (ps_for PassesOwn.never rfl (piT K (pe_ix (ixT K) (pv 1) pe_int (fun _ _ => rfl))) (tupK (n := 3) K rfl (pgs_cons (pg_name (i := 4) sc_check.nd rfl (Or.inl rfl)) (pgs_cons (pg_name (i := 5) sc_check.nd rfl (Or.inl rfl)) (pgs_cons (pg_name (i := 6) sc_check.nd rfl (Or.inl rfl)) pgs_nil)))) (pss_one (ps_if (pt_not (pt_val (pe_meth (pe_dget2 hu (pv 3) (pv 4) (pe_make T.k_Count G_Count__init hr (by rfl) T.c_Count T.b_Count__init .nil pass0 (pa_cons pe_int (pa_cons pe_int (pa_cons pe_int pa_nil)))) ⟨rfl, rfl, rfl, rfl⟩) T.cl_Count T.mt_Count_fits G_Count_fits hr T.b_Count_fits .nil pass0 (pa_cons (pv 5) pa_nil)))) (pss_one ps_never) pss_nil)))))), ?_⟩
  have hcv0 := hcv
  obtain ⟨a, ha, hs, gv, rfl, h1, h2, h3, h4⟩ := clm_at hcv
  have len := h3.len
  rw [List.length_map] at len
  refine ⟨_, rfl, _, rfl, .ref a, c, rfl, hcv0, hlen, fun sc H1 s1 nsc hsc => ?_⟩
  refine ⟨_, rfl, a, _, 1, _, rfl, rfl, (kpT_same s1).tup h1, rfl, _, rfl, ?_⟩
  refine ⟨(by show 0 ≤ sizeLine; decide), fun e ne => ?_⟩
  have se : Same H1 (upd H1 e (.tup [])) := Same.new ne
  have he : SqT K (upd H1 e (.tup [])) e [] := at_t upd_same
  generalize upd H1 e (.tup []) = H2 at se he ⊢
  have s2 := s1.trans se
  refine ⟨lb, gv, v, sc, e, [], t, c.2, scF c.1, c.1.length, 0, rfl, sc_same hsc se, by omega, h4.s s2, hv.s s2, hc, he, by show 0 + _ ≤ _; omega, hkn, hsz, hd, fun H3 s3 => ?_⟩
  have s13 := s2.trans s3
  refine ⟨_, rfl, v, 0, t, rfl, hv.s s13, hkn, hsz, hd, fun f H4 s4 nf hf => ?_⟩
  have s14 := s13.trans s4
  refine ⟨_, rfl, a, _, 0, _, rfl, rfl, (kpT_same s14).tup h1, rfl, ha, rfl, ⟨hs, (kpT_same s14).tup h2⟩, ?_⟩
  refine for_tup (xs := hs) (fun i σ' H' => Same H4 H' ∧ ∃ x4 x5 x6, σ' = [some lb, some (.ref a), some v, some (.ref f), x4, x5, x6]) ⟨Same.refl _, none, none, none, rfl⟩ (fun i σ' H' _ z => (kpT_same (s14.trans z.1)).tup h2) ?_ ?_
  · rintro i x σ' H' hx ⟨sm, x4, x5, x6, rfl⟩
    obtain ⟨d, hd, hxd⟩ := h3.getL hx
    rw [List.getElem?_map] at hd
    cases e : c.1[i]? with
    | none => rw [e] at hd; cases hd
    | some h =>
      rw [e] at hd
      cases hd
      obtain ⟨b, mv, sv, rfl, hb, hm, hsn⟩ := hold_at (hxd.s (s14.trans sm))
      refine ⟨b, _, rfl, hb, rfl, _, _, rfl, _, _, rfl, _, _, rfl, rfl, ?_⟩
      obtain ⟨ks, hk, dk, _⟩ := hf
      have hk' := sm _ _ hk
      have hft := hfit h (List.mem_of_getElem? e)
      refine ⟨_, rfl, f, rfl, .inl ⟨_, .inl hk'⟩, _, rfl, fun z dz nz ndz ne => make_ct1 (t := C3.zero) rfl nz ndz ne fun H5 s5 h5 => ⟨rfl, ?_⟩⟩
      rcases dk.get (nmR h.1) with ⟨v1, t1, e1, e2, r1⟩ | ⟨e1, e2⟩
      · have r5 := (r1.same sm).same s5
        rw [e2] at hft
        refine ⟨_, dget_k (s5 _ _ hk') e1, ?_⟩
        obtain ⟨cx, dx, rfl, hcx⟩ := id r5
        refine ⟨cx, dx, _, rfl, hcx, cf_no, _, rfl, ?_⟩
        exact ⟨.ref cx, _, _, h.2.1, rfl, r5, hm.s s5, hft, true, rfl, iteF ⟨sm.trans s5, _, _, _, rfl⟩⟩
      · rw [e2] at hft
        refine ⟨_, dget_k (s5 _ _ hk') e1, ?_⟩
        obtain ⟨cx, dx, e6, hcx⟩ := id h5
        refine ⟨cx, dx, _, e6, hcx, cf_no, _, rfl, ?_⟩
        exact ⟨_, _, _, h.2.1, rfl, h5, hm.s s5, hft, true, rfl, iteF ⟨sm.trans s5, _, _, _, rfl⟩⟩
  · rintro σ' H' ⟨sm, x4, x5, x6, rfl⟩
    exact q H' (s14.trans sm)
def spAccepts (K : PySem.W.Frag) (D : Nat) : Sp := fun vs H Q _ => ∃ (lb cv v : V) (t : Dr) (c : Clm), vs = [lb, cv, v] ∧ Tp K H cv (clmD c) ∧ Tp K H v t.dat ∧ Shown t c ∧ c.1.length ≤ 1000 ∧ t.Kn ∧ t.sz ≤ 20000 ∧ t.dp < D ∧ t.dp ≤ 1000 ∧ ∀ H', Same H H' → Q (.bl true) H'
theorem ok_accepts {k D : Nat} (T : Tx K mg w) (G_check : FnOk P w K mg base CX0 k T.a_check T.d_check ["library", "claim", "derivation"] (spCheck K D)) :
    FnOk P w K mg base CX0 (k + 1) T.a_accepts T.d_accepts ["library", "claim", "derivation"] (spAccepts K D) := by
  refine T.F_accepts.ok sc_accepts (fun vs H Q E h => ?_) (fun cdv A outer s H vs Q E hr h => ?_)
  · obtain ⟨_, _, _, _, _, rfl, _⟩ := h
    rfl
  obtain ⟨lb, cv, v, t, c, rfl, hcv, hv, sh, hlen, hkn, hsz, hd, hd2, q⟩ := h
  refine ⟨_, (pss_cons (ps_try_thru0 (pss_one (ps_expr (pe_call G_check hr (by rfl) T.m_check T.F_check.kp T.b_check .nil pass0 (pa_cons (pv 0) (pa_cons (pv 1) (pa_cons (pv 2) pa_nil)))))))
      (pss_one (ps_ret pe_bl))), ?_⟩
  exact ⟨_, rfl, _, rfl, _, rfl, lb, cv, v, t, c, rfl, hcv, hv, sh, hlen, hkn, hsz, hd, hd2, fun H1 s1 => q H1 s1⟩
end
end W81
namespace HX
open PySem PySem.Spec PyProof.Rows L2
/-! ### data in a tuple -/
theorem room65 {k : Nat} {A : Around} (r : Room k A) : A.units + 65 < cLine := by have := r.un; omega
def rInT (K : PySem.W.Frag) : R2 := fun x y H Q => ∃ d ds, Dp K H x d ∧ Dp K H y (.tuple ds) ∧ SeqAt.shaped d = true ∧ SeqAt.shaped (.tuple ds) = true ∧ Q (.bl (ds.any fun z => PyData.eqv z d)) H
theorem inT {X : Cx} (K : PySem.W.Frag) (hu : X.A.units + 65 < cLine) (h : X.K = K := by rfl) : OpR X (compareOp .In) (rInT K) := by
  subst h
  intro pins s σ H x y v u Q I rx ry h
  obtain ⟨d, ds, hd, he, sd, se, q⟩ := h
  obtain ⟨as, r1⟩ := Dp.reads I d x v hd rx
  obtain ⟨bs, r2⟩ := Dp.reads I (.tuple ds) y u he ry
  have hr : X.A.units + 1 + min (PyData.depthAll ds) d.depth < cLine := by
    have := SeqAt.depth_of_shaped sd
    have := Nat.min_le_right (PyData.depthAll ds) d.depth
    omega
  exact SeqAt.in_tuple_reads r2 r1 (SeqAt.canLay_of_shaped se) (SeqAt.canLay_of_shaped sd) hr ⟨.bl _, H, I, rfl, q⟩
theorem bl_beq (a b : Bool) : (Value.bool a == Value.bool b) = decide (a = b) := by cases a <;> cases b <;> rfl
theorem op_isBl {X : Cx} : OpR X (compareOp .Is) (fun x y H Q => ∃ a b : Bool, x = .bl a ∧ y = .bl b ∧ Q (.bl (decide (a = b))) H) := by
  intro pins s σ H x y v u Q I rx ry h
  obtain ⟨a, b, rfl, rfl, q⟩ := h
  cases (show v = Value.bool a from rx)
  cases (show u = Value.bool b from ry)
  exact wpAny_is_plain rfl (fin_bl I q (bl_beq a b).symm)
theorem op_notBl {X : Cx} : OpR X (compareOp .IsNot) (fun x y H Q => ∃ a b : Bool, x = .bl a ∧ y = .bl b ∧ Q (.bl (!decide (a = b))) H) := by
  intro pins s σ H x y v u Q I rx ry h
  obtain ⟨a, b, rfl, rfl, q⟩ := h
  cases (show v = Value.bool a from rx)
  cases (show u = Value.bool b from ry)
  exact wpAny_isNot_plain rfl (fin_bl I q (congrArg not (bl_beq a b).symm))
end HX
namespace W81
open PySem PySem.Spec PyProof.Rows L2 HX
/-! ### kinds and names -/
def Kd.Ok : Kd → Prop
  | .once => True
  | .box n _ => 1 ≤ n
section
variable {P : Program} {w : World} {K : PySem.W.Frag} {mg : Str → Option Value} {base : Heap}
theorem ty_tup {K : PySem.W.Frag} {H : Hp} {a : Addr} {xs : List V} (h : SqT K H a xs) : TyX K H (.ref a) (.type "tuple") := by
  rcases h with (h | ⟨o, h⟩) | ⟨o, its, n, h, c, _⟩
  · exact .base (.tup h)
  · exact .fTuple h
  · exact .kTuple h c
def spIsNumber : Sp := fun vs H Q _ => ∃ i : Int, vs = [.int i] ∧ Q (.bl true) H
theorem ok_is_number {k : Nat} (T : Tx K mg w) : FnOk P w K mg base CX0 (k + 1) T.a_is_number T.d_is_number ["value"] spIsNumber := by
  refine T.F_is_number.ok sc_is_number (fun vs H Q E h => ?_) (fun cdv A outer s H vs Q E hr h => ?_)
  · obtain ⟨_, rfl, _⟩ := h
    rfl
  obtain ⟨i, rfl, q⟩ := h
  refine ⟨_, (pss_one (ps_ret (pe_and (pe_callB (isiS K) (by rfl) T.z_isinstance (by decide +kernel) (pa_cons (pv 0) (pa_cons (pe_bltn (v := .ty "int") (by rfl) T.z_int (by decide +kernel) rfl) pa_nil))) (pe_one (pe_not (pe_callB (isiS K) (by rfl) T.z_isinstance (by decide +kernel) (pa_cons (pv 0) (pa_cons (pe_bltn (v := .ty "bool") (by rfl) T.z_bool (by decide +kernel) rfl) pa_nil)))))))), ?_⟩
  refine ⟨_, rfl, _, _, _, _, _, rfl, .ty _, .base (.int i), kit_ty (r := true) (by decide +kernel), true, rfl, ?_⟩
  refine iteT ?_
  exact ⟨_, rfl, _, _, _, _, _, rfl, .ty _, .base (.int i), kit_ty (r := false) (by decide +kernel), false, rfl, q⟩
def spIsKind (K : PySem.W.Frag) : Sp := fun vs H Q _ => ∃ (v : V) (m : Kd), vs = [v] ∧ Tp K H v m.dat ∧ m.Ok ∧ Q (.bl true) H
theorem ok_is_kind {k : Nat} (T : Tx K mg w) (G_is_number : FnOk P w K mg base CX0 k T.a_is_number T.d_is_number ["value"] spIsNumber) : FnOk P w K mg base CX0 (k + 1) T.a_is_kind T.d_is_kind ["value"] (spIsKind K) := by
  refine T.F_is_kind.ok sc_is_kind (fun vs H Q E h => ?_) (fun cdv A outer s H vs Q E hr h => ?_)
  · obtain ⟨_, _, rfl, _⟩ := h
    rfl
  obtain ⟨v, m, rfl, hm, ok, q⟩ := h
  refine ⟨_, (pss_cons (ps_if (pt_val (pe_callB (isiS K) (by rfl) T.z_isinstance (by decide +kernel) (pa_cons (pv 0) (pa_cons (pe_bltn (v := .ty "str") (by rfl) T.z_str (by decide +kernel) rfl) pa_nil)))) (pss_one (ps_ret (pe_cmpR (eqD K hr.units) (pv 0) pe_str (nomark _)))) pss_nil)
      (pss_cons (ps_if (PW.pt (pw_or (pt_not (pt_val (pe_callB (isiS K) (by rfl) T.z_isinstance (by decide +kernel) (pa_cons (pv 0) (pa_cons (pe_bltn (v := .ty "tuple") (by rfl) T.z_tuple (by decide +kernel) rfl) pa_nil))))) (pw_or1 (pt_cmpR op_ne (pe_callB (lenS K) (by rfl) T.z_len PySem.boot_len (pa_cons (pv 0) pa_nil)) pe_int (nomark _))))) (pss_one (ps_ret pe_bl)) pss_nil)
      (pss_cons (ps_if (PW.pt (pw_or (pt_not (pt_val (pe_call G_is_number hr (by rfl) T.m_is_number T.F_is_number.kp T.b_is_number .nil pass0 (pa_cons (pe_ix (ixT K) (pv 0) pe_int (fun _ _ => rfl)) pa_nil)))) (pw_or1 (pt_not (pt_val (pe_call G_is_number hr (by rfl) T.m_is_number T.F_is_number.kp T.b_is_number .nil pass0 (pa_cons (pe_ix (ixT K) (pv 0) pe_int (fun _ _ => rfl)) pa_nil))))))) (pss_one (ps_ret pe_bl)) pss_nil)
      (pss_one (ps_ret (pe_and (pe_cmpR op_ge (pe_ix (ixT K) (pv 0) pe_int (fun _ _ => rfl)) pe_int (nomark _)) (pe_one (pe_cmpR op_ge (pe_ix (ixT K) (pv 0) pe_int (fun _ _ => rfl)) pe_int (nomark _))))))))), ?_⟩
  cases m with
  | once =>
    obtain rfl := hm.str_
    refine ⟨_, rfl, _, _, _, _, true, rfl, .ty _, .base (.str _), kit_ty (by decide +kernel), _, rfl, iteT ?_⟩
    refine ⟨_, rfl, _, _, kd_dp hm, .str _, kd_shaped .once, once_shaped, ?_⟩
    rw [kd_eqv]
    exact q
  | box n d =>
    obtain ⟨a, rfl, ha⟩ := kd_box hm
    refine ⟨_, rfl, _, _, _, _, false, rfl, .ty _, ty_tup ha, kit_ty (by decide +kernel), _, rfl, iteF ?_⟩
    refine ⟨_, rfl, _, _, _, _, true, rfl, .ty _, ty_tup ha, kit_ty (by decide +kernel), _, rfl, iteF ?_⟩
    refine ⟨_, rfl, a, _, rfl, .inr ha, rfl, _, rfl, iteF ?_⟩
    refine ⟨_, rfl, a, _, 0, _, rfl, rfl, ha, rfl, _, rfl, _, rfl, iteF ?_⟩
    refine ⟨_, rfl, a, _, 1, _, rfl, rfl, ha, rfl, _, rfl, _, rfl, iteF ?_⟩
    refine ⟨_, rfl, a, _, 0, _, rfl, rfl, ha, rfl, _, _, rfl, rfl, ?_⟩
    have e1 : decide ((1 : Int) ≤ (n : Int)) = true := decide_eq_true (by have : 1 ≤ n := ok; omega)
    have e2 : decide ((0 : Int) ≤ (d : Int)) = true := decide_eq_true (by omega)
    dsimp only
    rw [e1]
    refine ⟨_, rfl, iteT ?_⟩
    refine ⟨_, rfl, a, _, 1, _, rfl, rfl, ha, rfl, _, _, rfl, rfl, ?_⟩
    dsimp only
    rw [e2]
    exact q
def spPooled (K : PySem.W.Frag) : Sp := fun vs H Q _ => ∃ (v u : V) (n1 d1 n2 d2 : Nat), vs = [v, u] ∧ Tp K H v (Kd.box n1 d1).dat ∧ Tp K H u (Kd.box n2 d2).dat ∧ ∀ z H', Same H H' → Tp K H' z (Kd.box (n1 + n2) (max d1 d2)).dat → Q z H'
theorem ok_pooled {k : Nat} (T : Tx K mg w) : FnOk P w K mg base CX0 (k + 1) T.a_pooled T.d_pooled ["first", "second"] (spPooled K) := by
  refine T.F_pooled.ok sc_pooled (fun vs H Q E h => ?_) (fun cdv A outer s H vs Q E hr h => ?_)
  · obtain ⟨_, _, _, _, _, _, rfl, _⟩ := h
    rfl
  obtain ⟨v, u, n1, d1, n2, d2, rfl, hv, hu1, q⟩ := h
  refine ⟨_, (pss_cons (ps_for PassesOwn.never rfl (piT K (pe_tup (pa_cons (pv 0) (pa_cons (pv 1) pa_nil)))) (pg_name (i := 2) sc_pooled.nd rfl (Or.inl rfl)) (pss_one (ps_if (pt_cmpR (eqD K hr.units) (pv 2) pe_str (nomark _)) (pss_one ps_never) pss_nil)))
      (pss_one (ps_ret (pe_tup (pa_cons (pe_op op_add (pe_ix (ixT K) (pv 0) pe_int (fun _ _ => rfl)) (pe_ix (ixT K) (pv 1) pe_int (fun _ _ => rfl))) (pa_cons (pe_callB (call_max2 rfl) (by rfl) T.z_max (by decide +kernel) (pa_cons (pe_ix (ixT K) (pv 0) pe_int (fun _ _ => rfl)) (pa_cons (pe_ix (ixT K) (pv 1) pe_int (fun _ _ => rfl)) pa_nil))) pa_nil)))))), ?_⟩
  refine ⟨_, rfl, _, rfl, (by show 2 ≤ sizeLine; decide), fun e ne => ?_⟩
  have s1 : Same H (upd H e (.tup [v, u])) := Same.new ne
  have he : SqT K (upd H e (.tup [v, u])) e [v, u] := at_t upd_same
  generalize upd H e (.tup [v, u]) = H1 at s1 he ⊢
  have hv1 := hv.s s1
  have hu2 := hu1.s s1
  refine ⟨e, rfl, ⟨_, he⟩, ?_⟩
  refine for_tup (xs := [v, u]) (fun i σ' H' => H' = H1 ∧ ∃ x2, σ' = [some v, some u, x2]) ⟨rfl, none, rfl⟩ (fun i σ' H' _ z => by rw [z.1]; exact he) ?_ ?_
  · rintro i x σ' H' hx ⟨rfl, x2, rfl⟩
    have hx' : ∃ n d, Tp K H' x (Kd.box n d).dat := by
      rcases two_at hx with ⟨_, rfl⟩ | ⟨_, rfl⟩
      · exact ⟨_, _, hv1⟩
      · exact ⟨_, _, hu2⟩
    obtain ⟨n, d, hxd⟩ := hx'
    refine ⟨_, rfl, _, _, kd_dp hxd, .str _, kd_shaped _, once_shaped, _, rfl, ?_⟩
    rw [kd_eqv]
    exact iteF ⟨rfl, _, rfl⟩
  · rintro σ' H' ⟨rfl, x2, rfl⟩
    obtain ⟨a, rfl, ha⟩ := kd_box hv1
    obtain ⟨b, rfl, hb⟩ := kd_box hu2
    refine ⟨_, rfl, a, _, 0, _, rfl, rfl, ha, rfl, _, rfl, b, _, 0, _, rfl, rfl, hb, rfl, _, _, rfl, rfl, ?_⟩
    refine ⟨_, rfl, a, _, 1, _, rfl, rfl, ha, rfl, _, rfl, b, _, 1, _, rfl, rfl, hb, rfl, _, _, rfl, ?_⟩
    refine ⟨(by show 2 ≤ sizeLine; decide), fun z nz => ?_⟩
    have e1 : V.int (if (d2 : Int) > (d1 : Int) then (d2 : Int) else (d1 : Int)) = iv (max d1 d2) := by
      show V.int _ = V.int _
      congr 1
      split <;> omega
    rw [e1]
    exact q _ _ (s1.trans (Same.new nz)) (.mk upd_same (.cons (.int _) (.cons (.int _) .nil)))
def spCovers (K : PySem.W.Frag) : Sp := fun vs H Q _ => ∃ (v u : V) (n1 d1 n2 d2 : Nat), vs = [v, u] ∧ Tp K H v (Kd.box n1 d1).dat ∧ Tp K H u (Kd.box n2 d2).dat ∧ n2 ≤ n1 ∧ d2 ≤ d1 ∧ Q (.bl true) H
theorem ok_covers {k : Nat} (T : Tx K mg w) : FnOk P w K mg base CX0 (k + 1) T.a_covers T.d_covers ["room", "kind"] (spCovers K) := by
  refine T.F_covers.ok sc_covers (fun vs H Q E h => ?_) (fun cdv A outer s H vs Q E hr h => ?_)
  · obtain ⟨_, _, _, _, _, _, rfl, _⟩ := h
    rfl
  obtain ⟨v, u, n1, d1, n2, d2, rfl, hv, hu1, h1, h2, q⟩ := h
  refine ⟨_, (pss_cons (ps_if (pt_cmpR (eqD K hr.units) (pv 1) pe_str (nomark _)) (pss_one (ps_ret pe_bl)) pss_nil)
      (pss_cons (ps_if (pt_cmpR (eqD K hr.units) (pv 0) pe_str (nomark _)) (pss_one (ps_ret pe_bl)) pss_nil)
      (pss_one (ps_ret (pe_and (pe_cmpR op_le (pe_ix (ixT K) (pv 1) pe_int (fun _ _ => rfl)) (pe_ix (ixT K) (pv 0) pe_int (fun _ _ => rfl)) (nomark _)) (pe_one (pe_cmpR op_le (pe_ix (ixT K) (pv 1) pe_int (fun _ _ => rfl)) (pe_ix (ixT K) (pv 0) pe_int (fun _ _ => rfl)) (nomark _)))))))), ?_⟩
  refine ⟨_, rfl, _, _, kd_dp hu1, .str _, kd_shaped _, once_shaped, _, rfl, ?_⟩
  rw [kd_eqv]
  refine iteF ⟨_, rfl, _, _, kd_dp hv, .str _, kd_shaped _, once_shaped, _, rfl, ?_⟩
  rw [kd_eqv]
  refine iteF ?_
  obtain ⟨a, rfl, ha⟩ := kd_box hv
  obtain ⟨b, rfl, hb⟩ := kd_box hu1
  refine ⟨_, rfl, b, _, 0, _, rfl, rfl, hb, rfl, _, rfl, a, _, 0, _, rfl, rfl, ha, rfl, _, _, rfl, rfl, ?_⟩
  have e1 : decide ((n2 : Int) ≤ (n1 : Int)) = true := decide_eq_true (by omega)
  have e2 : decide ((d2 : Int) ≤ (d1 : Int)) = true := decide_eq_true (by omega)
  dsimp only
  rw [e1]
  refine ⟨_, rfl, iteT ?_⟩
  refine ⟨_, rfl, b, _, 1, _, rfl, rfl, hb, rfl, _, rfl, a, _, 1, _, rfl, rfl, ha, rfl, _, _, rfl, rfl, ?_⟩
  dsimp only
  rw [e2]
  exact q
end
end W81
namespace W81
open PySem PySem.Spec PyProof.Rows L2 HX
/-! ### names, claims -/
abbrev letters : List Nat := (("abcdefghijklmnopqrstuvwxyz" : Str)).cps.toList
abbrev digits : List Nat := (("0123456789" : Str)).cps.toList
def NameOk (x : Str) : Prop := x.cps.size ≤ 12 ∧ (∃ c r, x.cps.toList = c :: r ∧ c ∈ letters) ∧ ∀ c, c ∈ x.cps.toList → c ∈ letters ∨ c ∈ digits
section
variable {P : Program} {w : World} {K : PySem.W.Frag} {mg : Str → Option Value} {base : Heap}
def spIsName : Sp := fun vs H Q _ => ∃ x : Str, vs = [.str x] ∧ NameOk x ∧ Q (.bl true) H
theorem ok_is_name {k : Nat} (T : Tx K mg w) : FnOk P w K mg base CX0 (k + 1) T.a_is_name T.d_is_name ["text"] spIsName := by
  refine T.F_is_name.ok sc_is_name (fun vs H Q E h => ?_) (fun cdv A outer s H vs Q E hr h => ?_)
  · obtain ⟨_, rfl, _⟩ := h
    rfl
  obtain ⟨x, rfl, ⟨h1, ⟨c, r, hc, hl⟩, h3⟩, q⟩ := h
  refine ⟨_, (pss_cons (ps_if (PW.pt (pw_or (pt_not (pt_chain op_le op_le pe_int (pe_callB call_len_str (by rfl) T.z_len PySem.boot_len (pa_cons (pv 0) pa_nil)) (pe_glob (v := .int 12) (by rfl) T.m_LONGEST_NAME ⟨_, rfl⟩))) (pw_or1 (pt_cmpR op_notIn_sign (pe_ix ix_str (pv 0) pe_int (fun _ _ => rfl)) (pe_glob (v := .str "abcdefghijklmnopqrstuvwxyz") (by rfl) T.m_LETTERS ⟨_, rfl⟩) (by rfl))))) (pss_one (ps_ret pe_bl)) pss_nil)
      (pss_cons (ps_for PassesOwn.never rfl (pi_str (pv 0)) (pg_name (i := 1) sc_is_name.nd rfl (Or.inl rfl)) (pss_one (ps_if (PW.pt (pw_and (pt_cmpR op_notIn_sign (pv 1) (pe_glob (v := .str "abcdefghijklmnopqrstuvwxyz") (by rfl) T.m_LETTERS ⟨_, rfl⟩) (by rfl)) (pw_and1 (pt_cmpR op_notIn_sign (pv 1) (pe_glob (v := .str "0123456789") (by rfl) T.m_DIGITS ⟨_, rfl⟩) (by rfl))))) (pss_one (ps_ret pe_bl)) pss_nil)))
      (pss_one (ps_ret pe_bl)))), ?_⟩
  have hlen : x.length = x.cps.size := rfl
  have hpos : 1 ≤ x.cps.size := by
    have e : x.cps.toList.length = x.cps.size := by simp
    rw [hc] at e
    simp at e
    omega
  refine ⟨_, rfl, x, rfl, sz1 (by omega), _, _, rfl, rfl, _, rfl, ?_⟩
  rw [decide_eq_true (show (1 : Int) ≤ (x.length : Int) by omega)]
  refine iteT ?_
  refine ⟨_, _, rfl, rfl, _, rfl, ?_⟩
  rw [decide_eq_true (show (x.length : Int) ≤ 12 by omega)]
  refine iteF ?_
  refine ⟨_, rfl, x, 0, c, rfl, rfl, sz1 (by omega), by rw [hc]; exact atI_nat (j := 0) rfl, c, _, rfl, rfl, _, rfl, ?_⟩
  rw [decide_eq_true hl]
  refine iteF ?_
  refine ⟨_, rfl, x, rfl, ?_⟩
  refine for_it walk_str (fun i σ' H' => H' = H ∧ ∃ x1, σ' = [some (.str x), x1]) ⟨rfl, none, rfl⟩ (fun _ _ _ _ _ => trivial) ?_ ?_
  · rintro i y σ' H1 H' hi ⟨rfl, x1, rfl⟩ ⟨rfl, d, hd, rfl⟩
    have hm : d ∈ x.cps.toList := List.mem_of_getElem? (i := i) (by rw [Array.getElem?_toList]; exact hd)
    by_cases hl2 : d ∈ letters
    · refine ⟨_, rfl, d, _, rfl, rfl, _, rfl, ?_⟩
      rw [decide_eq_true hl2]
      exact iteF (iteF ⟨rfl, _, rfl⟩)
    · refine ⟨_, rfl, d, _, rfl, rfl, _, rfl, ?_⟩
      rw [decide_eq_false hl2]
      refine iteT ⟨_, rfl, d, _, rfl, rfl, _, rfl, ?_⟩
      rw [decide_eq_true ((h3 d hm).resolve_left hl2)]
      exact iteF ⟨rfl, _, rfl⟩
  · rintro σ' H' ⟨rfl, x1, rfl⟩
    exact q
theorem in_names {x : Str} {ns : List Str} (h : x ∉ ns) : inV (.str x) (ns.map V.str) = false := by
  unfold inV
  rw [List.any_map, List.any_eq_false]
  intro y hy
  show ¬ (y == x) = true
  intro z
  rw [beq_iff_eq] at z
  exact h (z ▸ hy)
theorem flat_names (ns : List Str) : (ns.map V.str).all flatV = true := by
  rw [List.all_map, List.all_eq_true]
  intro y hy
  rfl
def spMakeClaim (K : PySem.W.Frag) : Sp := fun vs H Q _ => ∃ (ha : Addr) (gv : V) (hs : List V) (c : Clm), vs = [.ref ha, gv] ∧ SqT K H ha hs ∧ TpAll K H hs (c.1.map holdD) ∧ Tp K H gv c.2.dat ∧ c.1.length ≤ 1000 ∧ (∀ h, h ∈ c.1 → NameOk h.1 ∧ h.2.1.Ok) ∧
  (c.1.map (·.1)).Nodup ∧ ∀ z H', Same H H' → Tp K H' z (clmD c) → Q z H'
theorem ok_make_claim {k : Nat} (T : Tx K mg w) (G_is_name : FnOk P w K mg base CX0 k T.a_is_name T.d_is_name ["text"] spIsName) (G_is_kind : FnOk P w K mg base CX0 k T.a_is_kind T.d_is_kind ["value"] (spIsKind K)) :
    FnOk P w K mg base CX0 (k + 1) T.a_make_claim T.d_make_claim ["holds", "goal"] (spMakeClaim K) := by
  refine T.F_make_claim.ok sc_make_claim (fun vs H Q E h => ?_) (fun cdv A outer s H vs Q E hr h => ?_)
  · obtain ⟨_, _, _, _, rfl, _⟩ := h
    rfl
  obtain ⟨ha, gv, hs, c, rfl, h2, h3, h4, hlen, hok, hnd, q⟩ := h
  refine ⟨_, (pss_cons (ps_set (i := 2) sc_make_claim.nd rfl (Or.inl rfl) (pe_lst pa_nil))
      (pss_cons (ps_set (i := 3) sc_make_claim.nd rfl (Or.inl rfl) (pe_lst pa_nil))
      (pss_cons (ps_for PassesOwn.never rfl (piT K (pv 0)) (tupK (n := 3) K rfl (pgs_cons (pg_name (i := 4) sc_make_claim.nd rfl (Or.inl rfl)) (pgs_cons (pg_name (i := 5) sc_make_claim.nd rfl (Or.inl rfl)) (pgs_cons (pg_name (i := 6) sc_make_claim.nd rfl (Or.inl rfl)) pgs_nil)))) (pss_cons (ps_if (pt_not (pt_val (pe_call G_is_name hr (by rfl) T.m_is_name T.F_is_name.kp T.b_is_name .nil pass0 (pa_cons (pv 4) pa_nil)))) (pss_one ps_never) pss_nil)
      (pss_cons (ps_if (pt_not (pt_val (pe_call G_is_kind hr (by rfl) T.m_is_kind T.F_is_kind.kp T.b_is_kind .nil pass0 (pa_cons (pv 5) pa_nil)))) (pss_one ps_never) pss_nil)
      (pss_cons (ps_if (pt_cmpR (inS K) (pv 4) (pv 2) (by rfl)) (pss_one ps_never) pss_nil)
      (pss_cons (ps_expr (pe_bm PySem.F.plainAttrs_list PySem.F.slot_list_append PySem.F.type_list_append mt_append (pv 2) (pa_cons (pv 4) pa_nil)))
      (pss_one (ps_expr (pe_bm PySem.F.plainAttrs_list PySem.F.slot_list_append PySem.F.type_list_append mt_append (pv 3) (pa_cons (pe_tup (pa_cons (pv 4) (pa_cons (pv 5) (pa_cons (pv 6) pa_nil)))) pa_nil)))))))))
      (pss_one (ps_ret (pe_tup (pa_cons (pe_callTy (tupleS K) (by rfl) T.z_tuple (by decide +kernel) (pa_cons (pv 3) pa_nil)) (pa_cons (pv 1) pa_nil)))))))), ?_⟩
  have len := h3.len
  rw [List.length_map] at len
  refine ⟨(by show 0 ≤ sizeLine; decide), fun p np => ?_⟩
  refine ⟨(by show 0 ≤ sizeLine; decide), fun r nr => ?_⟩
  have s1 : Same H (upd H p (.lst [])) := Same.new np
  have s2 : Same H (upd (upd H p (.lst [])) r (.lst [])) := s1.trans (Same.new nr)
  have hrp : r ≠ p := fun z => by
    rw [z, upd_same] at nr
    cases nr
  have nr0 : H r = none := s1.free nr
  refine ⟨_, rfl, ha, rfl, ⟨hs, (kpT_same s2).tup h2⟩, ?_⟩
  refine for_tup (xs := hs) (fun i σ' H' => Same H H' ∧ ∃ ys x4 x5 x6, H' p = some (.lst (((c.1.take i).map (·.1)).map V.str)) ∧ H' r = some (.lst ys) ∧ TpAll K H' ys ((c.1.take i).map holdD) ∧ σ' = [some (.ref ha), some gv, some (.ref p), some (.ref r), x4, x5, x6])
    ⟨s2, [], none, none, none, by rw [upd_ne (Ne.symm hrp), upd_same]; rfl, upd_same, .nil, rfl⟩ (fun i σ' H' _ z => (kpT_same z.1).tup h2) ?_ ?_
  · rintro i x σ' H' hx ⟨sm, ys, x4, x5, x6, hp, hr1, hys, rfl⟩
    have hi : i < hs.length := (List.getElem?_eq_some_iff.mp hx).1
    obtain ⟨d, hd, hxd⟩ := h3.getL hx
    rw [List.getElem?_map] at hd
    cases e : c.1[i]? with
    | none => rw [e] at hd; cases hd
    | some h =>
      rw [e] at hd
      cases hd
      have ht : c.1.take (i + 1) = c.1.take i ++ [h] := by rw [List.take_add_one, e]; rfl
      have hnot : h.1 ∉ (c.1.take i).map (·.1) := by
        have h5 := List.take_append_drop (i + 1) c.1
        rw [ht] at h5
        rw [← h5, List.map_append, List.map_append] at hnd
        have h6 := (List.nodup_append.mp hnd).1
        intro z
        exact (List.nodup_append.mp h6).2.2 _ z _ (List.mem_singleton.mpr rfl) rfl
      obtain ⟨hn, hk⟩ := hok h (List.mem_of_getElem? e)
      obtain ⟨b, mv, sv, rfl, hb, hm, hsn⟩ := hold_at (hxd.s sm)
      refine ⟨b, _, rfl, hb, rfl, _, _, rfl, _, _, rfl, _, _, rfl, rfl, ?_⟩
      refine ⟨_, rfl, h.1, rfl, hn, true, rfl, iteF ?_⟩
      refine ⟨_, rfl, mv, h.2.1, rfl, hm, hk, true, rfl, iteF ?_⟩
      refine ⟨_, rfl, _, rfl, p, _, rfl, .inl (at_l hp), rfl, flat_names _, _, rfl, ?_⟩
      rw [in_names hnot]
      refine iteF ?_
      refine ⟨_, rfl, .inl ⟨rfl, _, at_l hp⟩, _, rfl, p, _, _, rfl, rfl, hp, sz2 (by rw [List.length_map, List.length_map, List.length_take]; omega), ?_⟩
      have k1 : Kp (only1 p) H' (upd H' p (.lst (((c.1.take i).map (·.1)).map V.str ++ [.str h.1]))) := Kp.refl.put rfl
      have hp2 : (upd H' p (.lst (((c.1.take i).map (·.1)).map V.str ++ [.str h.1]))) p = some (.lst (((c.1.take i).map (·.1)).map V.str ++ [.str h.1])) := upd_same
      have sm2 : Same H (upd H' p (.lst (((c.1.take i).map (·.1)).map V.str ++ [.str h.1]))) := Same.put sm np
      have hr2 : (upd H' p (.lst (((c.1.take i).map (·.1)).map V.str ++ [.str h.1]))) r = some (.lst ys) := by rw [upd_ne hrp]; exact hr1
      have hys2 := hys.k (kpt_lst k1 hp)
      have hm2 := hm.k (kpt_lst k1 hp)
      have hsn2 := hsn.k (kpt_lst k1 hp)
      generalize upd H' p (.lst (((c.1.take i).map (·.1)).map V.str ++ [.str h.1])) = H2 at hp2 sm2 hr2 hys2 hm2 hsn2 ⊢
      refine ⟨_, rfl, .inl ⟨rfl, _, at_l hr2⟩, _, rfl, _, rfl, _, rfl, (by show 3 ≤ sizeLine; decide), fun z nz => ?_⟩
      have sz := Same.new (o := .tup [.str h.1, mv, sv]) nz
      have hz : Tp K (upd H2 z (.tup [.str h.1, mv, sv])) (.ref z) (holdD h) := .mk upd_same (.cons (.str _) (.cons (hm2.s sz) (.cons (hsn2.s sz) .nil)))
      generalize upd H2 z (.tup [.str h.1, mv, sv]) = H3 at sz hz ⊢
      have hr3 := sz _ _ hr2
      have lenys := hys.len
      rw [List.length_map, List.length_take] at lenys
      have k3 : Kp (only1 r) H3 (upd H3 r (.lst (ys ++ [.ref z]))) := Kp.refl.put rfl
      refine ⟨r, _, _, rfl, rfl, hr3, sz2 (by omega), Same.put (sm2.trans sz) nr0, _, _, _, _, ?_, upd_same, ?_, rfl⟩
      · rw [upd_ne (Ne.symm hrp), sz _ _ hp2, ht, List.map_append, List.map_append]
        rfl
      · rw [ht, List.map_append]
        exact ((hys2.s sz).app (.cons hz .nil)).k (kpt_lst k3 hr3)
  · rintro σ' H' ⟨sm, ys, x4, x5, x6, hp, hr1, hys, rfl⟩
    rw [len, List.take_length] at hys
    refine ⟨_, rfl, r, ys, rfl, .inl ⟨at_l hr1, fun l nl => ?_⟩⟩
    have sl : Same H' (upd H' l (.tup ys)) := Same.new nl
    have hl : Tp K (upd H' l (.tup ys)) (.ref l) (.tuple (c.1.map holdD)) := .mk upd_same (hys.s sl)
    generalize upd H' l (.tup ys) = H3 at sl hl ⊢
    refine ⟨_, rfl, (by show 2 ≤ sizeLine; decide), fun z nz => ?_⟩
    have sz := Same.new (o := .tup [.ref l, gv]) nz
    exact q _ _ (sm.trans (sl.trans sz)) (.mk upd_same (.cons (hl.s sz) (.cons (h4.s (sm.trans (sl.trans sz))) .nil)))
theorem find_first {α : Type} {p : α → Bool} : ∀ {l : List α} {i : Nat} {a : α}, l[i]? = some a → p a = true → (∀ j b, j < i → l[j]? = some b → p b = false) → l.find? p = some a
  | [], i, a, h, _, _ => by simp at h
  | b :: l, 0, a, h, hp, _ => by
    cases h
    rw [List.find?_cons_of_pos hp]
  | b :: l, i + 1, a, h, hp, hn => by
    rw [List.find?_cons_of_neg (by rw [hn 0 b (by omega) rfl]; decide)]
    exact find_first (i := i) (by simpa using h) hp fun j c hj hc => hn (j + 1) c (by omega) (by simpa using hc)
def spHoldOf (K : PySem.W.Frag) : Sp := fun vs H Q _ => ∃ (v : V) (c : Clm) (x : Str) (h : Hold), vs = [v, .str x] ∧ Tp K H v (clmD c) ∧ c.1.find? (fun h => decide (h.1 = x)) = some h ∧ ∀ z H', Same H H' → PrAt K H' z h.2 → Q z H'
theorem ok_hold_of {k : Nat} (T : Tx K mg w) : FnOk P w K mg base CX0 (k + 1) T.a_hold_of T.d_hold_of ["claim", "name"] (spHoldOf K) := by
  refine T.F_hold_of.ok sc_hold_of (fun vs H Q E h => ?_) (fun cdv A outer s H vs Q E hr h => ?_)
  · obtain ⟨_, _, _, _, rfl, _⟩ := h
    rfl
  obtain ⟨v, c, x, h, rfl, hv, hf, q⟩ := h
  refine ⟨_, (pss_cons (ps_for PassesOwn.never rfl (piT K (pe_ix (ixT K) (pv 0) pe_int (fun _ _ => rfl))) (tupK (n := 3) K rfl (pgs_cons (pg_name (i := 2) sc_hold_of.nd rfl (Or.inl rfl)) (pgs_cons (pg_name (i := 3) sc_hold_of.nd rfl (Or.inl rfl)) (pgs_cons (pg_name (i := 4) sc_hold_of.nd rfl (Or.inl rfl)) pgs_nil)))) (pss_one (ps_if (pt_cmpR op_eq (pv 2) (pv 1) (nomark _)) (pss_one (ps_ret (pe_tup (pa_cons (pv 3) (pa_cons (pv 4) pa_nil))))) pss_nil)))
      (pss_one ps_never)), ?_⟩
  obtain ⟨a, ha, hs, gv, rfl, h1, h2, h3, _⟩ := clm_at hv
  refine ⟨_, rfl, a, _, 0, _, rfl, rfl, h1, rfl, ha, rfl, ⟨hs, h2⟩, ?_⟩
  have len := h3.len
  rw [List.length_map] at len
  refine for_tup (xs := hs) (fun i σ' H' => H' = H ∧ (∀ j h', j < i → c.1[j]? = some h' → h'.1 ≠ x) ∧ ∃ x2 x3 x4, σ' = [some (.ref a), some (.str x), x2, x3, x4]) ⟨rfl, fun j h' z => absurd z (by omega), none, none, none, rfl⟩ (fun i σ' H' _ z => by rw [z.1]; exact h2) ?_ ?_
  · rintro i y σ' H' hx ⟨rfl, hno, x2, x3, x4, rfl⟩
    obtain ⟨d, hd, hxd⟩ := h3.getL hx
    rw [List.getElem?_map] at hd
    cases e : c.1[i]? with
    | none => rw [e] at hd; cases hd
    | some h' =>
      rw [e] at hd
      cases hd
      obtain ⟨b, mv, sv, rfl, hb, hm, hsn⟩ := hold_at hxd
      refine ⟨b, _, rfl, hb, rfl, _, _, rfl, _, _, rfl, _, _, rfl, rfl, ?_⟩
      refine ⟨_, rfl, _, rfl, rfl, _, rfl, ?_⟩
      by_cases hne : h'.1 = x
      · rw [decide_eq_true (show V.str h'.1 = V.str x by rw [hne])]
        refine iteT ?_
        refine ⟨_, rfl, _, rfl, (by show 2 ≤ sizeLine; decide), fun z nz => ?_⟩
        have sz := Same.new (o := .tup [mv, sv]) nz
        have e2 : some h' = some h := by rw [← hf]; exact (find_first e (decide_eq_true hne) fun j u hj hu => decide_eq_false (hno j u hj hu)).symm
        cases e2
        exact q _ _ sz (.mk upd_same (.cons (hm.s sz) (.cons (hsn.s sz) .nil)))
      · rw [decide_eq_false (show ¬ V.str h'.1 = V.str x from fun z => hne (by cases z; rfl))]
        refine iteF ⟨rfl, fun j u hj hu => ?_, _, _, _, rfl⟩
        by_cases hji : j = i
        · subst hji
          rw [e] at hu
          cases hu
          exact hne
        · exact hno j u (by omega) hu
  · rintro σ' H' ⟨rfl, hno, x2, x3, x4, rfl⟩
    exfalso
    obtain ⟨j, hj⟩ := List.getElem?_of_mem (List.mem_of_find?_eq_some hf)
    have := List.find?_some hf
    exact hno j h (by have := (List.getElem?_eq_some_iff.mp hj).1; omega) hj (of_decide_eq_true this)
end
end W81
namespace W81
open PySem PySem.Spec PyProof.Rows L2 HX
/-! ### claims with other holds -/
def wkC (c : Clm) (x : Str) (m : Kd) : Clm := (c.1.map fun h => if h.1 = x then (x, m, h.2.2) else h, c.2)
def woC (c : Clm) (x : Str) : Clm := (c.1.filter fun h => !decide (h.1 = x), c.2)
section
variable {P : Program} {w : World} {K : PySem.W.Frag} {mg : Str → Option Value} {base : Heap}
def spWithHold (K : PySem.W.Frag) : Sp := fun vs H Q _ => ∃ (v mv sv : V) (c : Clm) (h : Hold), vs = [v, .str h.1, mv, sv] ∧ Tp K H v (clmD c) ∧ Tp K H mv h.2.1.dat ∧ Tp K H sv h.2.2.dat ∧ c.1.length < 1000 ∧ (∀ u, u ∈ c.1 ++ [h] → NameOk u.1 ∧ u.2.1.Ok) ∧ ((c.1 ++ [h]).map (·.1)).Nodup ∧
  ∀ z H', Same H H' → Tp K H' z (clmD (c.1 ++ [h], c.2)) → Q z H'
theorem ok_with_hold {k : Nat} (T : Tx K mg w) (G_make_claim : FnOk P w K mg base CX0 k T.a_make_claim T.d_make_claim ["holds", "goal"] (spMakeClaim K)) : FnOk P w K mg base CX0 (k + 1) T.a_with_hold T.d_with_hold ["claim", "name", "kind", "sentence"] (spWithHold K) := by
  refine T.F_with_hold.ok sc_with_hold (fun vs H Q E h => ?_) (fun cdv A outer s H vs Q E hr h => ?_)
  · obtain ⟨_, _, _, _, _, rfl, _⟩ := h
    rfl
  obtain ⟨v, mv, sv, c, h, rfl, hv, hm, hs1, hlen, hok, hnd, q⟩ := h
  refine ⟨_, (pss_one (ps_ret (pe_call G_make_claim hr (by rfl) T.m_make_claim T.F_make_claim.kp T.b_make_claim .nil pass0 (pa_cons (pe_op (catA K) (pe_ix (ixT K) (pv 0) pe_int (fun _ _ => rfl)) (pe_tup (pa_cons (pe_tup (pa_cons (pv 1) (pa_cons (pv 2) (pa_cons (pv 3) pa_nil)))) pa_nil))) (pa_cons (pe_ix (ixT K) (pv 0) pe_int (fun _ _ => rfl)) pa_nil))))), ?_⟩
  obtain ⟨a, ha, hs, gv, rfl, h1, h2, h3, h4⟩ := clm_at hv
  have len := h3.len
  rw [List.length_map] at len
  refine ⟨_, rfl, a, _, 0, _, rfl, rfl, h1, rfl, _, rfl, _, rfl, _, rfl, (by show 3 ≤ sizeLine; decide), fun z nz => ?_⟩
  have s1 : Same H (upd H z (.tup [.str h.1, mv, sv])) := Same.new nz
  have hz : Tp K (upd H z (.tup [.str h.1, mv, sv])) (.ref z) (holdD h) := .mk upd_same (.cons (.str _) (.cons (hm.s s1) (.cons (hs1.s s1) .nil)))
  generalize upd H z (.tup [.str h.1, mv, sv]) = H1 at s1 hz ⊢
  refine ⟨(by show 1 ≤ sizeLine; decide), fun y ny => ?_⟩
  have s2 : Same H1 (upd H1 y (.tup [.ref z])) := Same.new ny
  have hy : SqT K (upd H1 y (.tup [.ref z])) y [.ref z] := at_t upd_same
  generalize upd H1 y (.tup [.ref z]) = H2 at s2 hy ⊢
  have s12 := s1.trans s2
  have call : ∀ H3 f fs, Same H2 H3 → SqT K H3 f fs → TpAll K H3 fs ((c.1 ++ [h]).map holdD) → spMakeClaim K [.ref f, gv] H3 Q E0 := fun H3 f fs s3 hf ht =>
    ⟨f, gv, fs, (c.1 ++ [h], c.2), rfl, hf, ht, h4.s (s12.trans s3), by rw [List.length_append]; exact hlen, hok, hnd, fun z H' s4 hz => q z H' ((s12.trans s3).trans s4) hz⟩
  refine ⟨ha, y, hs, _, rfl, rfl, (kpT_same s12).tup h2, hy, sz1 (by show _ + 1 ≤ _; omega), fun e => ?_, fun _ z => (by cases z), fun _ _ f nf => ?_⟩
  · subst e
    have e0 : c.1 = [] := List.length_eq_zero_iff.mp (by rw [← len]; rfl)
    refine ⟨_, rfl, a, _, 1, _, rfl, rfl, (kpT_same s12).tup h1, rfl, ?_⟩
    refine call H2 y _ (Same.refl _) hy ?_
    rw [e0]
    exact .cons (hz.s s2) .nil
  · have sf : Same H2 (upd H2 f (.tup (hs ++ [.ref z]))) := Same.new nf
    refine ⟨_, rfl, a, _, 1, _, rfl, rfl, (kpT_same (s12.trans sf)).tup h1, rfl, ?_⟩
    refine call _ f _ sf (at_t upd_same) ?_
    rw [List.map_append]
    exact (h3.s (s12.trans sf)).app (.cons (hz.s (s2.trans sf)) .nil)
def spWithoutHold (K : PySem.W.Frag) : Sp := fun vs H Q _ => ∃ (v : V) (c : Clm) (x : Str) (h : Hold), vs = [v, .str x] ∧ Tp K H v (clmD c) ∧ c.1.length ≤ 1000 ∧ c.1.find? (fun h => decide (h.1 = x)) = some h ∧ ∀ z H', Same H H' → Tp K H' z (clmD (woC c x)) → Q z H'
theorem ok_without_hold {k : Nat} (T : Tx K mg w) (G_hold_of : FnOk P w K mg base CX0 k T.a_hold_of T.d_hold_of ["claim", "name"] (spHoldOf K)) : FnOk P w K mg base CX0 (k + 1) T.a_without_hold T.d_without_hold ["claim", "name"] (spWithoutHold K) := by
  refine T.F_without_hold.ok sc_without_hold (fun vs H Q E h => ?_) (fun cdv A outer s H vs Q E hr h => ?_)
  · obtain ⟨_, _, _, _, rfl, _⟩ := h
    rfl
  obtain ⟨v, c, x, h, rfl, hv, hlen, hf, q⟩ := h
  refine ⟨_, (pss_cons (ps_expr (pe_call G_hold_of hr (by rfl) T.m_hold_of T.F_hold_of.kp T.b_hold_of .nil pass0 (pa_cons (pv 0) (pa_cons (pv 1) pa_nil))))
      (pss_one (ps_ret (pe_tup (pa_cons (pe_callTy (tupleS K) (by rfl) T.z_tuple (by decide +kernel) (pa_cons (pe_lc (own := [("hold", 2)]) (g := gName 2) (by rfl) sc_without_hold.nd (piT K (pe_ix (ixT K) (pv 0) pe_int (fun _ _ => rfl))) (blkOk_by (own := [("hold", 2)]) (N := ["claim", "name", "hold"]) (sc := defScope s_without_hold) (by decide +kernel)) (fun _ _ _ _ _ => (pg_name (i := 2) sc_without_hold.nd rfl (Or.inl rfl))) (fun _ _ _ _ _ => (pts_one (pt_cmpR op_ne (pe_ix (ixT K) (pv 2) pe_int (fun _ _ => rfl)) (pv 1) (nomark _)))) (fun _ _ _ _ _ => (pv 2))) pa_nil)) (pa_cons (pe_ix (ixT K) (pv 0) pe_int (fun _ _ => rfl)) pa_nil)))))), ?_⟩
  have hv0 := hv
  obtain ⟨a, ha, hs, gv, rfl, h1, h2, h3, h4⟩ := clm_at hv
  have len := h3.len
  rw [List.length_map] at len
  refine ⟨_, rfl, _, rfl, .ref a, c, x, h, rfl, hv0, hf, fun z1 H1 s1 _ => ?_⟩
  refine ⟨_, rfl, a, _, 0, _, rfl, rfl, (kpT_same s1).tup h1, rfl, ha, rfl, ⟨hs, (kpT_same s1).tup h2⟩, fun D nD => ?_⟩
  refine lc_tup (xs := hs) (fun i H' => Same H1 H' ∧ ∃ ys, H' D = some (.lst ys) ∧ TpAll K H' ys (((c.1.take i).filter fun h => !decide (h.1 = x)).map holdD)) ⟨Same.new nD, [], upd_same, .nil⟩ (fun i H' _ z => (kpT_same (s1.trans z.1)).tup h2) ?_ ?_
  · rintro i y H' hx ⟨sm, ys, hD, hys⟩
    have hi : i < hs.length := (List.getElem?_eq_some_iff.mp hx).1
    obtain ⟨d, hd, hxd⟩ := h3.getL hx
    rw [List.getElem?_map] at hd
    cases e : c.1[i]? with
    | none => rw [e] at hd; cases hd
    | some h' =>
      rw [e] at hd
      cases hd
      have ht : c.1.take (i + 1) = c.1.take i ++ [h'] := by rw [List.take_add_one, e]; rfl
      have hy := hxd.s (s1.trans sm)
      obtain ⟨b, mv, sv, rfl, hb, hm, hsn⟩ := hold_at hy
      have lenys := hys.len
      rw [List.length_map] at lenys
      have := List.length_filter_le (fun h : Hold => !decide (h.1 = x)) (c.1.take i)
      rw [List.length_take] at this
      refine ⟨rfl, ?_⟩
      refine ⟨_, rfl, b, _, 0, _, rfl, rfl, hb, rfl, _, rfl, rfl, _, rfl, ?_⟩
      rw [ht, List.filter_append, List.map_append]
      by_cases hne : h'.1 = x
      · rw [decide_eq_true (show V.str h'.1 = V.str x by rw [hne])]
        refine iteF ⟨sm, ys, hD, ?_⟩
        rw [List.filter_cons_of_neg (by rw [decide_eq_true hne]; decide)]
        rw [List.filter_nil, List.map_nil, List.append_nil]
        exact hys
      · rw [decide_eq_false (show ¬ V.str h'.1 = V.str x from fun z => hne (by cases z; rfl))]
        refine iteT ⟨_, rfl, ys, hD, sz2 (by omega), Same.put sm nD, _, upd_same, ?_⟩
        rw [List.filter_cons_of_pos (by rw [decide_eq_false hne]; rfl)]
        exact (hys.app (.cons hy .nil)).k (kpt_lst (Kp.refl.put rfl) hD)
  · rintro H' ⟨sm, ys, hD, hys⟩
    rw [len, List.take_length] at hys
    have s2 := s1.trans sm
    refine ⟨D, ys, rfl, .inl ⟨at_l hD, fun l nl => ?_⟩⟩
    have sl : Same H' (upd H' l (.tup ys)) := Same.new nl
    have hl : Tp K (upd H' l (.tup ys)) (.ref l) (.tuple ((woC c x).1.map holdD)) := .mk upd_same (hys.s sl)
    generalize upd H' l (.tup ys) = H3 at sl hl ⊢
    refine ⟨_, rfl, a, _, 1, _, rfl, rfl, (kpT_same (s2.trans sl)).tup h1, rfl, (by show 2 ≤ sizeLine; decide), fun z nz => ?_⟩
    have sz := Same.new (o := .tup [.ref l, gv]) nz
    exact q _ _ (s2.trans (sl.trans sz)) (.mk upd_same (.cons (hl.s sz) (.cons (h4.s (s2.trans (sl.trans sz))) .nil)))
def spWithKind (K : PySem.W.Frag) : Sp := fun vs H Q _ => ∃ (v mv : V) (c : Clm) (x : Str) (m : Kd), vs = [v, .str x, mv] ∧ Tp K H v (clmD c) ∧ Tp K H mv m.dat ∧ c.1.length ≤ 1000 ∧ ∀ z H', Same H H' → Tp K H' z (clmD (wkC c x m)) → Q z H'
theorem ok_with_kind {k : Nat} (T : Tx K mg w) : FnOk P w K mg base CX0 (k + 1) T.a_with_kind T.d_with_kind ["claim", "name", "kind"] (spWithKind K) := by
  refine T.F_with_kind.ok sc_with_kind (fun vs H Q E h => ?_) (fun cdv A outer s H vs Q E hr h => ?_)
  · obtain ⟨_, _, _, _, _, rfl, _⟩ := h
    rfl
  obtain ⟨v, mv, c, x, m, rfl, hv, hm, hlen, q⟩ := h
  refine ⟨_, (pss_cons (ps_set (i := 3) sc_with_kind.nd rfl (Or.inl rfl) (pe_lst pa_nil))
      (pss_cons (ps_for PassesOwn.never rfl (piT K (pe_ix (ixT K) (pv 0) pe_int (fun _ _ => rfl))) (pg_name (i := 4) sc_with_kind.nd rfl (Or.inl rfl)) (pss_one (ps_if (pt_cmpR op_eq (pe_ix (ixT K) (pv 4) pe_int (fun _ _ => rfl)) (pv 1) (nomark _)) (pss_one (ps_expr (pe_bm PySem.F.plainAttrs_list PySem.F.slot_list_append PySem.F.type_list_append mt_append (pv 3) (pa_cons (pe_tup (pa_cons (pv 1) (pa_cons (pv 2) (pa_cons (pe_ix (ixT K) (pv 4) pe_int (fun _ _ => rfl)) pa_nil)))) pa_nil)))) (pss_one (ps_expr (pe_bm PySem.F.plainAttrs_list PySem.F.slot_list_append PySem.F.type_list_append mt_append (pv 3) (pa_cons (pv 4) pa_nil)))))))
      (pss_one (ps_ret (pe_tup (pa_cons (pe_callTy (tupleS K) (by rfl) T.z_tuple (by decide +kernel) (pa_cons (pv 3) pa_nil)) (pa_cons (pe_ix (ixT K) (pv 0) pe_int (fun _ _ => rfl)) pa_nil))))))), ?_⟩
  obtain ⟨a, ha, hs, gv, rfl, h1, h2, h3, h4⟩ := clm_at hv
  have len := h3.len
  rw [List.length_map] at len
  refine ⟨(by show 0 ≤ sizeLine; decide), fun p np => ?_⟩
  have s1 : Same H (upd H p (.lst [])) := Same.new np
  refine ⟨_, rfl, a, _, 0, _, rfl, rfl, (kpT_same s1).tup h1, rfl, ha, rfl, ⟨hs, (kpT_same s1).tup h2⟩, ?_⟩
  refine for_tup (xs := hs) (fun i σ' H' => Same H H' ∧ ∃ ys x4, H' p = some (.lst ys) ∧ TpAll K H' ys (((c.1.take i).map fun h => if h.1 = x then (x, m, h.2.2) else h).map holdD) ∧ σ' = [some (.ref a), some (.str x), some mv, some (.ref p), x4])
    ⟨s1, [], none, upd_same, .nil, rfl⟩ (fun i σ' H' _ z => (kpT_same z.1).tup h2) ?_ ?_
  · rintro i y σ' H' hx ⟨sm, ys, x4, hp, hys, rfl⟩
    have hi : i < hs.length := (List.getElem?_eq_some_iff.mp hx).1
    obtain ⟨d, hd, hxd⟩ := h3.getL hx
    rw [List.getElem?_map] at hd
    cases e : c.1[i]? with
    | none => rw [e] at hd; cases hd
    | some h' =>
      rw [e] at hd
      cases hd
      have ht : c.1.take (i + 1) = c.1.take i ++ [h'] := by rw [List.take_add_one, e]; rfl
      have hy := hxd.s sm
      obtain ⟨b, mv2, sv, rfl, hb, hm2, hsn⟩ := hold_at hy
      have lenys := hys.len
      rw [List.length_map, List.length_map, List.length_take] at lenys
      refine ⟨_, rfl, b, _, 0, _, rfl, rfl, hb, rfl, _, rfl, rfl, _, rfl, ?_⟩
      by_cases hne : h'.1 = x
      · rw [decide_eq_true (show V.str h'.1 = V.str x by rw [hne])]
        refine iteT ⟨_, rfl, .inl ⟨rfl, _, at_l hp⟩, _, rfl, _, rfl, _, rfl, b, _, 2, _, rfl, rfl, hb, rfl, (by show 3 ≤ sizeLine; decide), fun z nz => ?_⟩
        have sz := Same.new (o := .tup [.str x, mv, sv]) nz
        have hz : Tp K (upd H' z (.tup [.str x, mv, sv])) (.ref z) (holdD (x, m, h'.2.2)) := .mk upd_same (.cons (.str _) (.cons (hm.s (sm.trans sz)) (.cons (hsn.s sz) .nil)))
        generalize upd H' z (.tup [.str x, mv, sv]) = H3 at sz hz ⊢
        have hp3 := sz _ _ hp
        refine ⟨p, _, _, rfl, rfl, hp3, sz2 (by omega), Same.put (sm.trans sz) np, _, _, upd_same, ?_, rfl⟩
        rw [ht, List.map_append, List.map_append, List.map_singleton, if_pos hne]
        exact ((hys.s sz).app (.cons hz .nil)).k (kpt_lst (Kp.refl.put rfl) hp3)
      · rw [decide_eq_false (show ¬ V.str h'.1 = V.str x from fun z => hne (by cases z; rfl))]
        refine iteF ⟨_, rfl, .inl ⟨rfl, _, at_l hp⟩, _, rfl, ?_⟩
        refine ⟨p, _, _, rfl, rfl, hp, sz2 (by omega), Same.put sm np, _, _, upd_same, ?_, rfl⟩
        rw [ht, List.map_append, List.map_append, List.map_singleton, if_neg hne]
        exact (hys.app (.cons hy .nil)).k (kpt_lst (Kp.refl.put rfl) hp)
  · rintro σ' H' ⟨sm, ys, x4, hp, hys, rfl⟩
    rw [len, List.take_length] at hys
    refine ⟨_, rfl, p, ys, rfl, .inl ⟨at_l hp, fun l nl => ?_⟩⟩
    have sl : Same H' (upd H' l (.tup ys)) := Same.new nl
    have hl : Tp K (upd H' l (.tup ys)) (.ref l) (.tuple ((wkC c x m).1.map holdD)) := .mk upd_same (hys.s sl)
    generalize upd H' l (.tup ys) = H3 at sl hl ⊢
    refine ⟨_, rfl, a, _, 1, _, rfl, rfl, (kpT_same (sm.trans sl)).tup h1, rfl, (by show 2 ≤ sizeLine; decide), fun z nz => ?_⟩
    have sz := Same.new (o := .tup [.ref l, gv]) nz
    exact q _ _ (sm.trans (sl.trans sz)) (.mk upd_same (.cons (hl.s sz) (.cons (h4.s (sm.trans (sl.trans sz))) .nil)))
def spWithRoom (K : PySem.W.Frag) : Sp := fun vs H Q _ => ∃ (v mv : V) (c : Clm) (x : Str) (n d n2 d2 : Nat) (h : Hold), vs = [v, .str x, mv] ∧ Tp K H v (clmD c) ∧ Tp K H mv (Kd.box n d).dat ∧ c.1.length ≤ 1000 ∧ c.1.find? (fun h => decide (h.1 = x)) = some h ∧ h.2.1 = .box n2 d2 ∧ n2 ≤ n ∧ d2 ≤ d ∧
  ∀ z H', Same H H' → Tp K H' z (clmD (wkC c x (.box n d))) → Q z H'
theorem ok_with_room {k : Nat} (T : Tx K mg w) (G_covers : FnOk P w K mg base CX0 k T.a_covers T.d_covers ["room", "kind"] (spCovers K)) (G_hold_of : FnOk P w K mg base CX0 k T.a_hold_of T.d_hold_of ["claim", "name"] (spHoldOf K))
    (G_with_kind : FnOk P w K mg base CX0 k T.a_with_kind T.d_with_kind ["claim", "name", "kind"] (spWithKind K)) : FnOk P w K mg base CX0 (k + 1) T.a_with_room T.d_with_room ["claim", "name", "kind"] (spWithRoom K) := by
  refine T.F_with_room.ok sc_with_room (fun vs H Q E h => ?_) (fun cdv A outer s H vs Q E hr h => ?_)
  · obtain ⟨_, _, _, _, _, _, _, _, _, rfl, _⟩ := h
    rfl
  obtain ⟨v, mv, c, x, n, d, n2, d2, h, rfl, hv, hm, hlen, hf, hk, l1, l2, q⟩ := h
  refine ⟨_, (pss_cons (ps_if (pt_not (pt_val (pe_call G_covers hr (by rfl) T.m_covers T.F_covers.kp T.b_covers .nil pass0 (pa_cons (pv 2) (pa_cons (pe_ix (ixT K) (pe_call G_hold_of hr (by rfl) T.m_hold_of T.F_hold_of.kp T.b_hold_of .nil pass0 (pa_cons (pv 0) (pa_cons (pv 1) pa_nil))) pe_int (fun _ _ => rfl)) pa_nil))))) (pss_one ps_never) pss_nil)
      (pss_one (ps_ret (pe_call G_with_kind hr (by rfl) T.m_with_kind T.F_with_kind.kp T.b_with_kind .nil pass0 (pa_cons (pv 0) (pa_cons (pv 1) (pa_cons (pv 2) pa_nil))))))), ?_⟩
  refine ⟨_, rfl, _, rfl, _, rfl, v, c, x, h, rfl, hv, hf, fun z1 H1 s1 hp => ?_⟩
  obtain ⟨pa, mv2, sv, rfl, hpa, hm2, _⟩ := pr_at hp
  rw [hk] at hm2
  refine ⟨pa, _, 0, _, rfl, rfl, hpa, rfl, ?_⟩
  refine ⟨mv, mv2, n, d, n2, d2, rfl, hm.s s1, hm2, l1, l2, true, rfl, iteF ?_⟩
  exact ⟨_, rfl, _, rfl, _, rfl, v, mv, c, x, .box n d, rfl, hv.s s1, hm.s s1, hlen, fun z H2 s2 hz => q z H2 (s1.trans s2) hz⟩
end
end W81
namespace W81
open PySem PySem.Spec PyProof.Rows L2 HX
/-! ### expansions -/
def exO : Sn → Rf → Nat → Dr
  | .word _, r, _ => .own r
  | .menu a b, r, lv => .offer (.pick r .l (exO a (lvR lv) (lv + 1))) (.pick r .r (exO b (lvR lv) (lv + 1)))
  | .trade m a b, r, lv => .take (.pay r m (exO a (lvR lv) (lv + 1)) (exO b (lvR (lv + 1)) (lv + 2)))
def exP : Dr → Sco → Sn → Nat → Dr
  | .own r, _, g, lv => exO g r lv
  | .take b, G, g, lv => match g with
    | .trade m x y => .take (exP b (updF G (lvR lv) (m, x)) y (lv + 1))
    | _ => .take b
  | .offer a b, G, g, lv => match g with
    | .menu x y => .offer (exP a G x lv) (exP b G y lv)
    | _ => .offer a b
  | .pick r s b, G, g, lv => match G r with
    | some (_, .menu x y) => .pick r s (exP b (updF G (lvR lv) (.once, s.sel x y)) g (lv + 1))
    | _ => .pick r s b
  | .pay r k a b, G, g, lv => match G r with
    | some (_, .trade _ x y) => .pay r k (exP a G x lv) (exP b (updF G (lvR lv) (.once, y)) g (lv + 1))
    | _ => .pay r k a b
  | .cut m s a b, G, g, lv => .cut m s (exP a G s lv) (exP b (updF G (lvR lv) (m, s)) g (lv + 1))
def exK (u : Dr) (p : Plc) : Dr := exP u p.1 p.2.1 p.2.2
theorem exP_kids {t : Dr} {G : Sco} {g : Sn} {lv : Nat} (h : RowOk G g t) (no : t.kids ≠ []) : exP t G g lv = t.wk (List.zipWith exK t.kids (placesF G g t lv)) := by
  cases t with
  | own r => exact absurd rfl no
  | take b =>
    obtain ⟨m, x, y, rfl⟩ := h
    rfl
  | offer a b =>
    obtain ⟨x, y, rfl⟩ := h
    rfl
  | pick r s b =>
    obtain ⟨m, x, y, e⟩ := h
    unfold placesF
    rw [new_pick e]
    simp only [exP, e]
    rfl
  | pay r k a b =>
    obtain ⟨m, x, y, e⟩ := h
    unfold placesF
    rw [new_pay e]
    simp only [exP, goalsF, e]
    rfl
  | cut m s a b => rfl
/-- the sentences are not deep -/
def CutIn (D : Nat) : Dr → Prop
  | .own _ => True
  | .take b => CutIn D b
  | .offer a b => CutIn D a ∧ CutIn D b
  | .pick _ _ b => CutIn D b
  | .pay _ _ a b => CutIn D a ∧ CutIn D b
  | .cut _ s a b => s.dp < D ∧ CutIn D a ∧ CutIn D b
def Bnd (D : Nat) (G : Sco) (g : Sn) : Prop := g.dp < D ∧ ∀ r h, G r = some h → h.2.dp < D
theorem Bnd.put {D : Nat} {G : Sco} {g g' : Sn} {k : Key} {h : Prr} (b : Bnd D G g) (h1 : g'.dp < D) (h2 : h.2.dp < D) : Bnd D (updF G k h) g' := ⟨h1, fun r p e => by
  unfold updF at e
  split at e
  · cases e
    exact h2
  · exact b.2 r p e⟩
theorem bnd_kids {D : Nat} {t : Dr} {G : Sco} {g : Sn} {lv : Nat} (h : RowOk G g t) (b : Bnd D G g) (c : CutIn D t) {i : Nat} {p : Plc} {u : Dr} (hp : (placesF G g t lv)[i]? = some p) (hu : t.kids[i]? = some u) : Bnd D p.1 p.2.1 ∧ CutIn D u := by
  cases t with
  | own r => simp [Dr.kids] at hu
  | take t =>
    obtain ⟨m, x, y, rfl⟩ := h
    obtain ⟨rfl, rfl⟩ := one_at hu
    cases hp
    have hb : max x.dp y.dp + 1 < D := b.1
    exact ⟨b.put (by show y.dp < D; omega) (by show x.dp < D; omega), c⟩
  | offer t1 t2 =>
    obtain ⟨x, y, rfl⟩ := h
    have hb : max x.dp y.dp + 1 < D := b.1
    rcases two_at hu with ⟨rfl, rfl⟩ | ⟨rfl, rfl⟩
    · cases hp
      exact ⟨⟨by show x.dp < D; omega, b.2⟩, c.1⟩
    · cases hp
      exact ⟨⟨by show y.dp < D; omega, b.2⟩, c.2⟩
  | pick r s t =>
    obtain ⟨m, x, y, e⟩ := h
    obtain ⟨rfl, rfl⟩ := one_at hu
    unfold placesF at hp
    rw [new_pick e] at hp
    cases hp
    have hb : max x.dp y.dp + 1 < D := b.2 r _ e
    refine ⟨b.put b.1 ?_, c⟩
    cases s
    · show x.dp < D; omega
    · show y.dp < D; omega
  | pay r k t1 t2 =>
    obtain ⟨m, x, y, e⟩ := h
    have e2 : placesF G g (.pay r k t1 t2) lv = [(G, x, lv), (updF G (lvR lv) (.once, y), g, lv + 1)] := by
      unfold placesF
      rw [new_pay e]
      simp only [goalsF, e]
      rfl
    rw [e2] at hp
    have hb : max x.dp y.dp + 1 < D := b.2 r _ e
    rcases two_at hu with ⟨rfl, rfl⟩ | ⟨rfl, rfl⟩
    · cases hp
      exact ⟨⟨by show x.dp < D; omega, b.2⟩, c.1⟩
    · cases hp
      exact ⟨b.put b.1 (by show y.dp < D; omega), c.2⟩
  | cut m s t1 t2 =>
    rcases two_at hu with ⟨rfl, rfl⟩ | ⟨rfl, rfl⟩
    · cases hp
      exact ⟨⟨c.1, b.2⟩, c.2.1⟩
    · cases hp
      exact ⟨b.put b.1 c.1, c.2.2⟩
section
variable {P : Program} {w : World} {K : PySem.W.Frag} {mg : Str → Option Value} {base : Heap}
def spExpOwn (K : PySem.W.Frag) (d : Nat) : Sp := fun vs H Q _ => ∃ (gv : V) (r : Key) (g : Sn) (lv : Nat), vs = [kV r, gv, iv lv] ∧ Tp K H gv g.dat ∧ g.dp < d ∧ ∀ z H', Same H H' → Tp K H' z (exO g r lv).dat → Q z H'
theorem expown_step {k d : Nat} (T : Tx K mg w) (G_expanded_own : FnOk P w K mg base CX0 k T.a_expanded_own T.d_expanded_own ["ref", "goal", "level"] (spExpOwn K d)) :
    FnOk P w K mg base CX0 (k + 1) T.a_expanded_own T.d_expanded_own ["ref", "goal", "level"] (spExpOwn K (d + 1)) := by
  refine T.F_expanded_own.ok sc_expanded_own (fun vs H Q E h => ?_) (fun cdv A outer s H vs Q E hr h => ?_)
  · obtain ⟨_, _, _, _, rfl, _⟩ := h
    rfl
  obtain ⟨gv, r, g, lv, rfl, hg, hd, q⟩ := h
  refine ⟨_, (pss_cons (ps_if (pt_cmpR op_eq (pe_ix (ixT K) (pv 1) pe_int (fun _ _ => rfl)) pe_str (nomark _)) (pss_one (ps_ret (pe_tup (pa_cons pe_str (pa_cons (pv 0) pa_nil))))) pss_nil)
      (pss_cons (ps_if (pt_cmpR op_eq (pe_ix (ixT K) (pv 1) pe_int (fun _ _ => rfl)) pe_str (nomark _)) (pss_cons (ps_set (i := 3) sc_expanded_own.nd rfl (Or.inl rfl) (pe_tup (pa_cons pe_str (pa_cons (pv 0) (pa_cons pe_str (pa_cons (pe_call G_expanded_own hr (by rfl) T.m_expanded_own T.F_expanded_own.kp T.b_expanded_own .nil pass0 (pa_cons (pv 2) (pa_cons (pe_ix (ixT K) (pv 1) pe_int (fun _ _ => rfl)) (pa_cons (pe_op op_add (pv 2) pe_int) pa_nil)))) pa_nil))))))
      (pss_cons (ps_set (i := 4) sc_expanded_own.nd rfl (Or.inl rfl) (pe_tup (pa_cons pe_str (pa_cons (pv 0) (pa_cons pe_str (pa_cons (pe_call G_expanded_own hr (by rfl) T.m_expanded_own T.F_expanded_own.kp T.b_expanded_own .nil pass0 (pa_cons (pv 2) (pa_cons (pe_ix (ixT K) (pv 1) pe_int (fun _ _ => rfl)) (pa_cons (pe_op op_add (pv 2) pe_int) pa_nil)))) pa_nil))))))
      (pss_one (ps_ret (pe_tup (pa_cons pe_str (pa_cons (pv 3) (pa_cons (pv 4) pa_nil)))))))) pss_nil)
      (pss_cons (ps_set (i := 5) sc_expanded_own.nd rfl (Or.inl rfl) (pe_call G_expanded_own hr (by rfl) T.m_expanded_own T.F_expanded_own.kp T.b_expanded_own .nil pass0 (pa_cons (pv 2) (pa_cons (pe_ix (ixT K) (pv 1) pe_int (fun _ _ => rfl)) (pa_cons (pe_op op_add (pv 2) pe_int) pa_nil)))))
      (pss_cons (ps_set (i := 6) sc_expanded_own.nd rfl (Or.inl rfl) (pe_call G_expanded_own hr (by rfl) T.m_expanded_own T.F_expanded_own.kp T.b_expanded_own .nil pass0 (pa_cons (pe_op op_add (pv 2) pe_int) (pa_cons (pe_ix (ixT K) (pv 1) pe_int (fun _ _ => rfl)) (pa_cons (pe_op op_add (pv 2) pe_int) pa_nil)))))
      (pss_one (ps_ret (pe_tup (pa_cons pe_str (pa_cons (pe_tup (pa_cons pe_str (pa_cons (pv 0) (pa_cons (pe_ix (ixT K) (pv 1) pe_int (fun _ _ => rfl)) (pa_cons (pv 5) (pa_cons (pv 6) pa_nil)))))) pa_nil))))))))), ?_⟩
  cases g with
  | word x =>
    obtain ⟨a, rfl, ha⟩ := word_at hg
    refine ⟨_, rfl, a, _, 0, _, rfl, rfl, ha, rfl, rfl, _, rfl, iteT ?_⟩
    refine ⟨_, rfl, (by show 2 ≤ sizeLine; decide), fun z nz => ?_⟩
    exact q _ _ (Same.new nz) (.mk upd_same (.cons (.str _) (.cons (rf_tp r) .nil)))
  | menu x y =>
    have hd' : max x.dp y.dp + 1 < d + 1 := hd
    obtain ⟨a, xv, yv, rfl, ha, hx, hy⟩ := menu_at hg
    refine ⟨_, rfl, a, _, 0, _, rfl, rfl, ha, rfl, rfl, _, rfl, iteF ?_⟩
    refine ⟨_, rfl, a, _, 0, _, rfl, rfl, ha, rfl, rfl, _, rfl, iteT ?_⟩
    refine ⟨_, rfl, _, rfl, _, rfl, a, _, 1, _, rfl, rfl, ha, rfl, _, rfl, _, _, rfl, rfl, ?_⟩
    refine ⟨xv, lvR lv, x, lv + 1, rfl, hx, by omega, fun z1 H1 s1 h1 => ?_⟩
    refine ⟨(by show 4 ≤ sizeLine; decide), fun p1 n1 => ?_⟩
    have sp1 := Same.new (o := .tup [.str "pick", kV r, .str "left", z1]) n1
    have hp1 : Tp K (upd H1 p1 (.tup [.str "pick", kV r, .str "left", z1])) (.ref p1) (Dr.pick r .l (exO x (lvR lv) (lv + 1))).dat := .mk upd_same (.cons (.str _) (.cons (rf_tp r) (.cons (.str _) (.cons (h1.s sp1) .nil))))
    generalize upd H1 p1 (.tup [.str "pick", kV r, .str "left", z1]) = H2 at sp1 hp1 ⊢
    have s2 := s1.trans sp1
    refine ⟨_, rfl, _, rfl, _, rfl, a, _, 2, _, rfl, rfl, (kpT_same s2).tup ha, rfl, _, rfl, _, _, rfl, rfl, ?_⟩
    refine ⟨yv, lvR lv, y, lv + 1, rfl, hy.s s2, by omega, fun z3 H3 s3 h3 => ?_⟩
    refine ⟨(by show 4 ≤ sizeLine; decide), fun p4 n4 => ?_⟩
    have sp4 := Same.new (o := .tup [.str "pick", kV r, .str "right", z3]) n4
    have hp4 : Tp K (upd H3 p4 (.tup [.str "pick", kV r, .str "right", z3])) (.ref p4) (Dr.pick r .r (exO y (lvR lv) (lv + 1))).dat := .mk upd_same (.cons (.str _) (.cons (rf_tp r) (.cons (.str _) (.cons (h3.s sp4) .nil))))
    generalize upd H3 p4 (.tup [.str "pick", kV r, .str "right", z3]) = H4 at sp4 hp4 ⊢
    have s24 := s3.trans sp4
    refine ⟨_, rfl, _, rfl, (by show 3 ≤ sizeLine; decide), fun p5 n5 => ?_⟩
    have s5 := Same.new (o := .tup [.str "offer", .ref p1, .ref p4]) n5
    exact q _ _ (s2.trans (s24.trans s5)) (.mk upd_same (.cons (.str _) (.cons (hp1.s (s24.trans s5)) (.cons (hp4.s s5) .nil))))
  | trade m x y =>
    have hd' : max x.dp y.dp + 1 < d + 1 := hd
    obtain ⟨a, mv, xv, yv, rfl, ha, hm, hx, hy⟩ := trade_at hg
    refine ⟨_, rfl, a, _, 0, _, rfl, rfl, ha, rfl, rfl, _, rfl, iteF ?_⟩
    refine ⟨_, rfl, a, _, 0, _, rfl, rfl, ha, rfl, rfl, _, rfl, iteF ?_⟩
    refine ⟨_, rfl, _, rfl, a, _, 2, _, rfl, rfl, ha, rfl, _, rfl, _, _, rfl, rfl, ?_⟩
    refine ⟨xv, lvR lv, x, lv + 1, rfl, hx, by omega, fun z1 H1 s1 h1 => ?_⟩
    refine ⟨_, rfl, _, _, rfl, rfl, _, rfl, a, _, 3, _, rfl, rfl, (kpT_same s1).tup ha, rfl, _, rfl, _, _, rfl, rfl, ?_⟩
    refine ⟨yv, lvR (lv + 1), y, lv + 2, rfl, hy.s s1, by omega, fun z2 H2 s2 h2 => ?_⟩
    have s12 := s1.trans s2
    refine ⟨_, rfl, _, rfl, a, _, 1, _, rfl, rfl, (kpT_same s12).tup ha, rfl, _, rfl, _, rfl, (by show 5 ≤ sizeLine; decide), fun p3 n3 => ?_⟩
    have sp3 := Same.new (o := .tup [.str "pay", kV r, mv, z1, z2]) n3
    have hp3 : Tp K (upd H2 p3 (.tup [.str "pay", kV r, mv, z1, z2])) (.ref p3) (Dr.pay r m (exO x (lvR lv) (lv + 1)) (exO y (lvR (lv + 1)) (lv + 2))).dat := .mk upd_same (.cons (.str _) (.cons (rf_tp r) (.cons (hm.s (s12.trans sp3)) (.cons (h1.s (s2.trans sp3)) (.cons (h2.s sp3) .nil)))))
    generalize upd H2 p3 (.tup [.str "pay", kV r, mv, z1, z2]) = H3 at sp3 hp3 ⊢
    refine ⟨(by show 2 ≤ sizeLine; decide), fun p5 n5 => ?_⟩
    have s5 := Same.new (o := .tup [.str "take", .ref p3]) n5
    exact q _ _ ((s12.trans sp3).trans s5) (.mk upd_same (.cons (.str _) (.cons (hp3.s s5) .nil)))
def spExpPart (K : PySem.W.Frag) (D d : Nat) : Sp := fun vs H Q _ => ∃ (lb gv v : V) (sc : Addr) (t : Dr) (g : Sn) (G : Sco) (n lv : Nat), vs = [lb, .ref sc, gv, v, iv lv] ∧ ScAt K H sc G n ∧ n + t.dp ≤ 50000 ∧ Tp K H gv g.dat ∧ Tp K H v t.dat ∧ Chk t G g lv ∧ Bnd D G g ∧ CutIn D t ∧ t.dp < d ∧
  ∀ z H', Same H H' → Tp K H' z (exP t G g lv).dat → Q z H'
theorem wk_len {t : Dr} {G : Sco} {g : Sn} {lv : Nat} (h : RowOk G g t) : (placesF G g t lv).length = t.kids.length := by
  obtain ⟨L1, L2, _⟩ := row_len h
  unfold placesF
  rw [List.length_map, List.length_zip]
  omega
theorem tpall_set {K : PySem.W.Frag} {H : Hp} {v : V} {d : PyData} : ∀ {vs : List V} {ds : List PyData} (i : Nat), TpAll K H vs ds → Tp K H v d → TpAll K H (vs.set i v) (ds.set i d)
  | [], _, i, .nil, _ => by rw [List.set_nil, List.set_nil]; exact .nil
  | _ :: _, _ :: _, 0, .cons _ t, h => .cons h t
  | _ :: _, _ :: _, i + 1, .cons h0 t, h => .cons h0 (tpall_set i t h)
theorem half_set {α : Type} : ∀ {A B : List α} {i : Nat} {x : α}, A.length = B.length → A[i]? = some x → (A.take i ++ B.drop i).set i x = A.take (i + 1) ++ B.drop (i + 1)
  | [], _, i, x, _, h => by simp at h
  | a :: A, [], i, x, e, h => by simp at e
  | a :: A, b :: B, 0, x, e, h => by
    cases h
    rfl
  | a :: A, b :: B, i + 1, x, e, h => by
    have := half_set (A := A) (B := B) (i := i) (x := x) (by simpa using e) (by simpa using h)
    simp only [List.take_succ_cons, List.drop_succ_cons, List.cons_append, List.set_cons_succ, this]
theorem half_at {α : Type} : ∀ {A B : List α} {i : Nat}, A.length = B.length → (A.take i ++ B.drop i)[i]? = B[i]?
  | [], [], i, _ => by simp
  | a :: A, [], i, e => by simp at e
  | [], b :: B, i, e => by simp at e
  | a :: A, b :: B, 0, e => rfl
  | a :: A, b :: B, i + 1, e => by
    simp only [List.take_succ_cons, List.drop_succ_cons, List.cons_append, List.getElem?_cons_succ]
    exact half_at (by simpa using e)
theorem ixN_nat' {n j : Nat} (hj : j < n) : ixN n (j : Int) = some j := by
  unfold ixN
  rw [if_pos (by omega), if_pos (by omega)]
  simp
theorem nn_of {x y : Str} (e : x = y) (h : (y == ("own" : Str)) = false) : (x == ("own" : Str)) = false := by rw [e]; exact h
theorem exppart_step {k d D : Nat} (T : Tx K mg w) (G_expanded_own : FnOk P w K mg base CX0 k T.a_expanded_own T.d_expanded_own ["ref", "goal", "level"] (spExpOwn K D))
    (G_premises : FnOk P w K mg base CX0 k T.a_premises T.d_premises ["derivation"] (spPremises K)) (G_places_above : FnOk P w K mg base CX0 k T.a_places_above T.d_places_above ["library", "scope", "goal", "row", "level"] (spPlaces K))
    (G_expanded_part : FnOk P w K mg base CX0 k T.a_expanded_part T.d_expanded_part ["library", "scope", "goal", "derivation", "level"] (spExpPart K D d))
    (G_rebuilt : FnOk P w K mg base CX0 k T.a_rebuilt T.d_rebuilt ["derivation", "parts"] (spRebuilt K)) :
    FnOk P w K mg base CX0 (k + 1) T.a_expanded_part T.d_expanded_part ["library", "scope", "goal", "derivation", "level"] (spExpPart K D (d + 1)) := by
  refine T.F_expanded_part.ok sc_expanded_part (fun vs H Q E h => ?_) (fun cdv A outer s H vs Q E hr h => ?_)
  · obtain ⟨_, _, _, _, _, _, _, _, _, rfl, _⟩ := h
    rfl
  obtain ⟨lb, gv, v, sc, t, g, G, n, lv, rfl, hsc, hn, hg, hv, hc, hB, hC, hdp, q⟩ := h
  have ok := chk_row hc
  refine ⟨_, (pss_cons (ps_if (pt_cmpR op_eq (pe_ix (ixT K) (pv 3) pe_int (fun _ _ => rfl)) pe_str (nomark _)) (pss_one (ps_ret (pe_call G_expanded_own hr (by rfl) T.m_expanded_own T.F_expanded_own.kp T.b_expanded_own .nil pass0 (pa_cons (pe_ix (ixT K) (pv 3) pe_int (fun _ _ => rfl)) (pa_cons (pv 2) (pa_cons (pv 4) pa_nil)))))) pss_nil)
      (pss_cons (ps_set (i := 5) sc_expanded_part.nd rfl (Or.inl rfl) (pe_call G_premises hr (by rfl) T.m_premises T.F_premises.kp T.b_premises .nil pass0 (pa_cons (pv 3) pa_nil)))
      (pss_cons (ps_set (i := 6) sc_expanded_part.nd rfl (Or.inl rfl) (pe_call G_places_above hr (by rfl) T.m_places_above T.F_places_above.kp T.b_places_above .nil pass0 (pa_cons (pv 0) (pa_cons (pv 1) (pa_cons (pv 2) (pa_cons (pv 3) (pa_cons (pv 4) pa_nil)))))))
      (pss_cons (ps_for PassesOwn.never rfl (pi_range1 (by rfl) T.z_range (pa_cons (pe_callB (lenS K) (by rfl) T.z_len PySem.boot_len (pa_cons (pv 5) pa_nil)) pa_nil)) (pg_name (i := 7) sc_expanded_part.nd rfl (Or.inl rfl)) (pss_cons (ps_asg (pe_ix (ixL K) (pv 6) (pv 7) (fun _ _ => rfl)) (tupK (n := 3) K rfl (pgs_cons (pg_name (i := 8) sc_expanded_part.nd rfl (Or.inl rfl)) (pgs_cons (pg_name (i := 9) sc_expanded_part.nd rfl (Or.inl rfl)) (pgs_cons (pg_name (i := 10) sc_expanded_part.nd rfl (Or.inl rfl)) pgs_nil)))))
      (pss_one (ps_asg (pe_call G_expanded_part hr (by rfl) T.m_expanded_part T.F_expanded_part.kp T.b_expanded_part .nil pass0 (pa_cons (pv 0) (pa_cons (pv 8) (pa_cons (pv 9) (pa_cons (pe_ix (ixL K) (pv 5) (pv 7) (fun _ _ => rfl)) (pa_cons (pv 10) pa_nil)))))) (pg_sub (pv 5) (pv 7) set_list)))))
      (pss_one (ps_ret (pe_call G_rebuilt hr (by rfl) T.m_rebuilt T.F_rebuilt.kp T.b_rebuilt .nil pass0 (pa_cons (pv 3) (pa_cons (pv 5) pa_nil))))))))), ?_⟩
  have own : (∃ r, t = .own r) ∨ t.kids ≠ [] ∧ (t.nm == "own") = false := by
    cases t with
    | own r => exact .inl ⟨r, rfl⟩
    | take b => exact .inr ⟨(by intro z; cases z), nn_of (y := "take") rfl (by decide +kernel)⟩
    | offer a b => exact .inr ⟨(by intro z; cases z), nn_of (y := "offer") rfl (by decide +kernel)⟩
    | pick r s b => exact .inr ⟨(by intro z; cases z), nn_of (y := "pick") rfl (by decide +kernel)⟩
    | pay r k a b => exact .inr ⟨(by intro z; cases z), nn_of (y := "pay") rfl (by decide +kernel)⟩
    | cut m s a b => exact .inr ⟨(by intro z; cases z), nn_of (y := "cut") rfl (by decide +kernel)⟩
  rcases own with ⟨r, rfl⟩ | ⟨no, nn⟩
  · obtain ⟨a, rfl, ha⟩ := own_at hv
    refine ⟨_, rfl, a, _, 0, _, rfl, rfl, ha, rfl, rfl, _, rfl, iteT ?_⟩
    exact ⟨_, rfl, a, _, 1, _, rfl, rfl, ha, rfl, _, rfl, _, rfl, gv, r, g, lv, rfl, hg, hB.1, fun z H' s1 hz => q z H' s1 hz⟩
  have hv0 := hv
  obtain ⟨a, xs, rfl, ha⟩ := row_hd hv
  refine ⟨_, rfl, a, _, 0, .str t.nm, rfl, rfl, ha, atI_nat (j := 0) rfl, rfl, _, rfl, ?_⟩
  rw [decide_eq_false (show ¬ V.str t.nm = V.str "own" from fun z => by
    have z : t.nm = "own" := V.str.inj z
    rw [z, beq_self_eq_true] at nn
    cases nn)]
  refine iteF ?_
  refine ⟨_, rfl, .ref a, t, rfl, hv0, fun H1 l ys s1 nl hl hys => ?_⟩
  refine ⟨_, rfl, _, rfl, _, rfl, _, rfl, _, rfl, lb, gv, .ref a, sc, t, g, G, n, lv, rfl, sc_same hsc s1, by omega, hg.s s1, hv0.s s1, ok, fun H2 p ps s2 np hp hps => ?_⟩
  have s12 := s1.trans s2
  have hl2 := s2 _ _ hl
  have hys2 := hys.s s2
  have plen : (placesF G g t lv).length = t.kids.length := wk_len ok
  have alen : (List.zipWith exK t.kids (placesF G g t lv)).length = t.kids.length := by rw [List.length_zipWith]; omega
  have hexp := exP_kids (lv := lv) ok no
  generalize hA : List.zipWith exK t.kids (placesF G g t lv) = A at alen hexp
  have ylen := hys.len
  rw [List.length_map] at ylen
  obtain ⟨L1, L2, L3, L4⟩ := row_len ok
  have hlp : p ≠ l := fun z => by
    rw [z, hl] at np
    cases np
  refine ⟨_, rfl, l, _, rfl, .inl (at_l hl2), _, rfl, by omega, by omega, ?_⟩
  refine for_range (n := ys.length) (fun i σ' H' => Kp (only1 l) H2 H' ∧ ∃ zs x7 x8 x9 x10, H' l = some (.lst zs) ∧ zs.length = ys.length ∧ TpAll K H' zs ((A.take i ++ t.kids.drop i).map Dr.dat) ∧ σ' = [some lb, some (.ref sc), some gv, some (.ref a), some (iv lv), some (.ref l), some (.ref p), x7, x8, x9, x10])
    ⟨Kp.refl, ys, none, none, none, none, hl2, rfl, hys2, rfl⟩ ?_ ?_
  · rintro i σ' H' hi ⟨kp, zs, x7, x8, x9, x10, hz, zlen, hzs, rfl⟩
    obtain ⟨pl, hpl1⟩ : ∃ pl, (placesF G g t lv)[i]? = some pl := ⟨_, List.getElem?_eq_getElem (by omega)⟩
    obtain ⟨u, hu1⟩ : ∃ u, t.kids[i]? = some u := ⟨_, List.getElem?_eq_getElem (by omega)⟩
    have hA1 : A[i]? = some (exK u pl) := by rw [← hA, List.getElem?_zipWith, hu1, hpl1]
    obtain ⟨py, hpy, pc, psc, pgv, rfl, hq, hsc2, hgv2⟩ := (hps.kp kp hl2).2 i pl hpl1
    obtain ⟨uv, huv, hut⟩ := hzs.get (i := i) (d := u.dat) (by rw [List.getElem?_map, half_at alen, hu1]; rfl)
    obtain ⟨hk1, hk2, hk3⟩ := kid_of hu1
    obtain ⟨hB1, hC1⟩ := bnd_kids (lv := lv) ok hB hC hpl1 hu1
    have ck := chk_kids hc hpl1 hu1
    have hp' := kp _ _ hlp hp
    refine ⟨_, rfl, _, rfl, p, _, _, _, rfl, rfl, at_l hp', at_nat hpy, ?_⟩
    refine ⟨pc, _, rfl, hq, rfl, _, _, rfl, _, _, rfl, _, _, rfl, rfl, ?_⟩
    refine ⟨_, rfl, _, rfl, _, rfl, _, rfl, _, rfl, l, _, _, uv, rfl, rfl, at_l hz, at_nat huv, _, rfl, ?_⟩
    refine ⟨lb, pgv, uv, psc, u, pl.2.1, pl.1, n + 1, pl.2.2, rfl, hsc2, by omega, hgv2, hut, ck, hB1, hC1, by omega, fun z H5 s5 h5 => ?_⟩
    have hz5 := s5 _ _ hz
    have k5 : Kp (only1 l) H5 (upd H5 l (.lst (zs.set i z))) := Kp.refl.put rfl
    refine ⟨_, rfl, _, rfl, l, zs, _, i, rfl, rfl, hz5, by rw [Int.zero_add]; exact ixN_nat' (by omega), ?_⟩
    refine ⟨(kp.trans (Kp.of s5)).trans k5, _, _, _, _, _, upd_same, by rw [List.length_set]; exact zlen, ?_, rfl⟩
    rw [← half_set alen hA1, List.map_set]
    exact (tpall_set i (hzs.s s5) h5).k (kpt_lst k5 hz5)
  · rintro σ' H' ⟨kp, zs, x7, x8, x9, x10, hz, zlen, hzs, rfl⟩
    rw [List.take_of_length_le (by omega), List.drop_of_length_le (by omega), List.append_nil] at hzs
    have s3 : Same H H' := same_kp s12 kp nl
    refine ⟨_, rfl, _, rfl, .ref a, l, t, zs, A, rfl, hv0.s s3, hz, hzs, alen, fun z H5 s5 h5 => ?_⟩
    rw [← hexp] at h5
    exact q z H5 (s3.trans s5) h5
end
end W81
namespace W81
open PySem PySem.Spec PyProof.Rows L2 HX
/-! ### inversions -/
def ivF (f : Rf → Nat → Dr) : Dr → Nat → Dr
  | .own r, lv => f r lv
  | .take b, _ => .take b
  | .offer a b, _ => .offer a b
  | .pick r s b, lv => .pick r s (ivF f b (lv + 1))
  | .pay r m a b, lv => .pay r m a (ivF f b (lv + 1))
  | .cut m s a b, lv => .cut m s a (ivF f b (lv + 1))
def IvOk : Dr → Prop
  | .own _ => True
  | .take _ => False
  | .offer _ _ => False
  | .pick _ _ b => IvOk b
  | .pay _ _ _ b => IvOk b
  | .cut _ _ _ b => IvOk b
def UsedF (g : Sn) (ch : Str) (f : Rf → Nat → Dr) : Prop :=
  (∃ m a b, g = .trade m a b ∧ f = fun r lv => .pay r m (.own (nmR ch)) (.own (lvR lv))) ∨ (∃ a b s, g = .menu a b ∧ ch = s.str ∧ f = fun r lv => .pick r s (.own (lvR lv)))
theorem iv_kids {t : Dr} (h : IvOk t) (no : t.kids ≠ []) : ∃ j b, t.kids.length = j + 1 ∧ t.kids[j]? = some b ∧ IvOk b ∧ ∀ f lv, ivF f t lv = t.wk (t.kids.set j (ivF f b (lv + 1))) := by
  cases t with
  | own r => exact absurd rfl no
  | take b => exact h.elim
  | offer a b => exact h.elim
  | pick r s b => exact ⟨0, b, rfl, rfl, h, fun f lv => rfl⟩
  | pay r m a b => exact ⟨1, b, rfl, rfl, h, fun f lv => rfl⟩
  | cut m s a b => exact ⟨1, b, rfl, rfl, h, fun f lv => rfl⟩
theorem nm_no {x y : Str} {z : Str} (e : x = y) (h : (y == z) = false) : decide (V.str x = V.str z) = false := decide_eq_false fun w => by
  have w : x = z := V.str.inj w
  rw [← e, w, beq_self_eq_true] at h
  cases h
section
variable {P : Program} {w : World} {K : PySem.W.Frag} {mg : Str → Option Value} {base : Heap}
def spLInit (C : Addr) : Sp := fun vs H Q _ => ∃ (x dx : Addr), vs = [.ref x] ∧ H x = some (.ins C dx []) ∧ ∀ H', Kp (only1 x) H H' → Q .non H'
theorem ok_Library__init {k : Nat} (T : Tx K mg w) : FnOk P w K mg base CX0 (k + 1) T.a_Library__init T.d_Library__init ["self"] (spLInit T.C_Library) := by
  refine T.F_Library__init.ok sc_Library__init (fun vs H Q E h => ?_) (fun cdv A outer s H vs Q E hr h => ?_)
  · obtain ⟨_, _, rfl, _⟩ := h
    rfl
  obtain ⟨x, dx, rfl, hx, q⟩ := h
  refine ⟨_, (pss_cons (ps_fld (pv 0) pe_int rfl)
      (pss_cons (ps_fld (pv 0) pe_dnewK rfl)
      (pss_cons (ps_fld (pv 0) pe_dnewK rfl)
      (pss_one (ps_fld (pv 0) pe_dnewK rfl))))), ?_⟩
  refine ⟨_, rfl, x, T.C_Library, dx, _, rfl, hx, T.cl_Library, T.n_changes, (by decide), ?_⟩
  refine fun a na => ?_
  have nxa : x ≠ a := ne_of_none upd_same na
  refine ⟨_, rfl, x, T.C_Library, dx, _, rfl, by rw [upd_ne nxa, upd_same], T.cl_Library, T.n_words, (by show 1 < 1000; decide), ?_⟩
  refine fun m nm => ?_
  have nxm : x ≠ m := ne_of_none upd_same nm
  refine ⟨_, rfl, x, T.C_Library, dx, _, rfl, by rw [upd_ne nxm, upd_same], T.cl_Library, T.n_meetings, (by show 2 < 1000; decide), ?_⟩
  refine fun e ne => ?_
  have nxe : x ≠ e := ne_of_none upd_same ne
  refine ⟨_, rfl, x, T.C_Library, dx, _, rfl, by rw [upd_ne nxe, upd_same], T.cl_Library, T.n_entries, (by show 3 < 1000; decide), ?_⟩
  have k1 : Kp (only1 x) H (upd H x _) := Kp.refl.put (o := .ins T.C_Library dx [("changes", .int 0)]) rfl
  exact q _ ((((((k1.new na).put rfl).new nm).put rfl).new ne).put rfl)
def spUsed (K : PySem.W.Frag) : Sp := fun vs H Q _ => ∃ (gv : V) (r : Key) (g : Sn) (ch : Str) (lv : Nat) (f : Rf → Nat → Dr), vs = [kV r, gv, .str ch, iv lv] ∧ Tp K H gv g.dat ∧ UsedF g ch f ∧ ∀ z H', Same H H' → Tp K H' z (f r lv).dat → Q z H'
theorem ok_used {k : Nat} (T : Tx K mg w) : FnOk P w K mg base CX0 (k + 1) T.a_used T.d_used ["ref", "goal", "choice", "level"] (spUsed K) := by
  refine T.F_used.ok sc_used (fun vs H Q E h => ?_) (fun cdv A outer s H vs Q E hr h => ?_)
  · obtain ⟨_, _, _, _, _, _, rfl, _⟩ := h
    rfl
  obtain ⟨gv, r, g, ch, lv, f, rfl, hg, hf, q⟩ := h
  refine ⟨_, (pss_cons (ps_if (pt_cmpR op_eq (pe_ix (ixT K) (pv 1) pe_int (fun _ _ => rfl)) pe_str (nomark _)) (pss_one (ps_ret (pe_tup (pa_cons pe_str (pa_cons (pv 0) (pa_cons (pe_ix (ixT K) (pv 1) pe_int (fun _ _ => rfl)) (pa_cons (pe_tup (pa_cons pe_str (pa_cons (pv 2) pa_nil))) (pa_cons (pe_tup (pa_cons pe_str (pa_cons (pv 3) pa_nil))) pa_nil)))))))) pss_nil)
      (pss_one (ps_ret (pe_tup (pa_cons pe_str (pa_cons (pv 0) (pa_cons (pv 2) (pa_cons (pe_tup (pa_cons pe_str (pa_cons (pv 3) pa_nil))) pa_nil)))))))), ?_⟩
  rcases hf with ⟨m, x, y, rfl, rfl⟩ | ⟨x, y, s, rfl, rfl, rfl⟩
  · obtain ⟨a, mv, xv, yv, rfl, ha, hm, hx, hy⟩ := trade_at hg
    refine ⟨_, rfl, a, _, 0, _, rfl, rfl, ha, rfl, rfl, _, rfl, iteT ?_⟩
    refine ⟨_, rfl, _, rfl, a, _, 1, _, rfl, rfl, ha, rfl, _, rfl, (by show 2 ≤ sizeLine; decide), fun p1 n1 => ?_⟩
    have s1 := Same.new (o := .tup [.str "own", .str ch]) n1
    have h1 : Tp K (upd H p1 (.tup [.str "own", .str ch])) (.ref p1) (Dr.own (nmR ch)).dat := .mk upd_same (.cons (.str _) (.cons (.str _) .nil))
    generalize upd H p1 (.tup [.str "own", .str ch]) = H1 at s1 h1 ⊢
    refine ⟨_, rfl, (by show 2 ≤ sizeLine; decide), fun p2 n2 => ?_⟩
    have s2 := Same.new (o := .tup [.str "own", iv lv]) n2
    have h2 : Tp K (upd H1 p2 (.tup [.str "own", iv lv])) (.ref p2) (Dr.own (lvR lv)).dat := .mk upd_same (.cons (.str _) (.cons (.int _) .nil))
    generalize upd H1 p2 (.tup [.str "own", iv lv]) = H2 at s2 h2 ⊢
    refine ⟨(by show 5 ≤ sizeLine; decide), fun p3 n3 => ?_⟩
    have s3 := Same.new (o := .tup [.str "pay", kV r, mv, .ref p1, .ref p2]) n3
    have s := s1.trans (s2.trans s3)
    exact q _ _ s (.mk upd_same (.cons (.str _) (.cons (rf_tp r) (.cons (hm.s s) (.cons (h1.s (s2.trans s3)) (.cons (h2.s s3) .nil))))))
  · obtain ⟨a, xv, yv, rfl, ha, hx, hy⟩ := menu_at hg
    refine ⟨_, rfl, a, _, 0, _, rfl, rfl, ha, rfl, rfl, _, rfl, iteF ?_⟩
    refine ⟨_, rfl, _, rfl, _, rfl, (by show 2 ≤ sizeLine; decide), fun p2 n2 => ?_⟩
    have s2 := Same.new (o := .tup [.str "own", iv lv]) n2
    have h2 : Tp K (upd H p2 (.tup [.str "own", iv lv])) (.ref p2) (Dr.own (lvR lv)).dat := .mk upd_same (.cons (.str _) (.cons (.int _) .nil))
    generalize upd H p2 (.tup [.str "own", iv lv]) = H2 at s2 h2 ⊢
    refine ⟨(by show 4 ≤ sizeLine; decide), fun p3 n3 => ?_⟩
    have s3 := Same.new (o := .tup [.str "pick", kV r, .str s.str, .ref p2]) n3
    exact q _ _ (s2.trans s3) (.mk upd_same (.cons (.str _) (.cons (rf_tp r) (.cons (.str _) (.cons (h2.s s3) .nil)))))
def spInverted (K : PySem.W.Frag) (d : Nat) : Sp := fun vs H Q _ => ∃ (v gv : V) (t : Dr) (g : Sn) (ch : Str) (lv : Nat) (f : Rf → Nat → Dr), vs = [v, gv, .str ch, iv lv] ∧ Tp K H v t.dat ∧ Tp K H gv g.dat ∧ UsedF g ch f ∧ IvOk t ∧ t.dp < d ∧ ∀ z H', Same H H' → Tp K H' z (ivF f t lv).dat → Q z H'
theorem inverted_step {k d : Nat} (T : Tx K mg w) (G_used : FnOk P w K mg base CX0 k T.a_used T.d_used ["ref", "goal", "choice", "level"] (spUsed K)) (G_premises : FnOk P w K mg base CX0 k T.a_premises T.d_premises ["derivation"] (spPremises K))
    (G_inverted : FnOk P w K mg base CX0 k T.a_inverted T.d_inverted ["derivation", "goal", "choice", "level"] (spInverted K d)) (G_rebuilt : FnOk P w K mg base CX0 k T.a_rebuilt T.d_rebuilt ["derivation", "parts"] (spRebuilt K)) :
    FnOk P w K mg base CX0 (k + 1) T.a_inverted T.d_inverted ["derivation", "goal", "choice", "level"] (spInverted K (d + 1)) := by
  refine T.F_inverted.ok sc_inverted (fun vs H Q E h => ?_) (fun cdv A outer s H vs Q E hr h => ?_)
  · obtain ⟨_, _, _, _, _, _, _, rfl, _⟩ := h
    rfl
  obtain ⟨v, gv, t, g, ch, lv, f, rfl, hv, hg, hf, ok, hd, q⟩ := h
  refine ⟨_, (pss_cons (ps_set (i := 4) sc_inverted.nd rfl (Or.inl rfl) (pe_ix (ixT K) (pv 0) pe_int (fun _ _ => rfl)))
      (pss_cons (ps_if (pt_cmpR op_eq (pv 4) pe_str (nomark _)) (pss_one ps_never) pss_nil)
      (pss_cons (ps_if (pt_cmpR op_eq (pv 4) pe_str (nomark _)) (pss_cons ps_never
      (pss_one ps_never)) pss_nil)
      (pss_cons (ps_if (pt_cmpR op_eq (pv 4) pe_str (nomark _)) (pss_one (ps_ret (pe_call G_used hr (by rfl) T.m_used T.F_used.kp T.b_used .nil pass0 (pa_cons (pe_ix (ixT K) (pv 0) pe_int (fun _ _ => rfl)) (pa_cons (pv 1) (pa_cons (pv 2) (pa_cons (pv 3) pa_nil))))))) pss_nil)
      (pss_cons (ps_if (pt_cmpR op_eq (pv 4) pe_str (nomark _)) (pss_one ps_never) pss_nil)
      (pss_cons (ps_set (i := 5) sc_inverted.nd rfl (Or.inl rfl) (pe_call G_premises hr (by rfl) T.m_premises T.F_premises.kp T.b_premises .nil pass0 (pa_cons (pv 0) pa_nil)))
      (pss_cons (ps_set (i := 6) sc_inverted.nd rfl (Or.inl rfl) (pe_op op_sub (pe_callB (lenS K) (by rfl) T.z_len PySem.boot_len (pa_cons (pv 5) pa_nil)) pe_int))
      (pss_cons (ps_asg (pe_call G_inverted hr (by rfl) T.m_inverted T.F_inverted.kp T.b_inverted .nil pass0 (pa_cons (pe_ix (ixL K) (pv 5) (pv 6) (fun _ _ => rfl)) (pa_cons (pv 1) (pa_cons (pv 2) (pa_cons (pe_op op_add (pv 3) pe_int) pa_nil))))) (pg_sub (pv 5) (pv 6) set_list))
      (pss_one (ps_ret (pe_call G_rebuilt hr (by rfl) T.m_rebuilt T.F_rebuilt.kp T.b_rebuilt .nil pass0 (pa_cons (pv 0) (pa_cons (pv 5) pa_nil))))))))))))), ?_⟩
  have own : (∃ r, t = .own r) ∨ (t.kids ≠ [] ∧ decide (V.str t.nm = V.str "take") = false ∧ decide (V.str t.nm = V.str "offer") = false ∧ decide (V.str t.nm = V.str "own") = false ∧ decide (V.str t.nm = V.str "cite") = false) := by
    cases t with
    | own r => exact .inl ⟨r, rfl⟩
    | take b => exact ok.elim
    | offer a b => exact ok.elim
    | pick r s b => exact .inr ⟨(by intro z; cases z), nm_no (y := "pick") rfl (by decide +kernel), nm_no (y := "pick") rfl (by decide +kernel), nm_no (y := "pick") rfl (by decide +kernel), nm_no (y := "pick") rfl (by decide +kernel)⟩
    | pay r k a b => exact .inr ⟨(by intro z; cases z), nm_no (y := "pay") rfl (by decide +kernel), nm_no (y := "pay") rfl (by decide +kernel), nm_no (y := "pay") rfl (by decide +kernel), nm_no (y := "pay") rfl (by decide +kernel)⟩
    | cut m s a b => exact .inr ⟨(by intro z; cases z), nm_no (y := "cut") rfl (by decide +kernel), nm_no (y := "cut") rfl (by decide +kernel), nm_no (y := "cut") rfl (by decide +kernel), nm_no (y := "cut") rfl (by decide +kernel)⟩
  rcases own with ⟨r, rfl⟩ | ⟨no, n1, n2, n3, n4⟩
  · obtain ⟨a, rfl, ha⟩ := own_at hv
    refine ⟨_, rfl, a, _, 0, _, rfl, rfl, ha, rfl, _, rfl, rfl, _, rfl, iteF ⟨_, rfl, rfl, _, rfl, iteF ⟨_, rfl, rfl, _, rfl, iteT ?_⟩⟩⟩
    exact ⟨_, rfl, a, _, 1, _, rfl, rfl, ha, rfl, _, rfl, _, rfl, _, rfl, gv, r, g, ch, lv, f, rfl, hg, hf, fun z H' s1 hz => q z H' s1 hz⟩
  have hv0 := hv
  obtain ⟨a, xs, rfl, ha⟩ := row_hd hv
  refine ⟨_, rfl, a, _, 0, .str t.nm, rfl, rfl, ha, atI_nat (j := 0) rfl, _, rfl, rfl, _, rfl, ?_⟩
  rw [n1]
  refine iteF ⟨_, rfl, rfl, _, rfl, ?_⟩
  rw [n2]
  refine iteF ⟨_, rfl, rfl, _, rfl, ?_⟩
  rw [n3]
  refine iteF ⟨_, rfl, rfl, _, rfl, ?_⟩
  rw [n4]
  refine iteF ?_
  refine ⟨_, rfl, .ref a, t, rfl, hv0, fun H1 l ys s1 nl hl hys => ?_⟩
  obtain ⟨j, b, hj1, hj2, hb, hiv⟩ := iv_kids ok no
  have ylen := hys.len
  rw [List.length_map] at ylen
  obtain ⟨hk1, hk2, hk3⟩ := kid_of hj2
  obtain ⟨uv, huv, hut⟩ := hys.get (i := j) (d := b.dat) (by rw [List.getElem?_map, hj2]; rfl)
  refine ⟨_, rfl, l, _, rfl, .inl (at_l hl), _, _, rfl, rfl, ?_⟩
  refine ⟨_, rfl, _, rfl, l, _, _, uv, rfl, rfl, at_l hl, at_of (j := j) (by omega) huv, _, rfl, _, rfl, _, rfl, _, _, rfl, rfl, ?_⟩
  refine ⟨uv, gv, b, g, ch, lv + 1, f, rfl, hut, hg.s s1, hf, hb, by omega, fun z H5 s5 h5 => ?_⟩
  have hz5 := s5 _ _ hl
  have k5 : Kp (only1 l) H5 (upd H5 l (.lst (ys.set j z))) := Kp.refl.put rfl
  have e5 : ((ys.length : Int) - 1) = (j : Int) := by omega
  refine ⟨_, rfl, _, rfl, l, ys, _, j, rfl, rfl, hz5, by rw [e5]; exact ixN_nat' (by omega), ?_⟩
  have s6 : Same H (upd H5 l (.lst (ys.set j z))) := same_kp (s1.trans s5) k5 nl
  refine ⟨_, rfl, _, rfl, .ref a, l, t, _, t.kids.set j (ivF f b (lv + 1)), rfl, hv0.s s6, upd_same, ?_, by rw [List.length_set], fun z6 H7 s7 h7 => ?_⟩
  · rw [List.map_set]
    exact (tpall_set j (hys.s s5) h5).k (kpt_lst k5 hz5)
  · rw [← hiv] at h7
    exact q z6 H7 (s6.trans s7) h7
end
end W81
namespace W81
open PySem PySem.Spec PyProof.Rows L2 HX
/-! ### inversions of claims; moves -/
def clDr (c : Clm) (t : Dr) : PyData := .tuple [clmD c, t.dat]
def RefOk : Rf → Prop
  | .inl i => 0 ≤ i
  | .inr _ => True
def Tw : Dr → Prop
  | .own r => RefOk r
  | .cut _ _ a b => Tw a ∧ Tw b
  | _ => False
def rnF (y x : Str) (r : Rf) : Rf := if r = nmR y then nmR x else r
def mvD (y x : Str) : Dr → Dr
  | .own r => .own (rnF y x r)
  | .cut m s a b => .cut m s (mvD y x a) (mvD y x b)
  | t => t
section
variable {P : Program} {w : World} {K : PySem.W.Frag} {mg : Str → Option Value} {base : Heap}
def spInvTake (K : PySem.W.Frag) (d : Nat) : Sp := fun vs H Q _ => ∃ (v tv : V) (c : Clm) (t : Dr) (x : Str) (m : Kd) (a b : Sn), vs = [v, tv, .str x] ∧ Tp K H v (clmD c) ∧ Tp K H tv t.dat ∧ c.2 = .trade m a b ∧ c.1.length < 1000 ∧ (∀ u, u ∈ c.1 ++ [(x, m, a)] → NameOk u.1 ∧ u.2.1.Ok) ∧
  ((c.1 ++ [(x, m, a)]).map (·.1)).Nodup ∧ IvOk t ∧ t.dp < d ∧ ∀ z H', Same H H' → Tp K H' z (clDr (c.1 ++ [(x, m, a)], b) (ivF (fun r lv => .pay r m (.own (nmR x)) (.own (lvR lv))) t 0)) → Q z H'
theorem ok_invert_take {k d : Nat} (T : Tx K mg w) (G_with_hold : FnOk P w K mg base CX0 k T.a_with_hold T.d_with_hold ["claim", "name", "kind", "sentence"] (spWithHold K))
    (G_inverted : FnOk P w K mg base CX0 k T.a_inverted T.d_inverted ["derivation", "goal", "choice", "level"] (spInverted K d)) : FnOk P w K mg base CX0 (k + 1) T.a_invert_take T.d_invert_take ["claim", "derivation", "name"] (spInvTake K d) := by
  refine T.F_invert_take.ok sc_invert_take (fun vs H Q E h => ?_) (fun cdv A outer s H vs Q E hr h => ?_)
  · obtain ⟨_, _, _, _, _, _, _, _, rfl, _⟩ := h
    rfl
  obtain ⟨v, tv, c, t, x, m, sa, sb, rfl, hv, ht, hc2, hlen, hok, hnd, hiv, hd, q⟩ := h
  refine ⟨_, (pss_cons (ps_set (i := 3) sc_invert_take.nd rfl (Or.inl rfl) (pe_ix (ixT K) (pv 0) pe_int (fun _ _ => rfl)))
      (pss_cons (ps_if (pt_cmpR op_ne (pe_ix (ixT K) (pv 3) pe_int (fun _ _ => rfl)) pe_str (nomark _)) (pss_one ps_never) pss_nil)
      (pss_cons (ps_set (i := 4) sc_invert_take.nd rfl (Or.inl rfl) (pe_ix (ixT K) (pe_call G_with_hold hr (by rfl) T.m_with_hold T.F_with_hold.kp T.b_with_hold .nil pass0 (pa_cons (pv 0) (pa_cons (pv 2) (pa_cons (pe_ix (ixT K) (pv 3) pe_int (fun _ _ => rfl)) (pa_cons (pe_ix (ixT K) (pv 3) pe_int (fun _ _ => rfl)) pa_nil))))) pe_int (fun _ _ => rfl)))
      (pss_one (ps_ret (pe_tup (pa_cons (pe_tup (pa_cons (pv 4) (pa_cons (pe_ix (ixT K) (pv 3) pe_int (fun _ _ => rfl)) pa_nil))) (pa_cons (pe_call G_inverted hr (by rfl) T.m_inverted T.F_inverted.kp T.b_inverted .nil pass0 (pa_cons (pv 1) (pa_cons (pv 3) (pa_cons (pv 2) (pa_cons pe_int pa_nil))))) pa_nil)))))))), ?_⟩
  have hv0 := hv
  obtain ⟨a, ha, hs, gv, rfl, h1, h2, h3, h4⟩ := clm_at hv
  rw [hc2] at h4
  have h40 := h4
  obtain ⟨b, mv, xv, yv, rfl, hb, hm, hx, hy⟩ := trade_at h4
  refine ⟨_, rfl, a, _, 1, _, rfl, rfl, h1, rfl, ?_⟩
  refine ⟨_, rfl, b, _, 0, _, rfl, rfl, hb, rfl, rfl, _, rfl, iteF ?_⟩
  refine ⟨_, rfl, _, rfl, _, rfl, b, _, 1, _, rfl, rfl, hb, rfl, _, rfl, b, _, 2, _, rfl, rfl, hb, rfl, ?_⟩
  refine ⟨.ref a, mv, xv, c, (x, m, sa), rfl, hv0, hm, hx, hlen, hok, hnd, fun z1 H1 s1 hz1 => ?_⟩
  obtain ⟨a1, ha1, hs1, gv1, rfl, g1, g2, g3, g4⟩ := clm_at hz1
  refine ⟨a1, _, 0, _, rfl, rfl, g1, rfl, ?_⟩
  refine ⟨_, rfl, _, rfl, b, _, 3, _, rfl, rfl, (kpT_same s1).tup hb, rfl, (by show 2 ≤ sizeLine; decide), fun p2 n2 => ?_⟩
  have s2 := Same.new (o := .tup [.ref ha1, yv]) n2
  have hh : Tp K H1 (.ref ha1) (.tuple ((c.1 ++ [(x, m, sa)]).map holdD)) := .tup g2 g3
  have hp2 : Tp K (upd H1 p2 (.tup [.ref ha1, yv])) (.ref p2) (clmD (c.1 ++ [(x, m, sa)], sb)) := .mk upd_same (.cons (hh.s s2) (.cons (hy.s (s1.trans s2)) .nil))
  generalize upd H1 p2 (.tup [.ref ha1, yv]) = H2 at s2 hp2 ⊢
  have s12 := s1.trans s2
  refine ⟨_, rfl, _, rfl, _, rfl, ?_⟩
  refine ⟨tv, .ref b, t, .trade m sa sb, x, 0, _, rfl, ht.s s12, h40.s s12, .inl ⟨m, sa, sb, rfl, rfl⟩, hiv, hd, fun z3 H3 s3 h3 => ?_⟩
  refine ⟨(by show 2 ≤ sizeLine; decide), fun p4 n4 => ?_⟩
  have s4 := Same.new (o := .tup [.ref p2, z3]) n4
  exact q _ _ (s12.trans (s3.trans s4)) (.mk upd_same (.cons (hp2.s (s3.trans s4)) (.cons (h3.s s4) .nil)))
def spInvOffer (K : PySem.W.Frag) (d : Nat) : Sp := fun vs H Q _ => ∃ (v tv : V) (c : Clm) (t : Dr) (s : Side) (a b : Sn), vs = [v, tv, .str s.str] ∧ Tp K H v (clmD c) ∧ Tp K H tv t.dat ∧ c.2 = .menu a b ∧ IvOk t ∧ t.dp < d ∧
  ∀ z H', Same H H' → Tp K H' z (clDr (c.1, s.sel a b) (ivF (fun r lv => .pick r s (.own (lvR lv))) t 0)) → Q z H'
theorem ok_invert_offer {k d : Nat} (T : Tx K mg w) (G_inverted : FnOk P w K mg base CX0 k T.a_inverted T.d_inverted ["derivation", "goal", "choice", "level"] (spInverted K d)) :
    FnOk P w K mg base CX0 (k + 1) T.a_invert_offer T.d_invert_offer ["claim", "derivation", "side"] (spInvOffer K d) := by
  refine T.F_invert_offer.ok sc_invert_offer (fun vs H Q E h => ?_) (fun cdv A outer s H vs Q E hr h => ?_)
  · obtain ⟨_, _, _, _, _, _, _, rfl, _⟩ := h
    rfl
  obtain ⟨v, tv, c, t, sd, sa, sb, rfl, hv, ht, hc2, hiv, hd, q⟩ := h
  refine ⟨_, (pss_cons (ps_set (i := 3) sc_invert_offer.nd rfl (Or.inl rfl) (pe_ix (ixT K) (pv 0) pe_int (fun _ _ => rfl)))
      (pss_cons (ps_if (pt_cmpR op_ne (pe_ix (ixT K) (pv 3) pe_int (fun _ _ => rfl)) pe_str (nomark _)) (pss_one ps_never) pss_nil)
      (pss_cons (ps_set (i := 4) sc_invert_offer.nd rfl (Or.inl rfl) (pe_ix (ixT K) (pv 3) pe_int (fun _ _ => rfl)))
      (pss_cons (ps_if (pt_cmpR op_eq (pv 2) pe_str (nomark _)) (pss_one (ps_set (i := 4) sc_invert_offer.nd rfl (Or.inl rfl) (pe_ix (ixT K) (pv 3) pe_int (fun _ _ => rfl)))) pss_nil)
      (pss_one (ps_ret (pe_tup (pa_cons (pe_tup (pa_cons (pe_ix (ixT K) (pv 0) pe_int (fun _ _ => rfl)) (pa_cons (pv 4) pa_nil))) (pa_cons (pe_call G_inverted hr (by rfl) T.m_inverted T.F_inverted.kp T.b_inverted .nil pass0 (pa_cons (pv 1) (pa_cons (pv 3) (pa_cons (pv 2) (pa_cons pe_int pa_nil))))) pa_nil))))))))), ?_⟩
  obtain ⟨a, ha, hs, gv, rfl, h1, h2, h3, h4⟩ := clm_at hv
  rw [hc2] at h4
  have h40 := h4
  obtain ⟨b, xv, yv, rfl, hb, hx, hy⟩ := menu_at h4
  refine ⟨_, rfl, a, _, 1, _, rfl, rfl, h1, rfl, ?_⟩
  refine ⟨_, rfl, b, _, 0, _, rfl, rfl, hb, rfl, rfl, _, rfl, iteF ?_⟩
  refine ⟨_, rfl, b, _, 1, _, rfl, rfl, hb, rfl, ?_⟩
  have fin : ∀ wv, Tp K H wv (sd.sel sa sb).dat → tRet (tTup (tCons (tTup (tCons (tOp (rIxT K) (tVar 0) (tC (.int 0))) (tCons (tVar 4) tNil))) (tCons (tCall (spInverted K d) [] E0 (tCons (tVar 1) (tCons (tVar 3) (tCons (tVar 2) (tCons (tC (.int 0)) tNil))))) tNil)))
      { nx := fun x H' => Q V.non H', rt := Q } [some (.ref a), some tv, some (.str sd.str), some (.ref b), some wv] H := fun wv hw => by
    refine ⟨_, rfl, a, _, 0, _, rfl, rfl, h1, rfl, _, rfl, (by show 2 ≤ sizeLine; decide), fun p2 n2 => ?_⟩
    have s2 := Same.new (o := .tup [.ref ha, wv]) n2
    have hh : Tp K H (.ref ha) (.tuple (c.1.map holdD)) := .tup h2 h3
    have hp2 : Tp K (upd H p2 (.tup [.ref ha, wv])) (.ref p2) (clmD (c.1, sd.sel sa sb)) := .mk upd_same (.cons (hh.s s2) (.cons (hw.s s2) .nil))
    generalize upd H p2 (.tup [.ref ha, wv]) = H2 at s2 hp2 ⊢
    refine ⟨_, rfl, _, rfl, _, rfl, ?_⟩
    refine ⟨tv, .ref b, t, .menu sa sb, sd.str, 0, _, rfl, ht.s s2, h40.s s2, .inr ⟨sa, sb, sd, rfl, rfl, rfl⟩, hiv, hd, fun z3 H3 s3 h3 => ?_⟩
    refine ⟨(by show 2 ≤ sizeLine; decide), fun p4 n4 => ?_⟩
    have s4 := Same.new (o := .tup [.ref p2, z3]) n4
    exact q _ _ (s2.trans (s3.trans s4)) (.mk upd_same (.cons (hp2.s (s3.trans s4)) (.cons (h3.s s4) .nil)))
  cases sd with
  | l => exact ⟨_, rfl, rfl, _, rfl, iteF (fin xv hx)⟩
  | r => exact ⟨_, rfl, rfl, _, rfl, iteT ⟨_, rfl, b, _, 2, _, rfl, rfl, hb, rfl, fin yv hy⟩⟩
def spExpanded (K : PySem.W.Frag) (D d : Nat) : Sp := fun vs H Q _ => ∃ (lb cv v : V) (t : Dr) (c : Clm), vs = [lb, cv, v] ∧ Tp K H cv (clmD c) ∧ Tp K H v t.dat ∧ c.1.length ≤ 1000 ∧ Chk t (scF c.1) c.2 0 ∧ Bnd D (scF c.1) c.2 ∧ CutIn D t ∧ t.dp < d ∧ t.dp ≤ 1000 ∧ ∀ z H', Same H H' → Tp K H' z (exP t (scF c.1) c.2 0).dat → Q z H'
theorem ok_expanded {k D d : Nat} (T : Tx K mg w) (G_scope_of : FnOk P w K mg base CX0 k T.a_scope_of T.d_scope_of ["claim"] (spScopeOf K))
    (G_expanded_part : FnOk P w K mg base CX0 k T.a_expanded_part T.d_expanded_part ["library", "scope", "goal", "derivation", "level"] (spExpPart K D d)) :
    FnOk P w K mg base CX0 (k + 1) T.a_expanded T.d_expanded ["library", "claim", "derivation"] (spExpanded K D d) := by
  refine T.F_expanded.ok sc_expanded (fun vs H Q E h => ?_) (fun cdv A outer s H vs Q E hr h => ?_)
  · obtain ⟨_, _, _, _, _, rfl, _⟩ := h
    rfl
  obtain ⟨lb, cv, v, t, c, rfl, hcv, hv, hlen, hc, hB, hC, hd, hd2, q⟩ := h
  refine ⟨_, (pss_one (ps_ret (pe_call G_expanded_part hr (by rfl) T.m_expanded_part T.F_expanded_part.kp T.b_expanded_part .nil pass0 (pa_cons (pv 0) (pa_cons (pe_call G_scope_of hr (by rfl) T.m_scope_of T.F_scope_of.kp T.b_scope_of .nil pass0 (pa_cons (pv 1) pa_nil)) (pa_cons (pe_ix (ixT K) (pv 1) pe_int (fun _ _ => rfl)) (pa_cons (pv 2) (pa_cons pe_int pa_nil)))))))), ?_⟩
  have hcv0 := hcv
  obtain ⟨a, ha, hs, gv, rfl, h1, h2, h3, h4⟩ := clm_at hcv
  refine ⟨_, rfl, _, rfl, .ref a, c, rfl, hcv0, hlen, fun sc H1 s1 nsc hsc => ?_⟩
  refine ⟨_, rfl, a, _, 1, _, rfl, rfl, (kpT_same s1).tup h1, rfl, _, rfl, ?_⟩
  exact ⟨lb, gv, v, sc, t, c.2, scF c.1, c.1.length, 0, rfl, hsc, by omega, h4.s s1, hv.s s1, hc, hB, hC, hd, fun z H2 s2 hz => q z H2 (s1.trans s2) hz⟩
def spMovedRef : Sp := fun vs H Q _ => ∃ (r : Rf) (x y : Str) (dd : Addr), vs = [kV r, .int 0, .int 0, .ref dd] ∧ RefOk r ∧ H dd = some (.dK [(nmR y, .str x)]) ∧ Q (kV (rnF y x r)) H
theorem ok_moved_ref {k : Nat} (T : Tx K mg w) : FnOk P w K mg base CX0 (k + 1) T.a_moved_ref T.d_moved_ref ["ref", "old", "new", "renamed"] spMovedRef := by
  refine T.F_moved_ref.ok sc_moved_ref (fun vs H Q E h => ?_) (fun cdv A outer s H vs Q E hr h => ?_)
  · obtain ⟨_, _, _, _, rfl, _⟩ := h
    rfl
  obtain ⟨r, x, y, dd, rfl, hr1, hdd, q⟩ := h
  have hu := hu_of hr
  refine ⟨_, (pss_cons (ps_if (PW.pt (pw_and (pt_val (pe_callB (isiS K) (by rfl) T.z_isinstance (by decide +kernel) (pa_cons (pv 0) (pa_cons (pe_bltn (v := .ty "int") (by rfl) T.z_int (by decide +kernel) rfl) pa_nil)))) (pw_and1 (pt_cmpR op_ge (pv 0) (pv 1) (nomark _))))) (pss_one (ps_ret (pe_op op_sub (pe_op op_add (pv 0) (pv 2)) (pv 1)))) pss_nil)
      (pss_cons (ps_if (pt_cmp (pc_din hu (pv 0) (pv 3))) (pss_one (ps_ret (pe_dget hu (pv 3) (pv 0) (fun _ _ => rfl)))) pss_nil)
      (pss_one (ps_ret (pv 0))))), ?_⟩
  cases r with
  | inl i =>
    refine ⟨_, rfl, _, _, _, _, true, rfl, .ty _, .base (.int i), kit_ty (by decide +kernel), _, rfl, iteT ?_⟩
    refine ⟨_, rfl, _, rfl, _, _, rfl, rfl, _, rfl, ?_⟩
    rw [decide_eq_true (show (0 : Int) ≤ i from hr1)]
    refine iteT ⟨_, rfl, _, rfl, _, _, rfl, rfl, _, rfl, _, _, rfl, rfl, ?_⟩
    have e : rnF y x (.inl i) = .inl i := if_neg (fun z => by cases z)
    rw [e] at q
    have e2 : i + 0 - 0 = i := by omega
    dsimp only
    rw [e2]
    exact q
  | inr z =>
    refine ⟨_, rfl, _, _, _, _, false, rfl, .ty _, .base (.str z), kit_ty (by decide +kernel), _, rfl, iteF (iteF ?_)⟩
    by_cases hz : z = y
    · subst hz
      have e1 : valV [(nmR z, V.str x)] (nmR z) = some (.str x) := valV_pos rfl
      have e : rnF z x (.inr z) = nmR x := if_pos rfl
      rw [e] at q
      refine ⟨_, rfl, _, rfl, dd, some (.str x), rfl, dget_k (k := nmR z) hdd e1, _, rfl, iteT ?_⟩
      exact ⟨_, rfl, _, rfl, dd, _, rfl, dget_k (k := nmR z) hdd e1, q⟩
    · have hne : ¬ nmR y = (Sum.inr z : Rf) := fun w => hz (by cases w; rfl)
      have e1 : valV [(nmR y, V.str x)] (nmR z) = none := by rw [valV_neg hne]; rfl
      have e : rnF y x (.inr z) = .inr z := if_neg (fun w => hz (by cases w; rfl))
      rw [e] at q
      exact ⟨_, rfl, _, rfl, dd, none, rfl, dget_k (k := nmR z) hdd e1, _, rfl, iteF ⟨_, rfl, q⟩⟩
end
end W81
namespace W81
open PySem PySem.Spec PyProof.Rows L2 HX
/-! ### moves, least kinds, pooled holds -/
theorem tw_kids {t u : Dr} {i : Nat} (h : Tw t) (hu : t.kids[i]? = some u) : Tw u := by
  cases t with
  | own r => simp [Dr.kids] at hu
  | take b => exact h.elim
  | offer a b => exact h.elim
  | pick r s b => exact h.elim
  | pay r m a b => exact h.elim
  | cut m s a b =>
    rcases two_at hu with ⟨rfl, rfl⟩ | ⟨rfl, rfl⟩
    · exact h.1
    · exact h.2
def lkF (c : Clm) (t : Dr) : Clm := (c.1.filterMap fun h => (t.cn 0 (nmR h.1)).map fun n => (h.1, .box n.m n.d, h.2.2), c.2)
section
variable {P : Program} {w : World} {K : PySem.W.Frag} {mg : Str → Option Value} {base : Heap}
def spMoved (K : PySem.W.Frag) (d : Nat) : Sp := fun vs H Q _ => ∃ (v : V) (t : Dr) (x y : Str) (dd : Addr), vs = [v, .int 0, .int 0, .ref dd] ∧ Tp K H v t.dat ∧ Tw t ∧ t.dp < d ∧ H dd = some (.dK [(nmR y, .str x)]) ∧ ∀ z H', Same H H' → Tp K H' z (mvD y x t).dat → Q z H'
theorem moved_step {k d : Nat} (T : Tx K mg w) (G_premises : FnOk P w K mg base CX0 k T.a_premises T.d_premises ["derivation"] (spPremises K)) (G_moved : FnOk P w K mg base CX0 k T.a_moved T.d_moved ["derivation", "old", "new", "renamed"] (spMoved K d))
    (G_rebuilt : FnOk P w K mg base CX0 k T.a_rebuilt T.d_rebuilt ["derivation", "parts"] (spRebuilt K)) (G_refers_to : FnOk P w K mg base CX0 k T.a_refers_to T.d_refers_to ["derivation"] (spRefers K))
    (G_moved_ref : FnOk P w K mg base CX0 k T.a_moved_ref T.d_moved_ref ["ref", "old", "new", "renamed"] spMovedRef) : FnOk P w K mg base CX0 (k + 1) T.a_moved T.d_moved ["derivation", "old", "new", "renamed"] (spMoved K (d + 1)) := by
  refine T.F_moved.ok sc_moved (fun vs H Q E h => ?_) (fun cdv A outer s H vs Q E hr h => ?_)
  · obtain ⟨_, _, _, _, _, rfl, _⟩ := h
    rfl
  obtain ⟨v, t, x, y, dd, rfl, hv, tw, hd, hdd, q⟩ := h
  refine ⟨_, (pss_cons (ps_setLc (i := 4) (own := [("premise", 7)]) (g := gName 7) (by rfl) sc_moved.nd rfl rfl (sw_true rfl rfl rfl (by decide +kernel)) (piL K (pe_call G_premises hr (by rfl) T.m_premises T.F_premises.kp T.b_premises .nil pass0 (pa_cons (pv 0) pa_nil))) (blkOk_by (own := [("premise", 7)]) (N := ["derivation", "old", "new", "renamed", "parts", "result", "ref", "premise"]) (sc := defScope s_moved) (by decide +kernel)) (fun _ _ _ _ _ => (pg_name (i := 7) sc_moved.nd rfl (Or.inl rfl))) (fun _ _ _ _ _ => pts_nil) (fun _ _ _ _ _ => (pe_call G_moved hr (by rfl) T.m_moved T.F_moved.kp T.b_moved .nil pass0 (pa_cons (pv 7) (pa_cons (pv 1) (pa_cons (pv 2) (pa_cons (pv 3) pa_nil)))))))
      (pss_cons (ps_set (i := 5) sc_moved.nd rfl (Or.inl rfl) (pe_call G_rebuilt hr (by rfl) T.m_rebuilt T.F_rebuilt.kp T.b_rebuilt .nil pass0 (pa_cons (pv 0) (pa_cons (pv 4) pa_nil))))
      (pss_cons (ps_set (i := 6) sc_moved.nd rfl (Or.inl rfl) (pe_call G_refers_to hr (by rfl) T.m_refers_to T.F_refers_to.kp T.b_refers_to .nil pass0 (pa_cons (pv 0) pa_nil)))
      (pss_cons (ps_if (pt_cmpR op_isN (pv 6) pe_non (nomark _)) (pss_one (ps_ret (pv 5))) pss_nil)
      (pss_one (ps_ret (pe_op (catA K) (pe_tup (pa_cons (pe_ix (ixT K) (pv 5) pe_int (fun _ _ => rfl)) (pa_cons (pe_call G_moved_ref hr (by rfl) T.m_moved_ref T.F_moved_ref.kp T.b_moved_ref .nil pass0 (pa_cons (pv 6) (pa_cons (pv 1) (pa_cons (pv 2) (pa_cons (pv 3) pa_nil))))) pa_nil))) (pe_slice (slT K) (pv 5) (po_some pe_int) po_none)))))))), ?_⟩
  refine ⟨_, rfl, v, t, rfl, hv, fun H1 l ys s1 nl hl hys => ?_⟩
  refine ⟨l, rfl, ⟨ys, at_l hl⟩, fun D nD => ?_⟩
  have ylen := hys.len
  rw [List.length_map] at ylen
  have klen : t.kids.length ≤ 2 := by cases t <;> (show _ ≤ 2) <;> simp [Dr.kids]
  refine lc_list (xs := ys) (fun i H' => Same H1 H' ∧ ∃ zs, H' D = some (.lst zs) ∧ TpAll K H' zs (((t.kids.take i).map (mvD y x)).map Dr.dat)) ⟨Same.new nD, [], upd_same, .nil⟩ (fun i H' _ z => at_l (z.1 _ _ hl)) ?_ ?_
  · rintro i u H' hx ⟨sm, zs, hD, hzs⟩
    have hi : i < ys.length := (List.getElem?_eq_some_iff.mp hx).1
    obtain ⟨ku, hku⟩ : ∃ ku, t.kids[i]? = some ku := ⟨_, List.getElem?_eq_getElem (by omega)⟩
    obtain ⟨uv, huv, hut⟩ := (hys.s sm).get (i := i) (d := ku.dat) (by rw [List.getElem?_map, hku]; rfl)
    rw [hx] at huv
    cases huv
    obtain ⟨hk1, _, _⟩ := kid_of hku
    have ht : t.kids.take (i + 1) = t.kids.take i ++ [ku] := by rw [List.take_add_one, hku]; rfl
    have zlen := hzs.len
    rw [List.length_map, List.length_map, List.length_take] at zlen
    refine ⟨rfl, ?_⟩
    dsimp only [tYes]
    rw [if_pos rfl]
    refine ⟨_, rfl, _, rfl, _, rfl, _, rfl, u, ku, x, y, dd, rfl, hut, tw_kids tw hku, by omega, sm _ _ (s1 _ _ hdd), fun z H5 s5 h5 => ?_⟩
    have hD5 := s5 _ _ hD
    refine ⟨zs, hD5, sz2 (by omega), Same.put (sm.trans s5) nD, _, upd_same, ?_⟩
    rw [ht, List.map_append, List.map_append]
    exact ((hzs.s s5).app (.cons h5 .nil)).k (kpt_lst (Kp.refl.put rfl) hD5)
  · rintro H' ⟨sm, zs, hD, hzs⟩
    rw [List.take_of_length_le (by omega)] at hzs
    have s2 := s1.trans sm
    refine ⟨_, rfl, _, rfl, v, D, t, zs, t.kids.map (mvD y x), rfl, hv.s s2, hD, hzs, by rw [List.length_map], fun rv H3 s3 h3 => ?_⟩
    have s13 := s2.trans s3
    refine ⟨_, rfl, v, t, rfl, hv.s s13, fun H4 s4 => ?_⟩
    have s14 := s13.trans s4
    have h4 := h3.s s4
    cases t with
    | take b => exact tw.elim
    | offer a b => exact tw.elim
    | pick r s b => exact tw.elim
    | pay r m a b => exact tw.elim
    | cut m s a b =>
      refine ⟨_, rfl, rfl, _, rfl, iteT ?_⟩
      exact ⟨_, rfl, q _ _ s14 h4⟩
    | own r =>
      have h4' : Tp K H4 rv (Dr.own r).dat := h4
      obtain ⟨a, rfl, ha⟩ := own_at h4'
      refine ⟨_, rfl, rfl, _, rfl, ?_⟩
      have er : decide (refV (Dr.own r).ref = V.non) = false := decide_eq_false (show ¬ kV r = V.non from fun z => by cases r <;> cases z)
      rw [er]
      refine iteF ?_
      refine ⟨_, rfl, a, _, 0, _, rfl, rfl, ha, rfl, _, rfl, _, rfl, _, rfl, _, rfl, r, x, y, dd, rfl, tw, s14 _ _ hdd, ?_⟩
      refine ⟨(by show 2 ≤ sizeLine; decide), fun p1 n1 => ?_⟩
      have sp1 := Same.new (o := .tup [.str "own", kV (rnF y x r)]) n1
      have hp1 : SqT K (upd H4 p1 (.tup [.str "own", kV (rnF y x r)])) p1 [.str "own", kV (rnF y x r)] := at_t upd_same
      generalize upd H4 p1 (.tup [.str "own", kV (rnF y x r)]) = H5 at sp1 hp1 ⊢
      refine ⟨_, rfl, _, rfl, a, _, rfl, (kpT_same sp1).tup ha, (fun z => (show ¬ HT.sIx 2 0 (some 2) = 0 by decide) z.1), fun p np => ?_⟩
      have sp2 : Same H5 (upd H5 p (.tup [])) := Same.new np
      refine ⟨p1, p, _, [], rfl, rfl, (kpT_same sp2).tup hp1, at_t upd_same, by show 2 + 0 ≤ sizeLine; decide, fun z => (by cases z), fun _ _ => ?_, fun _ z => absurd rfl z⟩
      exact q _ _ (s14.trans (sp1.trans sp2)) (.tup ((kpT_same sp2).tup hp1) (.cons (.str _) (.cons (rf_tp _) .nil)))
def spLeast (K : PySem.W.Frag) (D : Nat) : Sp := fun vs H Q _ => ∃ (v tv : V) (c : Clm) (t : Dr), vs = [v, tv] ∧ Tp K H v (clmD c) ∧ Tp K H tv t.dat ∧ c.1.length ≤ 1000 ∧ (∀ h, h ∈ c.1 → h.2.1.isOnce = false) ∧ t.Kn ∧ t.sz ≤ 20000 ∧ t.dp < D ∧ ∀ z H', Same H H' → Tp K H' z (clmD (lkF c t)) → Q z H'
theorem ok_least_kinds {k D : Nat} (T : Tx K mg w) (G_counts : FnOk P w K mg base CX0 k T.a_counts T.d_counts ["derivation", "level"] (spCounts K T.C_Count D)) : FnOk P w K mg base CX0 (k + 1) T.a_least_kinds T.d_least_kinds ["claim", "derivation"] (spLeast K D) := by
  refine T.F_least_kinds.ok sc_least_kinds (fun vs H Q E h => ?_) (fun cdv A outer s H vs Q E hr h => ?_)
  · obtain ⟨_, _, _, _, rfl, _⟩ := h
    rfl
  obtain ⟨v, tv, c, t, rfl, hv, ht, hlen, hbx, hkn, hsz, hd, q⟩ := h
  have hu := hu_of hr
  refine ⟨_, (pss_cons (ps_set (i := 2) sc_least_kinds.nd rfl (Or.inl rfl) (pe_call G_counts hr (by rfl) T.m_counts T.F_counts.kp T.b1_counts T.v_counts pass0 (pa_cons (pv 1) pa_nil)))
      (pss_cons (ps_set (i := 3) sc_least_kinds.nd rfl (Or.inl rfl) (pe_lst pa_nil))
      (pss_cons (ps_for PassesOwn.never rfl (piT K (pe_ix (ixT K) (pv 0) pe_int (fun _ _ => rfl))) (tupK (n := 3) K rfl (pgs_cons (pg_name (i := 4) sc_least_kinds.nd rfl (Or.inl rfl)) (pgs_cons (pg_name (i := 5) sc_least_kinds.nd rfl (Or.inl rfl)) (pgs_cons (pg_name (i := 6) sc_least_kinds.nd rfl (Or.inl rfl)) pgs_nil)))) (pss_one (ps_if (pt_cmpR (eqD K hr.units) (pv 5) pe_str (nomark _)) (pss_one (ps_expr (pe_bm PySem.F.plainAttrs_list PySem.F.slot_list_append PySem.F.type_list_append mt_append (pv 3) (pa_cons (pe_tup (pa_cons (pv 4) (pa_cons (pv 5) (pa_cons (pv 6) pa_nil)))) pa_nil)))) (pss_one (ps_if (pt_cmp (pc_din hu (pv 4) (pv 2))) (pss_one (ps_expr (pe_bm PySem.F.plainAttrs_list PySem.F.slot_list_append PySem.F.type_list_append mt_append (pv 3) (pa_cons (pe_tup (pa_cons (pv 4) (pa_cons (pe_tup (pa_cons (pe_fldK K (pe_dget hu (pv 2) (pv 4) (fun _ _ => rfl)) rfl) (pa_cons (pe_fldK K (pe_dget hu (pv 2) (pv 4) (fun _ _ => rfl)) rfl) pa_nil))) (pa_cons (pv 6) pa_nil)))) pa_nil)))) pss_nil)))))
      (pss_one (ps_ret (pe_tup (pa_cons (pe_callTy (tupleS K) (by rfl) T.z_tuple (by decide +kernel) (pa_cons (pv 3) pa_nil)) (pa_cons (pe_ix (ixT K) (pv 0) pe_int (fun _ _ => rfl)) pa_nil)))))))), ?_⟩
  obtain ⟨a, ha, hs, gv, rfl, h1, h2, h3, h4⟩ := clm_at hv
  have len := h3.len
  rw [List.length_map] at len
  refine ⟨_, rfl, tv, 0, t, rfl, ht, hkn, hsz, hd, fun f H1 s1 nf hf => ?_⟩
  obtain ⟨ks, hk, dk, _⟩ := hf
  refine ⟨(by show 0 ≤ sizeLine; decide), fun p np => ?_⟩
  have s2 : Same H1 (upd H1 p (.lst [])) := Same.new np
  refine ⟨_, rfl, a, _, 0, _, rfl, rfl, (kpT_same (s1.trans s2)).tup h1, rfl, ha, rfl, ⟨hs, (kpT_same (s1.trans s2)).tup h2⟩, ?_⟩
  refine for_tup (xs := hs) (fun i σ' H' => Same H1 H' ∧ ∃ ys x4 x5 x6, H' p = some (.lst ys) ∧ ys.length ≤ i ∧ TpAll K H' ys (((c.1.take i).filterMap fun h => (t.cn 0 (nmR h.1)).map fun n => ((h.1, Kd.box n.m n.d, h.2.2) : Hold)).map holdD) ∧ σ' = [some (.ref a), some tv, some (.ref f), some (.ref p), x4, x5, x6])
    ⟨s2, [], none, none, none, upd_same, Nat.le_refl _, .nil, rfl⟩ (fun i σ' H' _ z => (kpT_same (s1.trans z.1)).tup h2) ?_ ?_
  · rintro i y σ' H' hx ⟨sm, ys, x4, x5, x6, hp, hyl, hys, rfl⟩
    have hi : i < hs.length := (List.getElem?_eq_some_iff.mp hx).1
    obtain ⟨d, hd, hxd⟩ := h3.getL hx
    rw [List.getElem?_map] at hd
    cases e : c.1[i]? with
    | none => rw [e] at hd; cases hd
    | some h =>
      rw [e] at hd
      cases hd
      have ht1 : c.1.take (i + 1) = c.1.take i ++ [h] := by rw [List.take_add_one, e]; rfl
      have sm1 := s1.trans sm
      obtain ⟨b, mv, sv, rfl, hb, hm, hsn⟩ := hold_at (hxd.s sm1)
      refine ⟨b, _, rfl, hb, rfl, _, _, rfl, _, _, rfl, _, _, rfl, rfl, ?_⟩
      refine ⟨_, rfl, _, _, kd_dp hm, .str _, kd_shaped _, once_shaped, _, rfl, ?_⟩
      rw [kd_eqv, hbx h (List.mem_of_getElem? e)]
      refine iteF ?_
      have hk' := sm _ _ hk
      rw [ht1, List.filterMap_append, List.map_append]
      rcases dk.get (nmR h.1) with ⟨v1, t1, e1, e2, r1⟩ | ⟨e1, e2⟩
      · obtain ⟨cx, dx, rfl, hcx⟩ := r1.same sm
        have dg : DGet H' f (.str h.1) (some (.ref cx)) := dget_k (k := nmR h.1) hk' e1
        refine ⟨_, rfl, _, rfl, f, _, rfl, dg, _, rfl, iteT ?_⟩
        refine ⟨_, rfl, .inl ⟨rfl, _, at_l hp⟩, _, rfl, _, rfl, _, rfl, f, _, rfl, dg, cx, T.C_Count, dx, _, _, rfl, hcx, T.cl_Count, T.n_most, cf_m, _, rfl, _, rfl, f, _, rfl, dg, cx, T.C_Count, dx, _, _, rfl, hcx, T.cl_Count, T.n_days, cf_d, (by show 2 ≤ sizeLine; decide), fun z nz => ?_⟩
        have sz := Same.new (o := .tup [iv t1.m, iv t1.d]) nz
        have hz : Tp K (upd H' z (.tup [iv t1.m, iv t1.d])) (.ref z) (Kd.box t1.m t1.d).dat := .mk upd_same (.cons (.int _) (.cons (.int _) .nil))
        generalize upd H' z (.tup [iv t1.m, iv t1.d]) = H2 at sz hz ⊢
        refine ⟨_, rfl, (by show 3 ≤ sizeLine; decide), fun z2 nz2 => ?_⟩
        have sz2' := Same.new (o := .tup [.str h.1, .ref z, sv]) nz2
        have hz2 : Tp K (upd H2 z2 (.tup [.str h.1, .ref z, sv])) (.ref z2) (holdD (h.1, Kd.box t1.m t1.d, h.2.2)) := .mk upd_same (.cons (.str _) (.cons (hz.s sz2') (.cons (hsn.s (sz.trans sz2')) .nil)))
        generalize upd H2 z2 (.tup [.str h.1, .ref z, sv]) = H3 at sz2' hz2 ⊢
        have s23 := sz.trans sz2'
        have hp3 := s23 _ _ hp
        refine ⟨p, _, _, rfl, rfl, hp3, sz2 (by omega), Same.put (sm.trans s23) np, _, _, _, _, upd_same, by rw [List.length_append]; show _ + 1 ≤ _; omega, ?_, rfl⟩
        rw [show List.filterMap (fun h : Hold => (t.cn 0 (nmR h.1)).map fun n => ((h.1, Kd.box n.m n.d, h.2.2) : Hold)) [h] = [(h.1, Kd.box t1.m t1.d, h.2.2)] by rw [List.filterMap_cons_some (by rw [e2]; rfl)]; rfl]
        exact ((hys.s s23).app (.cons hz2 .nil)).k (kpt_lst (Kp.refl.put rfl) hp3)
      · refine ⟨_, rfl, _, rfl, f, none, rfl, dget_k (k := nmR h.1) hk' e1, _, rfl, iteF ?_⟩
        refine ⟨sm, _, _, _, _, hp, by omega, ?_, rfl⟩
        rw [show List.filterMap (fun h : Hold => (t.cn 0 (nmR h.1)).map fun n => ((h.1, Kd.box n.m n.d, h.2.2) : Hold)) [h] = [] by rw [List.filterMap_cons_none (by rw [e2]; rfl)]; rfl, List.map_nil, List.append_nil]
        exact hys
  · rintro σ' H' ⟨sm, ys, x4, x5, x6, hp, hyl, hys, rfl⟩
    rw [len, List.take_length] at hys
    refine ⟨_, rfl, p, ys, rfl, .inl ⟨at_l hp, fun l nl => ?_⟩⟩
    have sl : Same H' (upd H' l (.tup ys)) := Same.new nl
    have hl : Tp K (upd H' l (.tup ys)) (.ref l) (.tuple ((lkF c t).1.map holdD)) := .mk upd_same (hys.s sl)
    generalize upd H' l (.tup ys) = H3 at sl hl ⊢
    have sa := (s1.trans sm).trans sl
    refine ⟨_, rfl, a, _, 1, _, rfl, rfl, (kpT_same sa).tup h1, rfl, (by show 2 ≤ sizeLine; decide), fun z nz => ?_⟩
    have sz := Same.new (o := .tup [.ref l, gv]) nz
    exact q _ _ (sa.trans sz) (.mk upd_same (.cons (hl.s sz) (.cons (h4.s (sa.trans sz)) .nil)))
def spPooledHolds (K : PySem.W.Frag) (d : Nat) : Sp := fun vs H Q _ => ∃ (v tv : V) (c : Clm) (t : Dr) (x y : Str) (h1 h2 : Hold) (n1 d1 n2 d2 : Nat), vs = [v, tv, .str x, .str y] ∧ Tp K H v (clmD c) ∧ Tp K H tv t.dat ∧ c.1.length ≤ 1000 ∧ x ≠ y ∧
  c.1.find? (fun h => decide (h.1 = x)) = some h1 ∧ c.1.find? (fun h => decide (h.1 = y)) = some h2 ∧ h1.2.1 = .box n1 d1 ∧ h2.2.1 = .box n2 d2 ∧ h1.2.2 = h2.2.2 ∧ SeqAt.shaped h1.2.2.dat = true ∧ Tw t ∧ t.dp < d ∧
  ∀ z H', Same H H' → Tp K H' z (clDr (wkC (woC c y) x (.box (n1 + n2) (max d1 d2))) (mvD y x t)) → Q z H'
theorem ok_pooled_holds {k d : Nat} (T : Tx K mg w) (G_hold_of : FnOk P w K mg base CX0 k T.a_hold_of T.d_hold_of ["claim", "name"] (spHoldOf K)) (G_with_kind : FnOk P w K mg base CX0 k T.a_with_kind T.d_with_kind ["claim", "name", "kind"] (spWithKind K))
    (G_without_hold : FnOk P w K mg base CX0 k T.a_without_hold T.d_without_hold ["claim", "name"] (spWithoutHold K)) (G_pooled : FnOk P w K mg base CX0 k T.a_pooled T.d_pooled ["first", "second"] (spPooled K))
    (G_moved : FnOk P w K mg base CX0 k T.a_moved T.d_moved ["derivation", "old", "new", "renamed"] (spMoved K d)) : FnOk P w K mg base CX0 (k + 1) T.a_pooled_holds T.d_pooled_holds ["claim", "derivation", "first", "second"] (spPooledHolds K d) := by
  refine T.F_pooled_holds.ok sc_pooled_holds (fun vs H Q E h => ?_) (fun cdv A outer s H vs Q E hr h => ?_)
  · obtain ⟨_, _, _, _, _, _, _, _, _, _, _, _, rfl, _⟩ := h
    rfl
  obtain ⟨v, tv, c, t, x, y, g1, g2, n1, d1, n2, d2, rfl, hv, ht, hlen, hxy, f1, f2, e1, e2, e3, hsh, tw, hd, q⟩ := h
  have hu := hu_of hr
  refine ⟨_, (pss_cons (ps_asg (pe_call G_hold_of hr (by rfl) T.m_hold_of T.F_hold_of.kp T.b_hold_of .nil pass0 (pa_cons (pv 0) (pa_cons (pv 2) pa_nil))) (tupK (n := 2) K rfl (pgs_cons (pg_name (i := 4) sc_pooled_holds.nd rfl (Or.inl rfl)) (pgs_cons (pg_name (i := 5) sc_pooled_holds.nd rfl (Or.inl rfl)) pgs_nil))))
      (pss_cons (ps_asg (pe_call G_hold_of hr (by rfl) T.m_hold_of T.F_hold_of.kp T.b_hold_of .nil pass0 (pa_cons (pv 0) (pa_cons (pv 3) pa_nil))) (tupK (n := 2) K rfl (pgs_cons (pg_name (i := 6) sc_pooled_holds.nd rfl (Or.inl rfl)) (pgs_cons (pg_name (i := 7) sc_pooled_holds.nd rfl (Or.inl rfl)) pgs_nil))))
      (pss_cons (ps_if (PW.pt (pw_or (pt_cmpR op_eq (pv 2) (pv 3) (nomark _)) (pw_or (pt_cmpR (neD K hr.units) (pv 5) (pv 7) (nomark _)) (pw_or1 (pt_cmpR (inT K (room65 hr)) pe_str (pe_tup (pa_cons (pv 4) (pa_cons (pv 6) pa_nil))) (by rfl)))))) (pss_one ps_never) pss_nil)
      (pss_cons (ps_set (i := 8) sc_pooled_holds.nd rfl (Or.inl rfl) (pe_call G_with_kind hr (by rfl) T.m_with_kind T.F_with_kind.kp T.b_with_kind .nil pass0 (pa_cons (pe_call G_without_hold hr (by rfl) T.m_without_hold T.F_without_hold.kp T.b_without_hold .nil pass0 (pa_cons (pv 0) (pa_cons (pv 3) pa_nil))) (pa_cons (pv 2) (pa_cons (pe_call G_pooled hr (by rfl) T.m_pooled T.F_pooled.kp T.b_pooled .nil pass0 (pa_cons (pv 4) (pa_cons (pv 6) pa_nil))) pa_nil)))))
      (pss_one (ps_ret (pe_tup (pa_cons (pv 8) (pa_cons (pe_call G_moved hr (by rfl) T.m_moved T.F_moved.kp T.b_moved .nil pass0 (pa_cons (pv 1) (pa_cons pe_int (pa_cons pe_int (pa_cons (pe_disp (pps_cons (pv 3) (pv 2) pps_nil) rfl rfl (by intro z; cases z) (by decide)) pa_nil))))) pa_nil))))))))), ?_⟩
  refine ⟨_, rfl, _, rfl, v, c, x, g1, rfl, hv, f1, fun z1 H1 s1 hp1 => ?_⟩
  obtain ⟨pa1, mv1, sv1, rfl, hpa1, hm1, hs1⟩ := pr_at hp1
  rw [e1] at hm1
  refine ⟨pa1, _, rfl, hpa1, rfl, _, _, rfl, _, _, rfl, rfl, ?_⟩
  refine ⟨_, rfl, _, rfl, v, c, y, g2, rfl, hv.s s1, f2, fun z2 H2 s2 hp2 => ?_⟩
  obtain ⟨pa2, mv2, sv2, rfl, hpa2, hm2, hs2⟩ := pr_at hp2
  rw [e2] at hm2
  have hs1 : Tp K H2 sv1 g2.2.2.dat := by rw [← e3]; exact hs1.s s2
  rw [e3] at hsh
  have hm1 := hm1.s s2
  have s12 := s1.trans s2
  refine ⟨pa2, _, rfl, hpa2, rfl, _, _, rfl, _, _, rfl, rfl, ?_⟩
  refine ⟨_, rfl, _, rfl, rfl, _, rfl, ?_⟩
  rw [decide_eq_false (show ¬ V.str x = V.str y from fun z => hxy (by cases z; rfl))]
  refine iteF ?_
  refine ⟨_, rfl, _, rfl, _, _, hs1.dq, hs2.dq, hsh, hsh, _, rfl, ?_⟩
  rw [eqv_self hsh]
  refine iteF ?_
  refine ⟨_, rfl, _, rfl, (by show 2 ≤ sizeLine; decide), fun e ne => ?_⟩
  have se : Same H2 (upd H2 e (.tup [mv1, mv2])) := Same.new ne
  have he : Tp K (upd H2 e (.tup [mv1, mv2])) (.ref e) (.tuple [(Kd.box n1 d1).dat, (Kd.box n2 d2).dat]) := .mk upd_same (.cons (hm1.s se) (.cons (hm2.s se) .nil))
  generalize upd H2 e (.tup [mv1, mv2]) = H3 at se he ⊢
  have s3 := s12.trans se
  refine ⟨_, _, .str _, he.dq, once_shaped, ?_, _, rfl, ?_⟩
  · unfold SeqAt.shaped Kd.dat
    simp only [PyData.canLay0, PyData.canLayAll0, PyData.depth, PyData.depthAll, Bool.and_self]
    rfl
  have ea : ([(Kd.box n1 d1).dat, (Kd.box n2 d2).dat].any fun z => PyData.eqv z (.str "once")) = false := by
    simp only [List.any_cons, List.any_nil, kd_eqv]
    rfl
  rw [ea]
  refine iteF ?_
  refine ⟨_, rfl, _, rfl, v, c, y, g2, rfl, hv.s s3, hlen, f2, fun z4 H4 s4 h4 => ?_⟩
  refine ⟨_, rfl, _, rfl, _, rfl, mv1, mv2, n1, d1, n2, d2, rfl, hm1.s (se.trans s4), hm2.s (se.trans s4), fun z5 H5 s5 h5 => ?_⟩
  have wl : (woC c y).1.length ≤ 1000 := Nat.le_trans (List.length_filter_le _ _) hlen
  refine ⟨z4, z5, woC c y, x, _, rfl, h4.s s5, h5, wl, fun z6 H6 s6 h6 => ?_⟩
  have s36 := s3.trans (s4.trans (s5.trans s6))
  refine ⟨_, rfl, _, rfl, ?_⟩
  refine fun dd nd => ⟨_, rfl, _, rfl, upd_same, [(nmR y, .str x)], rfl, (by show 1 ≤ 15; decide), ?_⟩
  rw [upd_upd]
  have sd : Same H6 (upd H6 dd (.dK [(nmR y, .str x)])) := Same.new nd
  have hdd : (upd H6 dd (.dK [(nmR y, .str x)])) dd = some (.dK [(nmR y, .str x)]) := upd_same
  rw [show mergeK [] [(nmR y, V.str x)] = [(nmR y, V.str x)] from rfl]
  generalize upd H6 dd (.dK [(nmR y, .str x)]) = H7 at sd hdd ⊢
  refine ⟨tv, t, x, y, dd, rfl, ht.s (s36.trans sd), tw, hd, hdd, fun z8 H8 s8 h8 => ?_⟩
  refine ⟨(by show 2 ≤ sizeLine; decide), fun p9 n9 => ?_⟩
  have s9 := Same.new (o := .tup [z6, z8]) n9
  exact q _ _ (s36.trans (sd.trans (s8.trans s9))) (.mk upd_same (.cons (h6.s (sd.trans (s8.trans s9))) (.cons (h8.s s9) .nil)))
end
end W81
namespace W81
open PySem PySem.Spec PyProof.Rows L2 HX
/-! ### data that may be shown -/
structure Shw (d : PyData) (dep wt : Nat) : Prop where
  lay : d.canLay0 = true
  short : d.leavesShort 13 = true
  show_ : d.showable = true
  dep_ : d.depth ≤ dep
  wt_ : d.weight ≤ wt
theorem Shw.mono {d : PyData} {a b a' b' : Nat} (h : Shw d a b) (h1 : a ≤ a') (h2 : b ≤ b') : Shw d a' b' := ⟨h.lay, h.short, h.show_, Nat.le_trans h.dep_ h1, Nat.le_trans h.wt_ h2⟩
theorem n1000 : ∀ k : Fin 1000, ((PyData.leavesShort 13 (.int (k.val : Nat))) && (PyData.int (k.val : Nat)).showable && decide ((PyData.int (k.val : Nat)).weight ≤ 10)) = true := by decide +kernel
theorem shw_nat {k : Nat} (h : k < 1000) : Shw (.int (k : Int)) 0 10 := by
  have := n1000 ⟨k, h⟩
  rw [Bool.and_eq_true, Bool.and_eq_true, decide_eq_true_eq] at this
  exact ⟨by simp only [PyData.canLay0], this.1.1, this.1.2, by simp only [PyData.depth]; omega, this.2⟩
theorem shw_str {x : Str} (hl : x.cps.size ≤ 12) (hc : ∀ c, c ∈ x.cps.toList → c < 128) : Shw (.str x) 0 12 := by
  refine ⟨?_, ?_, by simp only [PyData.showable], by simp only [PyData.depth]; omega, ?_⟩
  · simp only [PyData.canLay0]
    show (x.cps.all (· < 0x110000)) = true
    rw [← Array.all_toList, List.all_eq_true]
    intro c hm
    exact decide_eq_true (Nat.lt_of_lt_of_le (hc c hm) (by decide))
  · simp only [PyData.leavesShort]
    rw [List.all_eq_true]
    intro c hm
    rw [decide_eq_true_eq]
    exact Nat.lt_of_lt_of_le (hc c hm) (by decide)
  · simp only [PyData.weight]
    exact hl
theorem let_small : (letters.all fun c => decide (c < 128)) = true := by decide +kernel
theorem dig_small : (digits.all fun c => decide (c < 128)) = true := by decide +kernel
theorem nameOk_small {x : Str} (h : NameOk x) : ∀ c, c ∈ x.cps.toList → c < 128 := fun c hc => by
  rcases h.2.2 c hc with h | h
  · exact of_decide_eq_true (List.all_eq_true.mp let_small c h)
  · exact of_decide_eq_true (List.all_eq_true.mp dig_small c h)
theorem shw_name {x : Str} (h : NameOk x) : Shw (.str x) 0 12 := shw_str h.1 (nameOk_small h)
theorem shw_lit {x : Str} (h : (decide (x.cps.size ≤ 12) && x.cps.toList.all fun c => decide (c < 128)) = true) : Shw (.str x) 0 12 := by
  rw [Bool.and_eq_true, decide_eq_true_eq, List.all_eq_true] at h
  exact shw_str h.1 fun c hc => of_decide_eq_true (h.2 c hc)
inductive ShwAll : List PyData → Nat → Nat → Prop
  | nil {d : Nat} : ShwAll [] d 0
  | cons {x : PyData} {xs : List PyData} {d w w' : Nat} (h : Shw x d w) (t : ShwAll xs d w') : ShwAll (x :: xs) d (w + 1 + w')
theorem ShwAll.all {xs : List PyData} {d w : Nat} (h : ShwAll xs d w) : PyData.canLayAll0 xs = true ∧ PyData.leavesShortAll 13 xs = true ∧ PyData.showableAll xs = true ∧ PyData.depthAll xs ≤ d ∧ PyData.weightAll xs ≤ w := by
  induction h with
  | nil =>
    simp only [PyData.canLayAll0, PyData.leavesShortAll, PyData.showableAll, PyData.depthAll, PyData.weightAll]
    exact ⟨trivial, trivial, trivial, Nat.zero_le _, Nat.zero_le _⟩
  | cons h t ih =>
    obtain ⟨h0, h1, h2, h3, h4⟩ := ih
    simp only [PyData.canLayAll0, PyData.leavesShortAll, PyData.showableAll, PyData.depthAll, PyData.weightAll, h.lay, h.short, h.show_, h0, h1, h2, Bool.and_self]
    have z1 := h.dep_
    have z2 := h.wt_
    refine ⟨trivial, trivial, trivial, by omega, by omega⟩
theorem ShwAll.tup {xs : List PyData} {d w : Nat} (h : ShwAll xs d w) : Shw (.tuple xs) (d + 1) w := by
  obtain ⟨h0, h1, h2, h3, h4⟩ := h.all
  exact ⟨by simpa only [PyData.canLay0] using h0, by simpa only [PyData.leavesShort] using h1, by simpa only [PyData.showable] using h2, by simp only [PyData.depth]; omega, by simpa only [PyData.weight] using h4⟩
theorem ShwAll.of {α : Type} {F : α → PyData} {d w : Nat} : ∀ {xs : List α}, (∀ x, x ∈ xs → Shw (F x) d w) → ShwAll (xs.map F) d (xs.length * (w + 1))
  | [], _ => by rw [List.length_nil, Nat.zero_mul]; exact .nil
  | x :: xs, h => by
    have e : (x :: xs).length * (w + 1) = w + 1 + xs.length * (w + 1) := by rw [List.length_cons, Nat.succ_mul, Nat.add_comm]
    rw [e]
    exact .cons (h x (List.mem_cons_self ..)) (ShwAll.of fun y hy => h y (List.mem_cons_of_mem _ hy))
theorem Shw.fits {d : PyData} {dep wt : Nat} (h : Shw d dep wt) (hw : wt ≤ 1048576) : d.shown.length ≤ sizeLine := PyData.shown_fits (by decide) (by decide) h.short (Nat.le_trans h.wt_ (by
  have e : (2 : Nat) ^ 20 = 1048576 := by decide
  omega))
theorem Shw.shaped {d : PyData} {dep wt : Nat} (h : Shw d dep wt) (hd : dep ≤ 64) : SeqAt.shaped d = true := by
  unfold SeqAt.shaped
  rw [h.lay, decide_eq_true (Nat.le_trans h.dep_ hd)]
  rfl
/-! ### small kinds, sentences, references -/
def Kd.Sm : Kd → Prop
  | .once => True
  | .box n d => 1 ≤ n ∧ n < 1000 ∧ d < 1000
def Sn.Sm : Sn → Prop
  | .word x => NameOk x
  | .menu a b => a.Sm ∧ b.Sm
  | .trade m a b => m.Sm ∧ a.Sm ∧ b.Sm
def Sn.sz : Sn → Nat
  | .word _ => 1
  | .menu a b => a.sz + b.sz + 1
  | .trade _ a b => a.sz + b.sz + 1
def RfSm : Rf → Prop
  | .inl i => 0 ≤ i ∧ i < 1000
  | .inr x => NameOk x
/-- no cut, and small -/
def Dr.Lf : Dr → Prop
  | .own r => RfSm r
  | .take b => b.Lf
  | .offer a b => a.Lf ∧ b.Lf
  | .pick r _ b => RfSm r ∧ b.Lf
  | .pay r m a b => RfSm r ∧ m.Sm ∧ a.Lf ∧ b.Lf
  | .cut _ _ _ _ => False
theorem shw_kd {m : Kd} (h : m.Sm) : Shw m.dat 1 22 := by
  cases m with
  | once => exact (shw_lit (by decide +kernel)).mono (by decide) (by decide)
  | box n d => exact (ShwAll.cons (shw_nat h.2.1) (.cons (shw_nat h.2.2) .nil)).tup
theorem shw_rf {r : Rf} (h : RfSm r) : Shw (rfD r) 0 12 := by
  cases r with
  | inl i =>
    obtain ⟨h1, h2⟩ := h
    have e : i = ((i.toNat : Nat) : Int) := by omega
    rw [e]
    exact (shw_nat (by omega)).mono (Nat.le_refl _) (by decide)
  | inr x => exact shw_name h
theorem Sn.shw : ∀ {s : Sn}, s.Sm → Shw s.dat (s.dp + 1) (s.sz * 60)
  | .word x, h => (ShwAll.cons (shw_lit (x := "word") (by decide +kernel)) (.cons (shw_name h) .nil)).tup.mono (by show 0 + 1 ≤ 0 + 1; decide) (by show 12 + 1 + (12 + 1 + 0) ≤ 1 * 60; decide)
  | .menu a b, h => by
    have h1 := (Sn.shw h.1).mono (show a.dp + 1 ≤ max a.dp b.dp + 1 by omega) (Nat.le_refl _)
    have h2 := (Sn.shw h.2).mono (show b.dp + 1 ≤ max a.dp b.dp + 1 by omega) (Nat.le_refl _)
    refine ((ShwAll.cons ((shw_lit (x := "menu") (by decide +kernel)).mono (Nat.zero_le (max a.dp b.dp + 1)) (Nat.le_refl _)) (.cons h1 (.cons h2 .nil))).tup).mono (Nat.le_refl _) ?_
    show 12 + 1 + (a.sz * 60 + 1 + (b.sz * 60 + 1 + 0)) ≤ (a.sz + b.sz + 1) * 60
    omega
  | .trade m a b, h => by
    have h1 := (Sn.shw h.2.1).mono (show a.dp + 1 ≤ max a.dp b.dp + 1 by omega) (Nat.le_refl _)
    have h2 := (Sn.shw h.2.2).mono (show b.dp + 1 ≤ max a.dp b.dp + 1 by omega) (Nat.le_refl _)
    refine ((ShwAll.cons ((shw_lit (x := "trade") (by decide +kernel)).mono (Nat.zero_le (max a.dp b.dp + 1)) (Nat.le_refl _)) (.cons ((shw_kd h.1).mono (by omega) (Nat.le_refl _)) (.cons h1 (.cons h2 .nil)))).tup).mono (Nat.le_refl _) ?_
    show 12 + 1 + (22 + 1 + (a.sz * 60 + 1 + (b.sz * 60 + 1 + 0))) ≤ (a.sz + b.sz + 1) * 60
    omega
theorem Dr.shw : ∀ {t : Dr}, t.Lf → Shw t.dat (t.dp + 2) (t.sz * 100)
  | .own r, h => ((ShwAll.cons (shw_lit (by decide +kernel)) (.cons (shw_rf h) .nil)).tup).mono (by show 0 + 1 ≤ 0 + 2; decide) (by show 12 + 1 + (12 + 1 + 0) ≤ 1 * 100; decide)
  | .take b, h => by
    refine ((ShwAll.cons ((shw_lit (x := "take") (by decide +kernel)).mono (Nat.zero_le (b.dp + 2)) (Nat.le_refl _)) (.cons (Dr.shw (t := b) h) .nil)).tup).mono ?_ ?_
    · show b.dp + 2 + 1 ≤ b.dp + 1 + 2
      omega
    · show 12 + 1 + (b.sz * 100 + 1 + 0) ≤ (b.sz + 1) * 100
      omega
  | .pick r s b, h => by
    have hs : Shw (.str s.str) 0 12 := by cases s <;> exact shw_lit (by decide +kernel)
    refine ((ShwAll.cons ((shw_lit (x := "pick") (by decide +kernel)).mono (Nat.zero_le (b.dp + 2)) (Nat.le_refl _)) (.cons ((shw_rf h.1).mono (Nat.zero_le _) (Nat.le_refl _)) (.cons (hs.mono (Nat.zero_le _) (Nat.le_refl _)) (.cons (Dr.shw h.2) .nil)))).tup).mono ?_ ?_
    · show b.dp + 2 + 1 ≤ b.dp + 1 + 2
      omega
    · show 12 + 1 + (12 + 1 + (12 + 1 + (b.sz * 100 + 1 + 0))) ≤ (b.sz + 1) * 100
      omega
  | .offer a b, h => by
    have h1 := (Dr.shw h.1).mono (show a.dp + 2 ≤ max a.dp b.dp + 2 by omega) (Nat.le_refl _)
    have h2 := (Dr.shw h.2).mono (show b.dp + 2 ≤ max a.dp b.dp + 2 by omega) (Nat.le_refl _)
    refine ((ShwAll.cons ((shw_lit (x := "offer") (by decide +kernel)).mono (Nat.zero_le (max a.dp b.dp + 2)) (Nat.le_refl _)) (.cons h1 (.cons h2 .nil))).tup).mono ?_ ?_
    · show max a.dp b.dp + 2 + 1 ≤ max a.dp b.dp + 1 + 2
      omega
    · show 12 + 1 + (a.sz * 100 + 1 + (b.sz * 100 + 1 + 0)) ≤ (a.sz + b.sz + 1) * 100
      omega
  | .pay r m a b, h => by
    have h1 := (Dr.shw h.2.2.1).mono (show a.dp + 2 ≤ max a.dp b.dp + 2 by omega) (Nat.le_refl _)
    have h2 := (Dr.shw h.2.2.2).mono (show b.dp + 2 ≤ max a.dp b.dp + 2 by omega) (Nat.le_refl _)
    refine ((ShwAll.cons ((shw_lit (x := "pay") (by decide +kernel)).mono (Nat.zero_le (max a.dp b.dp + 2)) (Nat.le_refl _)) (.cons ((shw_rf h.1).mono (Nat.zero_le _) (Nat.le_refl _)) (.cons ((shw_kd h.2.1).mono (by omega) (Nat.le_refl _)) (.cons h1 (.cons h2 .nil))))).tup).mono ?_ ?_
    · show max a.dp b.dp + 2 + 1 ≤ max a.dp b.dp + 1 + 2
      omega
    · show 12 + 1 + (12 + 1 + (22 + 1 + (a.sz * 100 + 1 + (b.sz * 100 + 1 + 0)))) ≤ (a.sz + b.sz + 1) * 100
      omega
theorem shw_hold {h : Hold} (hn : NameOk h.1) (hk : h.2.1.Sm) (hs : h.2.2.Sm) : Shw (holdD h) (h.2.2.dp + 2) (h.2.2.sz * 60 + 37) :=
  ((ShwAll.cons ((shw_name hn).mono (Nat.zero_le (h.2.2.dp + 1)) (Nat.le_refl _)) (.cons ((shw_kd hk).mono (by omega) (Nat.le_refl _)) (.cons (Sn.shw hs) .nil))).tup).mono (Nat.le_refl _) (by omega)
theorem shw_clm {c : Clm} {D Z : Nat} (hh : ∀ h, h ∈ c.1 → NameOk h.1 ∧ h.2.1.Sm ∧ h.2.2.Sm ∧ h.2.2.dp ≤ D ∧ h.2.2.sz ≤ Z) (hs : c.2.Sm) (h1 : c.2.dp ≤ D) (h2 : c.2.sz ≤ Z) : Shw (clmD c) (D + 4) ((c.1.length + 1) * (Z * 60 + 40)) := by
  have e := ShwAll.of (F := holdD) (xs := c.1) (d := D + 2) (w := Z * 60 + 37) fun h hm => by
    obtain ⟨a1, a2, a3, a4, a5⟩ := hh h hm
    exact (shw_hold a1 a2 a3).mono (by omega) (by omega)
  refine ((ShwAll.cons e.tup (.cons ((Sn.shw hs).mono (b' := Z * 60) (show c.2.dp + 1 ≤ D + 2 + 1 by omega) (by omega)) .nil)).tup).mono (by omega) ?_
  have e2 : c.1.length * (Z * 60 + 37 + 1) ≤ c.1.length * (Z * 60 + 40) := Nat.mul_le_mul_left _ (by omega)
  have e3 : (c.1.length + 1) * (Z * 60 + 40) = c.1.length * (Z * 60 + 40) + (Z * 60 + 40) := Nat.succ_mul _ _
  omega
end W81
namespace W81
open PySem PySem.Spec PyProof.Rows L2 HX
/-! ### towers of cuts -/
abbrev Row := Kd × Rf
def tre (L Lt : Rf → Nat → Dr) (s : Sn) : List Row → Rf → Nat → Dr
  | [], top, k => Lt top k
  | (m, r) :: rows, top, k => .cut m s (L r k) (tre L Lt s rows top (k + 1))
def oF : Rf → Nat → Dr := fun r _ => .own r
def xF (s : Sn) : Rf → Nat → Dr := fun r k => exO s r k
def RefW (x y : Str) (w : Option Nat) (r : Rf) : Prop := match w with
  | none => r = nmR x ∨ r = nmR y
  | some j => r = lvR j
def TwS (x y : Str) : Nat → Option Nat → List Row → Rf → Prop
  | _, w, [], top => RefW x y w top
  | k, w, (m, r) :: rows, top => (m = .once ∧ RefW x y w r ∧ TwS x y (k + 1) (some k) rows top) ∨ ((∃ n d, m = .box n d ∧ 1 ≤ n ∧ n ≤ 3 ∧ d ≤ 2) ∧ (r = nmR x ∨ r = nmR y) ∧ TwS x y (k + 1) w rows top)
def WOk (k : Nat) (w : Option Nat) : Prop := ∀ j, w = some j → j < k
/-- no level from k on -/
def GoodR (k : Nat) (r : Rf) : Prop := ∀ j, k ≤ j → r ≠ lvR j
theorem lv_inj {i j : Nat} (h : lvR i = lvR j) : i = j := by
  have := Sum.inl.inj h
  omega
theorem nm_lv {x : Str} {j : Nat} : nmR x ≠ lvR j := fun z => by cases z
theorem good_nm {k : Nat} {x : Str} : GoodR k (nmR x) := fun j _ z => nm_lv z
theorem good_lv {k j : Nat} (h : j < k) : GoodR k (lvR j) := fun i hi z => by
  have := lv_inj z
  omega
theorem GoodR.mono {k k' : Nat} {r : Rf} (h : GoodR k r) (e : k ≤ k') : GoodR k' r := fun j hj => h j (Nat.le_trans e hj)
theorem refw_good {x y : Str} {w : Option Nat} {r : Rf} {k : Nat} (h : RefW x y w r) (hw : WOk k w) : GoodR k r := by
  cases w with
  | none =>
    rcases h with rfl | rfl
    · exact good_nm
    · exact good_nm
  | some j =>
    have h : r = lvR j := h
    rw [h]
    exact good_lv (hw j rfl)
theorem base_good {x y : Str} {r : Rf} {k : Nat} (h : r = nmR x ∨ r = nmR y) : GoodR k r := by
  rcases h with rfl | rfl
  · exact good_nm
  · exact good_nm
theorem wok_some {k : Nat} : WOk (k + 1) (some k) := fun j e => by cases e; omega
theorem WOk.up {k : Nat} {w : Option Nat} (h : WOk k w) : WOk (k + 1) w := fun j e => Nat.lt_succ_of_lt (h j e)
/-! ### counts of expansions -/
theorem one_self {r : Rf} : oneF r r = some C3.one := if_pos rfl
theorem one_ne {r k : Rf} (h : k ≠ r) : oneF r k = none := if_neg h
theorem wo_one {r : Rf} : woF (oneF r) r = fun _ => none := by
  funext k
  unfold woF oneF
  split <;> rfl
theorem wo_ne {c : Cn} {r : Rf} (h : c r = none) : woF c r = c := by
  funext k
  unfold woF
  by_cases e : k = r
  · rw [if_pos e, e, h]
  · rw [if_neg e]
theorem add_none {c : Cn} : addF c (fun _ => none) = c := by
  funext k
  unfold addF
  cases c k <;> rfl
theorem or_one {r : Rf} : orF (oneF r) (oneF r) = oneF r := by
  funext k
  unfold orF oneF
  by_cases e : k = r
  · rw [if_pos e]
    rfl
  · rw [if_neg e]
theorem pick_cn {r : Rf} {s : Side} {b : Dr} {lv : Nat} (h : b.cn (lv + 1) = oneF (lvR lv)) : (Dr.pick r s b).cn lv = oneF r := by
  show addF (oneF r) (woF (b.cn (lv + 1)) (lvR lv)) = _
  rw [h, wo_one, add_none]
theorem tp_cn {r : Rf} {m : Kd} {a b : Dr} {lv : Nat} (hr : r ≠ lvR lv) (ha : a.cn (lv + 1) = oneF (lvR lv)) (hb : b.cn (lv + 2) = oneF (lvR (lv + 1))) : (Dr.pay r m a b).cn (lv + 1) = addF (oneF r) (boxF (oneF (lvR lv)) m) := by
  show addF (addF (oneF r) (boxF (a.cn (lv + 1)) m)) (woF (b.cn (lv + 1 + 1)) (lvR (lv + 1))) = _
  rw [ha, show lv + 1 + 1 = lv + 2 from rfl, hb, wo_one, add_none]
theorem take_cn {r : Rf} {m : Kd} {lv : Nat} (hr : r ≠ lvR lv) : woF (addF (oneF r) (boxF (oneF (lvR lv)) m)) (lvR lv) = oneF r := by
  funext k
  unfold woF
  by_cases e : k = lvR lv
  · rw [if_pos e, e, one_ne (Ne.symm hr)]
  · rw [if_neg e]
    unfold addF boxF
    rw [one_ne e]
    cases oneF r k <;> rfl
theorem exO_cn : ∀ (g : Sn) (r : Rf) (lv : Nat), GoodR lv r → (exO g r lv).cn lv = oneF r
  | .word x, r, lv, h => rfl
  | .menu a b, r, lv, h => by
    have h1 := exO_cn a (lvR lv) (lv + 1) (good_lv (Nat.lt_succ_self lv))
    have h2 := exO_cn b (lvR lv) (lv + 1) (good_lv (Nat.lt_succ_self lv))
    show orF ((Dr.pick r .l (exO a (lvR lv) (lv + 1))).cn lv) ((Dr.pick r .r (exO b (lvR lv) (lv + 1))).cn lv) = _
    rw [pick_cn h1, pick_cn h2, or_one]
  | .trade m a b, r, lv, h => by
    have h1 := exO_cn a (lvR lv) (lv + 1) (good_lv (Nat.lt_succ_self lv))
    have h2 := exO_cn b (lvR (lv + 1)) (lv + 2) (good_lv (Nat.lt_succ_self (lv + 1)))
    have hr := h lv (Nat.le_refl _)
    show woF ((Dr.pay r m (exO a (lvR lv) (lv + 1)) (exO b (lvR (lv + 1)) (lv + 2))).cn (lv + 1)) (lvR lv) = _
    rw [tp_cn hr h1 h2, take_cn hr]
theorem fit_one {b : Dr} {lv : Nat} (h : b.cn (lv + 1) = oneF (lvR lv)) : Fit b lv .once := by
  unfold Fit
  rw [h, one_self]
  rfl
theorem box_fits (m : Kd) : (C3.one.box m).fits m = true := by
  cases m with
  | once => rfl
  | box n d =>
    show (decide (n * 1 ≤ n) && decide (d + 0 ≤ d)) = true
    rw [decide_eq_true (by omega), decide_eq_true (by omega)]
    rfl
theorem upd_self {G : Sco} {k : Key} {h : Prr} : updF G k h k = some h := if_pos rfl
theorem upd_no {G : Sco} {k j : Key} {h : Prr} (e : j ≠ k) : updF G k h j = G j := if_neg e
theorem shaped_tup {ds : List PyData} {d : PyData} (h : SeqAt.shaped (.tuple ds) = true) (hd : d ∈ ds) : SeqAt.shaped d = true := by
  have e1 := SeqAt.canLay_of_shaped h
  have e2 := SeqAt.depth_of_shaped h
  have e1 : PyData.canLayAll0 ds = true := by simpa only [PyData.canLay0] using e1
  have e2 : PyData.depthAll ds + 1 ≤ 64 := by
    simp only [PyData.depth] at e2
    omega
  unfold SeqAt.shaped
  have k1 : ∀ (xs : List PyData) (x : PyData), PyData.canLayAll0 xs = true → x ∈ xs → x.canLay0 = true ∧ x.depth ≤ PyData.depthAll xs := by
    intro xs
    induction xs with
    | nil => intro x _ hx; cases hx
    | cons y r ih =>
      intro x hx hm
      have hx : y.canLay0 = true ∧ PyData.canLayAll0 r = true := by simpa only [PyData.canLayAll0, Bool.and_eq_true] using hx
      simp only [PyData.depthAll]
      rcases List.mem_cons.mp hm with rfl | hm
      · exact ⟨hx.1, by omega⟩
      · obtain ⟨a, b⟩ := ih x hx.2 hm
        exact ⟨a, by omega⟩
  obtain ⟨a, b⟩ := k1 ds d e1 hd
  rw [a, decide_eq_true (show d.depth ≤ 64 by omega)]
  rfl
theorem exO_chk : ∀ (g : Sn) (G : Sco) (r : Rf) (lv : Nat) (m : Kd), SeqAt.shaped g.dat = true → GoodR lv r → G r = some (m, g) → Chk (exO g r lv) G g lv
  | .word x, G, r, lv, m, sh, h, e => ⟨sh, m, e⟩
  | .menu a b, G, r, lv, m, sh, h, e => by
    have sa : SeqAt.shaped a.dat = true := shaped_tup sh (by simp)
    have sb : SeqAt.shaped b.dat = true := shaped_tup sh (by simp)
    have g1 := good_lv (Nat.lt_succ_self lv)
    refine ⟨a, b, rfl, ⟨m, a, b, e, ?_, fit_one (exO_cn a _ _ g1)⟩, ⟨m, a, b, e, ?_, fit_one (exO_cn b _ _ g1)⟩⟩
    · exact exO_chk a _ _ _ .once sa g1 upd_self
    · exact exO_chk b _ _ _ .once sb g1 upd_self
  | .trade k a b, G, r, lv, m, sh, h, e => by
    have sa : SeqAt.shaped a.dat = true := shaped_tup sh (by simp)
    have sb : SeqAt.shaped b.dat = true := shaped_tup sh (by simp)
    have g1 := good_lv (Nat.lt_succ_self lv)
    have g2 := good_lv (Nat.lt_succ_self (lv + 1))
    have hr := h lv (Nat.le_refl _)
    refine ⟨k, a, b, rfl, ⟨m, a, b, ?_, ?_, ?_, fit_one (exO_cn b _ _ g2)⟩, ?_⟩
    · rw [upd_no hr]
      exact e
    · exact exO_chk a _ _ _ k sa g1 upd_self
    · exact exO_chk b _ _ _ .once sb g2 upd_self
    · unfold Fit
      rw [tp_cn hr (exO_cn a _ _ g1) (exO_cn b _ _ g2)]
      have : addF (oneF r) (boxF (oneF (lvR lv)) k) (lvR lv) = some (C3.one.box k) := by
        unfold addF boxF
        rw [one_ne (Ne.symm hr), one_self]
        rfl
      rw [this]
      exact box_fits k
theorem exP_exO : ∀ (g : Sn) (G : Sco) (r : Rf) (lv : Nat) (m : Kd), GoodR lv r → G r = some (m, g) → exP (exO g r lv) G g lv = exO g r lv
  | .word x, G, r, lv, m, h, e => rfl
  | .menu a b, G, r, lv, m, h, e => by
    have g1 := good_lv (Nat.lt_succ_self lv)
    have h1 := exP_exO a (updF G (lvR lv) (.once, a)) (lvR lv) (lv + 1) .once g1 upd_self
    have h2 := exP_exO b (updF G (lvR lv) (.once, b)) (lvR lv) (lv + 1) .once g1 upd_self
    show Dr.offer (exP (Dr.pick r .l (exO a (lvR lv) (lv + 1))) G a lv) (exP (Dr.pick r .r (exO b (lvR lv) (lv + 1))) G b lv) = _
    simp only [exP, e, Side.sel]
    rw [h1, h2]
    rfl
  | .trade k a b, G, r, lv, m, h, e => by
    have g1 := good_lv (Nat.lt_succ_self lv)
    have g2 := good_lv (Nat.lt_succ_self (lv + 1))
    have hr := h lv (Nat.le_refl _)
    have h1 := exP_exO a (updF G (lvR lv) (k, a)) (lvR lv) (lv + 1) k g1 upd_self
    have h2 := exP_exO b (updF (updF G (lvR lv) (k, a)) (lvR (lv + 1)) (.once, b)) (lvR (lv + 1)) (lv + 2) .once g2 upd_self
    have e2 : updF G (lvR lv) (k, a) r = some (m, .trade k a b) := by rw [upd_no hr]; exact e
    show Dr.take (exP (Dr.pay r k (exO a (lvR lv) (lv + 1)) (exO b (lvR (lv + 1)) (lv + 2))) (updF G (lvR lv) (k, a)) b (lv + 1)) = _
    simp only [exP, e2]
    rw [h1, h2]
    rfl
end W81
namespace W81
open PySem PySem.Spec PyProof.Rows L2 HX
/-! ### counts of towers -/
def rcn (Ct : Cn) : Nat → List Row → Cn
  | _, [] => Ct
  | k, (m, r) :: rows => addF (boxF (oneF r) m) (woF (rcn Ct (k + 1) rows) (lvR k))
def LeafC (L : Rf → Nat → Dr) : Prop := ∀ r k, GoodR k r → (L r k).cn k = oneF r
/-- the levels at a top leaf -/
def TopC (Lt : Rf → Nat → Dr) : Prop := ∀ r k j, GoodR k r → j < k → (Lt r k).cn k (lvR j) = if lvR j = r then some C3.one else none
theorem leaf_o : LeafC oF := fun r k h => rfl
theorem leaf_x (s : Sn) : LeafC (xF s) := fun r k h => exO_cn s r k h
theorem LeafC.top {L : Rf → Nat → Dr} (h : LeafC L) : TopC L := fun r k j g _ => by
  rw [h r k g]
  rfl
theorem tre_cn {L Lt : Rf → Nat → Dr} {s : Sn} {x y : Str} (hL : LeafC L) : ∀ {rows : List Row} {top : Rf} {k : Nat} {w : Option Nat}, TwS x y k w rows top → WOk k w → (tre L Lt s rows top k).cn k = rcn ((Lt top (k + rows.length)).cn (k + rows.length)) k rows
  | [], top, k, w, h, hw => rfl
  | (m, r) :: rows, top, k, w, h, hw => by
    have e : k + ((m, r) :: rows).length = k + 1 + rows.length := by rw [List.length_cons]; omega
    rw [e]
    show addF (boxF ((L r k).cn k) m) (woF ((tre L Lt s rows top (k + 1)).cn (k + 1)) (lvR k)) = addF (boxF (oneF r) m) (woF (rcn _ (k + 1) rows) (lvR k))
    rcases h with ⟨rfl, h1, h2⟩ | ⟨_, h1, h2⟩
    · rw [tre_cn hL h2 wok_some, hL r k (refw_good h1 hw)]
    · rw [tre_cn hL h2 hw.up, hL r k (base_good h1)]
theorem rcn_lv {Ct : Cn} {x y : Str} : ∀ {rows : List Row} {top : Rf} {k : Nat} {w : Option Nat}, TwS x y k w rows top → WOk k w → (∀ j, j < k + rows.length → Ct (lvR j) = if lvR j = top then some C3.one else none) →
    ∀ j, j < k → rcn Ct k rows (lvR j) = if w = some j then some C3.one else none
  | [], top, k, w, h, hw, ht, j, hj => by
    show Ct (lvR j) = _
    rw [ht j (by simpa using hj)]
    cases w with
    | none =>
      have e : lvR j ≠ top := by
        rcases h with rfl | rfl
        · exact Ne.symm nm_lv
        · exact Ne.symm nm_lv
      rw [if_neg e]
      rfl
    | some i =>
      have h : top = lvR i := h
      subst h
      by_cases e : i = j
      · subst e
        rw [if_pos rfl, if_pos rfl]
      · rw [if_neg (fun z => e (lv_inj z).symm), if_neg (fun z => e (Option.some.inj z))]
  | (m, r) :: rows, top, k, w, h, hw, ht, j, hj => by
    have ht' : ∀ i, i < k + 1 + rows.length → Ct (lvR i) = if lvR i = top then some C3.one else none := fun i hi => ht i (by rw [List.length_cons]; omega)
    have hjk : lvR j ≠ lvR k := fun z => by have := lv_inj z; omega
    show addF (boxF (oneF r) m) (woF (rcn Ct (k + 1) rows) (lvR k)) (lvR j) = _
    unfold addF boxF woF
    rw [if_neg hjk]
    rcases h with ⟨rfl, h1, h2⟩ | ⟨_, h1, h2⟩
    · rw [rcn_lv h2 wok_some ht' j (by omega), if_neg (show ¬ some k = some j from fun z => by cases z; omega)]
      cases w with
      | none =>
        have e : oneF r (lvR j) = none := by
          rcases h1 with rfl | rfl
          · exact one_ne (Ne.symm nm_lv)
          · exact one_ne (Ne.symm nm_lv)
        rw [e]
        rfl
      | some i =>
        have h1 : r = lvR i := h1
        subst h1
        by_cases e : i = j
        · subst e
          rw [one_self, if_pos rfl]
          rfl
        · rw [one_ne (fun z => e (lv_inj z).symm), if_neg (fun z => e (Option.some.inj z))]
          rfl
    · have e : oneF r (lvR j) = none := by
        rcases h1 with rfl | rfl
        · exact one_ne (Ne.symm nm_lv)
        · exact one_ne (Ne.symm nm_lv)
      rw [e, rcn_lv h2 hw.up ht' j (by omega)]
      cases w with
      | none => rfl
      | some i =>
        by_cases e : i = j
        · subst e
          rw [if_pos rfl]
          rfl
        · rw [if_neg (fun z => e (Option.some.inj z))]
          rfl
/-- uses and days of a name -/
def nU (z : Str) : List Row → Nat
  | [] => 0
  | (m, r) :: rows => (if r = nmR z then m.n else 0) + nU z rows
def Kd.d : Kd → Nat
  | .once => 0
  | .box _ d => d
def nD (z : Str) : List Row → Nat
  | [] => 0
  | (m, r) :: rows => max (if r = nmR z then m.d else 0) (nD z rows)
theorem nU_snoc (z : Str) (m : Kd) (r : Rf) : ∀ rows, nU z (rows ++ [(m, r)]) = nU z rows + (if r = nmR z then m.n else 0)
  | [] => by
    show _ + 0 = 0 + _
    omega
  | (m', r') :: rows => by
    show _ + nU z (rows ++ [(m, r)]) = _ + nU z rows + _
    rw [nU_snoc z m r rows]
    omega
theorem nD_snoc (z : Str) (m : Kd) (r : Rf) : ∀ rows, nD z (rows ++ [(m, r)]) = max (nD z rows) (if r = nmR z then m.d else 0)
  | [] => by
    show max _ 0 = max 0 _
    omega
  | (m', r') :: rows => by
    show max _ (nD z (rows ++ [(m, r)])) = max (max _ (nD z rows)) _
    rw [nD_snoc z m r rows]
    omega
def mOf : Option C3 → Nat × Nat
  | none => (0, 0)
  | some c => (c.m, c.d)
theorem rcn_nm {Ct : Cn} {x y z : Str} : ∀ {rows : List Row} {top : Rf} {k : Nat} {w : Option Nat}, TwS x y k w rows top →
    mOf (rcn Ct k rows (nmR z)) = (nU z rows + (mOf (Ct (nmR z))).1, max (nD z rows) (mOf (Ct (nmR z))).2) ∧ (rcn Ct k rows (nmR z)).isSome = (decide (0 < nU z rows) || (Ct (nmR z)).isSome)
  | [], top, k, w, h => by
    show mOf (Ct (nmR z)) = (0 + _, max 0 _) ∧ _ = (decide (0 < 0) || _)
    refine ⟨?_, rfl⟩
    rw [Nat.zero_add, Nat.zero_max]
  | (m, r) :: rows, top, k, w, h => by
    have hm : 1 ≤ m.n := by
      rcases h with ⟨rfl, _, _⟩ | ⟨⟨n, d, rfl, hn, _⟩, _, _⟩
      · exact Nat.le_refl _
      · exact hn
    have ih : mOf (rcn Ct (k + 1) rows (nmR z)) = (nU z rows + (mOf (Ct (nmR z))).1, max (nD z rows) (mOf (Ct (nmR z))).2) ∧ (rcn Ct (k + 1) rows (nmR z)).isSome = (decide (0 < nU z rows) || (Ct (nmR z)).isSome) := by
      rcases h with ⟨_, _, h2⟩ | ⟨_, _, h2⟩
      · exact rcn_nm h2
      · exact rcn_nm h2
    have e : rcn Ct k ((m, r) :: rows) (nmR z) = addF (boxF (oneF r) m) (rcn Ct (k + 1) rows) (nmR z) := by
      show addF (boxF (oneF r) m) (woF (rcn Ct (k + 1) rows) (lvR k)) (nmR z) = _
      unfold addF woF
      rw [if_neg nm_lv]
    rw [e]
    unfold addF boxF
    show _ = ((if r = nmR z then m.n else 0) + nU z rows + _, max (max (if r = nmR z then m.d else 0) (nD z rows)) _) ∧ _ = (decide (0 < (if r = nmR z then m.n else 0) + nU z rows) || _)
    by_cases hr : r = nmR z
    · subst hr
      rw [one_self, if_pos rfl, if_pos rfl, decide_eq_true (show 0 < m.n + nU z rows by omega)]
      have bx : (C3.one.box m).m = m.n ∧ (C3.one.box m).d = m.d := by
        cases m with
        | once => exact ⟨rfl, rfl⟩
        | box n d => exact ⟨Nat.mul_one n, Nat.add_zero d⟩
      obtain ⟨i1, i2⟩ := ih
      generalize rcn Ct (k + 1) rows (nmR z) = o at i1 i2 ⊢
      cases o with
      | none =>
        have j1 : 0 = nU z rows + (mOf (Ct (nmR z))).1 := congrArg Prod.fst i1
        have j2 : 0 = max (nD z rows) (mOf (Ct (nmR z))).2 := congrArg Prod.snd i1
        refine ⟨?_, rfl⟩
        show ((C3.one.box m).m, (C3.one.box m).d) = _
        rw [bx.1, bx.2]
        refine Prod.ext ?_ ?_
        · show m.n = _
          omega
        · show m.d = _
          omega
      | some c =>
        have j1 : c.m = nU z rows + (mOf (Ct (nmR z))).1 := congrArg Prod.fst i1
        have j2 : c.d = max (nD z rows) (mOf (Ct (nmR z))).2 := congrArg Prod.snd i1
        refine ⟨?_, rfl⟩
        show ((C3.one.box m).m + c.m, max (C3.one.box m).d c.d) = _
        rw [bx.1, bx.2]
        refine Prod.ext ?_ ?_
        · show m.n + c.m = _
          omega
        · show max m.d c.d = _
          omega
    · rw [one_ne (Ne.symm hr), if_neg hr, if_neg hr, Nat.zero_add, Nat.zero_max]
      exact ih
/-! ### towers are shown -/
structure ScI (x y : Str) (s : Sn) (w : Option Nat) (G : Sco) : Prop where
  gx : ∃ m, G (nmR x) = some (m, s)
  gy : ∃ m, G (nmR y) = some (m, s)
  gw : ∀ j, w = some j → ∃ m, G (lvR j) = some (m, s)
theorem ScI.ref {x y : Str} {s : Sn} {w : Option Nat} {G : Sco} {r : Rf} (h : ScI x y s w G) (hr : RefW x y w r) : ∃ m, G r = some (m, s) := by
  cases w with
  | none =>
    rcases hr with rfl | rfl
    · exact h.gx
    · exact h.gy
  | some j =>
    have hr : r = lvR j := hr
    rw [hr]
    exact h.gw j rfl
theorem ScI.base {x y : Str} {s : Sn} {w : Option Nat} {G : Sco} {r : Rf} (h : ScI x y s w G) (hr : r = nmR x ∨ r = nmR y) : ∃ m, G r = some (m, s) := by
  rcases hr with rfl | rfl
  · exact h.gx
  · exact h.gy
theorem ScI.up {x y : Str} {s : Sn} {w : Option Nat} {G : Sco} {k : Nat} {m : Kd} (h : ScI x y s w G) (hw : WOk k w) : ScI x y s w (updF G (lvR k) (m, s)) :=
  ⟨by rw [upd_no nm_lv]; exact h.gx, by rw [upd_no nm_lv]; exact h.gy, fun j e => by
    have := hw j e
    rw [upd_no (fun z => by have := lv_inj z; omega)]
    exact h.gw j e⟩
theorem ScI.one {x y : Str} {s : Sn} {w : Option Nat} {G : Sco} {k : Nat} {m : Kd} (h : ScI x y s w G) : ScI x y s (some k) (updF G (lvR k) (m, s)) :=
  ⟨by rw [upd_no nm_lv]; exact h.gx, by rw [upd_no nm_lv]; exact h.gy, fun j e => by cases e; exact ⟨m, upd_self⟩⟩
theorem tre_chk {L Lt : Rf → Nat → Dr} {s g : Sn} {x y : Str} {PG : Sco → Prop} (hp : ∀ G k h, PG G → PG (updF G (lvR k) h)) (hL : LeafC L) (hT : TopC Lt) (cL : ∀ G r k m, GoodR k r → G r = some (m, s) → Chk (L r k) G s k)
    (cT : ∀ G r k m, PG G → GoodR k r → G r = some (m, s) → Chk (Lt r k) G g k) : ∀ {rows : List Row} {top : Rf} {k : Nat} {w : Option Nat} {G : Sco}, TwS x y k w rows top → WOk k w → ScI x y s w G → PG G → Chk (tre L Lt s rows top k) G g k
  | [], top, k, w, G, h, hw, hs, hg => by
    obtain ⟨m, e⟩ := hs.ref h
    exact cT G top k m hg (refw_good h hw) e
  | (m, r) :: rows, top, k, w, G, h, hw, hs, hg => by
    have tg : ∀ {k w rows}, TwS x y k w rows top → WOk k w → ∀ j, j < k + rows.length → (Lt top (k + rows.length)).cn (k + rows.length) (lvR j) = if lvR j = top then some C3.one else none := by
      intro k w rows
      induction rows generalizing k w with
      | nil => exact fun h hw j hj => hT top _ j (refw_good h hw) hj
      | cons p rows ih =>
        obtain ⟨m', r'⟩ := p
        intro h hw j hj
        have e : k + ((m', r') :: rows).length = k + 1 + rows.length := by rw [List.length_cons]; omega
        rw [e] at hj ⊢
        rcases h with ⟨_, _, h2⟩ | ⟨_, _, h2⟩
        · exact ih h2 wok_some j hj
        · exact ih h2 hw.up j hj
    rcases h with ⟨rfl, h1, h2⟩ | ⟨⟨n, d, rfl, _⟩, h1, h2⟩
    · obtain ⟨m', e⟩ := hs.ref h1
      refine ⟨cL G r k m' (refw_good h1 hw) e, tre_chk hp hL hT cL cT h2 wok_some hs.one (hp _ _ _ hg), ?_⟩
      unfold Fit
      rw [tre_cn hL h2 wok_some, rcn_lv h2 wok_some (tg h2 wok_some) k (Nat.lt_succ_self k), if_pos rfl]
      rfl
    · obtain ⟨m', e⟩ := hs.base h1
      refine ⟨cL G r k m' (base_good h1) e, tre_chk hp hL hT cL cT h2 hw.up (hs.up hw) (hp _ _ _ hg), ?_⟩
      unfold Fit
      rw [tre_cn hL h2 hw.up, rcn_lv h2 hw.up (tg h2 hw.up) k (Nat.lt_succ_self k), if_neg (fun z => by have := hw k z; omega)]
      show (decide (0 ≤ n) && decide (0 ≤ d)) = true
      rw [decide_eq_true (Nat.zero_le _), decide_eq_true (Nat.zero_le _)]
      rfl
theorem exP_tow {s : Sn} : ∀ {rows : List Row} {top : Rf} {k : Nat} {G : Sco}, exP (tre oF oF s rows top k) G s k = tre (xF s) (xF s) s rows top k
  | [], top, k, G => rfl
  | (m, r) :: rows, top, k, G => by
    show Dr.cut m s (exP (.own r) G s k) (exP (tre oF oF s rows top (k + 1)) (updF G (lvR k) (m, s)) s (k + 1)) = Dr.cut m s (exO s r k) _
    rw [exP_tow]
    rfl
theorem exP_due {s : Sn} {x y : Str} : ∀ {rows : List Row} {top : Rf} {k : Nat} {w : Option Nat} {G : Sco}, TwS x y k w rows top → WOk k w → ScI x y s w G → exP (tre (xF s) (xF s) s rows top k) G s k = tre (xF s) (xF s) s rows top k
  | [], top, k, w, G, h, hw, hs => by
    obtain ⟨m, e⟩ := hs.ref h
    exact exP_exO s G top k m (refw_good h hw) e
  | (m, r) :: rows, top, k, w, G, h, hw, hs => by
    show Dr.cut m s (exP (exO s r k) G s k) (exP (tre (xF s) (xF s) s rows top (k + 1)) (updF G (lvR k) (m, s)) s (k + 1)) = Dr.cut m s (exO s r k) _
    rcases h with ⟨rfl, h1, h2⟩ | ⟨_, h1, h2⟩
    · obtain ⟨m', e⟩ := hs.ref h1
      rw [exP_exO s G r k m' (refw_good h1 hw) e, exP_due h2 wok_some hs.one]
    · obtain ⟨m', e⟩ := hs.base h1
      rw [exP_exO s G r k m' (base_good h1) e, exP_due h2 hw.up (hs.up hw)]
end W81
namespace W81
open PySem PySem.Spec PyProof.Rows L2 HX
/-! ### inverted towers -/
inductive Stp where
  | tr (m : Kd) (x : Str)
  | mn (s : Side)
def invL : List Stp → Rf → Nat → Dr
  | [], r, _ => .own r
  | .tr m x :: sts, r, k => .pay r m (.own (nmR x)) (invL sts (lvR k) (k + 1))
  | .mn s :: sts, r, k => .pick r s (invL sts (lvR k) (k + 1))
def stF : Stp → Rf → Nat → Dr
  | .tr m x => fun r lv => .pay r m (.own (nmR x)) (.own (lvR lv))
  | .mn s => fun r lv => .pick r s (.own (lvR lv))
theorem ivF_inv (st : Stp) : ∀ (sts : List Stp) (r : Rf) (k : Nat), ivF (stF st) (invL sts r k) k = invL (sts ++ [st]) r k
  | [], r, k => by cases st <;> rfl
  | .tr m x :: sts, r, k => by
    show Dr.pay r m (.own (nmR x)) (ivF (stF st) (invL sts (lvR k) (k + 1)) (k + 1)) = _
    rw [ivF_inv st sts]
    rfl
  | .mn s :: sts, r, k => by
    show Dr.pick r s (ivF (stF st) (invL sts (lvR k) (k + 1)) (k + 1)) = _
    rw [ivF_inv st sts]
    rfl
theorem ivF_tre (f : Rf → Nat → Dr) (L Lt : Rf → Nat → Dr) (s : Sn) : ∀ (rows : List Row) (top : Rf) (k : Nat), ivF f (tre L Lt s rows top k) k = tre L (fun r j => ivF f (Lt r j) j) s rows top k
  | [], top, k => rfl
  | (m, r) :: rows, top, k => by
    show Dr.cut m s (L r k) (ivF f (tre L Lt s rows top (k + 1)) (k + 1)) = _
    rw [ivF_tre f L Lt s rows]
    rfl
theorem ivF_step (st : Stp) (sts : List Stp) (s : Sn) (rows : List Row) (top : Rf) (k : Nat) : ivF (stF st) (tre oF (invL sts) s rows top k) k = tre oF (invL (sts ++ [st])) s rows top k := by
  rw [ivF_tre]
  congr 1
  funext r j
  exact ivF_inv st sts r j
theorem inv_top : ∀ sts : List Stp, TopC (invL sts)
  | [], r, k, j, g, hj => rfl
  | .tr m x :: sts, r, k, j, g, hj => by
    have ih := inv_top sts (lvR k) (k + 1) j (good_lv (Nat.lt_succ_self k)) (by omega)
    have hjk : lvR j ≠ lvR k := fun z => by have := lv_inj z; omega
    show addF (addF (oneF r) (boxF (oneF (nmR x)) m)) (woF ((invL sts (lvR k) (k + 1)).cn (k + 1)) (lvR k)) (lvR j) = oneF r (lvR j)
    have e : woF ((invL sts (lvR k) (k + 1)).cn (k + 1)) (lvR k) (lvR j) = none := by
      unfold woF
      rw [if_neg hjk, ih, if_neg hjk]
    have e2 : boxF (oneF (nmR x)) m (lvR j) = none := by
      unfold boxF
      rw [one_ne (Ne.symm nm_lv)]
      rfl
    unfold addF
    rw [e, e2]
    cases oneF r (lvR j) <;> rfl
  | .mn s :: sts, r, k, j, g, hj => by
    have ih := inv_top sts (lvR k) (k + 1) j (good_lv (Nat.lt_succ_self k)) (by omega)
    have hjk : lvR j ≠ lvR k := fun z => by have := lv_inj z; omega
    show addF (oneF r) (woF ((invL sts (lvR k) (k + 1)).cn (k + 1)) (lvR k)) (lvR j) = oneF r (lvR j)
    have e : woF ((invL sts (lvR k) (k + 1)).cn (k + 1)) (lvR k) (lvR j) = none := by
      unfold woF
      rw [if_neg hjk, ih, if_neg hjk]
    unfold addF
    rw [e]
    cases oneF r (lvR j) <;> rfl
def stNm : Stp → List Str
  | .tr _ x => [x]
  | .mn _ => []
def stsNm (sts : List Stp) : List Str := sts.flatMap stNm
theorem wo_nm {c : Cn} {k : Nat} {z : Str} : woF c (lvR k) (nmR z) = c (nmR z) := if_neg nm_lv
theorem inv_no {z : Str} : ∀ (sts : List Stp) (r : Rf) (k : Nat), z ∉ stsNm sts → (invL sts r k).cn k (nmR z) = oneF r (nmR z)
  | [], r, k, h => rfl
  | .tr m x :: sts, r, k, h => by
    have h : z ∉ x :: stsNm sts := h
    rw [List.mem_cons, not_or] at h
    show addF (addF (oneF r) (boxF (oneF (nmR x)) m)) (woF ((invL sts (lvR k) (k + 1)).cn (k + 1)) (lvR k)) (nmR z) = _
    have e : woF ((invL sts (lvR k) (k + 1)).cn (k + 1)) (lvR k) (nmR z) = none := by
      rw [wo_nm, inv_no sts _ _ h.2, one_ne nm_lv]
    have e2 : boxF (oneF (nmR x)) m (nmR z) = none := by
      unfold boxF
      rw [one_ne (fun w => h.1 (by cases w; rfl))]
      rfl
    unfold addF
    rw [e, e2]
    cases oneF r (nmR z) <;> rfl
  | .mn s :: sts, r, k, h => by
    have h : z ∉ stsNm sts := h
    show addF (oneF r) (woF ((invL sts (lvR k) (k + 1)).cn (k + 1)) (lvR k)) (nmR z) = _
    have e : woF ((invL sts (lvR k) (k + 1)).cn (k + 1)) (lvR k) (nmR z) = none := by
      rw [wo_nm, inv_no sts _ _ h, one_ne nm_lv]
    unfold addF
    rw [e]
    cases oneF r (nmR z) <;> rfl
theorem inv_in {z : Str} {m : Kd} : ∀ (sts : List Stp) (r : Rf) (k : Nat), (stsNm sts).Nodup → Stp.tr m z ∈ sts → r ≠ nmR z → (invL sts r k).cn k (nmR z) = some (C3.one.box m)
  | .tr m' x :: sts, r, k, nd, h, hr => by
    have nd2 : (x :: stsNm sts).Nodup := nd
    clear nd
    rw [List.nodup_cons] at nd2
    show addF (addF (oneF r) (boxF (oneF (nmR x)) m')) (woF ((invL sts (lvR k) (k + 1)).cn (k + 1)) (lvR k)) (nmR z) = _
    have e0 : oneF r (nmR z) = none := one_ne (Ne.symm hr)
    rcases List.mem_cons.mp h with h' | h'
    · cases h'
      have e : woF ((invL sts (lvR k) (k + 1)).cn (k + 1)) (lvR k) (nmR z) = none := by
        rw [wo_nm, inv_no sts _ _ nd2.1, one_ne nm_lv]
      have e2 : boxF (oneF (nmR z)) m (nmR z) = some (C3.one.box m) := by
        unfold boxF
        rw [one_self]
        rfl
      unfold addF
      rw [e0, e, e2]
    · have hx : z ≠ x := fun w => nd2.1 (by
        subst w
        exact List.mem_flatMap.mpr ⟨.tr m z, h', (show z ∈ [z] from List.mem_singleton.mpr rfl)⟩)
      have e : woF ((invL sts (lvR k) (k + 1)).cn (k + 1)) (lvR k) (nmR z) = some (C3.one.box m) := by
        rw [wo_nm]
        exact inv_in sts _ _ nd2.2 h' (Ne.symm nm_lv)
      have e2 : boxF (oneF (nmR x)) m' (nmR z) = none := by
        unfold boxF
        rw [one_ne (fun w => hx (by cases w; rfl))]
        rfl
      unfold addF
      rw [e0, e, e2]
  | .mn s :: sts, r, k, nd, h, hr => by
    have nd : (stsNm sts).Nodup := nd
    rcases List.mem_cons.mp h with h | h
    · cases h
    · show addF (oneF r) (woF ((invL sts (lvR k) (k + 1)).cn (k + 1)) (lvR k)) (nmR z) = _
      have e : woF ((invL sts (lvR k) (k + 1)).cn (k + 1)) (lvR k) (nmR z) = some (C3.one.box m) := by
        rw [wo_nm]
        exact inv_in sts _ _ nd h (Ne.symm nm_lv)
      have e0 : oneF r (nmR z) = none := one_ne (Ne.symm hr)
      unfold addF
      rw [e0, e]
theorem rcn_skip {Ct : Cn} {z : Str} : ∀ {rows : List Row} {k : Nat}, (∀ p, p ∈ rows → p.2 ≠ nmR z) → rcn Ct k rows (nmR z) = Ct (nmR z)
  | [], k, _ => rfl
  | (m, r) :: rows, k, h => by
    show addF (boxF (oneF r) m) (woF (rcn Ct (k + 1) rows) (lvR k)) (nmR z) = _
    unfold addF boxF
    rw [wo_nm, rcn_skip fun p hp => h p (List.mem_cons_of_mem _ hp), one_ne (Ne.symm (h (m, r) (List.mem_cons_self ..)))]
    rfl
theorem refw_nm {x y z : Str} {w : Option Nat} {r : Rf} (h : RefW x y w r) (h1 : z ≠ x) (h2 : z ≠ y) : r ≠ nmR z := by
  cases w with
  | none =>
    rcases h with rfl | rfl
    · exact fun w => h1 (by cases w; rfl)
    · exact fun w => h2 (by cases w; rfl)
  | some j =>
    have h : r = lvR j := h
    rw [h]
    exact Ne.symm nm_lv
theorem tws_nm {x y z : Str} (h1 : z ≠ x) (h2 : z ≠ y) : ∀ {rows : List Row} {top : Rf} {k : Nat} {w : Option Nat}, TwS x y k w rows top → (∀ p, p ∈ rows → p.2 ≠ nmR z) ∧ top ≠ nmR z
  | [], top, k, w, h => ⟨fun p hp => (by cases hp), refw_nm h h1 h2⟩
  | (m, r) :: rows, top, k, w, h => by
    rcases h with ⟨_, a, b⟩ | ⟨_, a, b⟩
    · obtain ⟨c, d⟩ := tws_nm h1 h2 b
      exact ⟨fun p hp => (List.mem_cons.mp hp).elim (fun e => by rw [e]; exact refw_nm a h1 h2) (c p), d⟩
    · obtain ⟨c, d⟩ := tws_nm h1 h2 b
      exact ⟨fun p hp => (List.mem_cons.mp hp).elim (fun e => by rw [e]; exact refw_nm (w := none) a h1 h2) (c p), d⟩
def PathX : Sn → List Stp → List Hold → Sn → Prop
  | g, [], ext, g' => g = g' ∧ ext = []
  | g, .tr m x :: sts, ext, g' => ∃ a b ext', g = .trade m a b ∧ ext = (x, m, a) :: ext' ∧ PathX b sts ext' g'
  | g, .mn s :: sts, ext, g' => ∃ a b, g = .menu a b ∧ PathX (s.sel a b) sts ext g'
theorem path_tr {m : Kd} {x : Str} {a b : Sn} : ∀ {sts : List Stp} {g : Sn} {ext : List Hold}, PathX g sts ext (.trade m a b) → PathX g (sts ++ [.tr m x]) (ext ++ [(x, m, a)]) b
  | [], g, ext, h => by
    obtain ⟨rfl, rfl⟩ := h
    exact ⟨a, b, [], rfl, rfl, rfl, rfl⟩
  | .tr m' x' :: sts, g, ext, h => by
    obtain ⟨a', b', ext', rfl, rfl, h⟩ := h
    exact ⟨a', b', _, rfl, rfl, path_tr h⟩
  | .mn s :: sts, g, ext, h => by
    obtain ⟨a', b', rfl, h⟩ := h
    exact ⟨a', b', rfl, path_tr h⟩
theorem path_mn {s : Side} {a b : Sn} : ∀ {sts : List Stp} {g : Sn} {ext : List Hold}, PathX g sts ext (.menu a b) → PathX g (sts ++ [.mn s]) ext (s.sel a b)
  | [], g, ext, h => by
    obtain ⟨rfl, rfl⟩ := h
    exact ⟨a, b, rfl, rfl, rfl⟩
  | .tr m' x' :: sts, g, ext, h => by
    obtain ⟨a', b', ext', rfl, rfl, h⟩ := h
    exact ⟨a', b', _, rfl, rfl, path_mn h⟩
  | .mn s' :: sts, g, ext, h => by
    obtain ⟨a', b', rfl, h⟩ := h
    exact ⟨a', b', rfl, path_mn h⟩
theorem path_nm : ∀ {sts : List Stp} {g g' : Sn} {ext : List Hold}, PathX g sts ext g' → stsNm sts = ext.map (·.1)
  | [], g, g', ext, h => by
    obtain ⟨rfl, rfl⟩ := h
    rfl
  | .tr m' x' :: sts, g, g', ext, h => by
    obtain ⟨a', b', ext', rfl, rfl, h⟩ := h
    show x' :: stsNm sts = _
    rw [path_nm h]
    rfl
  | .mn s' :: sts, g, g', ext, h => by
    obtain ⟨a', b', rfl, h⟩ := h
    show stsNm sts = _
    rw [path_nm h]
theorem path_st : ∀ {sts : List Stp} {g g' : Sn} {ext : List Hold}, PathX g sts ext g' → ∀ h, h ∈ ext → Stp.tr h.2.1 h.1 ∈ sts
  | [], g, g', ext, h => by
    obtain ⟨rfl, rfl⟩ := h
    intro h hh
    cases hh
  | .tr m' x' :: sts, g, g', ext, h => by
    obtain ⟨a', b', ext', rfl, rfl, h⟩ := h
    intro u hu
    rcases List.mem_cons.mp hu with rfl | hu
    · exact List.mem_cons_self ..
    · exact List.mem_cons_of_mem _ (path_st h u hu)
  | .mn s' :: sts, g, g', ext, h => by
    obtain ⟨a', b', rfl, h⟩ := h
    intro u hu
    exact List.mem_cons_of_mem _ (path_st h u hu)
theorem path_dp : ∀ {sts : List Stp} {g g' : Sn} {ext : List Hold}, PathX g sts ext g' → sts.length + g'.dp ≤ g.dp
  | [], g, g', ext, h => by
    obtain ⟨rfl, rfl⟩ := h
    show 0 + _ ≤ _
    omega
  | .tr m' x' :: sts, g, g', ext, h => by
    obtain ⟨a', b', ext', rfl, rfl, h⟩ := h
    have := path_dp h
    show sts.length + 1 + _ ≤ max a'.dp b'.dp + 1
    omega
  | .mn s' :: sts, g, g', ext, h => by
    obtain ⟨a', b', rfl, h⟩ := h
    have := path_dp h
    show sts.length + 1 + _ ≤ max a'.dp b'.dp + 1
    cases s'
    · have e : Side.l.sel a' b' = a' := rfl
      rw [e] at this
      omega
    · have e : Side.r.sel a' b' = b' := rfl
      rw [e] at this
      omega
theorem inv_chk : ∀ {sts : List Stp} {g g' : Sn} {ext : List Hold} {G : Sco} {r : Rf} {k : Nat} {m : Kd}, PathX g sts ext g' → SeqAt.shaped g.dat = true → (∀ h, h ∈ ext → G (nmR h.1) = some h.2) → GoodR k r → G r = some (m, g) → Chk (invL sts r k) G g' k
  | [], g, g', ext, G, r, k, m, h, sh, hx, gd, e => by
    obtain ⟨rfl, rfl⟩ := h
    exact ⟨sh, m, e⟩
  | .tr m' x' :: sts, g, g', ext, G, r, k, m, h, sh, hx, gd, e => by
    obtain ⟨a', b', ext', rfl, rfl, h⟩ := h
    have sa : SeqAt.shaped a'.dat = true := shaped_tup sh (by simp)
    have sb : SeqAt.shaped b'.dat = true := shaped_tup sh (by simp)
    have g1 := good_lv (Nat.lt_succ_self k)
    refine ⟨m, a', b', e, ⟨sa, m', hx _ (List.mem_cons_self ..)⟩, inv_chk (m := .once) h sb (fun u hu => ?_) g1 upd_self, ?_⟩
    · rw [upd_no nm_lv]
      exact hx u (List.mem_cons_of_mem _ hu)
    · unfold Fit
      rw [inv_top sts _ _ k g1 (Nat.lt_succ_self k), if_pos rfl]
      rfl
  | .mn s' :: sts, g, g', ext, G, r, k, m, h, sh, hx, gd, e => by
    obtain ⟨a', b', rfl, h⟩ := h
    have sa : SeqAt.shaped (s'.sel a' b').dat = true := by
      cases s'
      · exact shaped_tup sh (show a'.dat ∈ [PyData.str "menu", a'.dat, b'.dat] by simp)
      · exact shaped_tup sh (show b'.dat ∈ [PyData.str "menu", a'.dat, b'.dat] by simp)
    have g1 := good_lv (Nat.lt_succ_self k)
    refine ⟨m, a', b', e, inv_chk (m := .once) h sa (fun u hu => ?_) g1 upd_self, ?_⟩
    · rw [upd_no nm_lv]
      exact hx u hu
    · unfold Fit
      rw [inv_top sts _ _ k g1 (Nat.lt_succ_self k), if_pos rfl]
      rfl
end W81
namespace W81
open PySem PySem.Spec PyProof.Rows L2 HX
/-! ### the claims of towers -/
def scG (hs : List Hold) (G : Sco) : Sco := hs.foldl (fun G h => updF G (nmR h.1) h.2) G
theorem scG_no {k : Key} : ∀ {hs : List Hold} {G : Sco}, (∀ h, h ∈ hs → nmR h.1 ≠ k) → scG hs G k = G k
  | [], G, _ => rfl
  | h :: hs, G, no => by
    show scG hs (updF G (nmR h.1) h.2) k = _
    rw [scG_no fun u hu => no u (List.mem_cons_of_mem _ hu), upd_no (Ne.symm (no h (List.mem_cons_self ..)))]
theorem scG_in {u : Hold} : ∀ {hs : List Hold} {G : Sco}, (hs.map (·.1)).Nodup → u ∈ hs → scG hs G (nmR u.1) = some u.2
  | h :: hs, G, nd, hu => by
    rw [List.map_cons, List.nodup_cons] at nd
    show scG hs (updF G (nmR h.1) h.2) (nmR u.1) = _
    rcases List.mem_cons.mp hu with rfl | hu
    · rw [scG_no fun w hw z => nd.1 (by
        have e : w.1 = u.1 := Sum.inr.inj z
        rw [← e]
        exact List.mem_map.mpr ⟨w, hw, rfl⟩)]
      exact upd_self
    · exact scG_in nd.2 hu
theorem scF_in {u : Hold} {hs : List Hold} (nd : (hs.map (·.1)).Nodup) (hu : u ∈ hs) : scF hs (nmR u.1) = some u.2 := scG_in nd hu
theorem scG_dp {D : Nat} : ∀ {hs : List Hold} {G : Sco}, (∀ h, h ∈ hs → h.2.2.dp < D) → (∀ r h, G r = some h → h.2.dp < D) → ∀ r h, scG hs G r = some h → h.2.dp < D
  | [], G, _, hG => hG
  | h :: hs, G, hh, hG => scG_dp (hs := hs) (G := updF G (nmR h.1) h.2) (fun u hu => hh u (List.mem_cons_of_mem _ hu)) fun r p e => by
    unfold updF at e
    split at e
    · cases e
      exact hh h (List.mem_cons_self ..)
    · exact hG r p e
theorem scF_dp {D : Nat} {hs : List Hold} (h : ∀ h, h ∈ hs → h.2.2.dp < D) : ∀ r p, scF hs r = some p → p.2.dp < D := scG_dp (G := fun _ => none) h fun r p e => by cases e
def baseH (x y : Str) (s : Sn) (n1 d1 n2 d2 : Nat) : List Hold := [(x, .box n1 d1, s), (y, .box n2 d2, s)]
def tU (z : Str) (top : Rf) : Nat := if top = nmR z then 1 else 0
theorem mOf_one (z : Str) (top : Rf) : mOf (oneF top (nmR z)) = (tU z top, 0) := by
  unfold oneF tU
  by_cases e : top = nmR z
  · rw [if_pos e.symm, if_pos e]
    rfl
  · rw [if_neg (Ne.symm e), if_neg e]
    rfl
theorem fits_box {o : Option C3} {n d : Nat} (h1 : (mOf o).1 ≤ n) (h2 : (mOf o).2 ≤ d) : (o.getD C3.zero).fits (.box n d) = true := by
  have e : (o.getD C3.zero).m = (mOf o).1 ∧ (o.getD C3.zero).d = (mOf o).2 := by cases o <;> exact ⟨rfl, rfl⟩
  show (decide ((o.getD C3.zero).m ≤ n) && decide ((o.getD C3.zero).d ≤ d)) = true
  rw [e.1, e.2, decide_eq_true h1, decide_eq_true h2]
  rfl
structure Cov (x y : Str) (rows : List Row) (top : Rf) (n1 d1 n2 d2 : Nat) : Prop where
  x1 : nU x rows + tU x top ≤ n1
  x2 : nD x rows ≤ d1
  y1 : nU y rows + tU y top ≤ n2
  y2 : nD y rows ≤ d2
theorem tow_len {x y : Str} : ∀ {rows : List Row} {top : Rf} {k : Nat} {w : Option Nat}, TwS x y k w rows top → WOk k w → GoodR (k + rows.length) top
  | [], top, k, w, h, hw => refw_good h hw
  | (m, r) :: rows, top, k, w, h, hw => by
    have e : k + ((m, r) :: rows).length = k + 1 + rows.length := by rw [List.length_cons]; omega
    rw [e]
    rcases h with ⟨_, _, h2⟩ | ⟨_, _, h2⟩
    · exact tow_len h2 wok_some
    · exact tow_len h2 hw.up
theorem wok0 : WOk 0 none := fun j e => by cases e
theorem inv_shown {x y : Str} {s g' : Sn} {rows : List Row} {top : Rf} {sts : List Stp} {ext : List Hold} {n1 d1 n2 d2 : Nat} (h : TwS x y 0 none rows top) (hp : PathX s sts ext g') (nd : ((baseH x y s n1 d1 n2 d2 ++ ext).map (·.1)).Nodup)
    (sh : SeqAt.shaped s.dat = true) (cv : Cov x y rows top n1 d1 n2 d2) : Shown (tre oF (invL sts) s rows top 0) (baseH x y s n1 d1 n2 d2 ++ ext, g') := by
  have nx : ∀ u, u ∈ ext → u.1 ≠ x ∧ u.1 ≠ y := fun u hu => by
    have nd := nd
    rw [List.map_append, List.nodup_append] at nd
    have z := nd.2.2
    exact ⟨Ne.symm (z x (by simp [baseH]) u.1 (List.mem_map.mpr ⟨u, hu, rfl⟩)), Ne.symm (z y (by simp [baseH]) u.1 (List.mem_map.mpr ⟨u, hu, rfl⟩))⟩
  have hGx : scF (baseH x y s n1 d1 n2 d2 ++ ext) (nmR x) = some (.box n1 d1, s) := scF_in (u := (x, .box n1 d1, s)) nd (by simp [baseH])
  have hGy : scF (baseH x y s n1 d1 n2 d2 ++ ext) (nmR y) = some (.box n2 d2, s) := scF_in (u := (y, .box n2 d2, s)) nd (by simp [baseH])
  have hGe : ∀ u, u ∈ ext → scF (baseH x y s n1 d1 n2 d2 ++ ext) (nmR u.1) = some u.2 := fun u hu => scF_in nd (List.mem_append_right _ hu)
  have nde : (stsNm sts).Nodup := by
    rw [path_nm hp]
    rw [List.map_append, List.nodup_append] at nd
    exact nd.2.1
  refine ⟨?_, fun u hu => ?_⟩
  · refine tre_chk (PG := fun G => ∀ u, u ∈ ext → G (nmR u.1) = some u.2) (fun G k p hG u hu => by rw [upd_no nm_lv]; exact hG u hu) leaf_o (inv_top sts) (fun G r k m gd e => ⟨sh, m, e⟩) (fun G r k m hG gd e => inv_chk hp sh hG gd e) h wok0
      ⟨⟨_, hGx⟩, ⟨_, hGy⟩, fun j e => by cases e⟩ hGe
  · have ec := tre_cn (Lt := invL sts) (s := s) leaf_o h wok0
    rw [ec]
    rcases List.mem_append.mp hu with hu | hu
    · have hz : ∀ z, z = x ∨ z = y → (invL sts top (0 + rows.length)).cn (0 + rows.length) (nmR z) = oneF top (nmR z) := fun z hz => inv_no sts _ _ fun hm => by
        rw [path_nm hp] at hm
        obtain ⟨v, hv, e⟩ := List.mem_map.mp hm
        rcases hz with rfl | rfl
        · exact (nx v hv).1 e
        · exact (nx v hv).2 e
      have hu : u ∈ [((x, .box n1 d1, s) : Hold), (y, .box n2 d2, s)] := hu
      rcases List.mem_cons.mp hu with rfl | hu
      · obtain ⟨e1, _⟩ := rcn_nm (Ct := (invL sts top (0 + rows.length)).cn (0 + rows.length)) (z := x) h
        rw [hz x (.inl rfl), mOf_one] at e1
        refine fits_box ?_ ?_
        · rw [e1]
          exact cv.x1
        · rw [e1]
          have := cv.x2
          show max _ 0 ≤ d1
          omega
      · rw [List.mem_singleton] at hu
        subst hu
        obtain ⟨e1, _⟩ := rcn_nm (Ct := (invL sts top (0 + rows.length)).cn (0 + rows.length)) (z := y) h
        rw [hz y (.inr rfl), mOf_one] at e1
        refine fits_box ?_ ?_
        · rw [e1]
          exact cv.y1
        · rw [e1]
          have := cv.y2
          show max _ 0 ≤ d2
          omega
    · obtain ⟨a, b⟩ := tws_nm (nx u hu).1 (nx u hu).2 h
      rw [rcn_skip a, inv_in sts _ _ nde (path_st hp u hu) b]
      exact box_fits u.2.1
theorem due_shown {x y : Str} {s : Sn} {rows : List Row} {top : Rf} {n1 d1 n2 d2 : Nat} (h : TwS x y 0 none rows top) (nxy : x ≠ y) (sh : SeqAt.shaped s.dat = true) (cv : Cov x y rows top n1 d1 n2 d2) : Shown (tre (xF s) (xF s) s rows top 0) (baseH x y s n1 d1 n2 d2, s) := by
  have nd : ((baseH x y s n1 d1 n2 d2).map (·.1)).Nodup := by simp [baseH, nxy]
  have hGx : scF (baseH x y s n1 d1 n2 d2) (nmR x) = some (.box n1 d1, s) := scF_in (u := (x, .box n1 d1, s)) nd (by simp [baseH])
  have hGy : scF (baseH x y s n1 d1 n2 d2) (nmR y) = some (.box n2 d2, s) := scF_in (u := (y, .box n2 d2, s)) nd (by simp [baseH])
  refine ⟨?_, fun u hu => ?_⟩
  · exact tre_chk (PG := fun _ => True) (fun _ _ _ _ => trivial) (leaf_x s) (leaf_x s).top (fun G r k m gd e => exO_chk s G r k m sh gd e) (fun G r k m hG gd e => exO_chk s G r k m sh gd e) h wok0 ⟨⟨_, hGx⟩, ⟨_, hGy⟩, fun j e => by cases e⟩ trivial
  · have ec := tre_cn (Lt := xF s) (s := s) (leaf_x s) h wok0
    rw [ec, leaf_x s top _ (tow_len h wok0)]
    have hu : u ∈ [((x, .box n1 d1, s) : Hold), (y, .box n2 d2, s)] := hu
    rcases List.mem_cons.mp hu with rfl | hu
    · obtain ⟨e1, _⟩ := rcn_nm (Ct := oneF top) (z := x) h
      rw [mOf_one] at e1
      refine fits_box ?_ ?_
      · rw [e1]
        exact cv.x1
      · rw [e1]
        have := cv.x2
        show max _ 0 ≤ d1
        omega
    · rw [List.mem_singleton] at hu
      subst hu
      obtain ⟨e1, _⟩ := rcn_nm (Ct := oneF top) (z := y) h
      rw [mOf_one] at e1
      refine fits_box ?_ ?_
      · rw [e1]
        exact cv.y1
      · rw [e1]
        have := cv.y2
        show max _ 0 ≤ d2
        omega
/-- .. the counts of the tower itself, at names -/
theorem tow_cn {x y : Str} {s : Sn} {rows : List Row} {top : Rf} (h : TwS x y 0 none rows top) (z : Str) : mOf ((tre oF oF s rows top 0).cn 0 (nmR z)) = (nU z rows + tU z top, nD z rows) ∧ ((tre oF oF s rows top 0).cn 0 (nmR z)).isSome = decide (0 < nU z rows + tU z top) := by
  rw [tre_cn (Lt := oF) (s := s) leaf_o h wok0]
  obtain ⟨e1, e2⟩ := rcn_nm (Ct := (oF top (0 + rows.length)).cn (0 + rows.length)) (z := z) h
  have e0 : (oF top (0 + rows.length)).cn (0 + rows.length) (nmR z) = oneF top (nmR z) := rfl
  rw [e0, mOf_one] at e1
  rw [e0] at e2
  refine ⟨by rw [e1, Nat.max_zero], ?_⟩
  rw [e2]
  unfold oneF tU
  by_cases e : top = nmR z
  · rw [if_pos e.symm, if_pos e, decide_eq_true (show 0 < nU z rows + 1 by omega)]
    simp
  · rw [if_neg (Ne.symm e), if_neg e]
    simp
/-! ### sizes -/
structure RowsSm (rows : List Row) : Prop where
  k : ∀ p, p ∈ rows → p.1.Sm ∧ p.1.n ≤ 1000 ∧ RfSm p.2
theorem RowsSm.tl {p : Row} {rows : List Row} (h : RowsSm (p :: rows)) : RowsSm rows := ⟨fun q hq => h.k q (List.mem_cons_of_mem _ hq)⟩
theorem tre_dp {L Lt : Rf → Nat → Dr} {s : Sn} {M : Nat} (h1 : ∀ r k, (L r k).dp ≤ M) (h2 : ∀ r k, (Lt r k).dp ≤ M) : ∀ (rows : List Row) (top : Rf) (k : Nat), (tre L Lt s rows top k).dp ≤ rows.length + M
  | [], top, k => by
    have := h2 top k
    show (Lt top k).dp ≤ 0 + M
    omega
  | (m, r) :: rows, top, k => by
    have a := h1 r k
    have b := tre_dp (s := s) h1 h2 rows top (k + 1)
    show max (L r k).dp (tre L Lt s rows top (k + 1)).dp + 1 ≤ rows.length + 1 + M
    omega
theorem tre_sz {L Lt : Rf → Nat → Dr} {s : Sn} {A : Nat} (h1 : ∀ r k, (L r k).sz ≤ A) (h2 : ∀ r k, (Lt r k).sz ≤ A) : ∀ (rows : List Row) (top : Rf) (k : Nat), (tre L Lt s rows top k).sz ≤ rows.length * (A + 1) + A
  | [], top, k => by
    have := h2 top k
    show (Lt top k).sz ≤ 0 * (A + 1) + A
    omega
  | (m, r) :: rows, top, k => by
    have a := h1 r k
    have b := tre_sz (s := s) h1 h2 rows top (k + 1)
    show (L r k).sz + (tre L Lt s rows top (k + 1)).sz + 1 ≤ (rows.length + 1) * (A + 1) + A
    rw [Nat.succ_mul]
    omega
theorem tre_kn {L Lt : Rf → Nat → Dr} {s : Sn} (h1 : ∀ r k, (L r k).Kn) (h2 : ∀ r k, (Lt r k).Kn) : ∀ (rows : List Row) (top : Rf) (k : Nat), RowsSm rows → (tre L Lt s rows top k).Kn
  | [], top, k, _ => h2 top k
  | (m, r) :: rows, top, k, hr => ⟨(hr.k (m, r) (List.mem_cons_self ..)).2.1, h1 r k, tre_kn h1 h2 rows top (k + 1) hr.tl⟩
theorem tre_ci {L Lt : Rf → Nat → Dr} {s : Sn} {D : Nat} (hs : s.dp < D) (h1 : ∀ r k, CutIn D (L r k)) (h2 : ∀ r k, CutIn D (Lt r k)) : ∀ (rows : List Row) (top : Rf) (k : Nat), CutIn D (tre L Lt s rows top k)
  | [], top, k => h2 top k
  | (m, r) :: rows, top, k => ⟨hs, h1 r k, tre_ci hs h1 h2 rows top (k + 1)⟩
theorem tre_iv {L Lt : Rf → Nat → Dr} {s : Sn} (h2 : ∀ r k, IvOk (Lt r k)) : ∀ (rows : List Row) (top : Rf) (k : Nat), IvOk (tre L Lt s rows top k)
  | [], top, k => h2 top k
  | (m, r) :: rows, top, k => tre_iv h2 rows top (k + 1)
theorem rfsm_ok {r : Rf} (h : RfSm r) : RefOk r := by
  cases r with
  | inl i => exact h.1
  | inr x => trivial
theorem tre_tw {s : Sn} : ∀ (rows : List Row) (top : Rf) (k : Nat), RowsSm rows → RfSm top → Tw (tre oF oF s rows top k)
  | [], top, k, _, h => rfsm_ok h
  | (m, r) :: rows, top, k, hr, h => ⟨rfsm_ok (hr.k (m, r) (List.mem_cons_self ..)).2.2, tre_tw rows top (k + 1) hr.tl h⟩
theorem mvD_tre {x y : Str} {s : Sn} : ∀ (rows : List Row) (top : Rf) (k : Nat), mvD y x (tre oF oF s rows top k) = tre oF oF s (rows.map fun p => (p.1, rnF y x p.2)) (rnF y x top) k
  | [], top, k => rfl
  | (m, r) :: rows, top, k => by
    show Dr.cut m s (.own (rnF y x r)) (mvD y x (tre oF oF s rows top (k + 1))) = _
    rw [mvD_tre rows]
    rfl
theorem tre_shw {L Lt : Rf → Nat → Dr} {s : Sn} {M W : Nat} (hs : s.Sm) (hM : s.dp + 1 ≤ M) (h1 : ∀ r k, RfSm r → k ≤ 100 → Shw (L r k).dat M W) (h2 : ∀ r k, RfSm r → k ≤ 100 → Shw (Lt r k).dat M W) :
    ∀ (rows : List Row) (top : Rf) (k : Nat), RowsSm rows → RfSm top → k + rows.length ≤ 100 → Shw (tre L Lt s rows top k).dat (rows.length + M) (rows.length * (W + s.sz * 60 + 50) + W)
  | [], top, k, _, h, hk => (h2 top k h (by simpa using hk)).mono (by show M ≤ 0 + M; omega) (by show W ≤ 0 * _ + W; omega)
  | (m, r) :: rows, top, k, hr, h, hk => by
    rw [List.length_cons] at hk
    obtain ⟨a1, a2, a3⟩ := hr.k (m, r) (List.mem_cons_self ..)
    have a := (h1 r k a3 (by omega)).mono (show M ≤ rows.length + M by omega) (Nat.le_refl _)
    have b := tre_shw hs hM h1 h2 rows top (k + 1) hr.tl h (by omega)
    refine ((ShwAll.cons ((shw_lit (x := "cut") (by decide +kernel)).mono (Nat.zero_le (rows.length + M)) (Nat.le_refl _)) (.cons ((shw_kd a1).mono (by omega) (Nat.le_refl _)) (.cons ((Sn.shw hs).mono (by omega) (Nat.le_refl _)) (.cons a (.cons b .nil))))).tup).mono ?_ ?_
    · show rows.length + M + 1 ≤ rows.length + 1 + M
      omega
    · show 12 + 1 + (22 + 1 + (s.sz * 60 + 1 + (W + 1 + (rows.length * (W + s.sz * 60 + 50) + W + 1 + 0)))) ≤ (rows.length + 1) * (W + s.sz * 60 + 50) + W
      rw [Nat.succ_mul]
      omega
theorem exO_dp : ∀ (g : Sn) (r : Rf) (k : Nat), (exO g r k).dp ≤ 2 * g.dp
  | .word x, r, k => Nat.le_refl _
  | .menu a b, r, k => by
    have h1 := exO_dp a (lvR k) (k + 1)
    have h2 := exO_dp b (lvR k) (k + 1)
    show max ((exO a (lvR k) (k + 1)).dp + 1) ((exO b (lvR k) (k + 1)).dp + 1) + 1 ≤ 2 * (max a.dp b.dp + 1)
    omega
  | .trade m a b, r, k => by
    have h1 := exO_dp a (lvR k) (k + 1)
    have h2 := exO_dp b (lvR (k + 1)) (k + 2)
    show max (exO a (lvR k) (k + 1)).dp (exO b (lvR (k + 1)) (k + 2)).dp + 1 + 1 ≤ 2 * (max a.dp b.dp + 1)
    omega
theorem exO_sz : ∀ (g : Sn) (r : Rf) (k : Nat), (exO g r k).sz ≤ 3 * g.sz
  | .word x, r, k => by show 1 ≤ 3 * 1; decide
  | .menu a b, r, k => by
    have h1 := exO_sz a (lvR k) (k + 1)
    have h2 := exO_sz b (lvR k) (k + 1)
    show ((exO a (lvR k) (k + 1)).sz + 1) + ((exO b (lvR k) (k + 1)).sz + 1) + 1 ≤ 3 * (a.sz + b.sz + 1)
    omega
  | .trade m a b, r, k => by
    have h1 := exO_sz a (lvR k) (k + 1)
    have h2 := exO_sz b (lvR (k + 1)) (k + 2)
    show ((exO a (lvR k) (k + 1)).sz + (exO b (lvR (k + 1)) (k + 2)).sz + 1) + 1 ≤ 3 * (a.sz + b.sz + 1)
    omega
theorem rfsm_lv {k : Nat} (h : k < 1000) : RfSm (lvR k) := ⟨by omega, by omega⟩
theorem exO_lf : ∀ (g : Sn) (r : Rf) (k : Nat), g.Sm → RfSm r → k + 2 * g.dp < 1000 → (exO g r k).Lf
  | .word x, r, k, _, h, _ => h
  | .menu a b, r, k, hg, h, hk => by
    have hk : k + 2 * (max a.dp b.dp + 1) < 1000 := hk
    have hl : RfSm (lvR k) := rfsm_lv (by omega)
    exact ⟨⟨h, exO_lf a _ _ hg.1 hl (by omega)⟩, ⟨h, exO_lf b _ _ hg.2 hl (by omega)⟩⟩
  | .trade m a b, r, k, hg, h, hk => by
    have hk : k + 2 * (max a.dp b.dp + 1) < 1000 := hk
    exact ⟨h, hg.1, exO_lf a _ _ hg.2.1 (rfsm_lv (by omega)) (by omega), exO_lf b _ _ hg.2.2 (rfsm_lv (by omega)) (by omega)⟩
theorem kn_sm {m : Kd} (h : m.Sm) : m.n ≤ 1000 := by
  cases m with
  | once => show 1 ≤ 1000; decide
  | box n d => exact Nat.le_of_lt h.2.1
theorem exO_kn : ∀ (g : Sn) (r : Rf) (k : Nat), g.Sm → (exO g r k).Kn
  | .word x, r, k, _ => trivial
  | .menu a b, r, k, hg => ⟨exO_kn a _ _ hg.1, exO_kn b _ _ hg.2⟩
  | .trade m a b, r, k, hg => ⟨kn_sm hg.1, exO_kn a _ _ hg.2.1, exO_kn b _ _ hg.2.2⟩
theorem exO_ci {D : Nat} : ∀ (g : Sn) (r : Rf) (k : Nat), CutIn D (exO g r k)
  | .word x, r, k => trivial
  | .menu a b, r, k => ⟨exO_ci a _ _, exO_ci b _ _⟩
  | .trade m a b, r, k => ⟨exO_ci a _ _, exO_ci b _ _⟩
def StOk : Stp → Prop
  | .tr m x => m.Sm ∧ NameOk x
  | .mn _ => True
theorem invL_dp : ∀ (sts : List Stp) (r : Rf) (k : Nat), (invL sts r k).dp ≤ sts.length
  | [], r, k => Nat.le_refl _
  | .tr m x :: sts, r, k => by
    have := invL_dp sts (lvR k) (k + 1)
    show max 0 (invL sts (lvR k) (k + 1)).dp + 1 ≤ sts.length + 1
    omega
  | .mn s :: sts, r, k => by
    have := invL_dp sts (lvR k) (k + 1)
    show (invL sts (lvR k) (k + 1)).dp + 1 ≤ sts.length + 1
    omega
theorem invL_sz : ∀ (sts : List Stp) (r : Rf) (k : Nat), (invL sts r k).sz ≤ 2 * sts.length + 1
  | [], r, k => Nat.le_refl _
  | .tr m x :: sts, r, k => by
    have := invL_sz sts (lvR k) (k + 1)
    show 1 + (invL sts (lvR k) (k + 1)).sz + 1 ≤ 2 * (sts.length + 1) + 1
    omega
  | .mn s :: sts, r, k => by
    have := invL_sz sts (lvR k) (k + 1)
    show (invL sts (lvR k) (k + 1)).sz + 1 ≤ 2 * (sts.length + 1) + 1
    omega
theorem invL_lf : ∀ (sts : List Stp) (r : Rf) (k : Nat), (∀ st, st ∈ sts → StOk st) → RfSm r → k + sts.length < 1000 → (invL sts r k).Lf
  | [], r, k, _, h, _ => h
  | .tr m x :: sts, r, k, ho, h, hk => by
    have hk : k + (sts.length + 1) < 1000 := hk
    obtain ⟨a, b⟩ := ho (.tr m x) (List.mem_cons_self ..)
    exact ⟨h, a, b, invL_lf sts _ _ (fun st hs => ho st (List.mem_cons_of_mem _ hs)) (rfsm_lv (by omega)) (by omega)⟩
  | .mn s :: sts, r, k, ho, h, hk => by
    have hk : k + (sts.length + 1) < 1000 := hk
    exact ⟨h, invL_lf sts _ _ (fun st hs => ho st (List.mem_cons_of_mem _ hs)) (rfsm_lv (by omega)) (by omega)⟩
theorem invL_kn : ∀ (sts : List Stp) (r : Rf) (k : Nat), (∀ st, st ∈ sts → StOk st) → (invL sts r k).Kn
  | [], r, k, _ => trivial
  | .tr m x :: sts, r, k, ho => ⟨kn_sm (ho (.tr m x) (List.mem_cons_self ..)).1, trivial, invL_kn sts _ _ fun st hs => ho st (List.mem_cons_of_mem _ hs)⟩
  | .mn s :: sts, r, k, ho => invL_kn sts _ _ fun st hs => ho st (List.mem_cons_of_mem _ hs)
theorem invL_iv : ∀ (sts : List Stp) (r : Rf) (k : Nat), IvOk (invL sts r k)
  | [], r, k => trivial
  | .tr m x :: sts, r, k => invL_iv sts _ _
  | .mn s :: sts, r, k => invL_iv sts _ _
end W81
namespace W81
open PySem PySem.Spec PyProof.Rows L2 HX
/-! ### names -/
def PoolAt (H : Hp) (p : Addr) : Prop := ∃ l, H p = some (.lst l) ∧ Pool l
theorem PoolAt.new {H : Hp} {p a : Addr} {o : HO} (h : PoolAt H p) (na : H a = none) : PoolAt (upd H a o) p := let ⟨l, e, q⟩ := h; ⟨l, by rw [upd_ne (ne_of_none e na)]; exact e, q⟩
theorem PoolAt.s {H H' : Hp} {p : Addr} (h : PoolAt H p) (s : Same H H') : PoolAt H' p := let ⟨l, e, q⟩ := h; ⟨l, s _ _ e, q⟩
theorem PoolAt.put {H : Hp} {p a : Addr} {o : HO} (h : PoolAt H p) (ne : p ≠ a) : PoolAt (upd H a o) p := let ⟨l, e, q⟩ := h; ⟨l, by rw [upd_ne ne]; exact e, q⟩
theorem PoolAt.k {H H' : Hp} {p : Addr} (h : PoolAt H p) (k : Kp (only1 p) H H') : KpT (only1 p) H H' := let ⟨l, e, q⟩ := h; kpt_lst k e
theorem alpha_at {z : Str} {n d : Nat} (hz : z.cps.toList.length = n) (hd : (d : Int) < (n : Int)) : ∃ c, atI z.cps.toList (d : Int) = some c ∧ c ∈ z.cps.toList := by
  have hd' : d < z.cps.toList.length := by omega
  exact ⟨z.cps.toList[d], atI_nat (List.getElem?_eq_getElem hd'), List.getElem_mem hd'⟩
theorem both_mem : ∀ c, c ∈ ("abcdefghijklmnopqrstuvwxyz0123456789" : Str).cps.toList → c ∈ letters ∨ c ∈ digits := fun c hc => by
  have e : ("abcdefghijklmnopqrstuvwxyz0123456789" : Str).cps.toList = letters ++ digits := by decide +kernel
  rw [e] at hc
  exact List.mem_append.mp hc
/-- a name that grows -/
def NmG (n : Nat) (x : Str) : Prop := x.cps.size ≤ n ∧ (∃ c r, x.cps.toList = c :: r ∧ c ∈ letters) ∧ ∀ c, c ∈ x.cps.toList → c ∈ letters ∨ c ∈ digits
theorem nmg_one {c : Nat} (h : c ∈ letters) : NmG 1 ⟨#[c]⟩ := ⟨Nat.le_refl _, ⟨c, [], rfl, h⟩, fun b hb => by
  rw [List.mem_singleton.mp (by simpa using hb : b ∈ [c])]
  exact .inl h⟩
theorem nmg_app {n : Nat} {x : Str} {c : Nat} (h : NmG n x) (hc : c ∈ letters ∨ c ∈ digits) : NmG (n + 1) (x ++ ⟨#[c]⟩) := by
  obtain ⟨h1, ⟨b, r, h2, h3⟩, h4⟩ := h
  have e : (x ++ (⟨#[c]⟩ : Str)).cps.toList = x.cps.toList ++ [c] := Array.toList_append ..
  have len : (x ++ (⟨#[c]⟩ : Str)).cps.size = x.cps.size + 1 := Str.length_append _ _
  refine ⟨by omega, ⟨b, r ++ [c], by rw [e, h2]; rfl, h3⟩, fun d hd => ?_⟩
  rw [e] at hd
  rcases List.mem_append.mp hd with hd | hd
  · exact h4 d hd
  · rw [List.mem_singleton.mp hd]
    exact hc
def spare (j : Nat) : Str := ("spare" : Str) ++ (toString (j : Int) : String)
theorem spare_ok : ∀ j : Fin 64, NameOk (spare j.val) := by
  have h : ∀ j : Fin 64, (decide ((spare j.val).cps.size ≤ 12) && ((spare j.val).cps.toList.head?.any fun c => decide (c ∈ letters)) && (spare j.val).cps.toList.all (fun c => decide (c ∈ letters) || decide (c ∈ digits))) = true := by decide +kernel
  intro j
  have := h j
  rw [Bool.and_eq_true, Bool.and_eq_true, List.all_eq_true] at this
  obtain ⟨⟨h1, h2⟩, h3⟩ := this
  refine ⟨of_decide_eq_true h1, ?_, fun c hc => ?_⟩
  · generalize (spare j.val).cps.toList = l at h2
    cases l with
    | nil => cases h2
    | cons c r => exact ⟨c, r, rfl, of_decide_eq_true h2⟩
  · have := h3 c hc
    rw [Bool.or_eq_true] at this
    exact this.imp of_decide_eq_true of_decide_eq_true
theorem spare_nd : ((List.range 41).map spare).Nodup := by decide +kernel
theorem spare_in {ns : List Str} {m : Nat} (hm : m ≤ 41) (h : ∀ i, i < m → spare i ∈ ns) : m ≤ ns.length := by
  have e : ((List.range m).map spare).Nodup := by
    have := spare_nd
    have e : List.range 41 = List.range m ++ (List.range (41 - m)).map (m + ·) := by
      rw [← List.range_add]
      congr 1
      omega
    rw [e, List.map_append] at this
    exact (List.nodup_append.mp this).1
  have := List.Nodup.length_le_of_subset e (l₂ := ns) (fun x hx => by
    obtain ⟨i, hi, rfl⟩ := List.mem_map.mp hx
    exact h i (List.mem_range.mp hi))
  rwa [List.length_map, List.length_range] at this
theorem log_small {j : Nat} (h : j < 1000) : (j : Int).natAbs.log2 < 1920 := by
  rw [Int.natAbs_natCast]
  have := Nat.log2_le_self j
  omega
theorem inV_iff {x : Str} {ns : List Str} : inV (.str x) (ns.map V.str) = decide (x ∈ ns) := by
  by_cases h : x ∈ ns
  · rw [decide_eq_true h]
    unfold inV
    rw [List.any_map, List.any_eq_true]
    exact ⟨x, h, (show (x == x) = true from beq_self_eq_true x)⟩
  · rw [decide_eq_false h, in_names h]
section
variable {P : Program} {w : World} {K : PySem.W.Frag} {mg : Str → Option Value} {base : Heap}
def spNames (K : PySem.W.Frag) : Sp := fun vs H Q _ => ∃ (p : Addr) (n : Nat), vs = [.ref p, iv n] ∧ 0 < n ∧ n ≤ 40 ∧ PoolAt H p ∧ ∀ (H' : Hp) (D : Addr) (ss : List Str), Kp (only1 p) H H' → PoolAt H' p → H D = none → H' D = some (.lst (ss.map V.str)) → ss.length = n → ss.Nodup → (∀ x, x ∈ ss → NameOk x) → Q (.ref D) H'
theorem ok_law_names {k : Nat} (T : Tx K mg w) (G_law_next : FnOk P w K mg base CX0 k T.a_law_next T.d_law_next ["pool", "many"] spNext) : FnOk P w K mg base CX0 (k + 1) T.a_law_names T.d_law_names ["pool", "many"] (spNames K) := by
  refine T.F_law_names.ok sc_law_names (fun vs H Q E h => ?_) (fun cdv A outer s H vs Q E hr h => ?_)
  · obtain ⟨_, _, rfl, _⟩ := h
    rfl
  obtain ⟨p, n, rfl, hn0, hn, hP, q⟩ := h
  refine ⟨_, (pss_cons (ps_set (i := 2) sc_law_names.nd rfl (Or.inl rfl) (pe_lst pa_nil))
      (pss_cons (ps_for PassesOwn.never rfl (pi_range1 (by rfl) T.z_range (pa_cons (pv 1) pa_nil)) (pg_name (i := 3) sc_law_names.nd rfl (Or.inl rfl)) (pss_cons (ps_set (i := 4) sc_law_names.nd rfl (Or.inl rfl) (pe_ix ix_str pe_str (pe_call G_law_next hr (by rfl) T.m_law_next T.F_law_next.kp T.b_law_next .nil pass0 (pa_cons (pv 0) (pa_cons pe_int pa_nil))) (fun _ _ => rfl)))
      (pss_cons (ps_for PassesOwn.never rfl (pi_range1 (by rfl) T.z_range (pa_cons (pe_call G_law_next hr (by rfl) T.m_law_next T.F_law_next.kp T.b_law_next .nil pass0 (pa_cons (pv 0) (pa_cons pe_int pa_nil))) pa_nil)) (pg_name (i := 5) sc_law_names.nd rfl (Or.inl rfl)) (pss_one (ps_set (i := 4) sc_law_names.nd rfl (Or.inl rfl) (pe_op op_add_str (pv 4) (pe_ix ix_str pe_str (pe_call G_law_next hr (by rfl) T.m_law_next T.F_law_next.kp T.b_law_next .nil pass0 (pa_cons (pv 0) (pa_cons pe_int pa_nil))) (fun _ _ => rfl))))))
      (pss_cons (ps_for PassesOwn.never rfl (pi_range1 (by rfl) T.z_range (pa_cons (pe_op op_add (pv 1) pe_int) pa_nil)) (pg_name (i := 5) sc_law_names.nd rfl (Or.inl rfl)) (pss_one (ps_if (pt_cmpR (inS K) (pv 4) (pv 2) (by rfl)) (pss_one (ps_set (i := 4) sc_law_names.nd rfl (Or.inl rfl) (pe_op op_add_str pe_str (pe_callTy call_str_int (by rfl) T.z_str (by decide +kernel) (pa_cons (pv 5) pa_nil))))) pss_nil)))
      (pss_one (ps_expr (pe_bm PySem.F.plainAttrs_list PySem.F.slot_list_append PySem.F.type_list_append mt_append (pv 2) (pa_cons (pv 4) pa_nil))))))))
      (pss_one (ps_ret (pv 2))))), ?_⟩
  refine ⟨Nat.zero_le _, fun D nD => ?_⟩
  obtain ⟨l0, hp0, hl0⟩ := hP
  have hDp : p ≠ D := ne_of_none hp0 nD
  refine ⟨_, rfl, _, rfl, by omega, by omega, ?_⟩
  refine for_range (lo := 0) (n := n) (fun i σ' H' => ∃ (ss : List Str) (z1 z2 z3 : Option V), Kp (only1 p) H H' ∧ PoolAt H' p ∧ H' D = some (.lst (ss.map V.str)) ∧ ss.length = i ∧ ss.Nodup ∧ (∀ x, x ∈ ss → NameOk x) ∧ σ' = [some (.ref p), some (iv n), some (.ref D), z1, z2, z3])
    ⟨[], none, none, none, Kp.refl.own nD, ⟨l0, by rw [upd_ne hDp]; exact hp0, hl0⟩, upd_same, rfl, List.nodup_nil, fun x hx => (by cases hx), rfl⟩ ?_ ?_
  · rintro i σ' H' hi ⟨ss, z1, z2, z3, kp, ⟨l, hpl, hl1⟩, hD, hl, hnd, hnm, rfl⟩
    rw [Int.zero_add]
    refine ⟨_, rfl, p, l, 26, rfl, hpl, hl1, by decide, by decide, fun d l' hl' hd => ?_⟩
    have kp1 : Kp (only1 p) H (upd H' p (.lst l')) := kp.put rfl
    have hp1 : PoolAt (upd H' p (.lst l')) p := ⟨l', upd_same, hl'⟩
    have hD1 : (upd H' p (.lst l')) D = some (.lst (ss.map V.str)) := by rw [upd_ne (Ne.symm hDp)]; exact hD
    generalize upd H' p (.lst l') = H1 at kp1 hp1 hD1 ⊢
    obtain ⟨c, hc1, hc2⟩ := alpha_at (z := "abcdefghijklmnopqrstuvwxyz") (n := 26) (by decide +kernel) hd
    refine ⟨_, _, c, rfl, rfl, (by show 26 ≤ sizeLine; decide), hc1, ?_⟩
    obtain ⟨l2, hpl2, hl2⟩ := hp1
    refine ⟨_, rfl, p, l2, 12, rfl, hpl2, hl2, by decide, by decide, fun d2 l3 hl3 hd2 => ?_⟩
    have kp2 : Kp (only1 p) H (upd H1 p (.lst l3)) := kp1.put rfl
    have hp2 : PoolAt (upd H1 p (.lst l3)) p := ⟨l3, upd_same, hl3⟩
    have hD2 : (upd H1 p (.lst l3)) D = some (.lst (ss.map V.str)) := by rw [upd_ne (Ne.symm hDp)]; exact hD1
    generalize upd H1 p (.lst l3) = H2 at kp2 hp2 hD2 ⊢
    refine ⟨_, rfl, by omega, by omega, ?_⟩
    refine for_range (lo := 0) (n := d2) (fun j σ' H' => ∃ x z1, Kp (only1 p) H H' ∧ PoolAt H' p ∧ H' D = some (.lst (ss.map V.str)) ∧ NmG (1 + j) x ∧ σ' = [some (.ref p), some (iv n), some (.ref D), some (iv i), some (.str x), z1]) ⟨_, z3, kp2, hp2, hD2, nmg_one hc2, rfl⟩ ?_ ?_
    · rintro j σ' H' hj ⟨x, z1, kp, ⟨l, hpl, hl1⟩, hD, hx, rfl⟩
      rw [Int.zero_add]
      refine ⟨_, rfl, _, rfl, p, l, 36, rfl, hpl, hl1, by decide, by decide, fun d l' hl' hd => ?_⟩
      obtain ⟨c, hc1, hc2⟩ := alpha_at (z := "abcdefghijklmnopqrstuvwxyz0123456789") (n := 36) (by decide +kernel) hd
      have hj' : j < 12 := by omega
      have hxl : x.length ≤ 1 + j := hx.1
      refine ⟨_, _, c, rfl, rfl, (by show 36 ≤ sizeLine; decide), hc1, _, _, rfl, rfl, ?_, x ++ ⟨#[c]⟩, _, kp.put rfl, ⟨l', upd_same, hl'⟩, by rw [upd_ne (Ne.symm hDp)]; exact hD, nmg_app hx (both_mem c hc2), rfl⟩
      show x.length + 1 ≤ sizeLine
      exact sz1 (by omega)
    rintro σ' H2 ⟨x, z1, kp3, hp3, hD3, hx, rfl⟩
    have hnx : NameOk x := ⟨by have := hx.1; omega, hx.2⟩
    refine ⟨_, rfl, _, _, rfl, rfl, _, rfl, by omega, by omega, ?_⟩
    refine for_range (lo := 0) (n := n + 1) (fun j σ' H' => H' = H2 ∧ ∃ x z1, NameOk x ∧ (x ∉ ss ∨ j = 0 ∨ ∃ m, j = m + 1 ∧ x = spare m ∧ ∀ i, i < m → spare i ∈ ss) ∧ σ' = [some (.ref p), some (iv n), some (.ref D), some (iv i), some (.str x), z1]) ⟨rfl, x, _, hnx, .inr (.inl rfl), rfl⟩ ?_ ?_
    · rintro j σ' H' hj ⟨rfl, x, z1, hx, hor, rfl⟩
      rw [Int.zero_add]
      refine ⟨_, rfl, _, rfl, D, _, rfl, .inl (at_l hD3), rfl, flat_names _, _, rfl, ?_⟩
      rw [inV_iff]
      by_cases hb : x ∈ ss
      · rw [decide_eq_true hb]
        have e : NameOk (spare j) := spare_ok ⟨j, by omega⟩
        refine iteT ⟨_, rfl, _, rfl, log_small (by omega), _, _, rfl, rfl, ?_, rfl, _, _, e, .inr (.inr ⟨j, rfl, rfl, fun m hm => ?_⟩), rfl⟩
        · have h1 := e.1
          have h2 : (spare j).length = (spare j).cps.size := rfl
          unfold spare at h1 h2
          rw [Str.length_append] at h2
          exact sz1 (by omega)
        · rcases hor with h | h | ⟨m', h1, h2, h3⟩
          · exact absurd hb h
          · omega
          · by_cases e : m = m'
            · rw [e, ← h2]
              exact hb
            · exact h3 m (by omega)
      · rw [decide_eq_false hb]
        exact iteF ⟨rfl, x, _, hx, .inl hb, rfl⟩
    rintro σ' H3 ⟨rfl, x, z1, hx, hor, rfl⟩
    have hnew : x ∉ ss := by
      rcases hor with h | h | ⟨m, h1, h2, h3⟩
      · exact h
      · omega
      · intro hm
        have := spare_in (ns := ss) (m := m) (by omega) h3
        omega
    refine ⟨_, rfl, .inl ⟨rfl, _, at_l hD3⟩, _, rfl, D, _, _, rfl, rfl, hD3, sz2 (by rw [List.length_map]; omega), ?_⟩
    refine ⟨ss ++ [x], _, _, _, kp3.own nD, hp3.put hDp, ?_, ?_, ?_, ?_, rfl⟩
    · rw [List.map_append]
      exact upd_same
    · rw [List.length_append, hl]
      rfl
    · rw [List.nodup_append]
      exact ⟨hnd, by simp, fun a ha b hb z => hnew (by rw [List.mem_singleton] at hb; rw [← hb, ← z]; exact ha)⟩
    · intro y hy
      rcases List.mem_append.mp hy with hy | hy
      · exact hnm y hy
      · rw [List.mem_singleton.mp hy]
        exact hx
  · rintro σ' H' ⟨ss, z1, z2, z3, kp, hp, hD, hl, hnd, hnm, rfl⟩
    exact ⟨_, rfl, q H' D ss kp hp nD hD hl hnd hnm⟩
end
end W81
namespace W81
open PySem PySem.Spec PyProof.Rows L2 HX
/-! ### the law's own trees -/
def rowDt (s : Sn) (p : Row) : PyData := .tuple [.str "cut", p.1.dat, s.dat, (Dr.own p.2).dat]
def jn (s : Sn) (rows : List Row) (t : Dr) : Dr := rows.foldr (fun p t => .cut p.1 s (.own p.2) t) t
theorem jn_tre {s : Sn} {Lt : Rf → Nat → Dr} : ∀ (rows : List Row) (top : Rf) (k : Nat), (∀ j, Lt top j = Lt top 0) → tre oF Lt s rows top k = jn s rows (Lt top 0)
  | [], top, k, h => h k
  | (m, r) :: rows, top, k, h => by
    show Dr.cut m s (.own r) (tre oF Lt s rows top (k + 1)) = _
    rw [jn_tre rows top (k + 1) h]
    rfl
section
variable {P : Program} {w : World} {K : PySem.W.Frag} {mg : Str → Option Value} {base : Heap}
theorem row_at {s : Sn} {p : Row} {H : Hp} {v : V} (h : Tp K H v (rowDt s p)) : ∃ a mv sv ov, v = .ref a ∧ SqT K H a [.str "cut", mv, sv, ov] ∧ Tp K H mv p.1.dat ∧ Tp K H sv s.dat ∧ Tp K H ov (Dr.own p.2).dat := by
  obtain ⟨a, xs, rfl, q, t⟩ := Tp.tup_ h
  obtain ⟨x, y, z, u, rfl, h1, h2, h3, h4⟩ := tp4 t
  rw [h1.str_] at q
  exact ⟨a, y, z, u, rfl, q, h2, h3, h4⟩
def spSame (K : PySem.W.Frag) : Sp := fun vs H Q _ => ∃ (v u : V) (ds : List PyData) (wt : Nat), vs = [v, u] ∧ Tp K H v (.tuple ds) ∧ Tp K H u (.tuple ds) ∧ Shw (.tuple ds) 60 wt ∧ wt ≤ 1048576 ∧ Q (.bl true) H
theorem ok_law_same {k : Nat} (T : Tx K mg w) : FnOkG P w K mg base CX0 (k + 1) T.a_law_same T.d_law_same ["told", "due"] (spSame K) := by
  refine HX.Fun.okG T.F_law_same sc_law_same (fun vs H Q E h => ?_) (fun cdv A outer s H vs Q E gd hr h => ?_)
  · obtain ⟨_, _, _, _, rfl, _⟩ := h
    rfl
  obtain ⟨v, u, ds, wt, rfl, hv, hu1, hw, hwt, q⟩ := h
  have hrep : (A.deeper (envOfC "_law_same" (defScope s_law_same) s.heap.objs.size T.a_law_same cdv)).units + (60 + 1) < cLine := by
    have := hr.units
    omega
  refine ⟨_, PSs.nox (pss_one (ps_ret (pe_and (pe_callB (isiS K) (by rfl) T.z_isinstance (by decide +kernel) (pa_cons (pv 0) (pa_cons (pe_bltn (v := .ty "tuple") (by rfl) T.z_tuple (by decide +kernel) rfl) pa_nil))) (pe_and (pe_cmpR (eqD K hr.units) (pv 0) (pv 1) (nomark _)) (pe_one (pe_cmpR op_eq (pe_callB (call_reprD gd (n := 60) hrep) (by rfl) T.z_repr (by decide +kernel) (pa_cons (pv 0) pa_nil)) (pe_callB (call_reprD gd (n := 60) hrep) (by rfl) T.z_repr (by decide +kernel) (pa_cons (pv 1) pa_nil)) (nomark _))))))), ?_⟩
  have hv0 := hv
  have hu0 := hu1
  obtain ⟨a, xs, rfl, ha, _⟩ := Tp.tup_ hv
  obtain ⟨b, ys, rfl, hb, _⟩ := Tp.tup_ hu1
  have sh := hw.shaped (show 60 ≤ 64 by decide)
  have hf := hw.fits hwt
  refine ⟨_, rfl, _, _, _, _, true, rfl, .ty _, ty_tup ha, kit_ty (by decide +kernel), true, rfl, iteT ?_⟩
  refine ⟨_, rfl, _, rfl, _, _, hv0.dq, hu0.dq, sh, sh, ?_⟩
  rw [eqv_self sh]
  refine ⟨true, rfl, iteT ?_⟩
  refine ⟨_, rfl, a, _, rfl, hv0.dq, hw.show_, hw.dep_, hf, ?_⟩
  refine ⟨_, rfl, b, _, rfl, hu0.dq, hw.show_, hw.dep_, hf, rfl, ?_⟩
  rw [decide_eq_true rfl]
  exact q
theorem opened_step {k d : Nat} (T : Tx K mg w) (G_law_opened : FnOk P w K mg base CX0 k T.a_law_opened T.d_law_opened ["ref", "sentence", "level"] (spExpOwn K d)) :
    FnOk P w K mg base CX0 (k + 1) T.a_law_opened T.d_law_opened ["ref", "sentence", "level"] (spExpOwn K (d + 1)) := by
  refine T.F_law_opened.ok sc_law_opened (fun vs H Q E h => ?_) (fun cdv A outer s H vs Q E hr h => ?_)
  · obtain ⟨_, _, _, _, rfl, _⟩ := h
    rfl
  obtain ⟨gv, r, g, lv, rfl, hg, hd, q⟩ := h
  refine ⟨_, (pss_cons (ps_if (pt_cmpR op_eq (pe_ix (ixT K) (pv 1) pe_int (fun _ _ => rfl)) pe_str (nomark _)) (pss_one (ps_ret (pe_tup (pa_cons pe_str (pa_cons (pv 0) pa_nil))))) pss_nil)
      (pss_cons (ps_if (pt_cmpR op_eq (pe_ix (ixT K) (pv 1) pe_int (fun _ _ => rfl)) pe_str (nomark _)) (pss_cons (ps_set (i := 3) sc_law_opened.nd rfl (Or.inl rfl) (pe_tup (pa_cons pe_str (pa_cons (pv 0) (pa_cons pe_str (pa_cons (pe_call G_law_opened hr (by rfl) T.m_law_opened T.F_law_opened.kp T.b_law_opened .nil pass0 (pa_cons (pv 2) (pa_cons (pe_ix (ixT K) (pv 1) pe_int (fun _ _ => rfl)) (pa_cons (pe_op op_add (pv 2) pe_int) pa_nil)))) pa_nil))))))
      (pss_one (ps_ret (pe_tup (pa_cons pe_str (pa_cons (pv 3) (pa_cons (pe_tup (pa_cons pe_str (pa_cons (pv 0) (pa_cons pe_str (pa_cons (pe_call G_law_opened hr (by rfl) T.m_law_opened T.F_law_opened.kp T.b_law_opened .nil pass0 (pa_cons (pv 2) (pa_cons (pe_ix (ixT K) (pv 1) pe_int (fun _ _ => rfl)) (pa_cons (pe_op op_add (pv 2) pe_int) pa_nil)))) pa_nil))))) pa_nil))))))) pss_nil)
      (pss_cons (ps_set (i := 4) sc_law_opened.nd rfl (Or.inl rfl) (pe_call G_law_opened hr (by rfl) T.m_law_opened T.F_law_opened.kp T.b_law_opened .nil pass0 (pa_cons (pv 2) (pa_cons (pe_ix (ixT K) (pv 1) pe_int (fun _ _ => rfl)) (pa_cons (pe_op op_add (pv 2) pe_int) pa_nil)))))
      (pss_one (ps_ret (pe_tup (pa_cons pe_str (pa_cons (pe_tup (pa_cons pe_str (pa_cons (pv 0) (pa_cons (pe_ix (ixT K) (pv 1) pe_int (fun _ _ => rfl)) (pa_cons (pv 4) (pa_cons (pe_call G_law_opened hr (by rfl) T.m_law_opened T.F_law_opened.kp T.b_law_opened .nil pass0 (pa_cons (pe_op op_add (pv 2) pe_int) (pa_cons (pe_ix (ixT K) (pv 1) pe_int (fun _ _ => rfl)) (pa_cons (pe_op op_add (pv 2) pe_int) pa_nil)))) pa_nil)))))) pa_nil)))))))), ?_⟩
  cases g with
  | word x =>
    obtain ⟨a, rfl, ha⟩ := word_at hg
    refine ⟨_, rfl, a, _, 0, _, rfl, rfl, ha, rfl, rfl, _, rfl, iteT ?_⟩
    refine ⟨_, rfl, (by show 2 ≤ sizeLine; decide), fun z nz => ?_⟩
    exact q _ _ (Same.new nz) (.mk upd_same (.cons (.str _) (.cons (rf_tp r) .nil)))
  | menu x y =>
    have hd' : max x.dp y.dp + 1 < d + 1 := hd
    obtain ⟨a, xv, yv, rfl, ha, hx, hy⟩ := menu_at hg
    refine ⟨_, rfl, a, _, 0, _, rfl, rfl, ha, rfl, rfl, _, rfl, iteF ?_⟩
    refine ⟨_, rfl, a, _, 0, _, rfl, rfl, ha, rfl, rfl, _, rfl, iteT ?_⟩
    refine ⟨_, rfl, _, rfl, _, rfl, a, _, 1, _, rfl, rfl, ha, rfl, _, rfl, _, _, rfl, rfl, ?_⟩
    refine ⟨xv, lvR lv, x, lv + 1, rfl, hx, by omega, fun z1 H1 s1 h1 => ?_⟩
    refine ⟨(by show 4 ≤ sizeLine; decide), fun p1 n1 => ?_⟩
    have sp1 := Same.new (o := .tup [.str "pick", kV r, .str "left", z1]) n1
    have hp1 : Tp K (upd H1 p1 (.tup [.str "pick", kV r, .str "left", z1])) (.ref p1) (Dr.pick r .l (exO x (lvR lv) (lv + 1))).dat := .mk upd_same (.cons (.str _) (.cons (rf_tp r) (.cons (.str _) (.cons (h1.s sp1) .nil))))
    generalize upd H1 p1 (.tup [.str "pick", kV r, .str "left", z1]) = H2 at sp1 hp1 ⊢
    have s2 := s1.trans sp1
    refine ⟨_, rfl, _, rfl, _, rfl, _, rfl, a, _, 2, _, rfl, rfl, (kpT_same s2).tup ha, rfl, _, rfl, _, _, rfl, rfl, ?_⟩
    refine ⟨yv, lvR lv, y, lv + 1, rfl, hy.s s2, by omega, fun z3 H3 s3 h3 => ?_⟩
    refine ⟨(by show 4 ≤ sizeLine; decide), fun p4 n4 => ?_⟩
    have sp4 := Same.new (o := .tup [.str "pick", kV r, .str "right", z3]) n4
    have hp4 : Tp K (upd H3 p4 (.tup [.str "pick", kV r, .str "right", z3])) (.ref p4) (Dr.pick r .r (exO y (lvR lv) (lv + 1))).dat := .mk upd_same (.cons (.str _) (.cons (rf_tp r) (.cons (.str _) (.cons (h3.s sp4) .nil))))
    generalize upd H3 p4 (.tup [.str "pick", kV r, .str "right", z3]) = H4 at sp4 hp4 ⊢
    have s24 := s3.trans sp4
    refine ⟨(by show 3 ≤ sizeLine; decide), fun p5 n5 => ?_⟩
    have s5 := Same.new (o := .tup [.str "offer", .ref p1, .ref p4]) n5
    exact q _ _ (s2.trans (s24.trans s5)) (.mk upd_same (.cons (.str _) (.cons (hp1.s (s24.trans s5)) (.cons (hp4.s s5) .nil))))
  | trade m x y =>
    have hd' : max x.dp y.dp + 1 < d + 1 := hd
    obtain ⟨a, mv, xv, yv, rfl, ha, hm, hx, hy⟩ := trade_at hg
    refine ⟨_, rfl, a, _, 0, _, rfl, rfl, ha, rfl, rfl, _, rfl, iteF ?_⟩
    refine ⟨_, rfl, a, _, 0, _, rfl, rfl, ha, rfl, rfl, _, rfl, iteF ?_⟩
    refine ⟨_, rfl, _, rfl, a, _, 2, _, rfl, rfl, ha, rfl, _, rfl, _, _, rfl, rfl, ?_⟩
    refine ⟨xv, lvR lv, x, lv + 1, rfl, hx, by omega, fun z1 H1 s1 h1 => ?_⟩
    refine ⟨_, rfl, _, rfl, a, _, 1, _, rfl, rfl, (kpT_same s1).tup ha, rfl, _, rfl, _, rfl, _, _, rfl, rfl, _, rfl, a, _, 3, _, rfl, rfl, (kpT_same s1).tup ha, rfl, _, rfl, _, _, rfl, rfl, ?_⟩
    refine ⟨yv, lvR (lv + 1), y, lv + 2, rfl, hy.s s1, by omega, fun z2 H2 s2 h2 => ?_⟩
    have s12 := s1.trans s2
    refine ⟨(by show 5 ≤ sizeLine; decide), fun p3 n3 => ?_⟩
    have sp3 := Same.new (o := .tup [.str "pay", kV r, mv, z1, z2]) n3
    have hp3 : Tp K (upd H2 p3 (.tup [.str "pay", kV r, mv, z1, z2])) (.ref p3) (Dr.pay r m (exO x (lvR lv) (lv + 1)) (exO y (lvR (lv + 1)) (lv + 2))).dat := .mk upd_same (.cons (.str _) (.cons (rf_tp r) (.cons (hm.s (s12.trans sp3)) (.cons (h1.s (s2.trans sp3)) (.cons (h2.s sp3) .nil)))))
    generalize upd H2 p3 (.tup [.str "pay", kV r, mv, z1, z2]) = H3 at sp3 hp3 ⊢
    refine ⟨(by show 2 ≤ sizeLine; decide), fun p5 n5 => ?_⟩
    have s5 := Same.new (o := .tup [.str "take", .ref p3]) n5
    exact q _ _ ((s12.trans sp3).trans s5) (.mk upd_same (.cons (.str _) (.cons (hp3.s s5) .nil)))
def spJoined (K : PySem.W.Frag) : Sp := fun vs H Q _ => ∃ (l : Addr) (tv : V) (xs : List V) (s : Sn) (rows : List Row) (t : Dr), vs = [.ref l, tv] ∧ H l = some (.lst xs) ∧ TpAll K H xs (rows.map (rowDt s)) ∧ Tp K H tv t.dat ∧ ∀ z H', Same H H' → Tp K H' z (jn s rows t).dat → Q z H'
theorem ok_law_joined {k : Nat} (T : Tx K mg w) : FnOk P w K mg base CX0 (k + 1) T.a_law_joined T.d_law_joined ["rows", "top"] (spJoined K) := by
  refine T.F_law_joined.ok sc_law_joined (fun vs H Q E h => ?_) (fun cdv A outer s H vs Q E hr h => ?_)
  · obtain ⟨_, _, _, _, _, _, rfl, _⟩ := h
    rfl
  obtain ⟨l, tv, xs, sn, rows, t, rfl, hl, hxs, ht, q⟩ := h
  refine ⟨_, (pss_cons (ps_for PassesOwn.never rfl (revL K (by rfl) T.z_reversed (pa_cons (pv 0) pa_nil)) (pg_name (i := 2) sc_law_joined.nd rfl (Or.inl rfl)) (pss_one (ps_set (i := 1) sc_law_joined.nd rfl (Or.inl rfl) (pe_op (catA K) (pv 2) (pe_tup (pa_cons (pv 1) pa_nil))))))
      (pss_one (ps_ret (pv 1)))), ?_⟩
  have len := hxs.len
  rw [List.length_map] at len
  refine ⟨_, rfl, l, xs, rfl, at_l hl, ?_⟩
  refine RT.for_Itv (xs := xs) (fun i σ' H' => i ≤ xs.length ∧ Same H H' ∧ ∃ tv' x2, Tp K H' tv' (jn sn (rows.drop (xs.length - i)) t).dat ∧ σ' = [some (.ref l), some tv', x2]) ⟨Nat.zero_le _, Same.refl _, tv, none, by rw [Nat.sub_zero, List.drop_of_length_le (by omega)]; exact ht, rfl⟩ (fun i σ' H' z => at_l (z.2.1 _ _ hl)) ?_ ?_
  · rintro i x σ' H' hi hx ⟨_, sm, tv', x2, ht', rfl⟩
    obtain ⟨d, hd, hxd⟩ := hxs.getL hx
    rw [List.getElem?_map] at hd
    cases e : rows[xs.length - 1 - i]? with
    | none => rw [e] at hd; cases hd
    | some p =>
      rw [e] at hd
      cases hd
      obtain ⟨a, mv, sv, ov, rfl, ha, hm, hs, ho⟩ := row_at (hxd.s sm)
      have ed : rows.drop (xs.length - (i + 1)) = p :: rows.drop (xs.length - i) := by
        obtain ⟨hlt, e2⟩ := List.getElem?_eq_some_iff.mp e
        rw [show xs.length - (i + 1) = xs.length - 1 - i by omega, List.drop_eq_getElem_cons hlt, e2, show xs.length - 1 - i + 1 = xs.length - i by omega]
      refine ⟨_, rfl, _, rfl, (by show 1 ≤ sizeLine; decide), fun b nb => ?_⟩
      have sb := Same.new (o := .tup [tv']) nb
      refine ⟨a, b, _, _, rfl, rfl, (kpT_same sb).tup ha, at_t upd_same, (by show 4 + 1 ≤ sizeLine; decide), fun z => (by cases z), fun _ z => (by cases z), fun _ _ c nc => ?_⟩
      have sc := sb.trans (Same.new (o := .tup [.str "cut", mv, sv, ov, tv']) nc)
      refine ⟨hi, sm.trans sc, _, _, ?_, rfl⟩
      rw [ed]
      exact .mk upd_same (.cons (.str _) (.cons (hm.s sc) (.cons (hs.s sc) (.cons (ho.s sc) (.cons (ht'.s sc) .nil)))))
  · rintro σ' H' ⟨_, sm, tv', x2, ht', rfl⟩
    rw [Nat.sub_self, List.drop_zero] at ht'
    exact ⟨_, rfl, q tv' H' sm ht'⟩
end
end W81
namespace W81
open PySem PySem.Spec PyProof.Rows L2 HX
/-! ### the sentence that is drawn -/
theorem ifS_all {c : TT} {A B : TS} {D : Ends} {σ : L2.St} {H : Hp} (S : L2.St → Hp → Prop) (h : ∀ σ2 H2, S σ2 H2 → D.nx σ2 H2) (k : (∀ σ2 H2, S σ2 H2 → D.nx σ2 H2) → tIfS c A B D σ H) : tIfS c A B D σ H := k h
section
variable {P : Program} {w : World} {K : PySem.W.Frag} {mg : Str → Option Value} {base : Heap}
def spWrapped (K : PySem.W.Frag) : Sp := fun vs H Q _ => ∃ (p wl : Addr) (ws : List Str) (n : Nat), vs = [.ref p, .ref wl, iv n] ∧ PoolAt H p ∧ H wl = some (.lst (ws.map V.str)) ∧ p ≠ wl ∧ ws.length = 3 ∧ (∀ x, x ∈ ws → NameOk x) ∧ n ≤ 50 ∧
  ∀ (H' : Hp) (z : V) (s : Sn), Kp (only1 p) H H' → PoolAt H' p → Tp K H' z s.dat → s.Sm → s.dp ≤ n → s.sz ≤ 2 * n + 1 → Q z H'
theorem ok_law_wrapped {k : Nat} (T : Tx K mg w) (G_law_next : FnOk P w K mg base CX0 k T.a_law_next T.d_law_next ["pool", "many"] spNext) : FnOk P w K mg base CX0 (k + 1) T.a_law_wrapped T.d_law_wrapped ["pool", "words", "rows"] (spWrapped K) := by
  refine T.F_law_wrapped.ok sc_law_wrapped (fun vs H Q E h => ?_) (fun cdv A outer s H vs Q E hr h => ?_)
  · obtain ⟨_, _, _, _, rfl, _⟩ := h
    rfl
  obtain ⟨p, wl, ws, n, rfl, hP, hw, hpw, hlen, hok, hn, q⟩ := h
  refine ⟨_, (pss_cons (ps_set (i := 3) sc_law_wrapped.nd rfl (Or.inl rfl) (pe_tup (pa_cons pe_str (pa_cons (pe_ix (ixL K) (pv 1) (pe_call G_law_next hr (by rfl) T.m_law_next T.F_law_next.kp T.b_law_next .nil pass0 (pa_cons (pv 0) (pa_cons (pe_callB (lenS K) (by rfl) T.z_len PySem.boot_len (pa_cons (pv 1) pa_nil)) pa_nil))) (fun _ _ => rfl)) pa_nil))))
      (pss_cons (ps_set (i := 4) sc_law_wrapped.nd rfl (Or.inl rfl) pe_int)
      (pss_cons (ps_for PassesOwn.never rfl (pi_range1 (by rfl) T.z_range (pa_cons (pv 2) pa_nil)) (pg_name (i := 5) sc_law_wrapped.nd rfl (Or.inl rfl)) (pss_cons (ps_set (i := 6) sc_law_wrapped.nd rfl (Or.inl rfl) (pe_tup (pa_cons pe_str (pa_cons (pe_ix (ixL K) (pv 1) (pe_call G_law_next hr (by rfl) T.m_law_next T.F_law_next.kp T.b_law_next .nil pass0 (pa_cons (pv 0) (pa_cons (pe_callB (lenS K) (by rfl) T.z_len PySem.boot_len (pa_cons (pv 1) pa_nil)) pa_nil))) (fun _ _ => rfl)) pa_nil))))
      (pss_cons (ps_set (i := 7) sc_law_wrapped.nd rfl (Or.inl rfl) (pe_call G_law_next hr (by rfl) T.m_law_next T.F_law_next.kp T.b_law_next .nil pass0 (pa_cons (pv 0) (pa_cons pe_int pa_nil))))
      (pss_cons (ps_set (i := 8) sc_law_wrapped.nd rfl (Or.inl rfl) pe_str)
      (pss_cons (ps_if (pt_cmpR op_gt (pv 7) pe_int (nomark _)) (pss_cons (ps_set (i := 8) sc_law_wrapped.nd rfl (Or.inl rfl) (pe_tup (pa_cons pe_int (pa_cons (pe_call G_law_next hr (by rfl) T.m_law_next T.F_law_next.kp T.b_law_next .nil pass0 (pa_cons (pv 0) (pa_cons pe_int pa_nil))) pa_nil))))
      (pss_one (ps_if (PW.pt (pw_and (pt_cmpR op_gt (pv 4) pe_int (nomark _)) (pw_and1 (pt_cmpR op_eq (pe_call G_law_next hr (by rfl) T.m_law_next T.F_law_next.kp T.b_law_next .nil pass0 (pa_cons (pv 0) (pa_cons pe_int pa_nil))) pe_int (nomark _))))) (pss_cons (ps_set (i := 4) sc_law_wrapped.nd rfl (Or.inl rfl) (pe_op op_sub (pv 4) pe_int))
      (pss_one (ps_set (i := 8) sc_law_wrapped.nd rfl (Or.inl rfl) (pe_tup (pa_cons (pe_op op_add pe_int (pe_call G_law_next hr (by rfl) T.m_law_next T.F_law_next.kp T.b_law_next .nil pass0 (pa_cons (pv 0) (pa_cons pe_int pa_nil)))) (pa_cons (pe_ix (ixT K) (pv 8) pe_int (fun _ _ => rfl)) pa_nil)))))) pss_nil))) pss_nil)
      (pss_one (ps_if (pt_cmpR op_eq (pv 7) pe_int (nomark _)) (pss_one (ps_set (i := 3) sc_law_wrapped.nd rfl (Or.inl rfl) (pe_tup (pa_cons pe_str (pa_cons (pv 3) (pa_cons (pv 6) pa_nil)))))) (pss_one (ps_if (pt_cmpR op_eq (pv 7) pe_int (nomark _)) (pss_one (ps_set (i := 3) sc_law_wrapped.nd rfl (Or.inl rfl) (pe_tup (pa_cons pe_str (pa_cons (pv 6) (pa_cons (pv 3) pa_nil)))))) (pss_one (ps_if (pt_cmpR (inS K) (pv 7) (pe_tup (pa_cons pe_int (pa_cons pe_int pa_nil))) (by rfl)) (pss_one (ps_set (i := 3) sc_law_wrapped.nd rfl (Or.inl rfl) (pe_tup (pa_cons pe_str (pa_cons (pv 8) (pa_cons (pv 3) (pa_cons (pv 6) pa_nil))))))) (pss_one (ps_set (i := 3) sc_law_wrapped.nd rfl (Or.inl rfl) (pe_tup (pa_cons pe_str (pa_cons (pv 8) (pa_cons (pv 6) (pa_cons (pv 3) pa_nil))))))))))))))))))
      (pss_one (ps_ret (pv 3)))))), ?_⟩
  have wlen : (ws.map V.str).length = 3 := by rw [List.length_map, hlen]
  have wat : ∀ d : Nat, (d : Int) < 3 → ∃ x, atI (ws.map V.str) (d : Int) = some (.str x) ∧ NameOk x := fun d hd => by
    have hd : d < ws.length := by omega
    exact ⟨ws[d], atI_nat (by rw [List.getElem?_map, List.getElem?_eq_getElem hd]; rfl), hok _ (List.getElem_mem hd)⟩
  obtain ⟨l0, hp0, hl0⟩ := id hP
  refine ⟨_, rfl, _, rfl, _, rfl, wl, _, rfl, .inl (at_l hw), ?_⟩
  rw [wlen]
  refine ⟨p, l0, 3, rfl, hp0, hl0, by decide, by decide, fun d l1 hl1 hd => ?_⟩
  have kp1 : Kp (only1 p) H (upd H p (.lst l1)) := Kp.refl.put rfl
  have hP1 : PoolAt (upd H p (.lst l1)) p := ⟨l1, upd_same, hl1⟩
  generalize upd H p (.lst l1) = H1 at kp1 hP1 ⊢
  obtain ⟨x, hx1, hx2⟩ := wat d hd
  refine ⟨wl, _, _, _, rfl, rfl, at_l (kp1 _ _ (Ne.symm hpw) hw), hx1, (by show 2 ≤ sizeLine; decide), fun z nz => ?_⟩
  have kp2 : Kp (only1 p) H (upd H1 z (.tup [.str "word", .str x])) := kp1.new nz
  have hP2 := hP1.new (o := .tup [.str "word", .str x]) nz
  have hz : Tp K (upd H1 z (.tup [.str "word", .str x])) (.ref z) (Sn.word x).dat := .mk upd_same (.cons (.str _) (.cons (.str _) .nil))
  generalize upd H1 z (.tup [.str "word", .str x]) = H2 at kp2 hP2 hz ⊢
  refine ⟨_, rfl, _, rfl, by omega, by omega, ?_⟩
  refine for_range (lo := 0) (n := n) (fun i σ' H' => ∃ (sv : V) (sn : Sn) (g : Int) (x5 x6 x7 x8 : Option V), Kp (only1 p) H H' ∧ PoolAt H' p ∧ Tp K H' sv sn.dat ∧ sn.Sm ∧ sn.dp ≤ i ∧ sn.sz ≤ 2 * i + 1 ∧ σ' = [some (.ref p), some (.ref wl), some (iv n), some sv, some (.int g), x5, x6, x7, x8])
    ⟨.ref z, .word x, 3, none, none, none, none, kp2, hP2, hz, hx2, Nat.le_refl _, Nat.le_refl _, rfl⟩ ?_ ?_
  · rintro i σ' H' hi ⟨sv, sn, g, x5, x6, x7, x8, kp, hP, hs, hsm, hdp, hsz, rfl⟩
    refine ⟨_, rfl, _, rfl, _, rfl, wl, _, rfl, .inl (at_l (kp _ _ (Ne.symm hpw) hw)), ?_⟩
    rw [wlen]
    obtain ⟨l0, hp0, hl0⟩ := id hP
    refine ⟨p, l0, 3, rfl, hp0, hl0, by decide, by decide, fun d l1 hl1 hd => ?_⟩
    have kp1 : Kp (only1 p) H' (upd H' p (.lst l1)) := Kp.refl.put rfl
    have hP1 : PoolAt (upd H' p (.lst l1)) p := ⟨l1, upd_same, hl1⟩
    generalize upd H' p (.lst l1) = H1 at kp1 hP1 ⊢
    obtain ⟨y, hy1, hy2⟩ := wat d hd
    refine ⟨wl, _, _, _, rfl, rfl, at_l ((kp.trans kp1) _ _ (Ne.symm hpw) hw), hy1, (by show 2 ≤ sizeLine; decide), fun z nz => ?_⟩
    have kp2 : Kp (only1 p) H' (upd H1 z (.tup [.str "word", .str y])) := kp1.new nz
    have hP2 := hP1.new (o := .tup [.str "word", .str y]) nz
    have ho : Tp K (upd H1 z (.tup [.str "word", .str y])) (.ref z) (Sn.word y).dat := .mk upd_same (.cons (.str _) (.cons (.str _) .nil))
    generalize upd H1 z (.tup [.str "word", .str y]) = H2 at kp2 hP2 ho ⊢
    have hs2 := hs.k (hP.k kp2)
    have kpH2 := kp.trans kp2
    obtain ⟨l2, hp2, hl2⟩ := id hP2
    refine ⟨_, rfl, p, l2, 7, rfl, hp2, hl2, by decide, by decide, fun pk l3 hl3 hpk => ?_⟩
    have kp3 : Kp (only1 p) H2 (upd H2 p (.lst l3)) := Kp.refl.put rfl
    have hP3 : PoolAt (upd H2 p (.lst l3)) p := ⟨l3, upd_same, hl3⟩
    generalize upd H2 p (.lst l3) = H3 at kp3 hP3 ⊢
    have hs3 := hs2.k (hP2.k kp3)
    have ho3 := ho.k (hP2.k kp3)
    have kpH3 := kpH2.trans kp3
    dsimp only [tNext, tSeq, tAsg, tC, gName]
    refine ifS_all (fun σ2 H4 => ∃ (mv : V) (m : Kd) (g' : Int), Kp (only1 p) H3 H4 ∧ PoolAt H4 p ∧ Tp K H4 mv m.dat ∧ m.Sm ∧ σ2 = [some (.ref p), some (.ref wl), some (iv n), some sv, some (.int g'), some (.int (0 + (i : Int))), some (.ref z), some (.int pk), some mv]) ?_ fun els => ?_
    · rintro σ2 H4 ⟨mv, m, g', kp4, hP4, hm, hmm, rfl⟩
      have hs4 := hs3.k (hP3.k kp4)
      have ho4 := ho3.k (hP3.k kp4)
      have kpH4 := kpH3.trans kp4
      have tup : ∀ (ds : List V) (e : Addr), H4 e = none → Same H4 (upd H4 e (.tup ds)) ∧ Kp (only1 p) H (upd H4 e (.tup ds)) ∧ PoolAt (upd H4 e (.tup ds)) p := fun ds e ne => ⟨Same.new ne, kpH4.new ne, hP4.new ne⟩
      refine ⟨_, rfl, rfl, _, rfl, ite2 (fun _ => ?_) (fun _ => ?_)⟩
      · refine ⟨_, rfl, _, rfl, (by show 3 ≤ sizeLine; decide), fun e ne => ?_⟩
        obtain ⟨a1, a2, a3⟩ := tup [.str "menu", sv, .ref z] e ne
        exact ⟨.ref e, .menu sn (.word y), g', _, _, _, _, a2, a3, .mk upd_same (.cons (.str _) (.cons (hs4.s a1) (.cons (ho4.s a1) .nil))), ⟨hsm, hy2⟩, by show max sn.dp 0 + 1 ≤ i + 1; omega, by show sn.sz + 1 + 1 ≤ _; omega, rfl⟩
      · refine ⟨_, rfl, rfl, _, rfl, ite2 (fun _ => ?_) (fun _ => ?_)⟩
        · refine ⟨_, rfl, _, rfl, (by show 3 ≤ sizeLine; decide), fun e ne => ?_⟩
          obtain ⟨a1, a2, a3⟩ := tup [.str "menu", .ref z, sv] e ne
          exact ⟨.ref e, .menu (.word y) sn, g', _, _, _, _, a2, a3, .mk upd_same (.cons (.str _) (.cons (ho4.s a1) (.cons (hs4.s a1) .nil))), ⟨hy2, hsm⟩, by show max 0 sn.dp + 1 ≤ i + 1; omega, by show 1 + sn.sz + 1 ≤ _; omega, rfl⟩
        · refine ⟨_, rfl, (by show 2 ≤ sizeLine; decide), fun e ne => ?_⟩
          obtain ⟨a1, a2, a3⟩ := tup [.int 2, .int 5] e ne
          have he : SqT K (upd H4 e (.tup [.int 2, .int 5])) e [.int 2, .int 5] := at_t upd_same
          have hs5 := hs4.s a1
          have ho5 := ho4.s a1
          have hm5 := hm.s a1
          generalize upd H4 e (.tup [.int 2, .int 5]) = H5 at a1 a2 a3 he hs5 ho5 hm5 ⊢
          have tup5 : ∀ (ds : List V) (e : Addr), H5 e = none → Same H5 (upd H5 e (.tup ds)) ∧ Kp (only1 p) H (upd H5 e (.tup ds)) ∧ PoolAt (upd H5 e (.tup ds)) p := fun ds e ne => ⟨Same.new ne, a2.new ne, a3.new ne⟩
          refine ⟨e, _, rfl, .inr he, rfl, by decide, _, rfl, ite2 (fun _ => ?_) (fun _ => ?_)⟩
          · refine ⟨_, rfl, _, rfl, _, rfl, (by show 4 ≤ sizeLine; decide), fun e ne => ?_⟩
            obtain ⟨a1, a2, a3⟩ := tup5 [.str "trade", mv, sv, .ref z] e ne
            exact ⟨.ref e, .trade m sn (.word y), g', _, _, _, _, a2, a3, .mk upd_same (.cons (.str _) (.cons (hm5.s a1) (.cons (hs5.s a1) (.cons (ho5.s a1) .nil)))), ⟨hmm, hsm, hy2⟩, by show max sn.dp 0 + 1 ≤ i + 1; omega, by show sn.sz + 1 + 1 ≤ _; omega, rfl⟩
          · refine ⟨_, rfl, _, rfl, _, rfl, (by show 4 ≤ sizeLine; decide), fun e ne => ?_⟩
            obtain ⟨a1, a2, a3⟩ := tup5 [.str "trade", mv, .ref z, sv] e ne
            exact ⟨.ref e, .trade m (.word y) sn, g', _, _, _, _, a2, a3, .mk upd_same (.cons (.str _) (.cons (hm5.s a1) (.cons (ho5.s a1) (.cons (hs5.s a1) .nil)))), ⟨hmm, hy2, hsm⟩, by show max 0 sn.dp + 1 ≤ i + 1; omega, by show 1 + sn.sz + 1 ≤ _; omega, rfl⟩
    · refine ⟨_, rfl, _, _, rfl, rfl, _, rfl, ite2 (fun _ => ?_) (fun _ => ?_)⟩
      · obtain ⟨l4, hp4, hl4⟩ := id hP3
        refine ⟨_, rfl, p, l4, 3, rfl, hp4, hl4, by decide, by decide, fun d5 l5 hl5 hd5 => ?_⟩
        have kp5 : Kp (only1 p) H3 (upd H3 p (.lst l5)) := Kp.refl.put rfl
        have hP5 : PoolAt (upd H3 p (.lst l5)) p := ⟨l5, upd_same, hl5⟩
        generalize upd H3 p (.lst l5) = H5 at kp5 hP5 ⊢
        refine ⟨(by show 2 ≤ sizeLine; decide), fun e ne => ?_⟩
        have kp6 : Kp (only1 p) H3 (upd H5 e (.tup [.int 1, iv d5])) := kp5.new ne
        have hP6 := hP5.new (o := .tup [.int 1, iv d5]) ne
        have he : Tp K (upd H5 e (.tup [.int 1, iv d5])) (.ref e) (Kd.box 1 d5).dat := .mk upd_same (.cons (.int _) (.cons (.int _) .nil))
        generalize upd H5 e (.tup [.int 1, iv d5]) = H6 at kp6 hP6 he ⊢
        have sm1 : (Kd.box 1 d5).Sm := ⟨by decide, by decide, by omega⟩
        refine ⟨_, rfl, _, _, rfl, rfl, _, rfl, ?_⟩
        refine ite2 (fun _ => ?_) (fun _ => ?_)
        · obtain ⟨l6, hp6, hl6⟩ := id hP6
          refine ⟨_, rfl, p, l6, 4, rfl, hp6, hl6, by decide, by decide, fun d7 l7 hl7 hd7 => ?_⟩
          have kp7 : Kp (only1 p) H3 (upd H6 p (.lst l7)) := kp6.put rfl
          have hP7 : PoolAt (upd H6 p (.lst l7)) p := ⟨l7, upd_same, hl7⟩
          have he7 := he.k (hP6.k (Kp.refl.put (o := .lst l7) rfl))
          generalize upd H6 p (.lst l7) = H7 at kp7 hP7 he7 ⊢
          refine ⟨rfl, _, rfl, ite2 (fun _ => ?_) (fun _ => ?_)⟩
          · refine ⟨_, rfl, _, _, rfl, rfl, ?_⟩
            obtain ⟨l8, hp8, hl8⟩ := id hP7
            refine ⟨_, rfl, p, l8, 2, rfl, hp8, hl8, by decide, by decide, fun d9 l9 hl9 hd9 => ?_⟩
            have kp9 : Kp (only1 p) H3 (upd H7 p (.lst l9)) := kp7.put rfl
            have hP9 : PoolAt (upd H7 p (.lst l9)) p := ⟨l9, upd_same, hl9⟩
            have he9 := he7.k (hP7.k (Kp.refl.put (o := .lst l9) rfl))
            generalize upd H7 p (.lst l9) = H9 at kp9 hP9 he9 ⊢
            obtain ⟨c, hc1, hc⟩ := kd_box he9
            refine ⟨_, _, rfl, rfl, _, rfl, c, _, 1, _, hc1, rfl, hc, rfl, (by show 2 ≤ sizeLine; decide), fun f nf => ?_⟩
            exact els _ _ ⟨.ref f, .box (2 + d9) d5, g - 1, kp9.new nf, hP9.new nf, .mk upd_same (.cons (.int _) (.cons (.int _) .nil)), ⟨by omega, by omega, by omega⟩, rfl⟩
          · exact els _ _ ⟨.ref e, .box 1 d5, g, kp7, hP7, he7, sm1, rfl⟩
        · exact els _ _ ⟨.ref e, .box 1 d5, g, kp6, hP6, he, sm1, rfl⟩
      · exact els _ _ ⟨.str "once", .once, g, Kp.refl, hP3, .str _, trivial, rfl⟩
  · rintro σ' H' ⟨sv, sn, g, x5, x6, x7, x8, kp, hP, hs, hsm, hdp, hsz, rfl⟩
    exact ⟨_, rfl, q H' sv sn kp hP hs hsm hdp hsz⟩
end
end W81
namespace W81
open PySem PySem.Spec PyProof.Rows L2 HX
/-! ### the tower that is drawn -/
def RowSt (x y : Str) (k : Nat) (w : Option Nat) (p : Row) (w' : Option Nat) : Prop :=
  (p.1 = .once ∧ RefW x y w p.2 ∧ w' = some k) ∨ ((∃ n d, p.1 = .box n d ∧ 1 ≤ n ∧ n ≤ 3 ∧ d ≤ 2) ∧ (p.2 = nmR x ∨ p.2 = nmR y) ∧ w' = w)
def TwP (x y : Str) : Nat → Option Nat → List Row → Option Nat → Prop
  | _, w, [], w' => w = w'
  | k, w, p :: rows, w' => ∃ w1, RowSt x y k w p w1 ∧ TwP x y (k + 1) w1 rows w'
theorem twp_snoc {x y : Str} {p : Row} {w2 : Option Nat} : ∀ {rows : List Row} {k : Nat} {w w1 : Option Nat}, TwP x y k w rows w1 → RowSt x y (k + rows.length) w1 p w2 → TwP x y k w (rows ++ [p]) w2
  | [], k, w, w1, h, st => by
    have h : w = w1 := h
    subst h
    exact ⟨w2, st, rfl⟩
  | q :: rows, k, w, w1, h, st => by
    obtain ⟨w3, h1, h2⟩ := h
    refine ⟨w3, h1, twp_snoc h2 ?_⟩
    rw [List.length_cons] at st
    rw [show k + 1 + rows.length = k + (rows.length + 1) by omega]
    exact st
theorem twp_close {x y : Str} {top : Rf} : ∀ {rows : List Row} {k : Nat} {w w1 : Option Nat}, TwP x y k w rows w1 → RefW x y w1 top → TwS x y k w rows top
  | [], k, w, w1, h, st => by
    have h : w = w1 := h
    subst h
    exact st
  | (m, r) :: rows, k, w, w1, h, st => by
    obtain ⟨w3, h1, h2⟩ := h
    have h3 := twp_close h2 st
    rcases h1 with ⟨a, b, rfl⟩ | ⟨a, b, rfl⟩
    · exact .inl ⟨a, b, h3⟩
    · exact .inr ⟨a, b, h3⟩
theorem twp_wok {x y : Str} : ∀ {rows : List Row} {k : Nat} {w w1 : Option Nat}, TwP x y k w rows w1 → WOk k w → WOk (k + rows.length) w1
  | [], k, w, w1, h, hw => by
    have h : w = w1 := h
    subst h
    exact hw
  | p :: rows, k, w, w1, h, hw => by
    obtain ⟨w3, h1, h2⟩ := h
    have e : k + (p :: rows).length = k + 1 + rows.length := by rw [List.length_cons]; omega
    rw [e]
    refine twp_wok h2 ?_
    rcases h1 with ⟨a, b, rfl⟩ | ⟨a, b, rfl⟩
    · exact wok_some
    · exact hw.up
theorem refw_sm {x y : Str} {w : Option Nat} {r : Rf} {k : Nat} (hx : NameOk x) (hy : NameOk y) (h : RefW x y w r) (hw : WOk k w) (hk : k ≤ 1000) : RfSm r := by
  cases w with
  | none =>
    rcases h with rfl | rfl
    · exact hx
    · exact hy
  | some j =>
    have h : r = lvR j := h
    rw [h]
    exact rfsm_lv (by have := hw j rfl; omega)
theorem tws_sm {x y : Str} (hx : NameOk x) (hy : NameOk y) : ∀ {rows : List Row} {top : Rf} {k : Nat} {w : Option Nat}, TwS x y k w rows top → WOk k w → k + rows.length ≤ 1000 → RowsSm rows ∧ RfSm top
  | [], top, k, w, h, hw, hk => ⟨⟨fun p hp => by cases hp⟩, refw_sm hx hy h hw (by simpa using hk)⟩
  | (m, r) :: rows, top, k, w, h, hw, hk => by
    rw [List.length_cons] at hk
    rcases h with ⟨rfl, h1, h2⟩ | ⟨⟨n, d, rfl, a1, a2, a3⟩, h1, h2⟩
    · obtain ⟨b1, b2⟩ := tws_sm hx hy h2 wok_some (by omega)
      refine ⟨⟨fun p hp => ?_⟩, b2⟩
      rcases List.mem_cons.mp hp with rfl | hp
      · exact ⟨trivial, by show 1 ≤ 1000; decide, refw_sm hx hy h1 hw (by omega)⟩
      · exact b1.k p hp
    · obtain ⟨b1, b2⟩ := tws_sm hx hy h2 hw.up (by omega)
      refine ⟨⟨fun p hp => ?_⟩, b2⟩
      rcases List.mem_cons.mp hp with rfl | hp
      · exact ⟨⟨a1, by omega, by omega⟩, by show n ≤ 1000; omega, refw_sm (w := none) (k := 0) hx hy h1 wok0 (by omega)⟩
      · exact b1.k p hp
def wtV : Option Nat → V
  | none => .non
  | some j => iv j
section
variable {P : Program} {w : World} {K : PySem.W.Frag} {mg : Str → Option Value} {base : Heap}
def spTower (K : PySem.W.Frag) : Sp := fun vs H Q _ => ∃ (p ba : Addr) (sv : V) (s : Sn) (x y : Str) (n : Nat), vs = [.ref p, sv, iv n, .ref ba] ∧ PoolAt H p ∧ Tp K H sv s.dat ∧ SqT K H ba [.str x, .str y] ∧ n ≤ 60 ∧
  ∀ (H' : Hp) (za l : Addr) (rows : List Row) (top : Rf) (xs : List V), Kp (only1 p) H H' → PoolAt H' p → SqT K H' za [.ref l, kV top] → H l = none → H' l = some (.lst xs) → TpAll K H' xs (rows.map (rowDt s)) → rows.length = n → TwS x y 0 none rows top → Q (.ref za) H'
theorem ok_law_tower {k : Nat} (T : Tx K mg w) (G_law_next : FnOk P w K mg base CX0 k T.a_law_next T.d_law_next ["pool", "many"] spNext) : FnOk P w K mg base CX0 (k + 1) T.a_law_tower T.d_law_tower ["pool", "sentence", "many", "base"] (spTower K) := by
  refine T.F_law_tower.ok sc_law_tower (fun vs H Q E h => ?_) (fun cdv A outer s H vs Q E hr h => ?_)
  · obtain ⟨_, _, _, _, _, _, _, rfl, _⟩ := h
    rfl
  obtain ⟨p, ba, sv, sn, x, y, n, rfl, hP, hs, hba, hn, q⟩ := h
  refine ⟨_, (pss_cons (ps_set (i := 4) sc_law_tower.nd rfl (Or.inl rfl) (pe_lst pa_nil))
      (pss_cons (ps_set (i := 5) sc_law_tower.nd rfl (Or.inl rfl) pe_non)
      (pss_cons (ps_for PassesOwn.never rfl (pi_range1 (by rfl) T.z_range (pa_cons (pv 2) pa_nil)) (pg_name (i := 6) sc_law_tower.nd rfl (Or.inl rfl)) (pss_cons (ps_set (i := 7) sc_law_tower.nd rfl (Or.inl rfl) (pe_ix (ixT K) (pv 3) (pe_call G_law_next hr (by rfl) T.m_law_next T.F_law_next.kp T.b_law_next .nil pass0 (pa_cons (pv 0) (pa_cons pe_int pa_nil))) (fun _ _ => rfl)))
      (pss_one (ps_if (pt_cmpR op_eq (pe_call G_law_next hr (by rfl) T.m_law_next T.F_law_next.kp T.b_law_next .nil pass0 (pa_cons (pv 0) (pa_cons pe_int pa_nil))) pe_int (nomark _)) (pss_one (ps_expr (pe_bm PySem.F.plainAttrs_list PySem.F.slot_list_append PySem.F.type_list_append mt_append (pv 4) (pa_cons (pe_tup (pa_cons pe_str (pa_cons (pe_tup (pa_cons (pe_op op_add pe_int (pe_call G_law_next hr (by rfl) T.m_law_next T.F_law_next.kp T.b_law_next .nil pass0 (pa_cons (pv 0) (pa_cons pe_int pa_nil)))) (pa_cons (pe_call G_law_next hr (by rfl) T.m_law_next T.F_law_next.kp T.b_law_next .nil pass0 (pa_cons (pv 0) (pa_cons pe_int pa_nil))) pa_nil))) (pa_cons (pv 1) (pa_cons (pe_tup (pa_cons pe_str (pa_cons (pv 7) pa_nil))) pa_nil))))) pa_nil)))) (pss_cons (ps_if (pt_cmpR op_notN (pv 5) pe_non (nomark _)) (pss_one (ps_set (i := 7) sc_law_tower.nd rfl (Or.inl rfl) (pv 5))) pss_nil)
      (pss_cons (ps_expr (pe_bm PySem.F.plainAttrs_list PySem.F.slot_list_append PySem.F.type_list_append mt_append (pv 4) (pa_cons (pe_tup (pa_cons pe_str (pa_cons pe_str (pa_cons (pv 1) (pa_cons (pe_tup (pa_cons pe_str (pa_cons (pv 7) pa_nil))) pa_nil))))) pa_nil)))
      (pss_one (ps_set (i := 5) sc_law_tower.nd rfl (Or.inl rfl) (pv 6)))))))))
      (pss_cons (ps_set (i := 7) sc_law_tower.nd rfl (Or.inl rfl) (pv 5))
      (pss_cons (ps_if (pt_cmpR op_isN (pv 7) pe_non (nomark _)) (pss_one (ps_set (i := 7) sc_law_tower.nd rfl (Or.inl rfl) (pe_ix (ixT K) (pv 3) (pe_call G_law_next hr (by rfl) T.m_law_next T.F_law_next.kp T.b_law_next .nil pass0 (pa_cons (pv 0) (pa_cons pe_int pa_nil))) (fun _ _ => rfl)))) pss_nil)
      (pss_one (ps_ret (pe_tup (pa_cons (pv 4) (pa_cons (pv 7) pa_nil)))))))))), ?_⟩
  have bat : ∀ d : Nat, (d : Int) < 2 → ∃ z, atI [V.str x, V.str y] (d : Int) = some (.str z) ∧ (nmR z = nmR x ∨ nmR z = nmR y) := fun d hd => by
    match d, hd with
    | 0, _ => exact ⟨x, atI_nat (j := 0) rfl, .inl rfl⟩
    | 1, _ => exact ⟨y, atI_nat (j := 1) rfl, .inr rfl⟩
    | d + 2, h => omega
  refine ⟨(by show 0 ≤ sizeLine; decide), fun D nD => ?_⟩
  have hpD : p ≠ D := by
    obtain ⟨l0, hp0, _⟩ := hP
    exact ne_of_none hp0 nD
  refine ⟨_, rfl, _, rfl, by omega, by omega, ?_⟩
  refine for_range (lo := 0) (n := n) (fun i σ' H' => ∃ (rows : List Row) (xs : List V) (w : Option Nat) (x6 x7 : Option V), Kp (only1 p) H H' ∧ PoolAt H' p ∧ H' D = some (.lst xs) ∧ TpAll K H' xs (rows.map (rowDt sn)) ∧ rows.length = i ∧ TwP x y 0 none rows w ∧ σ' = [some (.ref p), some sv, some (iv n), some (.ref ba), some (.ref D), some (wtV w), x6, x7])
    ⟨[], [], none, none, none, Kp.refl.own nD, hP.new nD, upd_same, .nil, rfl, rfl, rfl⟩ ?_ ?_
  · rintro i σ' H' hi ⟨rows, xs, w, x6, x7, kp, hP', hD, hxs, hlen, htw, rfl⟩
    rw [Int.zero_add]
    obtain ⟨l0, hp0, hl0⟩ := id hP'
    refine ⟨_, rfl, _, rfl, p, l0, 2, rfl, hp0, hl0, by decide, by decide, fun d l1 hl1 hd => ?_⟩
    have kp1 : Kp (only1 p) H (upd H' p (.lst l1)) := kp.put rfl
    have hP1 : PoolAt (upd H' p (.lst l1)) p := ⟨l1, upd_same, hl1⟩
    have hD1 : (upd H' p (.lst l1)) D = some (.lst xs) := by rw [upd_ne (Ne.symm hpD)]; exact hD
    have hxs1 := hxs.k (hP'.k (Kp.refl.put (o := .lst l1) rfl))
    generalize upd H' p (.lst l1) = H1 at kp1 hP1 hD1 hxs1 ⊢
    obtain ⟨z, hz1, hz2⟩ := bat d hd
    refine ⟨ba, _, _, _, rfl, rfl, (hP.k kp1).tup hba, hz1, ?_⟩
    obtain ⟨l2, hp2, hl2⟩ := id hP1
    refine ⟨_, rfl, p, l2, 3, rfl, hp2, hl2, by decide, by decide, fun d3 l3 hl3 hd3 => ?_⟩
    have kp3 : Kp (only1 p) H (upd H1 p (.lst l3)) := kp1.put rfl
    have hP3 : PoolAt (upd H1 p (.lst l3)) p := ⟨l3, upd_same, hl3⟩
    have hD3 : (upd H1 p (.lst l3)) D = some (.lst xs) := by rw [upd_ne (Ne.symm hpD)]; exact hD1
    have hxs3 := hxs1.k (hP1.k (Kp.refl.put (o := .lst l3) rfl))
    generalize upd H1 p (.lst l3) = H3 at kp3 hP3 hD3 hxs3 ⊢
    have lx := hxs3.len
    rw [List.length_map, hlen] at lx
    have fin : ∀ (H5 : Hp) (e : Addr) (q1 : Row) (w2 : Option Nat), Kp (only1 p) H H5 → PoolAt H5 p → H5 D = some (.lst xs) → TpAll K H5 xs (rows.map (rowDt sn)) → Tp K H5 (.ref e) (rowDt sn q1) → RowSt x y i w q1 w2 →
        ∀ x6 x7, ∃ (rows : List Row) (xs' : List V) (w : Option Nat) (x6' x7' : Option V), Kp (only1 p) H (upd H5 D (.lst (xs ++ [.ref e]))) ∧ PoolAt (upd H5 D (.lst (xs ++ [.ref e]))) p ∧ (upd H5 D (.lst (xs ++ [.ref e]))) D = some (.lst xs') ∧ TpAll K (upd H5 D (.lst (xs ++ [.ref e]))) xs' (rows.map (rowDt sn)) ∧ rows.length = i + 1 ∧ TwP x y 0 none rows w ∧
          [some (.ref p), some sv, some (iv n), some (.ref ba), some (.ref D), some (wtV w2), x6, x7] = [some (.ref p), some sv, some (iv n), some (.ref ba), some (.ref D), some (wtV w), x6', x7'] := fun H5 e q1 w2 kp5 hP5 hD5 hx5 he5 st x6 x7 => by
      refine ⟨rows ++ [q1], _, w2, x6, x7, kp5.own nD, hP5.put hpD, upd_same, ?_, by rw [List.length_append, hlen]; rfl, twp_snoc htw (by rw [hlen, Nat.zero_add]; exact st), rfl⟩
      rw [List.map_append]
      exact (hx5.app (.cons he5 .nil)).k (kpt_lst (Kp.refl.put rfl) hD5)
    refine ⟨rfl, _, rfl, ite2 (fun _ => ?_) (fun _ => ?_)⟩
    · obtain ⟨l4, hp4, hl4⟩ := id hP3
      refine ⟨_, rfl, .inl ⟨rfl, _, at_l hD3⟩, _, rfl, p, l4, 3, rfl, hp4, hl4, by decide, by decide, fun d5 l5 hl5 hd5 => ?_⟩
      have kp5 : Kp (only1 p) H (upd H3 p (.lst l5)) := kp3.put rfl
      have hP5 : PoolAt (upd H3 p (.lst l5)) p := ⟨l5, upd_same, hl5⟩
      have hD5 : (upd H3 p (.lst l5)) D = some (.lst xs) := by rw [upd_ne (Ne.symm hpD)]; exact hD3
      have hxs5 := hxs3.k (hP3.k (Kp.refl.put (o := .lst l5) rfl))
      generalize upd H3 p (.lst l5) = H5 at kp5 hP5 hD5 hxs5 ⊢
      obtain ⟨l6, hp6, hl6⟩ := id hP5
      refine ⟨_, _, rfl, rfl, _, rfl, p, l6, 3, rfl, hp6, hl6, by decide, by decide, fun d7 l7 hl7 hd7 => ?_⟩
      have kp7 : Kp (only1 p) H (upd H5 p (.lst l7)) := kp5.put rfl
      have hP7 : PoolAt (upd H5 p (.lst l7)) p := ⟨l7, upd_same, hl7⟩
      have hD7 : (upd H5 p (.lst l7)) D = some (.lst xs) := by rw [upd_ne (Ne.symm hpD)]; exact hD5
      have hxs7 := hxs5.k (hP5.k (Kp.refl.put (o := .lst l7) rfl))
      generalize upd H5 p (.lst l7) = H7 at kp7 hP7 hD7 hxs7 ⊢
      refine ⟨(by show 2 ≤ sizeLine; decide), fun e ne => ?_⟩
      have se := Same.new (o := .tup [iv (1 + d5), iv d7]) ne
      have kp8 : Kp (only1 p) H (upd H7 e (.tup [iv (1 + d5), iv d7])) := kp7.new ne
      have hP8 := hP7.new (o := .tup [iv (1 + d5), iv d7]) ne
      have he8 : Tp K (upd H7 e (.tup [iv (1 + d5), iv d7])) (.ref e) (Kd.box (1 + d5) d7).dat := .mk upd_same (.cons (.int _) (.cons (.int _) .nil))
      have hD8 := se _ _ hD7
      have hxs8 := hxs7.s se
      rw [show (upd H7 e (.tup [V.int (1 + (d5 : Int)), V.int (d7 : Int)])) = upd H7 e (.tup [iv (1 + d5), iv d7]) by rw [show V.int (1 + (d5 : Int)) = iv (1 + d5) by rfl]]
      generalize upd H7 e (.tup [iv (1 + d5), iv d7]) = H8 at kp8 hP8 he8 hD8 hxs8 ⊢
      refine ⟨_, rfl, _, rfl, (by show 2 ≤ sizeLine; decide), fun f nf => ?_⟩
      have sf := Same.new (o := .tup [.str "own", .str z]) nf
      have kp9 : Kp (only1 p) H (upd H8 f (.tup [.str "own", .str z])) := kp8.new nf
      have hP9 := hP8.new (o := .tup [.str "own", .str z]) nf
      have hf9 : Tp K (upd H8 f (.tup [.str "own", .str z])) (.ref f) (Dr.own (nmR z)).dat := .mk upd_same (.cons (.str _) (.cons (.str _) .nil))
      have hD9 := sf _ _ hD8
      have hxs9 := hxs8.s sf
      have he9 := he8.s sf
      generalize upd H8 f (.tup [.str "own", .str z]) = H9 at kp9 hP9 hf9 hD9 hxs9 he9 ⊢
      refine ⟨(by show 4 ≤ sizeLine; decide), fun g ng => ?_⟩
      have sg := Same.new (o := .tup [.str "cut", .ref e, sv, .ref f]) ng
      have hsv := hs.k (hP.k (kp9.new (o := .tup [.str "cut", .ref e, sv, .ref f]) ng))
      have hg : Tp K (upd H9 g (.tup [.str "cut", .ref e, sv, .ref f])) (.ref g) (rowDt sn (.box (1 + d5) d7, nmR z)) := .mk upd_same (.cons (.str _) (.cons (he9.s sg) (.cons hsv (.cons (hf9.s sg) .nil))))
      refine ⟨D, _, _, rfl, rfl, sg _ _ hD9, sz2 (by omega), ?_⟩
      exact fin _ g _ w (kp9.new ng) (hP9.new ng) (sg _ _ hD9) (hxs9.s sg) hg (.inr ⟨⟨_, _, rfl, by omega, by omega, by omega⟩, hz2, rfl⟩) _ _
    · dsimp only [tNext, tSeq, tAsg, tC, gName]
      refine ifS_all (fun σ2 H2 => H3 = H2 ∧ ∃ r, RefW x y w r ∧ σ2 = [some (.ref p), some sv, some (iv n), some (.ref ba), some (.ref D), some (wtV w), some (iv i), some (kV r)]) ?_ fun els => ?_
      · rintro σ2 H2 ⟨rfl, r, hrw, rfl⟩
        refine ⟨_, rfl, .inl ⟨rfl, _, at_l hD3⟩, _, rfl, _, rfl, (by show 2 ≤ sizeLine; decide), fun f nf => ?_⟩
        have sf := Same.new (o := .tup [.str "own", kV r]) nf
        have kp9 : Kp (only1 p) H (upd H3 f (.tup [.str "own", kV r])) := kp3.new nf
        have hP9 := hP3.new (o := .tup [.str "own", kV r]) nf
        have hf9 : Tp K (upd H3 f (.tup [.str "own", kV r])) (.ref f) (Dr.own r).dat := .mk upd_same (.cons (.str _) (.cons (rf_tp r) .nil))
        have hD9 := sf _ _ hD3
        have hxs9 := hxs3.s sf
        generalize upd H3 f (.tup [.str "own", kV r]) = H9 at kp9 hP9 hf9 hD9 hxs9 ⊢
        refine ⟨(by show 4 ≤ sizeLine; decide), fun g ng => ?_⟩
        have sg := Same.new (o := .tup [.str "cut", .str "once", sv, .ref f]) ng
        have hsv := hs.k (hP.k (kp9.new (o := .tup [.str "cut", .str "once", sv, .ref f]) ng))
        have hg : Tp K (upd H9 g (.tup [.str "cut", .str "once", sv, .ref f])) (.ref g) (rowDt sn (.once, r)) := .mk upd_same (.cons (.str _) (.cons (.str _) (.cons hsv (.cons (hf9.s sg) .nil))))
        refine ⟨D, _, _, rfl, rfl, sg _ _ hD9, sz2 (by omega), ?_⟩
        exact ⟨_, rfl, fin _ g _ (some i) (kp9.new ng) (hP9.new ng) (sg _ _ hD9) (hxs9.s sg) hg (.inl ⟨rfl, hrw, rfl⟩) _ _⟩
      · cases w with
        | none =>
          have e : (!decide (wtV none = V.non)) = false := ne_same rfl
          refine ⟨_, rfl, rfl, _, rfl, ?_⟩
          rw [e]
          exact iteF (els _ _ ⟨rfl, nmR z, hz2, rfl⟩)
        | some j =>
          have e : (!decide (wtV (some j) = V.non)) = true := by rw [decide_eq_false (by intro z; cases z)]; rfl
          refine ⟨_, rfl, rfl, _, rfl, ?_⟩
          rw [e]
          exact iteT ⟨_, rfl, els _ _ ⟨rfl, lvR j, rfl, rfl⟩⟩
  · rintro σ' H' ⟨rows, xs, w, x6, x7, kp, hP', hD, hxs, hlen, htw, rfl⟩
    refine ⟨_, rfl, ?_⟩
    cases w with
    | none =>
      have e0 : decide (wtV none = V.non) = true := decide_eq_true rfl
      refine ⟨_, rfl, rfl, _, rfl, ?_⟩
      rw [e0]
      refine iteT ?_
      obtain ⟨l0, hp0, hl0⟩ := id hP'
      refine ⟨_, rfl, _, rfl, p, l0, 2, rfl, hp0, hl0, by decide, by decide, fun d l1 hl1 hd => ?_⟩
      have kp1 : Kp (only1 p) H (upd H' p (.lst l1)) := kp.put rfl
      have hP1 : PoolAt (upd H' p (.lst l1)) p := ⟨l1, upd_same, hl1⟩
      have hD1 : (upd H' p (.lst l1)) D = some (.lst xs) := by rw [upd_ne (Ne.symm hpD)]; exact hD
      have hxs1 := hxs.k (hP'.k (Kp.refl.put (o := .lst l1) rfl))
      generalize upd H' p (.lst l1) = H1 at kp1 hP1 hD1 hxs1 ⊢
      obtain ⟨z, hz1, hz2⟩ := bat d hd
      refine ⟨ba, _, _, _, rfl, rfl, (hP.k kp1).tup hba, hz1, ?_⟩
      refine ⟨_, rfl, _, rfl, (by show 2 ≤ sizeLine; decide), fun e ne => ?_⟩
      have se := Same.new (o := .tup [.ref D, .str z]) ne
      exact q _ e D rows (nmR z) xs (kp1.new ne) (hP1.new ne) (at_t upd_same) nD (se _ _ hD1) (hxs1.s se) hlen (twp_close htw hz2)
    | some j =>
      have e0 : decide (wtV (some j) = V.non) = false := decide_eq_false (by intro z; cases z)
      refine ⟨_, rfl, rfl, _, rfl, ?_⟩
      rw [e0]
      refine iteF ?_
      refine ⟨_, rfl, _, rfl, (by show 2 ≤ sizeLine; decide), fun e ne => ?_⟩
      have se := Same.new (o := .tup [.ref D, iv j]) ne
      exact q _ e D rows (lvR j) xs (kp.new ne) (hP'.new ne) (at_t upd_same) nD (se _ _ hD) (hxs.s se) hlen (twp_close htw rfl)
end
end W81
namespace W81
open PySem PySem.Spec PyProof.Rows L2 HX
/-! ### sizes, inversions, counts of the law -/
def rowNms : List V := [.str "own", .str "take", .str "offer", .str "pick", .str "pay", .str "cut"]
/-- what an item of a row may be -/
def Itm (n : Nat) (d : PyData) : Prop := (∃ x, d = .str x) ∨ (∃ i, d = .int i) ∨ (∃ m : Kd, d = m.dat) ∨ (∃ s : Sn, d = s.dat) ∨ ∃ u : Dr, d = u.dat ∧ u.dp < n
theorem rf_itm {n : Nat} (r : Rf) : Itm n (rfD r) := by
  cases r with
  | inl i => exact .inr (.inl ⟨i, rfl⟩)
  | inr x => exact .inl ⟨x, rfl⟩
theorem row_itms (t : Dr) : ∃ ds, t.dat = .tuple ds ∧ ds.length ≤ 5 ∧ ∀ d, d ∈ ds → Itm t.dp d := by
  cases t with
  | own r => exact ⟨_, rfl, (by show 2 ≤ 5; decide), by
      intro d hd
      simp only [List.mem_cons, List.not_mem_nil, or_false] at hd
      rcases hd with rfl | rfl
      · exact .inl ⟨_, rfl⟩
      · exact rf_itm r⟩
  | take b => exact ⟨_, rfl, (by show 2 ≤ 5; decide), by
      intro d hd
      simp only [List.mem_cons, List.not_mem_nil, or_false] at hd
      rcases hd with rfl | rfl
      · exact .inl ⟨_, rfl⟩
      · exact .inr (.inr (.inr (.inr ⟨b, rfl, Nat.lt_succ_self _⟩)))⟩
  | offer a b => exact ⟨_, rfl, (by show 3 ≤ 5; decide), by
      intro d hd
      simp only [List.mem_cons, List.not_mem_nil, or_false] at hd
      rcases hd with rfl | rfl | rfl
      · exact .inl ⟨_, rfl⟩
      · exact .inr (.inr (.inr (.inr ⟨a, rfl, by show a.dp < max a.dp b.dp + 1; omega⟩)))
      · exact .inr (.inr (.inr (.inr ⟨b, rfl, by show b.dp < max a.dp b.dp + 1; omega⟩)))⟩
  | pick r s b => exact ⟨_, rfl, (by show 4 ≤ 5; decide), by
      intro d hd
      simp only [List.mem_cons, List.not_mem_nil, or_false] at hd
      rcases hd with rfl | rfl | rfl | rfl
      · exact .inl ⟨_, rfl⟩
      · exact rf_itm r
      · exact .inl ⟨_, rfl⟩
      · exact .inr (.inr (.inr (.inr ⟨b, rfl, Nat.lt_succ_self _⟩)))⟩
  | pay r m a b => exact ⟨_, rfl, (by show 5 ≤ 5; decide), by
      intro d hd
      simp only [List.mem_cons, List.not_mem_nil, or_false] at hd
      rcases hd with rfl | rfl | rfl | rfl | rfl
      · exact .inl ⟨_, rfl⟩
      · exact rf_itm r
      · exact .inr (.inr (.inl ⟨m, rfl⟩))
      · exact .inr (.inr (.inr (.inr ⟨a, rfl, by show a.dp < max a.dp b.dp + 1; omega⟩)))
      · exact .inr (.inr (.inr (.inr ⟨b, rfl, by show b.dp < max a.dp b.dp + 1; omega⟩)))⟩
  | cut m s a b => exact ⟨_, rfl, (by show 5 ≤ 5; decide), by
      intro d hd
      simp only [List.mem_cons, List.not_mem_nil, or_false] at hd
      rcases hd with rfl | rfl | rfl | rfl | rfl
      · exact .inl ⟨_, rfl⟩
      · exact .inr (.inr (.inl ⟨m, rfl⟩))
      · exact .inr (.inr (.inr (.inl ⟨s, rfl⟩)))
      · exact .inr (.inr (.inr (.inr ⟨a, rfl, by show a.dp < max a.dp b.dp + 1; omega⟩)))
      · exact .inr (.inr (.inr (.inr ⟨b, rfl, by show b.dp < max a.dp b.dp + 1; omega⟩)))⟩
theorem eqv_own {r : Rf} {z : Str} : PyData.eqv (Dr.own r).dat (Dr.own (nmR z)).dat = decide (r = nmR z) := by
  cases r with
  | inl i =>
    rw [decide_eq_false (fun h => by cases h)]
    simp [Dr.dat, rfD, PyData.eqv, PyData.eqvAll]
  | inr x =>
    simp only [Dr.dat, rfD, PyData.eqv, PyData.eqvAll, Bool.and_true]
    by_cases h : x = z
    · subst h
      simp
    · rw [decide_eq_false (fun e => h (Sum.inr.inj e))]
      simp [h]
section
variable {P : Program} {w : World} {K : PySem.W.Frag} {mg : Str → Option Value} {base : Heap}
theorem sn_hd {s : Sn} {H : Hp} {v : V} (h : Tp K H v s.dat) : ∃ a x xs, v = .ref a ∧ SqT K H a (.str x :: xs) ∧ inV (.str x) rowNms = false := by
  cases s with
  | word x =>
    obtain ⟨a, rfl, ha⟩ := word_at h
    exact ⟨a, _, _, rfl, ha, by decide +kernel⟩
  | menu b c =>
    obtain ⟨a, y, z, rfl, ha, _, _⟩ := menu_at h
    exact ⟨a, _, _, rfl, ha, by decide +kernel⟩
  | trade m b c =>
    obtain ⟨a, mv, y, z, rfl, ha, _, _, _⟩ := trade_at h
    exact ⟨a, _, _, rfl, ha, by decide +kernel⟩
theorem dr_hd (t : Dr) : inV (.str t.nm) rowNms = true := by
  cases t with
  | own r => exact (by decide +kernel : inV (.str "own") rowNms = true)
  | take b => exact (by decide +kernel : inV (.str "take") rowNms = true)
  | offer a b => exact (by decide +kernel : inV (.str "offer") rowNms = true)
  | pick r s b => exact (by decide +kernel : inV (.str "pick") rowNms = true)
  | pay r m a b => exact (by decide +kernel : inV (.str "pay") rowNms = true)
  | cut m s a b => exact (by decide +kernel : inV (.str "cut") rowNms = true)
def spIsRow (K : PySem.W.Frag) : Sp := fun vs H Q _ => ∃ (a : Addr) (x : V) (xs : List V), vs = [.ref a] ∧ SqT K H a (x :: xs) ∧ flatV x = true ∧ ∀ H', Same H H' → Q (.bl (inV x rowNms)) H'
theorem ok_law_is_row {k : Nat} (T : Tx K mg w) : FnOk P w K mg base CX0 (k + 1) T.a_law_is_row T.d_law_is_row ["item"] (spIsRow K) := by
  refine T.F_law_is_row.ok sc_law_is_row (fun vs H Q E h => ?_) (fun cdv A outer s H vs Q E hr h => ?_)
  · obtain ⟨_, _, _, rfl, _⟩ := h
    rfl
  obtain ⟨a, x, xs, rfl, ha, hx, q⟩ := h
  refine ⟨_, (pss_one (ps_ret (pe_and (pe_cmpR op_gt (pe_callB (lenS K) (by rfl) T.z_len PySem.boot_len (pa_cons (pv 0) pa_nil)) pe_int (nomark _)) (pe_one (pe_cmpR (inS K) (pe_ix (ixT K) (pv 0) pe_int (fun _ _ => rfl)) (pe_tup (pa_cons pe_str (pa_cons pe_str (pa_cons pe_str (pa_cons pe_str (pa_cons pe_str (pa_cons pe_str pa_nil))))))) (by rfl)))))), ?_⟩
  refine ⟨_, rfl, a, _, rfl, .inr ha, _, _, rfl, rfl, ?_⟩
  dsimp only
  rw [decide_eq_true (show (0 : Int) < ((x :: xs).length : Int) by rw [List.length_cons]; omega)]
  refine ⟨true, rfl, iteT ?_⟩
  refine ⟨_, rfl, a, _, 0, x, rfl, rfl, ha, atI_nat (j := 0) rfl, (by show 6 ≤ sizeLine; decide), fun e ne => ?_⟩
  have se := Same.new (o := .tup rowNms) ne
  exact ⟨e, rowNms, rfl, .inr (at_t upd_same), hx, by decide, q _ se⟩
def spSize (K : PySem.W.Frag) (d : Nat) : Sp := fun vs H Q _ => ∃ (v : V) (t : Dr), vs = [v] ∧ Tp K H v t.dat ∧ t.dp < d ∧ ∀ (H' : Hp) (n : Int), Same H H' → Q (.int n) H'
theorem size_step {k d : Nat} (T : Tx K mg w) (G_law_is_row : FnOk P w K mg base CX0 k T.a_law_is_row T.d_law_is_row ["item"] (spIsRow K)) (G_law_size : FnOk P w K mg base CX0 k T.a_law_size T.d_law_size ["tree"] (spSize K d)) :
    FnOk P w K mg base CX0 (k + 1) T.a_law_size T.d_law_size ["tree"] (spSize K (d + 1)) := by
  refine T.F_law_size.ok sc_law_size (fun vs H Q E h => ?_) (fun cdv A outer s H vs Q E hr h => ?_)
  · obtain ⟨_, _, rfl, _⟩ := h
    rfl
  obtain ⟨v, t, rfl, hv, hd, q⟩ := h
  refine ⟨_, (pss_one (ps_ret (pe_op op_add pe_int (pe_callB (sumS K) (by rfl) T.z_sum (by decide +kernel) (pa_cons (pe_lc (own := [("item", 1)]) (g := gName 1) (by rfl) sc_law_size.nd (piT K (pv 0)) (blkOk_by (own := [("item", 1)]) (N := ["tree", "item"]) (sc := defScope s_law_size) (by decide +kernel)) (fun _ _ _ _ _ => (pg_name (i := 1) sc_law_size.nd rfl (Or.inl rfl))) (fun _ _ _ _ _ => (pts_one (PW.pt (pw_and (pt_val (pe_callB (isiS K) (by rfl) T.z_isinstance (by decide +kernel) (pa_cons (pv 1) (pa_cons (pe_bltn (v := .ty "tuple") (by rfl) T.z_tuple (by decide +kernel) rfl) pa_nil)))) (pw_and1 (pt_val (pe_call G_law_is_row hr (by rfl) T.m_law_is_row T.F_law_is_row.kp T.b_law_is_row .nil pass0 (pa_cons (pv 1) pa_nil)))))))) (fun _ _ _ _ _ => (pe_call G_law_size hr (by rfl) T.m_law_size T.F_law_size.kp T.b_law_size .nil pass0 (pa_cons (pv 1) pa_nil)))) pa_nil))))), ?_⟩
  obtain ⟨ds, ed, dlen, itms⟩ := row_itms t
  rw [ed] at hv
  obtain ⟨a, xs, rfl, ha, hxs⟩ := Tp.tup_ hv
  have len := hxs.len
  refine ⟨_, rfl, a, rfl, ⟨xs, ha⟩, fun D nD => ?_⟩
  refine lc_tup (xs := xs) (fun i H' => Same H H' ∧ ∃ ns : List Int, H' D = some (.lst (ns.map V.int)) ∧ ns.length ≤ i) ⟨Same.new nD, [], upd_same, Nat.le_refl _⟩ (fun i H' _ z => (kpT_same z.1).tup ha) ?_ ?_
  · rintro i x H' hx ⟨sm, ns, hD, hn⟩
    have hi : i < xs.length := (List.getElem?_eq_some_iff.mp hx).1
    obtain ⟨e, he, hxe⟩ := hxs.getL hx
    have hx' := hxe.s sm
    refine ⟨rfl, ?_⟩
    have stay : Same H H' ∧ ∃ ns : List Int, H' D = some (.lst (ns.map V.int)) ∧ ns.length ≤ i + 1 := ⟨sm, ns, hD, by omega⟩
    have hDs : ∀ H3, Same H' H3 → Same H H3 ∧ ∃ ns : List Int, H3 D = some (.lst (ns.map V.int)) ∧ ns.length ≤ i + 1 := fun H3 s3 => ⟨sm.trans s3, ns, s3 _ _ hD, by omega⟩
    rcases itms e (List.mem_of_getElem? he) with ⟨z, rfl⟩ | ⟨z, rfl⟩ | ⟨m, rfl⟩ | ⟨sn, rfl⟩ | ⟨u, rfl, hu1⟩
    · obtain rfl := hx'.str_
      exact ⟨_, rfl, _, _, _, _, false, rfl, .ty _, .base (.str _), kit_ty (by decide +kernel), _, rfl, iteF (iteF stay)⟩
    · obtain rfl := hx'.int_
      exact ⟨_, rfl, _, _, _, _, false, rfl, .ty _, .base (.int _), kit_ty (by decide +kernel), _, rfl, iteF (iteF stay)⟩
    · cases m with
      | once =>
        obtain rfl := hx'.str_
        exact ⟨_, rfl, _, _, _, _, false, rfl, .ty _, .base (.str _), kit_ty (by decide +kernel), _, rfl, iteF (iteF stay)⟩
      | box n d =>
        obtain ⟨b, rfl, hb⟩ := kd_box hx'
        have hno : inV (iv n) rowNms = false := rfl
        refine ⟨_, rfl, _, _, _, _, true, rfl, .ty _, ty_tup hb, kit_ty (by decide +kernel), _, rfl, iteT ⟨_, rfl, b, _, _, rfl, hb, rfl, fun H3 s3 => ⟨_, rfl, ?_⟩⟩⟩
        rw [hno]
        exact iteF (hDs H3 s3)
    · obtain ⟨b, y, ys, rfl, hb, hno⟩ := sn_hd hx'
      refine ⟨_, rfl, _, _, _, _, true, rfl, .ty _, ty_tup hb, kit_ty (by decide +kernel), _, rfl, iteT ⟨_, rfl, b, _, _, rfl, hb, rfl, fun H3 s3 => ⟨_, rfl, ?_⟩⟩⟩
      rw [hno]
      exact iteF (hDs H3 s3)
    · have hx0 := hx'
      obtain ⟨b, ys, rfl, hb⟩ := row_hd hx'
      refine ⟨_, rfl, _, _, _, _, true, rfl, .ty _, ty_tup hb, kit_ty (by decide +kernel), _, rfl, iteT ⟨_, rfl, b, _, _, rfl, hb, rfl, fun H3 s3 => ⟨_, rfl, ?_⟩⟩⟩
      rw [dr_hd u]
      refine iteT ⟨_, rfl, .ref b, u, rfl, hx0.s s3, by omega, fun H4 n s4 => ?_⟩
      have hD4 := s4 _ _ (s3 _ _ hD)
      refine ⟨_, hD4, sz2 (by rw [List.length_map]; omega), Same.put (sm.trans (s3.trans s4)) nD, ns ++ [n], ?_, by rw [List.length_append]; show _ + 1 ≤ _; omega⟩
      rw [List.map_append]
      exact upd_same
  · rintro H' ⟨sm, ns, hD, hn⟩
    exact ⟨D, ns, rfl, at_l hD, _, _, rfl, rfl, q _ _ sm⟩
theorem linverted_step {k d : Nat} (T : Tx K mg w) (G_law_inverted : FnOk P w K mg base CX0 k T.a_law_inverted T.d_law_inverted ["tree", "goal", "choice", "level"] (spInverted K d)) :
    FnOk P w K mg base CX0 (k + 1) T.a_law_inverted T.d_law_inverted ["tree", "goal", "choice", "level"] (spInverted K (d + 1)) := by
  refine T.F_law_inverted.ok sc_law_inverted (fun vs H Q E h => ?_) (fun cdv A outer s H vs Q E hr h => ?_)
  · obtain ⟨_, _, _, _, _, _, _, rfl, _⟩ := h
    rfl
  obtain ⟨v, gv, t, g, ch, lv, f, rfl, hv, hg, hf, ok, hd, q⟩ := h
  refine ⟨_, (pss_cons (ps_if (PW.pt (pw_and (pt_cmpR op_eq (pe_ix (ixT K) (pv 0) pe_int (fun _ _ => rfl)) pe_str (nomark _)) (pw_and1 (pt_cmpR op_eq (pe_ix (ixT K) (pv 1) pe_int (fun _ _ => rfl)) pe_str (nomark _))))) (pss_one (ps_ret (pe_tup (pa_cons pe_str (pa_cons (pe_ix (ixT K) (pv 0) pe_int (fun _ _ => rfl)) (pa_cons (pe_ix (ixT K) (pv 1) pe_int (fun _ _ => rfl)) (pa_cons (pe_tup (pa_cons pe_str (pa_cons (pv 2) pa_nil))) (pa_cons (pe_tup (pa_cons pe_str (pa_cons (pv 3) pa_nil))) pa_nil)))))))) pss_nil)
      (pss_cons (ps_if (pt_cmpR op_eq (pe_ix (ixT K) (pv 0) pe_int (fun _ _ => rfl)) pe_str (nomark _)) (pss_one (ps_ret (pe_tup (pa_cons pe_str (pa_cons (pe_ix (ixT K) (pv 0) pe_int (fun _ _ => rfl)) (pa_cons (pv 2) (pa_cons (pe_tup (pa_cons pe_str (pa_cons (pv 3) pa_nil))) pa_nil))))))) pss_nil)
      (pss_one (ps_ret (pe_op (catA K) (pe_slice (slT K) (pv 0) po_none (po_some (pe_un un_neg pe_int))) (pe_tup (pa_cons (pe_call G_law_inverted hr (by rfl) T.m_law_inverted T.F_law_inverted.kp T.b_law_inverted .nil pass0 (pa_cons (pe_ix (ixT K) (pv 0) (pe_un un_neg pe_int) (fun _ _ => rfl)) (pa_cons (pv 1) (pa_cons (pv 2) (pa_cons (pe_op op_add (pv 3) pe_int) pa_nil))))) pa_nil))))))), ?_⟩
  cases t with
  | take b => exact ok.elim
  | offer a b => exact ok.elim
  | own r =>
    obtain ⟨a, rfl, ha⟩ := own_at hv
    rcases hf with ⟨m, x, y, rfl, rfl⟩ | ⟨x, y, s, rfl, rfl, rfl⟩
    · obtain ⟨b, mv, xv, yv, rfl, hb, hm, hx, hy⟩ := trade_at hg
      refine ⟨_, rfl, a, _, 0, _, rfl, rfl, ha, rfl, rfl, _, rfl, iteT ⟨_, rfl, b, _, 0, _, rfl, rfl, hb, rfl, rfl, _, rfl, iteT ?_⟩⟩
      refine ⟨_, rfl, a, _, 1, _, rfl, rfl, ha, rfl, _, rfl, b, _, 1, _, rfl, rfl, hb, rfl, _, rfl, (by show 2 ≤ sizeLine; decide), fun p1 n1 => ?_⟩
      have s1 := Same.new (o := .tup [.str "own", .str ch]) n1
      have h1 : Tp K (upd H p1 (.tup [.str "own", .str ch])) (.ref p1) (Dr.own (nmR ch)).dat := .mk upd_same (.cons (.str _) (.cons (.str _) .nil))
      generalize upd H p1 (.tup [.str "own", .str ch]) = H1 at s1 h1 ⊢
      refine ⟨_, rfl, (by show 2 ≤ sizeLine; decide), fun p2 n2 => ?_⟩
      have s2 := Same.new (o := .tup [.str "own", iv lv]) n2
      have h2 : Tp K (upd H1 p2 (.tup [.str "own", iv lv])) (.ref p2) (Dr.own (lvR lv)).dat := .mk upd_same (.cons (.str _) (.cons (.int _) .nil))
      generalize upd H1 p2 (.tup [.str "own", iv lv]) = H2 at s2 h2 ⊢
      refine ⟨(by show 5 ≤ sizeLine; decide), fun p3 n3 => ?_⟩
      have s3 := Same.new (o := .tup [.str "pay", kV r, mv, .ref p1, .ref p2]) n3
      have s := s1.trans (s2.trans s3)
      exact q _ _ s (.mk upd_same (.cons (.str _) (.cons (rf_tp r) (.cons (hm.s s) (.cons (h1.s (s2.trans s3)) (.cons (h2.s s3) .nil))))))
    · obtain ⟨b, xv, yv, rfl, hb, hx, hy⟩ := menu_at hg
      refine ⟨_, rfl, a, _, 0, _, rfl, rfl, ha, rfl, rfl, _, rfl, iteT ⟨_, rfl, b, _, 0, _, rfl, rfl, hb, rfl, rfl, _, rfl, iteF ?_⟩⟩
      refine ⟨_, rfl, a, _, 0, _, rfl, rfl, ha, rfl, rfl, _, rfl, iteT ?_⟩
      refine ⟨_, rfl, a, _, 1, _, rfl, rfl, ha, rfl, _, rfl, _, rfl, (by show 2 ≤ sizeLine; decide), fun p2 n2 => ?_⟩
      have s2 := Same.new (o := .tup [.str "own", iv lv]) n2
      have h2 : Tp K (upd H p2 (.tup [.str "own", iv lv])) (.ref p2) (Dr.own (lvR lv)).dat := .mk upd_same (.cons (.str _) (.cons (.int _) .nil))
      generalize upd H p2 (.tup [.str "own", iv lv]) = H2 at s2 h2 ⊢
      refine ⟨(by show 4 ≤ sizeLine; decide), fun p3 n3 => ?_⟩
      have s3 := Same.new (o := .tup [.str "pick", kV r, .str s.str, .ref p2]) n3
      exact q _ _ (s2.trans s3) (.mk upd_same (.cons (.str _) (.cons (rf_tp r) (.cons (.str _) (.cons (h2.s s3) .nil)))))
  | pick r sd b =>
    have hd' : b.dp + 1 < d + 1 := hd
    obtain ⟨a, y, rfl, ha, hb⟩ := pick_at hv
    refine ⟨_, rfl, a, _, 0, _, rfl, rfl, ha, rfl, rfl, _, rfl, iteF (iteF ?_)⟩
    refine ⟨_, rfl, a, _, 0, _, rfl, rfl, ha, rfl, rfl, _, rfl, iteF ?_⟩
    refine ⟨_, rfl, _, rfl, _, rfl, a, _, rfl, ha, (fun z => (show ¬ HT.sIx 4 4 (some (-1)) = 4 by decide) z.2), fun p np => ?_⟩
    have s1 : Same H (upd H p (.tup [.str "pick", kV r, .str sd.str])) := Same.new np
    have hp : SqT K (upd H p (.tup [.str "pick", kV r, .str sd.str])) p [.str "pick", kV r, .str sd.str] := at_t upd_same
    rw [show cutV [V.str "pick", kV r, .str sd.str, y] none (some (-1)) = [V.str "pick", kV r, .str sd.str] from rfl]
    generalize upd H p (.tup [.str "pick", kV r, .str sd.str]) = H1 at s1 hp ⊢
    refine ⟨_, rfl, _, rfl, a, _, -1, _, rfl, rfl, (kpT_same s1).tup ha, rfl, _, rfl, _, rfl, _, rfl, _, _, rfl, rfl, ?_⟩
    refine ⟨y, gv, b, g, ch, lv + 1, f, rfl, hb.s s1, hg.s s1, hf, ok, by omega, fun z H2 s2 h2 => ?_⟩
    refine ⟨(by show 1 ≤ sizeLine; decide), fun e ne => ?_⟩
    have s3 := Same.new (o := .tup [z]) ne
    refine ⟨p, e, _, _, rfl, rfl, (kpT_same (s2.trans s3)).tup hp, at_t upd_same, (by show 3 + 1 ≤ sizeLine; decide), fun z => (by cases z), fun _ z => (by cases z), fun _ _ c nc => ?_⟩
    have s4 := s3.trans (Same.new (o := .tup [.str "pick", kV r, .str sd.str, z]) nc)
    exact q _ _ (s1.trans (s2.trans s4)) (.mk upd_same (.cons (.str _) (.cons (rf_tp r) (.cons (.str _) (.cons (h2.s s4) .nil)))))
  | pay r m b c =>
    have hd' : max b.dp c.dp + 1 < d + 1 := hd
    obtain ⟨a, mv, y, z0, rfl, ha, hm, hb, hc⟩ := pay_at hv
    refine ⟨_, rfl, a, _, 0, _, rfl, rfl, ha, rfl, rfl, _, rfl, iteF (iteF ?_)⟩
    refine ⟨_, rfl, a, _, 0, _, rfl, rfl, ha, rfl, rfl, _, rfl, iteF ?_⟩
    refine ⟨_, rfl, _, rfl, _, rfl, a, _, rfl, ha, (fun z => (show ¬ HT.sIx 5 5 (some (-1)) = 5 by decide) z.2), fun p np => ?_⟩
    have s1 : Same H (upd H p (.tup [.str "pay", kV r, mv, y])) := Same.new np
    have hp : SqT K (upd H p (.tup [.str "pay", kV r, mv, y])) p [.str "pay", kV r, mv, y] := at_t upd_same
    rw [show cutV [V.str "pay", kV r, mv, y, z0] none (some (-1)) = [V.str "pay", kV r, mv, y] from rfl]
    generalize upd H p (.tup [.str "pay", kV r, mv, y]) = H1 at s1 hp ⊢
    refine ⟨_, rfl, _, rfl, a, _, -1, _, rfl, rfl, (kpT_same s1).tup ha, rfl, _, rfl, _, rfl, _, rfl, _, _, rfl, rfl, ?_⟩
    refine ⟨z0, gv, c, g, ch, lv + 1, f, rfl, hc.s s1, hg.s s1, hf, ok, by omega, fun z H2 s2 h2 => ?_⟩
    refine ⟨(by show 1 ≤ sizeLine; decide), fun e ne => ?_⟩
    have s3 := Same.new (o := .tup [z]) ne
    refine ⟨p, e, _, _, rfl, rfl, (kpT_same (s2.trans s3)).tup hp, at_t upd_same, (by show 4 + 1 ≤ sizeLine; decide), fun z => (by cases z), fun _ z => (by cases z), fun _ _ c' nc => ?_⟩
    have s4 := s3.trans (Same.new (o := .tup [.str "pay", kV r, mv, y, z]) nc)
    have s14 := s1.trans (s2.trans s4)
    exact q _ _ s14 (.mk upd_same (.cons (.str _) (.cons (rf_tp r) (.cons (hm.s s14) (.cons (hb.s s14) (.cons (h2.s s4) .nil))))))
  | cut m sn b c =>
    have hd' : max b.dp c.dp + 1 < d + 1 := hd
    obtain ⟨a, mv, sv, y, z0, rfl, ha, hm, hs, hb, hc⟩ := cut_at hv
    refine ⟨_, rfl, a, _, 0, _, rfl, rfl, ha, rfl, rfl, _, rfl, iteF (iteF ?_)⟩
    refine ⟨_, rfl, a, _, 0, _, rfl, rfl, ha, rfl, rfl, _, rfl, iteF ?_⟩
    refine ⟨_, rfl, _, rfl, _, rfl, a, _, rfl, ha, (fun z => (show ¬ HT.sIx 5 5 (some (-1)) = 5 by decide) z.2), fun p np => ?_⟩
    have s1 : Same H (upd H p (.tup [.str "cut", mv, sv, y])) := Same.new np
    have hp : SqT K (upd H p (.tup [.str "cut", mv, sv, y])) p [.str "cut", mv, sv, y] := at_t upd_same
    rw [show cutV [V.str "cut", mv, sv, y, z0] none (some (-1)) = [V.str "cut", mv, sv, y] from rfl]
    generalize upd H p (.tup [.str "cut", mv, sv, y]) = H1 at s1 hp ⊢
    refine ⟨_, rfl, _, rfl, a, _, -1, _, rfl, rfl, (kpT_same s1).tup ha, rfl, _, rfl, _, rfl, _, rfl, _, _, rfl, rfl, ?_⟩
    refine ⟨z0, gv, c, g, ch, lv + 1, f, rfl, hc.s s1, hg.s s1, hf, ok, by omega, fun z H2 s2 h2 => ?_⟩
    refine ⟨(by show 1 ≤ sizeLine; decide), fun e ne => ?_⟩
    have s3 := Same.new (o := .tup [z]) ne
    refine ⟨p, e, _, _, rfl, rfl, (kpT_same (s2.trans s3)).tup hp, at_t upd_same, (by show 4 + 1 ≤ sizeLine; decide), fun z => (by cases z), fun _ z => (by cases z), fun _ _ c' nc => ?_⟩
    have s4 := s3.trans (Same.new (o := .tup [.str "cut", mv, sv, y, z]) nc)
    have s14 := s1.trans (s2.trans s4)
    exact q _ _ s14 (.mk upd_same (.cons (.str _) (.cons (hm.s s14) (.cons (hs.s s14) (.cons (hb.s s14) (.cons (h2.s s4) .nil))))))
end
end W81
namespace W81
open PySem PySem.Spec PyProof.Rows L2 HX
/-! ### counts of the law, other names -/
theorem own_shaped {r : Rf} (h : RfSm r) : SeqAt.shaped (Dr.own r).dat = true := (Dr.shw (t := .own r) h).shaped (by show 0 + 2 ≤ 64; decide)
section
variable {P : Program} {w : World} {K : PySem.W.Frag} {mg : Str → Option Value} {base : Heap}
theorem nm_eq {r : Rf} {z : Str} : decide (kV r = V.str z) = decide (r = nmR z) := by
  cases r with
  | inl i => rw [decide_eq_false (fun h => by cases h), decide_eq_false (fun h => by cases h)]
  | inr x =>
    by_cases h : x = z
    · subst h
      exact (decide_eq_true (show kV (Sum.inr x) = V.str x from rfl)).trans (decide_eq_true (show (Sum.inr x : Rf) = nmR x from rfl)).symm
    · exact (decide_eq_false (show ¬ kV (Sum.inr x) = V.str z from fun e => h (V.str.inj e))).trans (decide_eq_false (show ¬ (Sum.inr x : Rf) = nmR z from fun e => h (Sum.inr.inj e))).symm
theorem scal_nm {r : Rf} {z : Str} : scal (kV r) (V.str z) = true := by cases r <;> rfl
def cntD (u d : Nat) : PyData := .tuple [.int (u : Int), .int (d : Int)]
def spCount (K : PySem.W.Frag) : Sp := fun vs H Q _ => ∃ (l : Addr) (xs : List V) (s : Sn) (rows : List Row) (top : Rf) (z : Str), vs = [.ref l, kV top, .str z] ∧ H l = some (.lst xs) ∧ TpAll K H xs (rows.map (rowDt s)) ∧ RowsSm rows ∧ NameOk z ∧
  ∀ H' v, Same H H' → Tp K H' v (cntD (nU z rows + tU z top) (nD z rows)) → Q v H'
theorem ok_law_count {k : Nat} (T : Tx K mg w) : FnOk P w K mg base CX0 (k + 1) T.a_law_count T.d_law_count ["rows", "top", "name"] (spCount K) := by
  refine T.F_law_count.ok sc_law_count (fun vs H Q E h => ?_) (fun cdv A outer s H vs Q E hr h => ?_)
  · obtain ⟨_, _, _, _, _, _, rfl, _⟩ := h
    rfl
  obtain ⟨l, xs, sn, rows, top, z, rfl, hl, hxs, hrs, hz, q⟩ := h
  refine ⟨_, (pss_cons (ps_set (i := 3) sc_law_count.nd rfl (Or.inl rfl) (pe_callTy call_int1 (by rfl) T.z_int (by decide +kernel) (pa_cons (pe_cmpR op_eq (pv 1) (pv 2) (nomark _)) pa_nil)))
      (pss_cons (ps_set (i := 4) sc_law_count.nd rfl (Or.inl rfl) pe_int)
      (pss_cons (ps_for PassesOwn.never rfl (piL K (pv 0)) (pg_name (i := 5) sc_law_count.nd rfl (Or.inl rfl)) (pss_one (ps_if (PW.pt (pw_and (pt_cmpR (eqD K hr.units) (pe_ix (ixT K) (pv 5) pe_int (fun _ _ => rfl)) (pe_tup (pa_cons pe_str (pa_cons (pv 2) pa_nil))) (nomark _)) (pw_and1 (pt_cmpR (eqD K hr.units) (pe_ix (ixT K) (pv 5) pe_int (fun _ _ => rfl)) pe_str (nomark _))))) (pss_one (ps_set (i := 3) sc_law_count.nd rfl (Or.inl rfl) (pe_op op_add (pv 3) pe_int))) (pss_one (ps_if (pt_cmpR (eqD K hr.units) (pe_ix (ixT K) (pv 5) pe_int (fun _ _ => rfl)) (pe_tup (pa_cons pe_str (pa_cons (pv 2) pa_nil))) (nomark _)) (pss_cons (ps_set (i := 3) sc_law_count.nd rfl (Or.inl rfl) (pe_op op_add (pv 3) (pe_ix (ixT K) (pe_ix (ixT K) (pv 5) pe_int (fun _ _ => rfl)) pe_int (fun _ _ => rfl))))
      (pss_one (ps_set (i := 4) sc_law_count.nd rfl (Or.inl rfl) (pe_callB (call_max2 rfl) (by rfl) T.z_max (by decide +kernel) (pa_cons (pv 4) (pa_cons (pe_ix (ixT K) (pe_ix (ixT K) (pv 5) pe_int (fun _ _ => rfl)) pe_int (fun _ _ => rfl)) pa_nil)))))) pss_nil)))))
      (pss_one (ps_ret (pe_tup (pa_cons (pv 3) (pa_cons (pv 4) pa_nil)))))))), ?_⟩
  have len := hxs.len
  rw [List.length_map] at len
  refine ⟨_, rfl, _, rfl, scal_nm, .inr ⟨_, rfl, ?_⟩⟩
  rw [nm_eq]
  have e0 : V.int (if decide (top = nmR z) = true then 1 else 0) = iv (tU z top) := by
    unfold tU
    by_cases h : top = nmR z
    · rw [decide_eq_true h, if_pos rfl, if_pos h]
      rfl
    · rw [decide_eq_false h, if_neg (by decide), if_neg h]
      rfl
  rw [e0]
  refine ⟨_, rfl, l, rfl, ⟨xs, at_l hl⟩, ?_⟩
  refine for_list (xs := xs) (fun i σ' H' => Same H H' ∧ ∃ x5, σ' = [some (.ref l), some (kV top), some (.str z), some (iv (tU z top + nU z (rows.take i))), some (iv (nD z (rows.take i))), x5]) ⟨Same.refl _, none, rfl⟩ (fun i σ' H' _ y => at_l (y.1 _ _ hl)) ?_ ?_
  · rintro i x σ' H' hx ⟨sm, x5, rfl⟩
    obtain ⟨d, hd, hxd⟩ := hxs.getL hx
    rw [List.getElem?_map] at hd
    cases e : rows[i]? with
    | none => rw [e] at hd; cases hd
    | some p =>
      rw [e] at hd
      cases hd
      obtain ⟨m, r⟩ := p
      have ht : rows.take (i + 1) = rows.take i ++ [(m, r)] := by rw [List.take_add_one, e]; rfl
      obtain ⟨_, _, hrf⟩ := hrs.k (m, r) (List.mem_of_getElem? e)
      obtain ⟨a, mv, sv, ov, rfl, ha, hm, hs, ho⟩ := row_at (hxd.s sm)
      have so := own_shaped hrf
      have sz := own_shaped (r := nmR z) hz
      have u1 := nU_snoc z m r (rows.take i)
      have u2 := nD_snoc z m r (rows.take i)
      rw [ht]
      refine ⟨_, rfl, a, _, 3, _, rfl, rfl, ha, rfl, _, rfl, (by show 2 ≤ sizeLine; decide), fun f nf => ?_⟩
      have sf : Same H' (upd H' f (.tup [.str "own", .str z])) := Same.new nf
      have hf : Tp K (upd H' f (.tup [.str "own", .str z])) (.ref f) (Dr.own (nmR z)).dat := .mk upd_same (.cons (.str _) (.cons (.str _) .nil))
      generalize upd H' f (.tup [.str "own", .str z]) = H2 at sf hf ⊢
      have s2 := sm.trans sf
      have ha2 := (kpT_same sf).tup ha
      have hm2 := hm.s sf
      refine ⟨_, _, (ho.s sf).dq, hf.dq, so, sz, _, rfl, ?_⟩
      rw [eqv_own]
      have again : ∀ (R : Bool → Hp → Prop), (∀ H3, Same H2 H3 → R (decide (r = nmR z)) H3) → tTest (tOp (rEqD K) (tOp (rIxT K) (tVar 5) (tC (.int 3))) (tTup (tCons (tC (.str "own")) (tCons (tVar 2) tNil)))) [some (.ref l), some (kV top), some (.str z), some (iv (tU z top + nU z (rows.take i))), some (iv (nD z (rows.take i))), some (.ref a)] H2 R := fun R hR => by
        refine ⟨_, rfl, a, _, 3, _, rfl, rfl, ha2, rfl, _, rfl, (by show 2 ≤ sizeLine; decide), fun g ng => ?_⟩
        have sg : Same H2 (upd H2 g (.tup [.str "own", .str z])) := Same.new ng
        have hg : Tp K (upd H2 g (.tup [.str "own", .str z])) (.ref g) (Dr.own (nmR z)).dat := .mk upd_same (.cons (.str _) (.cons (.str _) .nil))
        generalize upd H2 g (.tup [.str "own", .str z]) = H3 at sg hg ⊢
        refine ⟨_, _, (ho.s (sf.trans sg)).dq, hg.dq, so, sz, _, rfl, ?_⟩
        rw [eqv_own]
        exact hR H3 sg
      by_cases hrz : r = nmR z
      · rw [decide_eq_true hrz] at again ⊢
        rw [if_pos hrz] at u1 u2
        refine iteT ⟨_, rfl, a, _, 1, _, rfl, rfl, ha2, rfl, _, _, kd_dp hm2, .str _, kd_shaped m, once_shaped, _, rfl, ?_⟩
        rw [kd_eqv]
        cases m with
        | once =>
          refine iteT ⟨_, rfl, _, _, rfl, rfl, s2, some (.ref a), ?_⟩
          rw [u1, u2]
          have e1 : V.int (((tU z top + nU z (rows.take i) : Nat) : Int) + 1) = iv (tU z top + (nU z (rows.take i) + 1)) := rfl
          have e2 : max (nD z (rows.take i)) 0 = nD z (rows.take i) := Nat.max_zero _
          show _ = [some (.ref l), some (kV top), some (.str z), some (iv (tU z top + (nU z (rows.take i) + 1))), some (iv (max (nD z (rows.take i)) 0)), _]
          rw [e2, ← e1]
          rfl
        | box n d =>
          refine iteF (again _ fun H3 s3 => iteT ?_)
          obtain ⟨c, rfl, hc⟩ := kd_box (hm2.s s3)
          have ha3 := (kpT_same s3).tup ha2
          refine ⟨_, rfl, _, rfl, a, _, 1, _, rfl, rfl, ha3, rfl, c, _, 0, _, rfl, rfl, hc, rfl, _, _, rfl, rfl, ?_⟩
          refine ⟨_, rfl, _, rfl, a, _, 1, _, rfl, rfl, ha3, rfl, c, _, 1, _, rfl, rfl, hc, rfl, _, _, rfl, s2.trans s3, some (.ref a), ?_⟩
          rw [u1, u2]
          have e1 : V.int (((tU z top + nU z (rows.take i) : Nat) : Int) + (n : Int)) = iv (tU z top + (nU z (rows.take i) + n)) := by
            show V.int _ = V.int _
            congr 1
            omega
          have e2 : V.int (if (d : Int) > ((nD z (rows.take i) : Nat) : Int) then (d : Int) else ((nD z (rows.take i) : Nat) : Int)) = iv (max (nD z (rows.take i)) d) := by
            show V.int _ = V.int _
            congr 1
            split <;> omega
          show _ = [some (.ref l), some (kV top), some (.str z), some (iv (tU z top + (nU z (rows.take i) + n))), some (iv (max (nD z (rows.take i)) d)), _]
          rw [← e1, ← e2]
          rfl
      · rw [decide_eq_false hrz] at again ⊢
        rw [if_neg hrz] at u1 u2
        refine iteF (iteF (again _ fun H3 s3 => iteF ⟨s2.trans s3, some (.ref a), ?_⟩))
        rw [u1, u2, Nat.max_zero]
        rfl
  · rintro σ' H' ⟨sm, x5, rfl⟩
    rw [len, List.take_length]
    refine ⟨_, rfl, _, rfl, (by show 2 ≤ sizeLine; decide), fun b nb => ?_⟩
    refine q _ _ (sm.trans (Same.new nb)) (.mk upd_same ?_)
    rw [Nat.add_comm]
    exact .cons (.int _) (.cons (.int _) .nil)
def spRenamed (K : PySem.W.Frag) : Sp := fun vs H Q _ => ∃ (l : Addr) (xs : List V) (s : Sn) (rows : List Row) (top : Rf) (x y : Str), vs = [.ref l, kV top, .str y, .str x] ∧ H l = some (.lst xs) ∧ TpAll K H xs (rows.map (rowDt s)) ∧ rows.length ≤ 1000 ∧
  ∀ H' v, Same H H' → Tp K H' v (jn s (rows.map fun p => (p.1, rnF y x p.2)) (.own (rnF y x top))).dat → Q v H'
theorem ok_law_renamed {k : Nat} (T : Tx K mg w) (G_law_joined : FnOk P w K mg base CX0 k T.a_law_joined T.d_law_joined ["rows", "top"] (spJoined K)) : FnOk P w K mg base CX0 (k + 1) T.a_law_renamed T.d_law_renamed ["rows", "top", "old", "new"] (spRenamed K) := by
  refine T.F_law_renamed.ok sc_law_renamed (fun vs H Q E h => ?_) (fun cdv A outer s H vs Q E hr h => ?_)
  · obtain ⟨_, _, _, _, _, _, _, rfl, _⟩ := h
    rfl
  obtain ⟨l, xs, sn, rows, top, x, y, rfl, hl, hxs, hrl, q⟩ := h
  refine ⟨_, (pss_cons (ps_set (i := 4) sc_law_renamed.nd rfl (Or.inl rfl) (pe_lst pa_nil))
      (pss_cons (ps_for PassesOwn.never rfl (piL K (pv 0)) (pg_name (i := 5) sc_law_renamed.nd rfl (Or.inl rfl)) (pss_cons (ps_set (i := 6) sc_law_renamed.nd rfl (Or.inl rfl) (pe_ix (ixT K) (pe_ix (ixT K) (pv 5) pe_int (fun _ _ => rfl)) pe_int (fun _ _ => rfl)))
      (pss_cons (ps_if (pt_cmpR op_eq (pv 6) (pv 2) (nomark _)) (pss_one (ps_set (i := 6) sc_law_renamed.nd rfl (Or.inl rfl) (pv 3))) pss_nil)
      (pss_one (ps_expr (pe_bm PySem.F.plainAttrs_list PySem.F.slot_list_append PySem.F.type_list_append mt_append (pv 4) (pa_cons (pe_op (catA K) (pe_slice (slT K) (pv 5) po_none (po_some pe_int)) (pe_tup (pa_cons (pe_tup (pa_cons pe_str (pa_cons (pv 6) pa_nil))) pa_nil))) pa_nil)))))))
      (pss_cons (ps_if (pt_cmpR op_eq (pv 1) (pv 2) (nomark _)) (pss_one (ps_set (i := 1) sc_law_renamed.nd rfl (Or.inl rfl) (pv 3))) pss_nil)
      (pss_one (ps_ret (pe_call G_law_joined hr (by rfl) T.m_law_joined T.F_law_joined.kp T.b_law_joined .nil pass0 (pa_cons (pv 4) (pa_cons (pe_tup (pa_cons pe_str (pa_cons (pv 1) pa_nil))) pa_nil)))))))), ?_⟩
  have len := hxs.len
  rw [List.length_map] at len
  refine ⟨(by show 0 ≤ sizeLine; decide), fun D nD => ?_⟩
  have s1 : Same H (upd H D (.lst [])) := Same.new nD
  refine ⟨_, rfl, l, rfl, ⟨xs, at_l (s1 _ _ hl)⟩, ?_⟩
  refine for_list (xs := xs) (fun i σ' H' => Same H H' ∧ ∃ ys x5 x6, H' D = some (.lst ys) ∧ TpAll K H' ys (((rows.take i).map fun p => ((p.1, rnF y x p.2) : Row)).map (rowDt sn)) ∧ σ' = [some (.ref l), some (kV top), some (.str y), some (.str x), some (.ref D), x5, x6])
    ⟨s1, [], none, none, upd_same, .nil, rfl⟩ (fun i σ' H' _ y => at_l (y.1 _ _ hl)) ?_ ?_
  · rintro i v σ' H' hx ⟨sm, ys, x5, x6, hD, hys, rfl⟩
    have hi : i < xs.length := (List.getElem?_eq_some_iff.mp hx).1
    obtain ⟨d, hd, hxd⟩ := hxs.getL hx
    rw [List.getElem?_map] at hd
    cases e : rows[i]? with
    | none => rw [e] at hd; cases hd
    | some p =>
      rw [e] at hd
      cases hd
      obtain ⟨m, r⟩ := p
      have ht : rows.take (i + 1) = rows.take i ++ [(m, r)] := by rw [List.take_add_one, e]; rfl
      obtain ⟨a, mv, sv, ov, rfl, ha, hm, hs, ho⟩ := row_at (hxd.s sm)
      obtain ⟨o, rfl, ho2⟩ := own_at ho
      have ly := hys.len
      rw [List.length_map, List.length_map, List.length_take] at ly
      refine ⟨_, rfl, a, _, 3, _, rfl, rfl, ha, rfl, o, _, 1, _, rfl, rfl, ho2, rfl, ?_⟩
      dsimp only [tNext, tSeq, tAsg, tC, gName]
      refine ifS_all (fun σ2 H2 => H' = H2 ∧ σ2 = [some (.ref l), some (kV top), some (.str y), some (.str x), some (.ref D), some (.ref a), some (kV (rnF y x r))]) ?_ fun els => ?_
      · rintro σ2 H2 ⟨rfl, rfl⟩
        refine ⟨_, rfl, .inl ⟨rfl, _, at_l hD⟩, _, rfl, _, rfl, a, _, rfl, ha, (fun z => (show ¬ HT.sIx 4 4 (some 3) = 4 by decide) z.2), fun p np => ?_⟩
        have sp : Same H' (upd H' p (.tup [.str "cut", mv, sv])) := Same.new np
        have hp : SqT K (upd H' p (.tup [.str "cut", mv, sv])) p [.str "cut", mv, sv] := at_t upd_same
        rw [show cutV [V.str "cut", mv, sv, .ref o] none (some 3) = [V.str "cut", mv, sv] from rfl]
        generalize upd H' p (.tup [.str "cut", mv, sv]) = H2 at sp hp ⊢
        refine ⟨_, rfl, (by show 2 ≤ sizeLine; decide), fun g ng => ?_⟩
        have sg := Same.new (o := .tup [.str "own", kV (rnF y x r)]) ng
        have hg : Tp K (upd H2 g (.tup [.str "own", kV (rnF y x r)])) (.ref g) (Dr.own (rnF y x r)).dat := .mk upd_same (.cons (.str _) (.cons (rf_tp _) .nil))
        generalize upd H2 g (.tup [.str "own", kV (rnF y x r)]) = H3 at sg hg ⊢
        refine ⟨(by show 1 ≤ sizeLine; decide), fun j nj => ?_⟩
        have sj := Same.new (o := .tup [.ref g]) nj
        refine ⟨p, j, _, _, rfl, rfl, (kpT_same (sg.trans sj)).tup hp, at_t upd_same, (by show 3 + 1 ≤ sizeLine; decide), fun z => (by cases z), fun _ z => (by cases z), fun _ _ c nc => ?_⟩
        have sc := sj.trans (Same.new (o := .tup [.str "cut", mv, sv, .ref g]) nc)
        have st := sp.trans (sg.trans sc)
        have hrow : Tp K _ (.ref c) (rowDt sn (m, rnF y x r)) := .mk upd_same (.cons (.str _) (.cons (hm.s st) (.cons (hs.s st) (.cons (hg.s sc) .nil))))
        have hD5 := st _ _ hD
        refine ⟨D, _, _, rfl, rfl, hD5, sz2 (by omega), Same.put (sm.trans st) nD, _, _, _, upd_same, ?_, rfl⟩
        rw [ht, List.map_append, List.map_append]
        exact ((hys.s st).app (.cons hrow .nil)).k (kpt_lst (Kp.refl.put rfl) hD5)
      · refine ⟨_, rfl, _, rfl, scal_nm, _, rfl, ?_⟩
        rw [nm_eq]
        by_cases h : r = nmR y
        · rw [decide_eq_true h]
          have e1 : rnF y x r = nmR x := if_pos h
          rw [e1] at els
          exact iteT ⟨_, rfl, els _ _ ⟨rfl, rfl⟩⟩
        · rw [decide_eq_false h]
          have e1 : rnF y x r = r := if_neg h
          rw [e1] at els
          exact iteF (els _ _ ⟨rfl, rfl⟩)
  · rintro σ' H' ⟨sm, ys, x5, x6, hD, hys, rfl⟩
    rw [len, List.take_length] at hys
    dsimp only [tNext, tSeq, tAsg, tC, gName]
    refine ifS_all (fun σ2 H2 => H' = H2 ∧ σ2 = [some (.ref l), some (kV (rnF y x top)), some (.str y), some (.str x), some (.ref D), x5, x6]) ?_ fun els => ?_
    · rintro σ2 H2 ⟨rfl, rfl⟩
      refine ⟨_, rfl, _, rfl, (by show 2 ≤ sizeLine; decide), fun g ng => ?_⟩
      have sg := Same.new (o := .tup [.str "own", kV (rnF y x top)]) ng
      have hg : Tp K (upd H' g (.tup [.str "own", kV (rnF y x top)])) (.ref g) (Dr.own (rnF y x top)).dat := .mk upd_same (.cons (.str _) (.cons (rf_tp _) .nil))
      generalize upd H' g (.tup [.str "own", kV (rnF y x top)]) = H3 at sg hg ⊢
      exact ⟨D, .ref g, ys, sn, _, _, rfl, sg _ _ hD, hys.s sg, hg, fun v H4 s4 h4 => q H4 v (sm.trans (sg.trans s4)) h4⟩
    · refine ⟨_, rfl, _, rfl, scal_nm, _, rfl, ?_⟩
      rw [nm_eq]
      by_cases h : top = nmR y
      · rw [decide_eq_true h]
        have e1 : rnF y x top = nmR x := if_pos h
        rw [e1] at els
        exact iteT ⟨_, rfl, els _ _ ⟨rfl, rfl⟩⟩
      · rw [decide_eq_false h]
        have e1 : rnF y x top = top := if_neg h
        rw [e1] at els
        exact iteF (els _ _ ⟨rfl, rfl⟩)
end
end W81
namespace W81
open PySem PySem.Spec PyProof.Rows L2 HX
/-! ### taken apart -/
theorem for_fin {J : It} {g : TG} {tb : TS} {D : Ends} {σ : L2.St} {H : Hp} (S : L2.St → Hp → Prop) (h : ∀ σ2 H2, S σ2 H2 → D.nx σ2 H2) (k : (∀ σ2 H2, S σ2 H2 → D.nx σ2 H2) → ∃ W : Nat → Nat → L2.St → Hp → Prop, (∃ m, W 0 m σ H) ∧ ∀ i m σ H, W i m σ H →
    (J.stop i H ∧ D.nx σ H) ∨ (J.go i H ∧ ∃ N : L2.St → Hp → Prop, (∀ σ' H', N σ' H' → ∃ m', m' < m ∧ W (i + 1) m' σ' H') ∧ ∀ x H', J.yld i H x H' → g x σ H' fun σ2 H2 => tb { D with nx := N, ct := N, bk := D.nx } σ2 H2)) :
    ∃ W : Nat → Nat → L2.St → Hp → Prop, (∃ m, W 0 m σ H) ∧ ∀ i m σ H, W i m σ H →
    (J.stop i H ∧ D.nx σ H) ∨ (J.go i H ∧ ∃ N : L2.St → Hp → Prop, (∀ σ' H', N σ' H' → ∃ m', m' < m ∧ W (i + 1) m' σ' H') ∧ ∀ x H', J.yld i H x H' → g x σ H' fun σ2 H2 => tb { D with nx := N, ct := N, bk := D.nx } σ2 H2) := k h
theorem lib_same {C x dx : Addr} {H H1 : Hp} (nx : H x = none) (nd : H dx = none) (ne : dx ≠ x) (k : Kp (only1 x) (upd (upd H dx (.own x)) x (.ins C dx [])) H1) : Same H H1 := fun b o e => by
  have h1 : b ≠ x := fun z => by rw [z, nx] at e; cases e
  have h2 : b ≠ dx := fun z => by rw [z, nd] at e; cases e
  exact k _ _ h1 (by rw [upd_ne h1, upd_ne h2]; exact e)
theorem kd_ok {m : Kd} (h : m.Sm) : m.Ok := by
  cases m with
  | once => trivial
  | box n d => exact h.1
theorem path_sm : ∀ {sts : List Stp} {g g' : Sn} {ext : List Hold}, PathX g sts ext g' → g.Sm → (g'.Sm ∧ g'.dp ≤ g.dp ∧ g'.sz ≤ g.sz) ∧ ∀ h, h ∈ ext → h.2.1.Sm ∧ h.2.2.Sm ∧ h.2.2.dp ≤ g.dp ∧ h.2.2.sz ≤ g.sz
  | [], g, g', ext, h, hs => by
    obtain ⟨rfl, rfl⟩ := h
    exact ⟨⟨hs, Nat.le_refl _, Nat.le_refl _⟩, fun h hh => by cases hh⟩
  | .tr m' x' :: sts, g, g', ext, h, hs => by
    obtain ⟨a', b', ext', rfl, rfl, h⟩ := h
    obtain ⟨h1, h2, h3⟩ := hs
    obtain ⟨⟨i1, i2, i3⟩, i4⟩ := path_sm h h3
    have e1 : (Sn.trade m' a' b').dp = max a'.dp b'.dp + 1 := rfl
    have e2 : (Sn.trade m' a' b').sz = a'.sz + b'.sz + 1 := rfl
    refine ⟨⟨i1, by omega, by omega⟩, fun u hu => ?_⟩
    rcases List.mem_cons.mp hu with rfl | hu
    · exact ⟨h1, h2, by show a'.dp ≤ _; omega, by show a'.sz ≤ _; omega⟩
    · obtain ⟨j1, j2, j3, j4⟩ := i4 u hu
      exact ⟨j1, j2, by omega, by omega⟩
  | .mn s' :: sts, g, g', ext, h, hs => by
    obtain ⟨a', b', rfl, h⟩ := h
    obtain ⟨h2, h3⟩ := hs
    have e1 : (Sn.menu a' b').dp = max a'.dp b'.dp + 1 := rfl
    have e2 : (Sn.menu a' b').sz = a'.sz + b'.sz + 1 := rfl
    have hsel : (s'.sel a' b').Sm ∧ (s'.sel a' b').dp ≤ max a'.dp b'.dp ∧ (s'.sel a' b').sz ≤ a'.sz + b'.sz := by
      cases s'
      · exact ⟨h2, by show a'.dp ≤ _; omega, by show a'.sz ≤ _; omega⟩
      · exact ⟨h3, by show b'.dp ≤ _; omega, by show b'.sz ≤ _; omega⟩
    obtain ⟨⟨i1, i2, i3⟩, i4⟩ := path_sm h hsel.1
    refine ⟨⟨i1, by omega, by omega⟩, fun u hu => ?_⟩
    obtain ⟨j1, j2, j3, j4⟩ := i4 u hu
    exact ⟨j1, j2, by omega, by omega⟩
theorem path_ok : ∀ {sts : List Stp} {g g' : Sn} {ext : List Hold}, PathX g sts ext g' → g.Sm → (∀ h, h ∈ ext → NameOk h.1) → ∀ st, st ∈ sts → StOk st
  | [], g, g', ext, h, hs, hn => fun st hst => by cases hst
  | .tr m' x' :: sts, g, g', ext, h, hs, hn => by
    obtain ⟨a', b', ext', rfl, rfl, h⟩ := h
    obtain ⟨h1, h2, h3⟩ := hs
    intro st hst
    rcases List.mem_cons.mp hst with rfl | hst
    · exact ⟨h1, hn _ (List.mem_cons_self ..)⟩
    · exact path_ok h h3 (fun u hu => hn u (List.mem_cons_of_mem _ hu)) st hst
  | .mn s' :: sts, g, g', ext, h, hs, hn => by
    obtain ⟨a', b', rfl, h⟩ := h
    obtain ⟨h2, h3⟩ := hs
    have hsel : (s'.sel a' b').Sm := by
      cases s'
      · exact h2
      · exact h3
    intro st hst
    rcases List.mem_cons.mp hst with rfl | hst
    · trivial
    · exact path_ok h hsel hn st hst
/-- what is known of the drawn tower -/
structure Twr (x y : Str) (s : Sn) (rows : List Row) (top : Rf) : Prop where
  tw : TwS x y 0 none rows top
  nx : NameOk x
  ny : NameOk y
  ne : x ≠ y
  sm : s.Sm
  dp : s.dp ≤ 19
  sz : s.sz ≤ 39
  ln : rows.length ≤ 45
  all : rows.length + 2 * s.dp ≤ 50
theorem Twr.rows {x y : Str} {s : Sn} {rows : List Row} {top : Rf} (h : Twr x y s rows top) : RowsSm rows ∧ RfSm top := tws_sm h.nx h.ny h.tw wok0 (by have := h.ln; omega)
theorem Twr.sh {x y : Str} {s : Sn} {rows : List Row} {top : Rf} (h : Twr x y s rows top) : SeqAt.shaped s.dat = true := (Sn.shw h.sm).shaped (by have := h.dp; omega)
/-- the trees that are told of -/
theorem inv_shw {x y : Str} {s : Sn} {rows : List Row} {top : Rf} (h : Twr x y s rows top) {sts : List Stp} (hst : ∀ st, st ∈ sts → StOk st) (hl : sts.length ≤ s.dp) : Shw (tre oF (invL sts) s rows top 0).dat (rows.length + (s.dp + 2)) 400000 := by
  obtain ⟨h1, h2⟩ := h.rows
  have h3 := h.dp
  have h4 := h.ln
  have h5 := h.sz
  refine (tre_shw (M := s.dp + 2) (W := 4000) h.sm (by omega) (fun r k hr hk => ?_) (fun r k hr hk => ?_) rows top 0 h1 h2 (by omega)).mono (Nat.le_refl _) ?_
  · exact (Dr.shw (t := .own r) hr).mono (by show 0 + 2 ≤ _; omega) (by show 1 * 100 ≤ 4000; decide)
  · have e1 := invL_dp sts r k
    have e2 := invL_sz sts r k
    exact (Dr.shw (invL_lf sts r k hst hr (by omega))).mono (by omega) (by omega)
  · have := Nat.mul_le_mul h4 (show 4000 + s.sz * 60 + 50 ≤ 6390 + 50 by omega)
    omega
theorem clDr_shw {c : Clm} {t : Dr} {D M N : Nat} {W1 W2 : Nat} (h1 : Shw (clmD c) D W1) (h2 : Shw t.dat M W2) (d1 : D + 1 ≤ 60) (d2 : M + 1 ≤ 60) (hw : W1 + W2 ≤ 1048000) : Shw (clDr c t) 60 1048576 :=
  ((ShwAll.cons (h1.mono (show D ≤ 59 by omega) (Nat.le_refl _)) (.cons (h2.mono (show M ≤ 59 by omega) (Nat.le_refl _)) .nil)).tup).mono (Nat.le_refl _) (by omega)
theorem told_shw {x y : Str} {sn g' : Sn} {rows : List Row} {top : Rf} {sts : List Stp} {ext : List Hold} {ns : List Str} {n1 d1 n2 d2 : Nat} (tw : Twr x y sn rows top) (hp : PathX sn sts ext g') (hen : (ext.map (·.1)).Nodup) (hin : ∀ h, h ∈ ext → h.1 ∈ ns) (hns : ∀ z, z ∈ ns → NameOk z) (hl : ns.length ≤ 30)
    (st : ∀ s, s ∈ sts → StOk s) (hb : ∀ u, u ∈ baseH x y sn n1 d1 n2 d2 → NameOk u.1 ∧ u.2.1.Sm ∧ u.2.2.Sm ∧ u.2.2.dp ≤ sn.dp ∧ u.2.2.sz ≤ sn.sz) : Shw (clDr (baseH x y sn n1 d1 n2 d2 ++ ext, g') (tre oF (invL sts) sn rows top 0)) 60 1048576 := by
  have elen : ext.length ≤ 30 := by
    have := List.Nodup.length_le_of_subset hen (l₂ := ns) (fun z hz => by
      obtain ⟨u, hu, rfl⟩ := List.mem_map.mp hz
      exact hin u hu)
    rw [List.length_map] at this
    omega
  obtain ⟨⟨gsm, gdp, gsz⟩, esm⟩ := path_sm hp tw.sm
  have pdp := path_dp hp
  have wdp := tw.dp
  have wsz := tw.sz
  have wln := tw.ln
  have wall := tw.all
  have shC := shw_clm (c := (baseH x y sn n1 d1 n2 d2 ++ ext, g')) (D := sn.dp) (Z := sn.sz) (fun u hu => by
    rcases List.mem_append.mp hu with hu | hu
    · exact hb u hu
    · exact ⟨hns u.1 (hin u hu), esm u hu⟩) gsm gdp gsz
  have shT := inv_shw tw st (by omega)
  have e9 : (baseH x y sn n1 d1 n2 d2 ++ ext).length + 1 ≤ 33 := by
    rw [List.length_append]
    show 2 + _ + 1 ≤ 33
    omega
  have e10 : ((baseH x y sn n1 d1 n2 d2 ++ ext).length + 1) * (sn.sz * 60 + 40) ≤ 33 * (39 * 60 + 40) := Nat.mul_le_mul e9 (by omega)
  exact clDr_shw (N := 0) shC shT (by omega) (by omega) (by show ((baseH x y sn n1 d1 n2 d2 ++ ext).length + 1) * (sn.sz * 60 + 40) + _ ≤ _; omega)
section
variable {P : Program} {w : World} {K : PySem.W.Frag} {mg : Str → Option Value} {base : Heap}
def spTaken (K : PySem.W.Frag) (D : Nat) : Sp := fun vs H Q _ => ∃ (p nl : Addr) (cv tv : V) (ns : List Str) (x y : Str) (s : Sn) (rows : List Row) (top : Rf) (n1 d1 n2 d2 : Nat), vs = [.ref p, cv, tv, .ref nl] ∧ PoolAt H p ∧ H nl = some (.lst (ns.map V.str)) ∧ p ≠ nl ∧
  Tp K H cv (clmD (baseH x y s n1 d1 n2 d2, s)) ∧ Tp K H tv (tre oF oF s rows top 0).dat ∧ ns.Nodup ∧ (∀ z, z ∈ ns → NameOk z ∧ z ≠ x ∧ z ≠ y) ∧ ns.length ≤ 30 ∧ Twr x y s rows top ∧ Cov x y rows top n1 d1 n2 d2 ∧ (Kd.box n1 d1).Sm ∧ (Kd.box n2 d2).Sm ∧ 70 ≤ D ∧
  ∀ H', Kp (only1 p) H H' → PoolAt H' p → Q (.bl true) H'
theorem ok_law_taken_apart {k D : Nat} (T : Tx K mg w) (G_invert_take : FnOk P w K mg base CX0 (k + 1) T.a_invert_take T.d_invert_take ["claim", "derivation", "name"] (spInvTake K D)) (G_invert_offer : FnOk P w K mg base CX0 (k + 1) T.a_invert_offer T.d_invert_offer ["claim", "derivation", "side"] (spInvOffer K D))
    (G_law_inverted : FnOk P w K mg base CX0 (k + 1) T.a_law_inverted T.d_law_inverted ["tree", "goal", "choice", "level"] (spInverted K D)) (G_law_next : FnOk P w K mg base CX0 (k + 1) T.a_law_next T.d_law_next ["pool", "many"] spNext)
    (G_law_same : FnOkG P w K mg base CX0 (k + 1) T.a_law_same T.d_law_same ["told", "due"] (spSame K)) (G_accepts : FnOk P w K mg base CX0 (k + 1) T.a_accepts T.d_accepts ["library", "claim", "derivation"] (spAccepts K D))
    (G_Library__init : FnOk P w K mg base CX0 k T.a_Library__init T.d_Library__init ["self"] (spLInit T.C_Library)) : FnOkG P w K mg base CX0 (k + 2) T.a_law_taken_apart T.d_law_taken_apart ["pool", "claim", "tree", "names"] (spTaken K D) := by
  refine HX.Fun.okG T.F_law_taken_apart sc_law_taken_apart (fun vs H Q E h => ?_) (fun cdv A outer s H vs Q E gd hr h => ?_)
  · obtain ⟨_, _, _, _, _, _, _, _, _, _, _, _, _, _, rfl, _⟩ := h
    rfl
  obtain ⟨p, nl, cv, tv, ns, x, y, sn, rows, top, n1, d1, n2, d2, rfl, hP, hnl, hpn, hcv, htv, hnd, hns, hnlen, tw, cov, sm1, sm2, hD, q⟩ := h
  refine ⟨_, PSs.nox (pss_cons (ps_for PassesOwn.never rfl (piL K (pv 3)) (pg_name (i := 4) sc_law_taken_apart.nd rfl (Or.inl rfl)) (pss_cons (ps_set (i := 5) sc_law_taken_apart.nd rfl (Or.inl rfl) (pe_ix (ixT K) (pv 1) pe_int (fun _ _ => rfl)))
      (pss_cons (ps_if (pt_cmpR op_eq (pe_ix (ixT K) (pv 5) pe_int (fun _ _ => rfl)) pe_str (nomark _)) (pss_one ps_break) pss_nil)
      (pss_cons (ps_if (pt_cmpR op_eq (pe_ix (ixT K) (pv 5) pe_int (fun _ _ => rfl)) pe_str (nomark _)) (pss_cons (ps_set (i := 6) sc_law_taken_apart.nd rfl (Or.inl rfl) (pe_call G_invert_take hr (by rfl) T.m_invert_take T.F_invert_take.kp T.b_invert_take .nil pass0 (pa_cons (pv 1) (pa_cons (pv 2) (pa_cons (pv 4) pa_nil)))))
      (pss_one (ps_set (i := 7) sc_law_taken_apart.nd rfl (Or.inl rfl) (pe_tup (pa_cons (pe_tup (pa_cons (pe_op (catA K) (pe_ix (ixT K) (pv 1) pe_int (fun _ _ => rfl)) (pe_tup (pa_cons (pe_tup (pa_cons (pv 4) (pa_cons (pe_ix (ixT K) (pv 5) pe_int (fun _ _ => rfl)) (pa_cons (pe_ix (ixT K) (pv 5) pe_int (fun _ _ => rfl)) pa_nil)))) pa_nil))) (pa_cons (pe_ix (ixT K) (pv 5) pe_int (fun _ _ => rfl)) pa_nil))) (pa_cons (pe_call G_law_inverted hr (by rfl) T.m_law_inverted T.F_law_inverted.kp T.b_law_inverted .nil pass0 (pa_cons (pv 2) (pa_cons (pv 5) (pa_cons (pv 4) (pa_cons pe_int pa_nil))))) pa_nil)))))) (pss_cons (ps_set (i := 8) sc_law_taken_apart.nd rfl (Or.inl rfl) (pe_call G_law_next hr (by rfl) T.m_law_next T.F_law_next.kp T.b_law_next .nil pass0 (pa_cons (pv 0) (pa_cons pe_int pa_nil))))
      (pss_cons (ps_set (i := 9) sc_law_taken_apart.nd rfl (Or.inl rfl) (pe_ix (ixL K) (pe_lst (pa_cons pe_str (pa_cons pe_str pa_nil))) (pv 8) (fun _ _ => rfl)))
      (pss_cons (ps_set (i := 6) sc_law_taken_apart.nd rfl (Or.inl rfl) (pe_call G_invert_offer hr (by rfl) T.m_invert_offer T.F_invert_offer.kp T.b_invert_offer .nil pass0 (pa_cons (pv 1) (pa_cons (pv 2) (pa_cons (pv 9) pa_nil)))))
      (pss_one (ps_set (i := 7) sc_law_taken_apart.nd rfl (Or.inl rfl) (pe_tup (pa_cons (pe_tup (pa_cons (pe_ix (ixT K) (pv 1) pe_int (fun _ _ => rfl)) (pa_cons (pe_ix (ixT K) (pv 5) (pe_op op_add pe_int (pv 8)) (fun _ _ => rfl)) pa_nil))) (pa_cons (pe_call G_law_inverted hr (by rfl) T.m_law_inverted T.F_law_inverted.kp T.b_law_inverted .nil pass0 (pa_cons (pv 2) (pa_cons (pv 5) (pa_cons (pv 9) (pa_cons pe_int pa_nil))))) pa_nil)))))))))
      (pss_cons (ps_if (pt_not (pt_val (pe_callG gd G_law_same hr (by rfl) T.m_law_same T.F_law_same.kp T.b_law_same pass0 (pa_cons (pv 6) (pa_cons (pv 7) pa_nil))))) (pss_one (ps_ret pe_bl)) pss_nil)
      (pss_one (ps_asg (pv 7) (tupK (n := 2) K rfl (pgs_cons (pg_name (i := 1) sc_law_taken_apart.nd rfl (Or.inl rfl)) (pgs_cons (pg_name (i := 2) sc_law_taken_apart.nd rfl (Or.inl rfl)) pgs_nil))))))))))
      (pss_one (ps_ret (pe_cmpR op_isBl (pe_call G_accepts hr (by rfl) T.m_accepts T.F_accepts.kp T.b_accepts .nil pass0 (pa_cons (pe_make0 T.k_Library G_Library__init hr (by rfl) T.c_Library T.b_Library__init .nil pass0) (pa_cons (pv 1) (pa_cons (pv 2) pa_nil)))) pe_bl (nomark _))))), ?_⟩
  obtain ⟨r1, r2⟩ := tw.rows
  have wdp := tw.dp
  have wsz := tw.sz
  have wln := tw.ln
  have wall := tw.all
  refine ⟨_, rfl, nl, rfl, ⟨_, at_l hnl⟩, ?_⟩
  refine for_fin (fun σ' H' => Kp (only1 p) H H' ∧ PoolAt H' p ∧ ∃ (cv tv : V) (sts : List Stp) (ext : List Hold) (g : Sn) (x4 x5 x6 x7 x8 x9 : Option V), Tp K H' cv (clmD (baseH x y sn n1 d1 n2 d2 ++ ext, g)) ∧ Tp K H' tv (tre oF (invL sts) sn rows top 0).dat ∧ PathX sn sts ext g ∧ (ext.map (·.1)).Nodup ∧ (∀ h, h ∈ ext → h.1 ∈ ns) ∧
    σ' = [some (.ref p), some cv, some tv, some (.ref nl), x4, x5, x6, x7, x8, x9]) ?_ fun fin => ?_
  · rintro σ' H' ⟨kp, hP', cv, tv, sts, ext, g, x4, x5, x6, x7, x8, x9, hcv, htv, hpath, hen, hein, rfl⟩
    have ndall : ((baseH x y sn n1 d1 n2 d2 ++ ext).map (·.1)).Nodup := by
      rw [List.map_append, List.nodup_append]
      refine ⟨by simp [baseH, tw.ne], hen, fun a ha b hb e => ?_⟩
      obtain ⟨u, hu, rfl⟩ := List.mem_map.mp hb
      obtain ⟨_, e1, e2⟩ := hns u.1 (hein u hu)
      have ha : a ∈ [x, y] := ha
      rcases List.mem_cons.mp ha with rfl | ha
      · exact e1 e.symm
      · rw [List.mem_singleton] at ha
        exact e2 (by rw [← e, ha])
    have shown := inv_shown tw.tw hpath ndall tw.sh cov
    have elen : ext.length ≤ 30 := by
      have := List.Nodup.length_le_of_subset hen (l₂ := ns) (fun z hz => by
        obtain ⟨u, hu, rfl⟩ := List.mem_map.mp hz
        exact hein u hu)
      rw [List.length_map] at this
      omega
    have stok := path_ok hpath tw.sm fun h hh => (hns h.1 (hein h hh)).1
    have pdp := path_dp hpath
    have e1 : (tre oF (invL sts) sn rows top 0).dp ≤ rows.length + 19 := tre_dp (fun r k => Nat.zero_le _) (fun r k => Nat.le_trans (invL_dp sts r k) (by omega)) rows top 0
    have e2 : (tre oF (invL sts) sn rows top 0).sz ≤ rows.length * (40 + 1) + 40 := tre_sz (fun r k => (by show 1 ≤ 40; decide)) (fun r k => Nat.le_trans (invL_sz sts r k) (by omega)) rows top 0
    have e3 : (tre oF (invL sts) sn rows top 0).Kn := tre_kn (L := oF) (Lt := invL sts) (fun r k => trivial) (fun r k => invL_kn sts r k stok) rows top 0 r1
    refine fun lx ldx nx ndx ne => ⟨lx, ldx, rfl, upd_same, fun H3 k3 => ⟨rfl, ?_⟩⟩
    have s3 := lib_same nx ndx ne k3
    refine ⟨_, rfl, _, rfl, .ref lx, cv, tv, _, (baseH x y sn n1 d1 n2 d2 ++ ext, g), rfl, hcv.s s3, htv.s s3, shown, ?_, e3, by omega, by omega, by omega, fun H4 s4 => ⟨true, true, rfl, rfl, ?_⟩⟩
    · rw [List.length_append]
      show 2 + _ ≤ 1000
      omega
    · exact q H4 (kp.trans (Kp.of (s3.trans s4))) (hP'.s (s3.trans s4))
  refine for_list (xs := ns.map V.str) (fun i σ' H' => Kp (only1 p) H H' ∧ PoolAt H' p ∧ ∃ (cv tv : V) (sts : List Stp) (ext : List Hold) (g : Sn) (x4 x5 x6 x7 x8 x9 : Option V), Tp K H' cv (clmD (baseH x y sn n1 d1 n2 d2 ++ ext, g)) ∧ Tp K H' tv (tre oF (invL sts) sn rows top 0).dat ∧ PathX sn sts ext g ∧ (ext.map (·.1)).Nodup ∧ (∀ h, h ∈ ext → h.1 ∈ ns.take i) ∧
    σ' = [some (.ref p), some cv, some tv, some (.ref nl), x4, x5, x6, x7, x8, x9]) ?_ (fun i σ' H' _ z => at_l (z.1 _ _ (Ne.symm hpn) hnl)) ?_ ?_
  · refine ⟨Kp.refl, hP, cv, tv, [], [], sn, none, none, none, none, none, none, by rw [List.append_nil]; exact hcv, htv, ⟨rfl, rfl⟩, List.nodup_nil, fun h hh => (by cases hh), rfl⟩
  · rintro i v σ' H' hx ⟨kp, hP', cv, tv, sts, ext, g, x4, x5, x6, x7, x8, x9, hcv, htv, hpath, hen, hein, rfl⟩
    rw [List.getElem?_map] at hx
    cases ez : ns[i]? with
    | none => rw [ez] at hx; cases hx
    | some z =>
      rw [ez] at hx
      cases hx
      have hzn := List.mem_of_getElem? ez
      obtain ⟨hz1, hz2, hz3⟩ := hns z hzn
      have htk : ns.take (i + 1) = ns.take i ++ [z] := by rw [List.take_add_one, ez]; rfl
      have hznew : z ∉ ext.map (·.1) := fun hm => by
        obtain ⟨u, hu, rfl⟩ := List.mem_map.mp hm
        have h5 := List.take_append_drop (i + 1) ns
        rw [htk] at h5
        rw [← h5] at hnd
        have h6 := (List.nodup_append.mp hnd).1
        exact (List.nodup_append.mp h6).2.2 _ (hein u hu) _ (List.mem_singleton.mpr rfl) rfl
      have hcv0 := hcv
      obtain ⟨a, ha, hs, gv, rfl, h1, h2, h3, h4⟩ := clm_at hcv
      have stok := path_ok hpath tw.sm fun h hh => (hns h.1 (List.mem_of_mem_take (hein h hh))).1
      obtain ⟨⟨gsm, gdp, gsz⟩, esm⟩ := path_sm hpath tw.sm
      have pdp := path_dp hpath
      have elen : ext.length ≤ 30 := by
        have := List.Nodup.length_le_of_subset hen (l₂ := ns) (fun z hz => by
          obtain ⟨u, hu, rfl⟩ := List.mem_map.mp hz
          exact List.mem_of_mem_take (hein u hu))
        rw [List.length_map] at this
        omega
      have tdp : (tre oF (invL sts) sn rows top 0).dp ≤ rows.length + 19 := tre_dp (fun r k => Nat.zero_le _) (fun r k => Nat.le_trans (invL_dp sts r k) (by omega)) rows top 0
      have tiv : IvOk (tre oF (invL sts) sn rows top 0) := tre_iv (fun r k => invL_iv sts r k) rows top 0
      have hh : Tp K H' (.ref ha) (.tuple ((baseH x y sn n1 d1 n2 d2 ++ ext).map holdD)) := .tup h2 h3
      refine ⟨_, rfl, a, _, 1, _, rfl, rfl, h1, rfl, ?_⟩
      have h40 := h4
      have basehold : ∀ u, u ∈ baseH x y sn n1 d1 n2 d2 → NameOk u.1 ∧ u.2.1.Sm ∧ u.2.2.Sm ∧ u.2.2.dp ≤ sn.dp ∧ u.2.2.sz ≤ sn.sz := fun u hu => by
        have hu : u ∈ [((x, .box n1 d1, sn) : Hold), (y, .box n2 d2, sn)] := hu
        rcases List.mem_cons.mp hu with rfl | hu
        · exact ⟨tw.nx, sm1, tw.sm, Nat.le_refl _, Nat.le_refl _⟩
        · rw [List.mem_singleton] at hu
          subst hu
          exact ⟨tw.ny, sm2, tw.sm, Nat.le_refl _, Nat.le_refl _⟩
      have hol : ∀ u, u ∈ baseH x y sn n1 d1 n2 d2 ++ ext → NameOk u.1 ∧ u.2.1.Sm ∧ u.2.2.Sm ∧ u.2.2.dp ≤ sn.dp ∧ u.2.2.sz ≤ sn.sz := fun u hu => by
        rcases List.mem_append.mp hu with hu | hu
        · exact basehold u hu
        · exact ⟨(hns u.1 (List.mem_of_mem_take (hein u hu))).1, esm u hu⟩
      have hne : hs ≠ [] := fun e => by
        have := h3.len
        rw [e, List.length_map, List.length_append] at this
        have e9 : (baseH x y sn n1 d1 n2 d2).length = 2 := rfl
        rw [e9, List.length_nil] at this
        omega
      have hslen : hs.length ≤ 100 := by
        have := h3.len
        rw [List.length_map, List.length_append] at this
        have e9 : (baseH x y sn n1 d1 n2 d2).length = 2 := rfl
        omega
      have clen : (baseH x y sn n1 d1 n2 d2 ++ ext).length ≤ 32 := by
        rw [List.length_append]
        show 2 + _ ≤ 32
        omega
      have ndall : ∀ e', (e'.map (·.1)).Nodup → (∀ h : Hold, h ∈ e' → h.1 ∈ ns) → ((baseH x y sn n1 d1 n2 d2 ++ e').map (·.1)).Nodup := fun e' h1 h2 => by
        rw [List.map_append, List.nodup_append]
        refine ⟨by simp [baseH, tw.ne], h1, fun a ha b hb e => ?_⟩
        obtain ⟨u, hu, rfl⟩ := List.mem_map.mp hb
        obtain ⟨_, e1, e2⟩ := hns u.1 (h2 u hu)
        have ha : a ∈ [x, y] := ha
        rcases List.mem_cons.mp ha with rfl | ha
        · exact e1 e.symm
        · rw [List.mem_singleton] at ha
          exact e2 (by rw [← e, ha])
      cases g with
      | word z0 =>
        obtain ⟨b, rfl, hb⟩ := word_at h4
        exact ⟨_, rfl, b, _, 0, _, rfl, rfl, hb, rfl, rfl, _, rfl, iteT (fin _ _ ⟨kp, hP', .ref a, tv, sts, ext, .word z0, _, _, _, _, _, _, hcv0, htv, hpath, hen, fun h hh => List.mem_of_mem_take (hein h hh), rfl⟩)⟩
      | trade m sa sb =>
        obtain ⟨b, mv, xv, yv, rfl, hb, hm, hxv, hyv⟩ := trade_at h4
        refine ⟨_, rfl, b, _, 0, _, rfl, rfl, hb, rfl, rfl, _, rfl, iteF ?_⟩
        dsimp only [tNext, tSeq, tAsg, tC, gName]
        refine ifS_all (fun σ2 H2 => ∃ (told due : V) (sts' : List Stp) (ext' : List Hold) (g' : Sn) (x8 x9 : Option V), Kp (only1 p) H H2 ∧ PoolAt H2 p ∧ Tp K H2 told (clDr (baseH x y sn n1 d1 n2 d2 ++ ext', g') (tre oF (invL sts') sn rows top 0)) ∧ Tp K H2 due (clDr (baseH x y sn n1 d1 n2 d2 ++ ext', g') (tre oF (invL sts') sn rows top 0)) ∧
          PathX sn sts' ext' g' ∧ (ext'.map (·.1)).Nodup ∧ (∀ h, h ∈ ext' → h.1 ∈ ns.take (i + 1)) ∧ σ2 = [some (.ref p), some (.ref a), some tv, some (.ref nl), some (.str z), some (.ref b), some told, some due, x8, x9]) ?_ fun els => ?_
        · rintro σ2 H2 ⟨told, due, sts', ext', g', x8, x9, kp2, hP2, htold, hdue, hpath', hen', hein', rfl⟩
          have hin' : ∀ h : Hold, h ∈ ext' → h.1 ∈ ns := fun h hh => List.mem_of_mem_take (hein' h hh)
          have stok' := path_ok hpath' tw.sm fun h hh => (hns h.1 (hin' h hh)).1
          have sh := told_shw tw hpath' hen' hin' (fun z hz => (hns z hz).1) hnlen stok' basehold
          refine ⟨_, rfl, _, rfl, told, due, _, 1048576, rfl, htold, hdue, sh, Nat.le_refl _, true, rfl, iteF ?_⟩
          obtain ⟨da, dxs, rfl, hda, hdt⟩ := Tp.tup_ hdue
          obtain ⟨cv', tv', rfl, hc', ht'⟩ := tp2 hdt
          refine ⟨_, rfl, da, _, rfl, hda, rfl, _, _, rfl, _, _, rfl, rfl, ?_⟩
          exact ⟨kp2, hP2, cv', tv', sts', ext', g', _, _, _, _, _, _, hc', ht', hpath', hen', hein', rfl⟩
        · refine ⟨_, rfl, b, _, 0, _, rfl, rfl, hb, rfl, rfl, _, rfl, iteT ?_⟩
          have hen' : ((ext ++ [(z, m, sa)]).map (·.1)).Nodup := by
            rw [List.map_append, List.nodup_append]
            refine ⟨hen, by simp, fun a ha b hb e => hznew ?_⟩
            have hb : b ∈ [z] := hb
            rw [List.mem_singleton] at hb
            rw [← hb, ← e]
            exact ha
          have hein' : ∀ h, h ∈ ext ++ [(z, m, sa)] → h.1 ∈ ns.take (i + 1) := fun h hh => by
            rw [htk]
            rcases List.mem_append.mp hh with hh | hh
            · exact List.mem_append_left _ (hein h hh)
            · rw [List.mem_singleton] at hh
              subst hh
              exact List.mem_append_right _ (List.mem_singleton.mpr rfl)
          have hall := ndall _ hen' fun h hh => List.mem_of_mem_take (hein' h hh)
          refine ⟨_, rfl, _, rfl, _, rfl, .ref a, tv, (baseH x y sn n1 d1 n2 d2 ++ ext, .trade m sa sb), _, z, m, sa, sb, rfl, hcv0, htv, rfl, by show (baseH x y sn n1 d1 n2 d2 ++ ext).length < 1000; omega, fun u hu => ?_, by rw [List.append_assoc]; exact hall, tiv, by omega, fun zt H1 s1 ht1 => ?_⟩
          · rcases List.mem_append.mp hu with hu | hu
            · obtain ⟨j1, j2, _⟩ := hol u hu
              exact ⟨j1, kd_ok j2⟩
            · rw [List.mem_singleton] at hu
              subst hu
              exact ⟨hz1, kd_ok gsm.1⟩
          have ex : ivF (fun r lv => Dr.pay r m (.own (nmR z)) (.own (lvR lv))) (tre oF (invL sts) sn rows top 0) 0 = tre oF (invL (sts ++ [.tr m z])) sn rows top 0 := ivF_step (.tr m z) sts sn rows top 0
          have hb1 := (kpT_same s1).tup hb
          have h11 := (kpT_same s1).tup h1
          refine ⟨_, rfl, a, _, 0, _, rfl, rfl, h11, rfl, _, rfl, _, rfl, b, _, 1, _, rfl, rfl, hb1, rfl, _, rfl, b, _, 2, _, rfl, rfl, hb1, rfl, (by show 3 ≤ sizeLine; decide), fun e ne => ?_⟩
          have se := Same.new (o := .tup [.str z, mv, xv]) ne
          have he : Tp K (upd H1 e (.tup [.str z, mv, xv])) (.ref e) (holdD (z, m, sa)) := .mk upd_same (.cons (.str _) (.cons (hm.s (s1.trans se)) (.cons (hxv.s (s1.trans se)) .nil)))
          generalize upd H1 e (.tup [.str z, mv, xv]) = H3 at se he ⊢
          refine ⟨(by show 1 ≤ sizeLine; decide), fun f nf => ?_⟩
          have sf := Same.new (o := .tup [.ref e]) nf
          have hf : SqT K (upd H3 f (.tup [.ref e])) f [.ref e] := at_t upd_same
          have he4 := he.s sf
          generalize upd H3 f (.tup [.ref e]) = H4 at sf hf he4 ⊢
          have s4 := s1.trans (se.trans sf)
          refine ⟨ha, f, hs, _, rfl, rfl, (kpT_same s4).tup h2, hf, sz1 (by show _ + 1 ≤ _; omega), fun e => absurd e hne, fun _ z => (by cases z), fun _ _ c nc => ?_⟩
          have sc := Same.new (o := .tup (hs ++ [.ref e])) nc
          have hc : Tp K (upd H4 c (.tup (hs ++ [.ref e]))) (.ref c) (.tuple ((baseH x y sn n1 d1 n2 d2 ++ (ext ++ [(z, m, sa)])).map holdD)) := by
            rw [← List.append_assoc, List.map_append]
            exact .mk upd_same ((h3.s (s4.trans sc)).app (.cons (he4.s sc) .nil))
          generalize upd H4 c (.tup (hs ++ [.ref e])) = H5 at sc hc ⊢
          have s5 := s4.trans sc
          refine ⟨_, rfl, b, _, 3, _, rfl, rfl, (kpT_same s5).tup hb, rfl, (by show 2 ≤ sizeLine; decide), fun g ng => ?_⟩
          have sg := Same.new (o := .tup [.ref c, yv]) ng
          have hg : Tp K (upd H5 g (.tup [.ref c, yv])) (.ref g) (clmD (baseH x y sn n1 d1 n2 d2 ++ (ext ++ [(z, m, sa)]), sb)) := .mk upd_same (.cons (hc.s sg) (.cons (hyv.s (s5.trans sg)) .nil))
          generalize upd H5 g (.tup [.ref c, yv]) = H6 at sg hg ⊢
          have s6 := s5.trans sg
          refine ⟨_, rfl, _, rfl, _, rfl, ?_⟩
          refine ⟨tv, .ref b, _, .trade m sa sb, z, 0, _, rfl, htv.s s6, h40.s s6, .inl ⟨m, sa, sb, rfl, rfl⟩, tiv, by omega, fun z7 H7 s7 h7 => ?_⟩
          refine ⟨(by show 2 ≤ sizeLine; decide), fun j nj => ?_⟩
          have sj := Same.new (o := .tup [.ref g, z7]) nj
          rw [ex] at h7 ht1
          rw [List.append_assoc] at ht1
          have s17 := se.trans (sf.trans (sc.trans (sg.trans (s7.trans sj))))
          have hj : Tp K _ (.ref j) (clDr (baseH x y sn n1 d1 n2 d2 ++ (ext ++ [(z, m, sa)]), sb) (tre oF (invL (sts ++ [.tr m z])) sn rows top 0)) := .mk upd_same (.cons (hg.s (s7.trans sj)) (.cons (h7.s sj) .nil))
          exact els _ _ ⟨zt, .ref j, sts ++ [.tr m z], ext ++ [(z, m, sa)], sb, _, _, kp.trans (Kp.of (s1.trans s17)), hP'.s (s1.trans s17), ht1.s s17, hj, path_tr hpath, hen', hein', rfl⟩
      | menu sa sb =>
        obtain ⟨b, xv, yv, rfl, hb, hxv, hyv⟩ := menu_at h4
        refine ⟨_, rfl, b, _, 0, _, rfl, rfl, hb, rfl, rfl, _, rfl, iteF ?_⟩
        dsimp only [tNext, tSeq, tAsg, tC, gName]
        refine ifS_all (fun σ2 H2 => ∃ (told due : V) (sts' : List Stp) (ext' : List Hold) (g' : Sn) (x8 x9 : Option V), Kp (only1 p) H H2 ∧ PoolAt H2 p ∧ Tp K H2 told (clDr (baseH x y sn n1 d1 n2 d2 ++ ext', g') (tre oF (invL sts') sn rows top 0)) ∧ Tp K H2 due (clDr (baseH x y sn n1 d1 n2 d2 ++ ext', g') (tre oF (invL sts') sn rows top 0)) ∧
          PathX sn sts' ext' g' ∧ (ext'.map (·.1)).Nodup ∧ (∀ h, h ∈ ext' → h.1 ∈ ns.take (i + 1)) ∧ σ2 = [some (.ref p), some (.ref a), some tv, some (.ref nl), some (.str z), some (.ref b), some told, some due, x8, x9]) ?_ fun els => ?_
        · rintro σ2 H2 ⟨told, due, sts', ext', g', x8, x9, kp2, hP2, htold, hdue, hpath', hen', hein', rfl⟩
          have hin' : ∀ h : Hold, h ∈ ext' → h.1 ∈ ns := fun h hh => List.mem_of_mem_take (hein' h hh)
          have stok' := path_ok hpath' tw.sm fun h hh => (hns h.1 (hin' h hh)).1
          have sh := told_shw tw hpath' hen' hin' (fun z hz => (hns z hz).1) hnlen stok' basehold
          refine ⟨_, rfl, _, rfl, told, due, _, 1048576, rfl, htold, hdue, sh, Nat.le_refl _, true, rfl, iteF ?_⟩
          obtain ⟨da, dxs, rfl, hda, hdt⟩ := Tp.tup_ hdue
          obtain ⟨cv', tv', rfl, hc', ht'⟩ := tp2 hdt
          refine ⟨_, rfl, da, _, rfl, hda, rfl, _, _, rfl, _, _, rfl, rfl, ?_⟩
          exact ⟨kp2, hP2, cv', tv', sts', ext', g', _, _, _, _, _, _, hc', ht', hpath', hen', hein', rfl⟩
        · refine ⟨_, rfl, b, _, 0, _, rfl, rfl, hb, rfl, rfl, _, rfl, iteF ?_⟩
          obtain ⟨l0, hp0, hl0⟩ := id hP'
          refine ⟨_, rfl, p, l0, 2, rfl, hp0, hl0, by decide, by decide, fun d l1 hl1 hd => ?_⟩
          have kp1 : Kp (only1 p) H' (upd H' p (.lst l1)) := Kp.refl.put rfl
          have hP1 : PoolAt (upd H' p (.lst l1)) p := ⟨l1, upd_same, hl1⟩
          generalize upd H' p (.lst l1) = H1 at kp1 hP1 ⊢
          refine ⟨(by show 2 ≤ sizeLine; decide), fun l nl2 => ?_⟩
          have kp2 : Kp (only1 p) H' (upd H1 l (.lst [.str "left", .str "right"])) := kp1.new nl2
          have hP2 := hP1.new (o := .lst [.str "left", .str "right"]) nl2
          have hl2 : (upd H1 l (.lst [.str "left", .str "right"])) l = some (.lst [.str "left", .str "right"]) := upd_same
          generalize upd H1 l (.lst [.str "left", .str "right"]) = H2 at kp2 hP2 hl2 ⊢
          obtain ⟨sd, hsd1, hsd2⟩ : ∃ sd : Side, atI [V.str "left", V.str "right"] (d : Int) = some (.str sd.str) ∧ ∃ wv, atI [V.str "menu", xv, yv] (1 + (d : Int)) = some wv ∧ ∀ H9, Tp K H9 xv sa.dat → Tp K H9 yv sb.dat → Tp K H9 wv (sd.sel sa sb).dat := by
            match d, hd with
            | 0, _ => exact ⟨.l, rfl, xv, rfl, fun _ h _ => h⟩
            | 1, _ => exact ⟨.r, rfl, yv, rfl, fun _ _ h => h⟩
            | d + 2, h => omega
          obtain ⟨wv, hw1, hw2⟩ := hsd2
          refine ⟨_, rfl, l, _, _, _, rfl, rfl, at_l hl2, hsd1, ?_⟩
          have kt := hP'.k kp2
          have hcv2 := hcv0.k kt
          have htv2 := htv.k kt
          refine ⟨_, rfl, _, rfl, _, rfl, .ref a, tv, (baseH x y sn n1 d1 n2 d2 ++ ext, .menu sa sb), _, sd, sa, sb, rfl, hcv2, htv2, rfl, tiv, by omega, fun zt H3 s3 ht3 => ?_⟩
          have ex : ivF (fun r lv => Dr.pick r sd (.own (lvR lv))) (tre oF (invL sts) sn rows top 0) 0 = tre oF (invL (sts ++ [.mn sd])) sn rows top 0 := ivF_step (.mn sd) sts sn rows top 0
          have kt3 : KpT (only1 p) H' H3 := hP'.k (kp2.trans (Kp.of s3))
          refine ⟨_, rfl, a, _, 0, _, rfl, rfl, kt3.tup h1, rfl, _, rfl, _, rfl, _, _, rfl, rfl, b, _, _, wv, rfl, rfl, kt3.tup hb, hw1, (by show 2 ≤ sizeLine; decide), fun g ng => ?_⟩
          have sg := Same.new (o := .tup [.ref ha, wv]) ng
          have hg : Tp K (upd H3 g (.tup [.ref ha, wv])) (.ref g) (clmD (baseH x y sn n1 d1 n2 d2 ++ ext, sd.sel sa sb)) := .mk upd_same (.cons ((hh.k kt3).s sg) (.cons (hw2 _ ((hxv.k kt3).s sg) ((hyv.k kt3).s sg)) .nil))
          generalize upd H3 g (.tup [.ref ha, wv]) = H6 at sg hg ⊢
          refine ⟨_, rfl, _, rfl, _, rfl, ?_⟩
          refine ⟨tv, .ref b, _, .menu sa sb, sd.str, 0, _, rfl, (htv.k kt3).s sg, (h40.k kt3).s sg, .inr ⟨sa, sb, sd, rfl, rfl, rfl⟩, tiv, by omega, fun z7 H7 s7 h7 => ?_⟩
          refine ⟨(by show 2 ≤ sizeLine; decide), fun j nj => ?_⟩
          have sj := Same.new (o := .tup [.ref g, z7]) nj
          rw [ex] at h7 ht3
          have s37 := sg.trans (s7.trans sj)
          have hj : Tp K _ (.ref j) (clDr (baseH x y sn n1 d1 n2 d2 ++ ext, sd.sel sa sb) (tre oF (invL (sts ++ [.mn sd])) sn rows top 0)) := .mk upd_same (.cons (hg.s (s7.trans sj)) (.cons (h7.s sj) .nil))
          exact els _ _ ⟨zt, .ref j, sts ++ [.mn sd], ext, sd.sel sa sb, _, _, kp.trans (kp2.trans (Kp.of (s3.trans s37))), hP2.s (s3.trans s37), ht3.s s37, hj, path_mn hpath, hen, fun h hh => by rw [htk]; exact List.mem_append_left _ (hein h hh), rfl⟩
  · rintro σ' H' ⟨kp, hP', cv, tv, sts, ext, g, x4, x5, x6, x7, x8, x9, hcv, htv, hpath, hen, hein, rfl⟩
    exact fin _ _ ⟨kp, hP', cv, tv, sts, ext, g, x4, x5, x6, x7, x8, x9, hcv, htv, hpath, hen, fun h hh => List.mem_of_mem_take (hein h hh), rfl⟩
end
end W81
namespace W81
open PySem PySem.Spec PyProof.Rows L2 HX
/-! ### claims that are mended -/
theorem find_nm {h : Hold} : ∀ {hs : List Hold}, (hs.map (·.1)).Nodup → h ∈ hs → hs.find? (fun u => decide (u.1 = h.1)) = some h
  | u :: hs, nd, hm => by
    rw [List.map_cons, List.nodup_cons] at nd
    rcases List.mem_cons.mp hm with rfl | hm
    · exact List.find?_cons_of_pos (p := fun w : Hold => decide (w.1 = h.1)) (decide_eq_true rfl)
    · rw [List.find?_cons_of_neg (by
        rw [decide_eq_false (fun e => nd.1 (by rw [e]; exact List.mem_map.mpr ⟨h, hm, rfl⟩))]
        decide)]
      exact find_nm nd.2 hm
theorem hold_eq {hs : List Hold} {u v : Hold} (nd : (hs.map (·.1)).Nodup) (hu : u ∈ hs) (hv : v ∈ hs) (e : u.1 = v.1) : u = v := by
  have h1 := find_nm nd hu
  have h2 := find_nm nd hv
  rw [e, h2] at h1
  cases h1
  rfl
theorem map_one {h : Hold} {m : Kd} : ∀ {hs : List Hold} {i : Nat}, (hs.map (·.1)).Nodup → hs[i]? = some h → (hs.map fun u => if u.1 = h.1 then (h.1, m, u.2.2) else u) = hs.take i ++ (h.1, m, h.2.2) :: hs.drop (i + 1)
  | [], i, nd, e => by simp at e
  | u :: hs, 0, nd, e => by
    cases e
    rw [List.map_cons, List.nodup_cons] at nd
    rw [List.map_cons, if_pos rfl, List.take_zero, List.nil_append, List.drop_succ_cons, List.drop_zero]
    congr 1
    have : ∀ v, v ∈ hs → (if v.1 = h.1 then (h.1, m, v.2.2) else v) = v := fun v hv => if_neg fun e => nd.1 (by rw [← e]; exact List.mem_map.mpr ⟨v, hv, rfl⟩)
    exact (List.map_congr_left this).trans (List.map_id _)
  | u :: hs, i + 1, nd, e => by
    rw [List.map_cons, List.nodup_cons] at nd
    have e : hs[i]? = some h := by simpa using e
    have ne : ¬ u.1 = h.1 := fun z => nd.1 (by rw [z]; exact List.mem_map.mpr ⟨h, List.mem_of_getElem? e, rfl⟩)
    rw [List.map_cons, if_neg ne, map_one nd.2 e, List.take_succ_cons, List.drop_succ_cons]
    rfl
section
variable {P : Program} {w : World} {K : PySem.W.Frag} {mg : Str → Option Value} {base : Heap}
theorem six_to {n j : Nat} (h : j < n) : ¬ HT.sIx n n (some (j : Int)) = n := by
  rw [HT.sIx_nat]
  omega
theorem six_from {n j : Nat} (h : j < n) : ¬ HT.sIx n 0 (some ((j : Int) + 1)) = 0 := by
  rw [show (j : Int) + 1 = ((j + 1 : Nat) : Int) by omega, HT.sIx_nat]
  omega
theorem cut_to {xs : List V} {j : Nat} (h : j < xs.length) : cutV xs none (some (j : Int)) = xs.take j := by
  unfold cutV
  rw [HT.sIx_nat, HT.sIx_none, List.drop_zero, Nat.sub_zero, Nat.min_eq_left (by omega)]
theorem cut_from {xs : List V} {j : Nat} (h : j < xs.length) : cutV xs (some ((j : Int) + 1)) none = xs.drop (j + 1) := by
  unfold cutV
  rw [show (j : Int) + 1 = ((j + 1 : Nat) : Int) by omega, HT.sIx_nat, HT.sIx_none, Nat.min_eq_left (by omega)]
  exact List.take_of_length_le (by rw [List.length_drop]; omega)
theorem cat_tp {H : Hp} {a b : Addr} {xs ys : List V} {ds es : List PyData} {Q : VK} (ha : SqT K H a xs) (hb : SqT K H b ys) (h1 : TpAll K H xs ds) (h2 : TpAll K H ys es) (hz : xs.length + ys.length ≤ 100000) (q : ∀ z H', Same H H' → Tp K H' z (.tuple (ds ++ es)) → Q z H') : rCatA K (.ref a) (.ref b) H Q := by
  refine ⟨a, b, xs, ys, rfl, rfl, ha, hb, sz1 hz, fun e => ?_, fun _ e => ?_, fun _ _ p np => ?_⟩
  · subst e
    have e2 : ds = [] := by
      cases h1
      rfl
    rw [e2] at q
    exact q _ _ (Same.refl _) (.tup hb h2)
  · subst e
    have e2 : es = [] := by
      cases h2
      rfl
    rw [e2, List.append_nil] at q
    exact q _ _ (Same.refl _) (.tup ha h1)
  · have s := Same.new (o := .tup (xs ++ ys)) np
    exact q _ _ s (.mk upd_same ((h1.s s).app (h2.s s)))
/-- the kinds of the holds of the last claim -/
def KdB : Kd → Prop
  | .once => False
  | .box n d => 1 ≤ n ∧ n ≤ 600 ∧ d ≤ 100
theorem kdb_box {m : Kd} (h : KdB m) : ∃ n d, m = .box n d ∧ 1 ≤ n ∧ n ≤ 600 ∧ d ≤ 100 := by
  cases m with
  | once => exact h.elim
  | box n d => exact ⟨n, d, rfl, h⟩
theorem kdb_sm {m : Kd} (h : KdB m) : m.Sm := by
  obtain ⟨n, d, rfl, h1, h2, h3⟩ := kdb_box h
  exact ⟨h1, by omega, by omega⟩
structure Hds (x y : Str) (s : Sn) (n1 d1 n2 d2 : Nat) (hs : List Hold) : Prop where
  nd : (hs.map (·.1)).Nodup
  ok : ∀ h, h ∈ hs → NameOk h.1 ∧ KdB h.2.1 ∧ h.2.2 = s
  hx : (x, .box n1 d1, s) ∈ hs
  hy : (y, .box n2 d2, s) ∈ hs
  ln : hs.length ≤ 30
  b1 : n1 ≤ 400
  b2 : n2 ≤ 400
def spMended (K : PySem.W.Frag) (D : Nat) : Sp := fun vs H Q _ => ∃ (p l dv : Addr) (cv tv : V) (xs : List V) (x y : Str) (s : Sn) (rows : List Row) (top : Rf) (n1 d1 n2 d2 : Nat) (hs : List Hold) (cx cy : V), vs = [.ref p, cv, tv, .ref l, kV top, .ref dv] ∧ PoolAt H p ∧
  Tp K H cv (clmD (hs, s)) ∧ Tp K H tv (tre oF oF s rows top 0).dat ∧ H l = some (.lst xs) ∧ p ≠ l ∧ TpAll K H xs (rows.map (rowDt s)) ∧ H dv = some (.dK [(nmR x, cx), (nmR y, cy)]) ∧ Tp K H cx (cntD (nU x rows + tU x top) (nD x rows)) ∧ Tp K H cy (cntD (nU y rows + tU y top) (nD y rows)) ∧
  Hds x y s n1 d1 n2 d2 hs ∧ Twr x y s rows top ∧ 70 ≤ D ∧ ∀ H', Q (.bl true) H'
theorem clm_shw {x y : Str} {s : Sn} {rows : List Row} {top : Rf} (tw : Twr x y s rows top) {c : Clm} (h1 : ∀ h, h ∈ c.1 → NameOk h.1 ∧ h.2.1.Sm ∧ h.2.2 = s) (h2 : c.2 = s) (hl : c.1.length ≤ 40) : Shw (clmD c) 30 100000 := by
  have wdp := tw.dp
  have wsz := tw.sz
  refine (shw_clm (c := c) (D := s.dp) (Z := s.sz) (fun u hu => ?_) (by rw [h2]; exact tw.sm) (by rw [h2]; exact Nat.le_refl _) (by rw [h2]; exact Nat.le_refl _)).mono (by omega) ?_
  · obtain ⟨a, b, e⟩ := h1 u hu
    exact ⟨a, b, by rw [e]; exact tw.sm, by rw [e]; exact Nat.le_refl _, by rw [e]; exact Nat.le_refl _⟩
  · have := Nat.mul_le_mul (show c.1.length + 1 ≤ 41 by omega) (show s.sz * 60 + 40 ≤ 39 * 60 + 40 by omega)
    omega
theorem Shw.wide {d : PyData} {a b : Nat} (h : Shw d a b) (h1 : a ≤ 60 := by decide) (h2 : b ≤ 1048576 := by decide) : Shw d 60 1048576 := h.mono h1 h2
theorem nU_zero {z : Str} : ∀ {rows : List Row}, (∀ p, p ∈ rows → p.2 ≠ nmR z) → nU z rows = 0
  | [], _ => rfl
  | (m, r) :: rows, h => by
    show (if r = nmR z then m.n else 0) + nU z rows = 0
    rw [if_neg (h (m, r) (List.mem_cons_self ..)), nU_zero fun p hp => h p (List.mem_cons_of_mem _ hp)]
theorem lw_val {x y : Str} {s : Sn} {rows : List Row} {top : Rf} (h : TwS x y 0 none rows top) (z : Str) (u : Sn) : (((tre oF oF s rows top 0).cn 0 (nmR z)).map fun n => ((z, Kd.box n.m n.d, u) : Hold)) = if 0 < nU z rows + tU z top then some (z, Kd.box (nU z rows + tU z top) (nD z rows), u) else none := by
  obtain ⟨e1, e2⟩ := tow_cn (s := s) h z
  generalize (tre oF oF s rows top 0).cn 0 (nmR z) = o at e1 e2
  cases o with
  | none =>
    have e2 : false = decide (0 < nU z rows + tU z top) := e2
    rw [if_neg (fun w => by rw [decide_eq_true w] at e2; cases e2)]
    rfl
  | some c =>
    have e2 : true = decide (0 < nU z rows + tU z top) := e2
    rw [if_pos (of_decide_eq_true e2.symm)]
    have j1 : c.m = nU z rows + tU z top := congrArg Prod.fst e1
    have j2 : c.d = nD z rows := congrArg Prod.snd e1
    show some (z, Kd.box c.m c.d, u) = _
    rw [j1, j2]
theorem nU_le {x y z : Str} : ∀ {rows : List Row} {top : Rf} {k : Nat} {w : Option Nat}, TwS x y k w rows top → nU z rows ≤ 3 * rows.length ∧ nD z rows ≤ 2
  | [], top, k, w, h => ⟨Nat.le_refl _, Nat.zero_le _⟩
  | (m, r) :: rows, top, k, w, h => by
    have key : m.n ≤ 3 ∧ m.d ≤ 2 ∧ nU z rows ≤ 3 * rows.length ∧ nD z rows ≤ 2 := by
      rcases h with ⟨rfl, _, h2⟩ | ⟨⟨n, d, rfl, _, h3, h4⟩, _, h2⟩
      · exact ⟨by decide, by decide, nU_le h2⟩
      · exact ⟨h3, h4, nU_le h2⟩
    obtain ⟨a1, a2, a3, a4⟩ := key
    rw [List.length_cons]
    constructor
    · show (if r = nmR z then m.n else 0) + nU z rows ≤ _
      split <;> omega
    · show max (if r = nmR z then m.d else 0) (nD z rows) ≤ 2
      split <;> omega
theorem tU_le {z : Str} {top : Rf} : tU z top ≤ 1 := by
  unfold tU
  split <;> omega
theorem ok_law_mended {k D : Nat} (T : Tx K mg w) (G_law_next : FnOk P w K mg base CX0 k T.a_law_next T.d_law_next ["pool", "many"] spNext) (G_law_same : FnOkG P w K mg base CX0 k T.a_law_same T.d_law_same ["told", "due"] (spSame K))
    (G_with_room : FnOk P w K mg base CX0 k T.a_with_room T.d_with_room ["claim", "name", "kind"] (spWithRoom K)) (G_pooled_holds : FnOk P w K mg base CX0 k T.a_pooled_holds T.d_pooled_holds ["claim", "derivation", "first", "second"] (spPooledHolds K D))
    (G_law_renamed : FnOk P w K mg base CX0 k T.a_law_renamed T.d_law_renamed ["rows", "top", "old", "new"] (spRenamed K)) (G_least_kinds : FnOk P w K mg base CX0 k T.a_least_kinds T.d_least_kinds ["claim", "derivation"] (spLeast K D)) :
    FnOkG P w K mg base CX0 (k + 1) T.a_law_mended T.d_law_mended ["pool", "claim", "tree", "rows", "top", "counts_v"] (spMended K D) := by
  refine HX.Fun.okG T.F_law_mended sc_law_mended (fun vs H Q E h => ?_) (fun cdv A outer s H vs Q E gd hr h => ?_)
  · obtain ⟨_, _, _, _, _, _, _, _, _, _, _, _, _, _, _, _, _, _, rfl, _⟩ := h
    rfl
  obtain ⟨p, l, dv, cv, tv, xs, x, y, sn, rows, top, n1, d1, n2, d2, hs, cx, cy, rfl, hP, hcv, htv, hl, hpl, hxs, hdv, hcx, hcy, hds, tw, hD, q⟩ := h
  have hu := hu_of hr
  refine ⟨_, PSs.nox (pss_cons (ps_set (i := 6) sc_law_mended.nd rfl (Or.inl rfl) (pe_ix (ixT K) (pv 1) pe_int (fun _ _ => rfl)))
      (pss_cons (ps_set (i := 7) sc_law_mended.nd rfl (Or.inl rfl) (pe_call G_law_next hr (by rfl) T.m_law_next T.F_law_next.kp T.b_law_next .nil pass0 (pa_cons (pv 0) (pa_cons (pe_callB (lenS K) (by rfl) T.z_len PySem.boot_len (pa_cons (pv 6) pa_nil)) pa_nil))))
      (pss_cons (ps_asg (pe_ix (ixT K) (pv 6) (pv 7) (fun _ _ => rfl)) (tupK (n := 3) K rfl (pgs_cons (pg_name (i := 8) sc_law_mended.nd rfl (Or.inl rfl)) (pgs_cons (pg_name (i := 9) sc_law_mended.nd rfl (Or.inl rfl)) (pgs_cons (pg_name (i := 10) sc_law_mended.nd rfl (Or.inl rfl)) pgs_nil)))))
      (pss_cons (ps_set (i := 11) sc_law_mended.nd rfl (Or.inl rfl) (pe_tup (pa_cons (pe_callB (call_min2 rfl) (by rfl) T.z_min (by decide +kernel) (pa_cons pe_int (pa_cons (pe_op op_add (pe_ix (ixT K) (pv 9) pe_int (fun _ _ => rfl)) (pe_call G_law_next hr (by rfl) T.m_law_next T.F_law_next.kp T.b_law_next .nil pass0 (pa_cons (pv 0) (pa_cons pe_int pa_nil)))) pa_nil))) (pa_cons (pe_callB (call_min2 rfl) (by rfl) T.z_min (by decide +kernel) (pa_cons pe_int (pa_cons (pe_op op_add (pe_ix (ixT K) (pv 9) pe_int (fun _ _ => rfl)) (pe_call G_law_next hr (by rfl) T.m_law_next T.F_law_next.kp T.b_law_next .nil pass0 (pa_cons (pv 0) (pa_cons pe_int pa_nil)))) pa_nil))) pa_nil))))
      (pss_cons (ps_set (i := 12) sc_law_mended.nd rfl (Or.inl rfl) (pe_tup (pa_cons (pe_op (catA K) (pe_op (catA K) (pe_slice (slT K) (pv 6) po_none (po_some (pv 7))) (pe_tup (pa_cons (pe_tup (pa_cons (pv 8) (pa_cons (pv 11) (pa_cons (pv 10) pa_nil)))) pa_nil))) (pe_slice (slT K) (pv 6) (po_some (pe_op op_add (pv 7) pe_int)) po_none)) (pa_cons (pe_ix (ixT K) (pv 1) pe_int (fun _ _ => rfl)) pa_nil))))
      (pss_cons (ps_if (pt_not (pt_val (pe_callG gd G_law_same hr (by rfl) T.m_law_same T.F_law_same.kp T.b_law_same pass0 (pa_cons (pe_call G_with_room hr (by rfl) T.m_with_room T.F_with_room.kp T.b_with_room .nil pass0 (pa_cons (pv 1) (pa_cons (pv 8) (pa_cons (pv 11) pa_nil)))) (pa_cons (pv 12) pa_nil))))) (pss_one (ps_ret pe_bl)) pss_nil)
      (pss_cons (ps_asg (pe_lock (pe_lc (own := [("name", 8)]) (g := gName 8) (by rfl) sc_law_mended.nd (pi_keys (pv 5)) (blkOk_by (own := [("name", 8)]) (N := ["pool", "claim", "tree", "rows", "top", "counts_v", "holds", "at", "name", "mode", "sentence", "more", "due", "x", "y", "left", "row", "other", "least", "hold"]) (sc := defScope s_law_mended) (by decide +kernel)) (fun _ _ _ _ _ => (pg_name (i := 8) sc_law_mended.nd rfl (Or.inl rfl))) (fun _ _ _ _ _ => pts_nil) (fun _ _ _ _ _ => (pv 8)))) (unl (n := 2) K rfl (pgs_cons (pg_name (i := 13) sc_law_mended.nd rfl (Or.inl rfl)) (pgs_cons (pg_name (i := 14) sc_law_mended.nd rfl (Or.inr rfl)) pgs_nil))))
      (pss_cons (ps_set (i := 15) sc_law_mended.nd rfl (Or.inl rfl) (pe_lst pa_nil))
      (pss_cons (ps_for PassesOwn.never rfl (piT K (pv 6)) (pg_name (i := 16) sc_law_mended.nd rfl (Or.inl rfl)) (pss_one (ps_if (pt_cmpR op_eq (pe_ix (ixT K) (pv 16) pe_int (fun _ _ => rfl)) (pv 13) (nomark _)) (pss_cons (ps_set (i := 17) sc_law_mended.nd rfl (Or.inl rfl) (pe_ix (ixT K) (pe_ix (ixL K) (pe_lc (own := [("hold", 19)]) (g := gName 19) (by rfl) sc_law_mended.nd (piT K (pv 6)) (blkOk_by (own := [("hold", 19)]) (N := ["pool", "claim", "tree", "rows", "top", "counts_v", "holds", "at", "name", "mode", "sentence", "more", "due", "x", "y", "left", "row", "other", "least", "hold"]) (sc := defScope s_law_mended) (by decide +kernel)) (fun _ _ _ _ _ => (pg_name (i := 19) sc_law_mended.nd rfl (Or.inl rfl))) (fun _ _ _ _ _ => (pts_one (pt_cmpR op_eq (pe_ix (ixT K) (pv 19) pe_int (fun _ _ => rfl)) (pv 14) (nomark _)))) (fun _ _ _ _ _ => (pv 19))) pe_int (fun _ _ => rfl)) pe_int (fun _ _ => rfl)))
      (pss_one (ps_expr (pe_bm PySem.F.plainAttrs_list PySem.F.slot_list_append PySem.F.type_list_append mt_append (pv 15) (pa_cons (pe_tup (pa_cons (pv 13) (pa_cons (pe_tup (pa_cons (pe_op op_add (pe_ix (ixT K) (pe_ix (ixT K) (pv 16) pe_int (fun _ _ => rfl)) pe_int (fun _ _ => rfl)) (pe_ix (ixT K) (pv 17) pe_int (fun _ _ => rfl))) (pa_cons (pe_callB (call_max2 rfl) (by rfl) T.z_max (by decide +kernel) (pa_cons (pe_ix (ixT K) (pe_ix (ixT K) (pv 16) pe_int (fun _ _ => rfl)) pe_int (fun _ _ => rfl)) (pa_cons (pe_ix (ixT K) (pv 17) pe_int (fun _ _ => rfl)) pa_nil))) pa_nil))) (pa_cons (pe_ix (ixT K) (pv 16) pe_int (fun _ _ => rfl)) pa_nil)))) pa_nil))))) (pss_one (ps_if (pt_cmpR op_ne (pe_ix (ixT K) (pv 16) pe_int (fun _ _ => rfl)) (pv 14) (nomark _)) (pss_one (ps_expr (pe_bm PySem.F.plainAttrs_list PySem.F.slot_list_append PySem.F.type_list_append mt_append (pv 15) (pa_cons (pv 16) pa_nil)))) pss_nil)))))
      (pss_cons (ps_if (pt_not (pt_val (pe_callG gd G_law_same hr (by rfl) T.m_law_same T.F_law_same.kp T.b_law_same pass0 (pa_cons (pe_call G_pooled_holds hr (by rfl) T.m_pooled_holds T.F_pooled_holds.kp T.b_pooled_holds .nil pass0 (pa_cons (pv 1) (pa_cons (pv 2) (pa_cons (pv 13) (pa_cons (pv 14) pa_nil))))) (pa_cons (pe_tup (pa_cons (pe_tup (pa_cons (pe_callTy (tupleS K) (by rfl) T.z_tuple (by decide +kernel) (pa_cons (pv 15) pa_nil)) (pa_cons (pe_ix (ixT K) (pv 1) pe_int (fun _ _ => rfl)) pa_nil))) (pa_cons (pe_call G_law_renamed hr (by rfl) T.m_law_renamed T.F_law_renamed.kp T.b_law_renamed .nil pass0 (pa_cons (pv 3) (pa_cons (pv 4) (pa_cons (pv 14) (pa_cons (pv 13) pa_nil))))) pa_nil))) pa_nil))))) (pss_one (ps_ret pe_bl)) pss_nil)
      (pss_cons (ps_setLc (i := 18) (own := [("row", 16)]) (g := gName 16) (by rfl) sc_law_mended.nd rfl rfl (sw_true rfl rfl rfl (by decide +kernel)) (piT K (pv 6)) (blkOk_by (own := [("row", 16)]) (N := ["pool", "claim", "tree", "rows", "top", "counts_v", "holds", "at", "name", "mode", "sentence", "more", "due", "x", "y", "left", "row", "other", "least", "hold"]) (sc := defScope s_law_mended) (by decide +kernel)) (fun _ _ _ _ _ => (pg_name (i := 16) sc_law_mended.nd rfl (Or.inl rfl))) (fun _ _ _ _ _ => (pts_one (pt_cmpR op_gt (pe_ix (ixT K) (pe_dget2 hu (pv 5) (pe_ix (ixT K) (pv 16) pe_int (fun _ _ => rfl)) (pe_tup (pa_cons pe_int (pa_cons pe_int pa_nil))) ⟨rfl, rfl, rfl, rfl⟩) pe_int (fun _ _ => rfl)) pe_int (nomark _)))) (fun _ _ _ _ _ => (pe_tup (pa_cons (pe_ix (ixT K) (pv 16) pe_int (fun _ _ => rfl)) (pa_cons (pe_dget hu (pv 5) (pe_ix (ixT K) (pv 16) pe_int (fun _ _ => rfl)) (fun _ _ => rfl)) (pa_cons (pe_ix (ixT K) (pv 16) pe_int (fun _ _ => rfl)) pa_nil))))))
      (pss_one (ps_ret (pe_callG gd G_law_same hr (by rfl) T.m_law_same T.F_law_same.kp T.b_law_same pass0 (pa_cons (pe_call G_least_kinds hr (by rfl) T.m_least_kinds T.F_least_kinds.kp T.b_least_kinds .nil pass0 (pa_cons (pv 1) (pa_cons (pv 2) pa_nil))) (pa_cons (pe_tup (pa_cons (pe_callTy (tupleS K) (by rfl) T.z_tuple (by decide +kernel) (pa_cons (pv 18) pa_nil)) (pa_cons (pe_ix (ixT K) (pv 1) pe_int (fun _ _ => rfl)) pa_nil))) pa_nil)))))))))))))))), ?_⟩
  have hcv0 := hcv
  obtain ⟨a, ha, hvs, gv, rfl, h1, h2, h3, h4⟩ := clm_at hcv
  have len := h3.len
  rw [List.length_map] at len
  change hvs.length = hs.length at len
  have hslen := hds.ln
  have hpos : 0 < hs.length := List.length_pos_of_mem hds.hx
  obtain ⟨l0, hp0, hl0⟩ := id hP
  refine ⟨_, rfl, a, _, 0, _, rfl, rfl, h1, rfl, ?_⟩
  refine ⟨_, rfl, _, rfl, ha, _, rfl, .inr h2, p, l0, _, rfl, hp0, hl0, by omega, by omega, fun at_ l1 hl1 hat => ?_⟩
  have kp1 : Kp (only1 p) H (upd H p (.lst l1)) := Kp.refl.put rfl
  have hP1 : PoolAt (upd H p (.lst l1)) p := ⟨l1, upd_same, hl1⟩
  generalize upd H p (.lst l1) = H1 at kp1 hP1 ⊢
  have kt1 := hP.k kp1
  have hat2 : at_ < hs.length := by omega
  obtain ⟨h, hh⟩ : ∃ h, hs[at_]? = some h := ⟨_, List.getElem?_eq_getElem hat2⟩
  have hmem := List.mem_of_getElem? hh
  obtain ⟨hn, hk, hse⟩ := hds.ok h hmem
  obtain ⟨hv, hhv, hht⟩ := (h3.k kt1).get (i := at_) (d := holdD h) (by rw [List.getElem?_map, hh]; rfl)
  obtain ⟨b, mv, sv, rfl, hb, hm, hsn⟩ := hold_at hht
  obtain ⟨nm, m, ss⟩ := h
  obtain ⟨n, d, rfl, k1, k2, k3⟩ := kdb_box hk
  obtain ⟨mc, rfl, hmc⟩ := kd_box hm
  have hse : ss = sn := hse
  subst hse
  refine ⟨_, rfl, _, rfl, ha, _, _, _, rfl, rfl, kt1.tup h2, atI_nat hhv, ?_⟩
  refine ⟨b, _, rfl, hb, rfl, _, _, rfl, _, _, rfl, _, _, rfl, rfl, ?_⟩
  obtain ⟨l2, hp2, hl2⟩ := id hP1
  refine ⟨_, rfl, mc, _, 0, _, rfl, rfl, hmc, rfl, _, rfl, p, l2, 3, rfl, hp2, hl2, by decide, by decide, fun a1 l3 hl3 ha1 => ?_⟩
  have kp3 : Kp (only1 p) H1 (upd H1 p (.lst l3)) := Kp.refl.put rfl
  have hP3 : PoolAt (upd H1 p (.lst l3)) p := ⟨l3, upd_same, hl3⟩
  generalize upd H1 p (.lst l3) = H3 at kp3 hP3 ⊢
  refine ⟨_, _, rfl, rfl, _, _, rfl, ?_⟩
  have kt3 := hP1.k kp3
  obtain ⟨l4, hp4, hl4⟩ := id hP3
  refine ⟨_, rfl, mc, _, 1, _, rfl, rfl, kt3.tup hmc, rfl, _, rfl, p, l4, 3, rfl, hp4, hl4, by decide, by decide, fun a2 l5 hl5 ha2 => ?_⟩
  have kp5 : Kp (only1 p) H3 (upd H3 p (.lst l5)) := Kp.refl.put rfl
  have hP5 : PoolAt (upd H3 p (.lst l5)) p := ⟨l5, upd_same, hl5⟩
  generalize upd H3 p (.lst l5) = H5 at kp5 hP5 ⊢
  refine ⟨_, _, rfl, rfl, _, _, rfl, ?_⟩
  have kt5 : KpT (only1 p) H1 H5 := hP1.k (kp3.trans kp5)
  have kpA : Kp (only1 p) H H5 := kp1.trans (kp3.trans kp5)
  have ktA := hP.k kpA
  refine ⟨(by show 2 ≤ sizeLine; decide), fun e ne => ?_⟩
  have em1 : V.int (if (n : Int) + (a1 : Int) < 600 then (n : Int) + (a1 : Int) else 600) = iv (min 600 (n + a1)) := by
    show V.int _ = V.int _
    congr 1
    split <;> omega
  have em2 : V.int (if (d : Int) + (a2 : Int) < 100 then (d : Int) + (a2 : Int) else 100) = iv (min 100 (d + a2)) := by
    show V.int _ = V.int _
    congr 1
    split <;> omega
  rw [em1, em2]
  have se := Same.new (o := .tup [iv (min 600 (n + a1)), iv (min 100 (d + a2))]) ne
  have he : Tp K (upd H5 e (.tup [iv (min 600 (n + a1)), iv (min 100 (d + a2))])) (.ref e) (Kd.box (min 600 (n + a1)) (min 100 (d + a2))).dat := .mk upd_same (.cons (.int _) (.cons (.int _) .nil))
  have hPe := hP5.new (o := .tup [iv (min 600 (n + a1)), iv (min 100 (d + a2))]) ne
  generalize upd H5 e (.tup [iv (min 600 (n + a1)), iv (min 100 (d + a2))]) = H6 at se he hPe ⊢
  have g1 : n ≤ min 600 (n + a1) ∧ 1 ≤ min 600 (n + a1) ∧ min 600 (n + a1) < 1000 := by omega
  have g2 : d ≤ min 100 (d + a2) ∧ min 100 (d + a2) < 1000 := by omega
  generalize min 600 (n + a1) = n' at he g1 ⊢
  generalize min 100 (d + a2) = d' at he g2 ⊢
  have kp6 : Kp (only1 p) H H6 := kpA.trans (Kp.of se)
  have kt6 := hP.k kp6
  have kt16 := hP1.k ((kp3.trans kp5).trans (Kp.of se))
  have h26 := kt6.tup h2
  have hsn6 := hsn.k kt16
  have h36 := h3.k kt6
  have hats : at_ < hvs.length := by omega
  refine ⟨_, rfl, _, rfl, _, rfl, ha, _, rfl, h26, (fun z => six_to hats z.2), fun q1 nq1 => ?_⟩
  rw [cut_to hats]
  have s7 : Same H6 (upd H6 q1 (.tup (hvs.take at_))) := Same.new nq1
  have hq1 : SqT K (upd H6 q1 (.tup (hvs.take at_))) q1 (hvs.take at_) := at_t upd_same
  generalize upd H6 q1 (.tup (hvs.take at_)) = H7 at s7 hq1 ⊢
  refine ⟨_, rfl, _, rfl, _, rfl, (by show 3 ≤ sizeLine; decide), fun q2 nq2 => ?_⟩
  have s8 := Same.new (o := .tup [.str nm, .ref e, sv]) nq2
  have hq2 : Tp K (upd H7 q2 (.tup [.str nm, .ref e, sv])) (.ref q2) (holdD (nm, Kd.box n' d', ss)) := .mk upd_same (.cons (.str _) (.cons (he.s (s7.trans s8)) (.cons (hsn6.s (s7.trans s8)) .nil)))
  generalize upd H7 q2 (.tup [.str nm, .ref e, sv]) = H8 at s8 hq2 ⊢
  refine ⟨(by show 1 ≤ sizeLine; decide), fun q3 nq3 => ?_⟩
  have s9 := Same.new (o := .tup [.ref q2]) nq3
  have hq3 : SqT K (upd H8 q3 (.tup [.ref q2])) q3 [.ref q2] := at_t upd_same
  generalize upd H8 q3 (.tup [.ref q2]) = H9 at s9 hq3 ⊢
  have s79 := s7.trans (s8.trans s9)
  have t1 : TpAll K H9 (hvs.take at_) ((hs.take at_).map holdD) := by
    rw [List.map_take]
    exact (h36.s s79).take at_
  refine cat_tp ((kpT_same (s8.trans s9)).tup hq1) hq3 t1 (.cons (hq2.s s9) .nil) (by rw [List.length_take]; show _ + 1 ≤ _; omega) fun z1 H10 s10 hz1 => ?_
  obtain ⟨z1a, z1x, rfl, hz1q, hz1t⟩ := Tp.tup_ hz1
  have s610 := s79.trans s10
  refine ⟨_, rfl, _, rfl, _, _, rfl, rfl, _, rfl, ha, _, rfl, (kpT_same s610).tup h26, (fun z => six_from hats z.1), fun q4 nq4 => ?_⟩
  rw [cut_from hats]
  have s11 : Same H10 (upd H10 q4 (.tup (hvs.drop (at_ + 1)))) := Same.new nq4
  have hq4 : SqT K (upd H10 q4 (.tup (hvs.drop (at_ + 1)))) q4 (hvs.drop (at_ + 1)) := at_t upd_same
  generalize upd H10 q4 (.tup (hvs.drop (at_ + 1))) = H11 at s11 hq4 ⊢
  have s611 := s610.trans s11
  have t2 : TpAll K H11 (hvs.drop (at_ + 1)) ((hs.drop (at_ + 1)).map holdD) := by
    rw [List.map_drop]
    exact (h36.s s611).drop (at_ + 1)
  have z1len := hz1t.len
  refine cat_tp ((kpT_same s11).tup hz1q) hq4 (hz1t.s s11) t2 (by rw [z1len, List.length_append, List.length_map, List.length_take, List.length_drop]; show _ + 1 + _ ≤ _; omega) fun z2 H12 s12 hz2 => ?_
  have s612 := s611.trans s12
  refine ⟨_, rfl, a, _, 1, _, rfl, rfl, (kpT_same s612).tup (kt6.tup h1), rfl, (by show 2 ≤ sizeLine; decide), fun q5 nq5 => ?_⟩
  have s13 := Same.new (o := .tup [z2, gv]) nq5
  have hdue : Tp K (upd H12 q5 (.tup [z2, gv])) (.ref q5) (clmD (wkC (hs, ss) nm (.box n' d'))) := by
    have e9 : (wkC (hs, ss) nm (.box n' d')).1 = hs.take at_ ++ (nm, .box n' d', ss) :: hs.drop (at_ + 1) := map_one (h := (nm, .box n d, ss)) hds.nd hh
    unfold clmD
    rw [e9, List.map_append, List.map_cons]
    have hz3 := hz2.s s13
    rw [List.append_assoc] at hz3
    exact .mk upd_same (.cons hz3 (.cons (((h4.k kt6).s s612).s s13) .nil))
  generalize upd H12 q5 (.tup [z2, gv]) = H13 at s13 hdue ⊢
  have s613 := s612.trans s13
  have shold : ∀ u, u ∈ hs → NameOk u.1 ∧ u.2.1.Sm ∧ u.2.2 = ss := fun u hu => by
    obtain ⟨a1, a2, a3⟩ := hds.ok u hu
    exact ⟨a1, kdb_sm a2, a3⟩
  have sh1 : Shw (clmD (wkC (hs, ss) nm (.box n' d'))) 30 100000 := clm_shw tw (fun u hu => by
    obtain ⟨v, hv, rfl⟩ := List.mem_map.mp hu
    obtain ⟨b1, b2, b3⟩ := shold v hv
    by_cases e : v.1 = nm
    · rw [if_pos e]
      exact ⟨hn, ⟨g1.2.1, g1.2.2, g2.2⟩, b3⟩
    · rw [if_neg e]
      exact ⟨b1, b2, b3⟩) rfl (by show (hs.map _).length ≤ 40; rw [List.length_map]; omega)
  refine ⟨_, rfl, _, rfl, _, rfl, ?_⟩
  refine ⟨.ref a, .ref e, (hs, ss), nm, n', d', n, d, (nm, .box n d, ss), rfl, (hcv0.k kt6).s s613, he.s s613, by show hs.length ≤ 1000; omega, find_nm hds.nd hmem, rfl, g1.1, g2.1, fun z14 H14 s14 hz14 => ?_⟩
  refine ⟨_, rfl, z14, .ref q5, _, 1048576, rfl, hz14, hdue.s s14, sh1.wide, Nat.le_refl _, true, rfl, iteF ?_⟩
  have s614 := s613.trans s14
  have kp14 : Kp (only1 p) H H14 := kp6.trans (Kp.of s614)
  have kt14 := hP.k kp14
  have hcv14 := hcv0.k kt14
  have htv14 := htv.k kt14
  have h114 := kt14.tup h1
  have h214 := kt14.tup h2
  have h314 := h3.k kt14
  have h414 := h4.k kt14
  have hxs14 := hxs.k kt14
  have hl14 := kp14 _ _ (Ne.symm hpl) hl
  have hcx14 := hcx.k kt14
  have hcy14 := hcy.k kt14
  have hdv14 : H14 dv = some (.dK [(nmR x, cx), (nmR y, cy)]) := kp14 _ _ (ne_of hdv hp0 (by intro z; cases z)) hdv
  clear hz14 hdue hz2 hz1 hq1 hq2 hq3 hq4 t1 t2 s7 s8 s9 s79 s10 s610 s11 s611 s12 s612 s13 s613 s14 s614 h26 h36 hsn6 hz1q hz1t
  refine ⟨dv, _, hdv14, trivial, fun od => ⟨_, rfl, dv, od, rfl, .inl ⟨_, upd_same, fun D1 nD1 => ?_⟩⟩⟩
  refine lc_it walk_keys (fun i H' => Same (upd H14 dv (.frz od (.dK [(nmR x, cx), (nmR y, cy)]))) H' ∧ H' D1 = some (.lst ([V.str x, V.str y].take i))) ⟨Same.new nD1, upd_same⟩ (fun i H' _ z => z.1 _ _ upd_same) ?_ ?_
  · rintro i v H' H'' hi ⟨sm, hD⟩ ⟨rfl, kk, u, e, rfl⟩
    refine ⟨rfl, ?_⟩
    dsimp only [tYes]
    rw [if_pos rfl]
    refine ⟨_, rfl, _, hD, sz2 (by rw [List.length_take]; show min i 2 < _; omega), Same.put sm nD1, ?_⟩
    rw [upd_same]
    rcases two_at e with ⟨rfl, h⟩ | ⟨rfl, h⟩
    · cases h
      rfl
    · cases h
      rfl
  rintro H' ⟨smf, hD1⟩
  have s15 := same_unlock hdv14 smf
  have hfz := smf _ _ upd_same
  have hdv15 : (upd H' dv (.dK [(nmR x, cx), (nmR y, cy)])) dv = some (.dK [(nmR x, cx), (nmR y, cy)]) := upd_same
  have hD1' : (upd H' dv (.dK [(nmR x, cx), (nmR y, cy)])) D1 = some (.lst [V.str x, V.str y]) := by
    rw [upd_ne (fun e => by rw [e, hfz] at hD1; cases hD1)]
    exact hD1
  refine ⟨hfz, ?_⟩
  generalize upd H' dv (.dK [(nmR x, cx), (nmR y, cy)]) = H15 at s15 hdv15 hD1' ⊢
  refine ⟨D1, _, rfl, at_l hD1', rfl, _, _, rfl, _, _, rfl, rfl, ?_⟩
  refine ⟨(by show 0 ≤ sizeLine; decide), fun D2 nD2 => ?_⟩
  have s16 : Same H15 (upd H15 D2 (.lst [])) := Same.new nD2
  have h215 := (kpT_same s15).tup h214
  have h315 := h314.s s15
  have hdvD2 : ∀ H9, Same H15 H9 → H9 dv = some (.dK [(nmR x, cx), (nmR y, cy)]) := fun H9 s9 => s9 _ _ hdv15
  refine ⟨_, rfl, ha, rfl, ⟨hvs, (kpT_same s16).tup h215⟩, ?_⟩
  refine for_tup (xs := hvs) (fun i σ' H' => Same H15 H' ∧ ∃ (ys : List V) (x16 x17 : Option V), H' D2 = some (.lst ys) ∧ TpAll K H' ys ((((hs.take i).filter fun h => !decide (h.1 = y)).map fun h => if h.1 = x then (x, Kd.box (n1 + n2) (max d1 d2), h.2.2) else h).map holdD) ∧
    σ' = [some (.ref p), some (.ref a), some tv, some (.ref l), some (kV top), some (.ref dv), some (.ref ha), some (.int (at_ : Int)), some (.str nm), some (.ref mc), some sv, some (.ref e), some (.ref q5), some (.str x), some (.str y), some (.ref D2), x16, x17, none, none]) ⟨s16, [], none, none, upd_same, .nil, rfl⟩ (fun i σ' H' _ z => (kpT_same z.1).tup h215) ?_ ?_
  · rintro i vv σ' H' hx ⟨sm, ys, x16, x17, hD, hys, rfl⟩
    have hi : i < hvs.length := (List.getElem?_eq_some_iff.mp hx).1
    obtain ⟨dd, hd, hxd⟩ := h315.getL hx
    rw [List.getElem?_map] at hd
    cases eu : hs[i]? with
    | none => rw [eu] at hd; cases hd
    | some u =>
      rw [eu] at hd
      cases hd
      have humem := List.mem_of_getElem? eu
      have ht : hs.take (i + 1) = hs.take i ++ [u] := by rw [List.take_add_one, eu]; rfl
      have hy' := hxd.s sm
      obtain ⟨ub, um, us, rfl, hub, hum, hus⟩ := hold_at hy'
      have ylen := hys.len
      rw [List.length_map, List.length_map] at ylen
      have yl2 := List.length_filter_le (fun h : Hold => !decide (h.1 = y)) (hs.take i)
      rw [List.length_take] at yl2
      refine ⟨_, rfl, ub, _, 0, _, rfl, rfl, hub, rfl, _, rfl, rfl, _, rfl, ?_⟩
      by_cases hux : u.1 = x
      · rw [decide_eq_true (show V.str u.1 = V.str x by rw [hux])]
        refine iteT ?_
        have hue := hold_eq hds.nd humem hds.hx hux
        subst hue
        obtain ⟨uc, rfl, huc⟩ := kd_box hum
        refine ⟨_, rfl, ha, rfl, ⟨hvs, (kpT_same sm).tup h215⟩, fun D3 nD3 => ?_⟩
        refine lc_tup (xs := hvs) (fun j H9 => Same H' H9 ∧ ∃ zs, H9 D3 = some (.lst zs) ∧ TpAll K H9 zs (((hs.take j).filter fun h => decide (h.1 = y)).map holdD)) ⟨Same.new nD3, [], upd_same, .nil⟩ (fun j H9 _ z => (kpT_same (sm.trans z.1)).tup h215) ?_ ?_
        · rintro j v2 H9 hx2 ⟨sm9, zs, hD3, hzs⟩
          have hj : j < hvs.length := (List.getElem?_eq_some_iff.mp hx2).1
          obtain ⟨d3, hd3, hxd3⟩ := h315.getL hx2
          rw [List.getElem?_map] at hd3
          cases eu3 : hs[j]? with
          | none => rw [eu3] at hd3; cases hd3
          | some u3 =>
            rw [eu3] at hd3
            cases hd3
            have ht3 : hs.take (j + 1) = hs.take j ++ [u3] := by rw [List.take_add_one, eu3]; rfl
            have hy3 := hxd3.s (sm.trans sm9)
            obtain ⟨b3, m3, s3, rfl, hb3, _, _⟩ := hold_at hy3
            have zlen := hzs.len
            rw [List.length_map] at zlen
            have zl2 := List.length_filter_le (fun h : Hold => decide (h.1 = y)) (hs.take j)
            rw [List.length_take] at zl2
            refine ⟨rfl, ?_⟩
            refine ⟨_, rfl, b3, _, 0, _, rfl, rfl, hb3, rfl, _, rfl, rfl, _, rfl, ?_⟩
            rw [ht3, List.filter_append, List.map_append]
            by_cases h3y : u3.1 = y
            · rw [decide_eq_true (show V.str u3.1 = V.str y by rw [h3y])]
              refine iteT ⟨_, rfl, zs, hD3, sz2 (by omega), Same.put sm9 nD3, _, upd_same, ?_⟩
              rw [List.filter_cons_of_pos (p := fun h : Hold => decide (h.1 = y)) (decide_eq_true h3y)]
              exact (hzs.app (.cons hy3 .nil)).k (kpt_lst (Kp.refl.put rfl) hD3)
            · rw [decide_eq_false (show ¬ V.str u3.1 = V.str y from fun z => h3y (by cases z; rfl))]
              refine iteF ⟨sm9, zs, hD3, ?_⟩
              rw [List.filter_cons_of_neg (by rw [decide_eq_false h3y]; decide), List.filter_nil, List.map_nil, List.append_nil]
              exact hzs
        rintro H9 ⟨sm9, zs, hD3, hzs⟩
        rw [List.take_of_length_le (by omega)] at hzs
        have hfind := find_nm hds.nd hds.hy
        have hhead : (hs.filter fun h => decide (h.1 = y)).head? = some (y, .box n2 d2, ss) := by rw [List.head?_filter]; exact hfind
        have hget : ((hs.filter fun h => decide (h.1 = y)).map holdD)[0]? = some (holdD (y, .box n2 d2, ss)) := by rw [List.getElem?_map, ← List.head?_eq_getElem?, hhead]; rfl
        obtain ⟨ov, hov, hot⟩ := hzs.get hget
        obtain ⟨ob, omv, osv, rfl, hob, hom, _⟩ := hold_at hot
        obtain ⟨oc, rfl, hoc⟩ := kd_box hom
        have hub9 := (kpT_same sm9).tup hub
        have huc9 := (kpT_same sm9).tup huc
        refine ⟨D3, zs, 0, _, rfl, rfl, at_l hD3, atI_nat (j := 0) hov, ob, _, 1, _, rfl, rfl, hob, rfl, ?_⟩
        have hD9 := sm9 _ _ hD
        refine ⟨_, rfl, .inl ⟨rfl, _, at_l hD9⟩, _, rfl, _, rfl, ub, _, 1, _, rfl, rfl, hub9, rfl, uc, _, 0, _, rfl, rfl, huc9, rfl, _, rfl, oc, _, 0, _, rfl, rfl, hoc, rfl, _, _, rfl, rfl, ?_⟩
        refine ⟨_, rfl, ub, _, 1, _, rfl, rfl, hub9, rfl, uc, _, 1, _, rfl, rfl, huc9, rfl, _, rfl, oc, _, 1, _, rfl, rfl, hoc, rfl, _, _, rfl, (by show 2 ≤ sizeLine; decide), fun q6 nq6 => ?_⟩
        have em : V.int (if (d2 : Int) > (d1 : Int) then (d2 : Int) else (d1 : Int)) = iv (max d1 d2) := by
          show V.int _ = V.int _
          congr 1
          split <;> omega
        have em0 : V.int ((n1 : Int) + (n2 : Int)) = iv (n1 + n2) := rfl
        rw [em]
        have s10 := Same.new (o := .tup [iv (n1 + n2), iv (max d1 d2)]) nq6
        have hq6 : Tp K (upd H9 q6 (.tup [iv (n1 + n2), iv (max d1 d2)])) (.ref q6) (Kd.box (n1 + n2) (max d1 d2)).dat := .mk upd_same (.cons (.int _) (.cons (.int _) .nil))
        rw [show upd H9 q6 (.tup [V.int ((n1 : Int) + (n2 : Int)), iv (max d1 d2)]) = upd H9 q6 (.tup [iv (n1 + n2), iv (max d1 d2)]) from rfl]
        generalize upd H9 q6 (.tup [iv (n1 + n2), iv (max d1 d2)]) = H10 at s10 hq6 ⊢
        refine ⟨_, rfl, ub, _, 2, _, rfl, rfl, (kpT_same s10).tup hub9, rfl, (by show 3 ≤ sizeLine; decide), fun q7 nq7 => ?_⟩
        have s11 := Same.new (o := .tup [.str x, .ref q6, us]) nq7
        have s911 := sm9.trans (s10.trans s11)
        have hq7 : Tp K (upd H10 q7 (.tup [.str x, .ref q6, us])) (.ref q7) (holdD (x, Kd.box (n1 + n2) (max d1 d2), ss)) := .mk upd_same (.cons (.str _) (.cons (hq6.s s11) (.cons (hus.s s911) .nil)))
        have hD11 := s911 _ _ hD
        refine ⟨D2, _, _, rfl, rfl, hD11, sz2 (by omega), Same.put (sm.trans s911) nD2, _, _, _, upd_same, ?_, rfl⟩
        rw [ht, List.filter_append, List.filter_cons_of_pos (by rw [decide_eq_false tw.ne]; rfl), List.filter_nil, List.map_append, List.map_append, List.map_singleton, if_pos rfl]
        exact ((hys.s s911).app (.cons hq7 .nil)).k (kpt_lst (Kp.refl.put rfl) hD11)
      · rw [decide_eq_false (show ¬ V.str u.1 = V.str x from fun z => hux (by cases z; rfl))]
        refine iteF ?_
        refine ⟨_, rfl, ub, _, 0, _, rfl, rfl, hub, rfl, _, rfl, rfl, _, rfl, ?_⟩
        by_cases huy : u.1 = y
        · rw [decide_eq_true (show V.str u.1 = V.str y by rw [huy])]
          refine iteF ⟨sm, ys, _, _, hD, ?_, rfl⟩
          rw [ht, List.filter_append, List.filter_cons_of_neg (by rw [decide_eq_true huy]; decide), List.filter_nil, List.append_nil]
          exact hys
        · rw [decide_eq_false (show ¬ V.str u.1 = V.str y from fun z => huy (by cases z; rfl))]
          refine iteT ⟨_, rfl, .inl ⟨rfl, _, at_l hD⟩, _, rfl, D2, _, _, rfl, rfl, hD, sz2 (by omega), Same.put sm nD2, _, _, _, upd_same, ?_, rfl⟩
          rw [ht, List.filter_append, List.filter_cons_of_pos (by rw [decide_eq_false huy]; rfl), List.filter_nil, List.map_append, List.map_append, List.map_singleton, if_neg hux]
          exact (hys.app (.cons hy' .nil)).k (kpt_lst (Kp.refl.put rfl) hD)
  · rintro σ' H16 ⟨sm16, ys, x16, x17, hD, hys, rfl⟩
    rw [List.take_of_length_le (by omega)] at hys
    have h116 := (kpT_same (s15.trans sm16)).tup h114
    have h416 := h414.s (s15.trans sm16)
    have hcv16 := hcv14.s (s15.trans sm16)
    have htv16 := htv14.s (s15.trans sm16)
    have hl16 := (s15.trans sm16) _ _ hl14
    have hxs16 := hxs14.s (s15.trans sm16)
    have hdv16 := hdvD2 _ sm16
    have hcx16 := hcx14.s (s15.trans sm16)
    have hcy16 := hcy14.s (s15.trans sm16)
    have h216 := (kpT_same sm16).tup h215
    have h316 := h315.s sm16
    obtain ⟨r1, r2⟩ := tw.rows
    have wdp := tw.dp
    have wsz := tw.sz
    have wln := tw.ln
    have wall := tw.all
    have b1 := hds.b1
    have b2 := hds.b2
    obtain ⟨_, kx, _⟩ := hds.ok _ hds.hx
    obtain ⟨_, ky, _⟩ := hds.ok _ hds.hy
    have kx : 1 ≤ n1 ∧ n1 ≤ 600 ∧ d1 ≤ 100 := kx
    have ky : 1 ≤ n2 ∧ n2 ≤ 600 ∧ d2 ≤ 100 := ky
    have ttw := tre_tw (s := ss) rows top 0 r1 r2
    have tdp : (tre oF oF ss rows top 0).dp ≤ rows.length + 0 := tre_dp (L := oF) (Lt := oF) (M := 0) (fun r k => Nat.le_refl _) (fun r k => Nat.le_refl _) rows top 0
    refine ⟨_, rfl, _, rfl, _, rfl, _, rfl, ?_⟩
    refine ⟨.ref a, tv, (hs, ss), _, x, y, (x, .box n1 d1, ss), (y, .box n2 d2, ss), n1, d1, n2, d2, rfl, hcv16, htv16, by show hs.length ≤ 1000; omega, tw.ne, find_nm hds.nd hds.hx, find_nm hds.nd hds.hy, rfl, rfl, rfl, tw.sh, ttw, by omega, fun z1 H17 s17 hz1 => ?_⟩
    refine ⟨_, rfl, D2, ys, rfl, .inl ⟨at_l (s17 _ _ hD), fun q8 nq8 => ?_⟩⟩
    have s18 : Same H17 (upd H17 q8 (.tup ys)) := Same.new nq8
    have hq8 : Tp K (upd H17 q8 (.tup ys)) (.ref q8) (.tuple ((wkC (woC (hs, ss) y) x (.box (n1 + n2) (max d1 d2))).1.map holdD)) := .mk upd_same (hys.s (s17.trans s18))
    generalize upd H17 q8 (.tup ys) = H18 at s18 hq8 ⊢
    have s1618 := s17.trans s18
    refine ⟨_, rfl, a, _, 1, _, rfl, rfl, (kpT_same s1618).tup h116, rfl, (by show 2 ≤ sizeLine; decide), fun q9 nq9 => ?_⟩
    have s19 := Same.new (o := .tup [.ref q8, gv]) nq9
    have hq9 : Tp K (upd H18 q9 (.tup [.ref q8, gv])) (.ref q9) (clmD (wkC (woC (hs, ss) y) x (.box (n1 + n2) (max d1 d2)))) := .mk upd_same (.cons (hq8.s s19) (.cons (h416.s (s1618.trans s19)) .nil))
    generalize upd H18 q9 (.tup [.ref q8, gv]) = H19 at s19 hq9 ⊢
    have s1619 := s1618.trans s19
    refine ⟨_, rfl, _, rfl, _, rfl, _, rfl, ?_⟩
    refine ⟨l, xs, ss, rows, top, x, y, rfl, s1619 _ _ hl16, hxs16.s s1619, by omega, fun H20 z2 s20 hz2 => ?_⟩
    refine ⟨(by show 2 ≤ sizeLine; decide), fun q10 nq10 => ?_⟩
    have s21 := Same.new (o := .tup [.ref q9, z2]) nq10
    have emv : mvD y x (tre oF oF ss rows top 0) = jn ss (rows.map fun p => (p.1, rnF y x p.2)) (.own (rnF y x top)) := by
      rw [mvD_tre, jn_tre _ _ _ (fun j => rfl)]
      rfl
    have hdue2 : Tp K (upd H20 q10 (.tup [.ref q9, z2])) (.ref q10) (clDr (wkC (woC (hs, ss) y) x (.box (n1 + n2) (max d1 d2))) (mvD y x (tre oF oF ss rows top 0))) := by
      rw [emv]
      exact .mk upd_same (.cons (hq9.s (s20.trans s21)) (.cons (hz2.s s21) .nil))
    have s17e := s18.trans (s19.trans (s20.trans s21))
    have hz1' := hz1.s s17e
    have s16e := s17.trans s17e
    generalize upd H20 q10 (.tup [.ref q9, z2]) = H21 at s21 hdue2 s17e hz1' s16e ⊢
    have rn_sm : ∀ r, RfSm r → RfSm (rnF y x r) := fun r hr => by
      unfold rnF
      split
      · exact tw.nx
      · exact hr
    have sh2 : Shw (clDr (wkC (woC (hs, ss) y) x (.box (n1 + n2) (max d1 d2))) (mvD y x (tre oF oF ss rows top 0))) 60 1048576 := by
      have shC : Shw (clmD (wkC (woC (hs, ss) y) x (.box (n1 + n2) (max d1 d2)))) 30 100000 := clm_shw tw (fun u hu => by
        obtain ⟨v, hv, rfl⟩ := List.mem_map.mp hu
        obtain ⟨c1, c2, c3⟩ := shold v (List.mem_filter.mp hv).1
        by_cases e : v.1 = x
        · rw [if_pos e]
          exact ⟨tw.nx, ⟨by omega, by omega, by omega⟩, c3⟩
        · rw [if_neg e]
          exact ⟨c1, c2, c3⟩) rfl (by
          show (List.map _ (List.filter _ hs)).length ≤ 40
          rw [List.length_map]
          have := List.length_filter_le (fun h : Hold => !decide (h.1 = y)) hs
          omega)
      have shT : Shw (mvD y x (tre oF oF ss rows top 0)).dat (rows.length + (ss.dp + 2)) 400000 := by
        rw [mvD_tre]
        have l1 : (rows.map fun p => ((p.1, rnF y x p.2) : Row)).length = rows.length := List.length_map ..
        have rs : RowsSm (rows.map fun p => ((p.1, rnF y x p.2) : Row)) := ⟨fun p hp => by
          obtain ⟨q, hq, rfl⟩ := List.mem_map.mp hp
          obtain ⟨c1, c2, c3⟩ := r1.k q hq
          exact ⟨c1, c2, rn_sm _ c3⟩⟩
        have h9 := tre_shw (L := oF) (Lt := oF) (M := ss.dp + 2) (W := 4000) tw.sm (by omega) (fun r k hr hk => (Dr.shw (t := .own r) hr).mono (by show 0 + 2 ≤ _; omega) (by show 1 * 100 ≤ 4000; decide)) (fun r k hr hk => (Dr.shw (t := .own r) hr).mono (by show 0 + 2 ≤ _; omega) (by show 1 * 100 ≤ 4000; decide)) (rows.map fun p => ((p.1, rnF y x p.2) : Row)) (rnF y x top) 0 rs (rn_sm _ r2) (by rw [l1]; omega)
        rw [l1] at h9
        refine h9.mono (Nat.le_refl _) ?_
        have := Nat.mul_le_mul wln (show 4000 + ss.sz * 60 + 50 ≤ 6390 + 50 by omega)
        omega
      exact clDr_shw (N := 0) shC shT (by decide) (by omega) (by decide)
    refine ⟨z1, .ref q10, _, 1048576, rfl, hz1', hdue2, sh2, Nat.le_refl _, true, rfl, iteF ?_⟩
    have s1521 := sm16.trans s16e
    have h221 := (kpT_same s1521).tup h215
    have h321 := h315.s s1521
    have hdv21 := hdvD2 _ s1521
    have hcx21 := hcx16.s s16e
    have hcy21 := hcy16.s s16e
    have hcv21 := hcv16.s s16e
    have htv21 := htv16.s s16e
    have h121 := (kpT_same s16e).tup h116
    have h421 := h416.s s16e
    clear hz1 hz1' hdue2 sh2 hq8 hq9 hz2
    obtain ⟨ca, rfl, hca⟩ := kd_box (n := nU x rows + tU x top) (d := nD x rows) hcx21
    obtain ⟨cb, rfl, hcb⟩ := kd_box (n := nU y rows + tU y top) (d := nD y rows) hcy21
    have ttop := tw.tw
    refine ⟨_, rfl, ha, rfl, ⟨hvs, h221⟩, fun D4 nD4 => ?_⟩
    refine lc_tup (xs := hvs) (fun j H9 => Same H21 H9 ∧ ∃ zs, H9 D4 = some (.lst zs) ∧ zs.length ≤ j ∧ TpAll K H9 zs (((hs.take j).filterMap fun h => ((tre oF oF ss rows top 0).cn 0 (nmR h.1)).map fun n => ((h.1, Kd.box n.m n.d, h.2.2) : Hold)).map holdD)) ⟨Same.new nD4, [], upd_same, Nat.le_refl _, .nil⟩ (fun j H9 _ z => (kpT_same z.1).tup h221) ?_ ?_
    · rintro j v2 H9 hx2 ⟨sm9, zs, hD9, hzl, hzs⟩
      have hj : j < hvs.length := (List.getElem?_eq_some_iff.mp hx2).1
      obtain ⟨d3, hd3, hxd3⟩ := h321.getL hx2
      rw [List.getElem?_map] at hd3
      cases eu3 : hs[j]? with
      | none => rw [eu3] at hd3; cases hd3
      | some u3 =>
        rw [eu3] at hd3
        cases hd3
        have ht3 : hs.take (j + 1) = hs.take j ++ [u3] := by rw [List.take_add_one, eu3]; rfl
        have hy3 := hxd3.s sm9
        obtain ⟨b3, m3, s3, rfl, hb3, _, hs3⟩ := hold_at hy3
        have hdv9 := sm9 _ _ hdv21
        have lv := lw_val (s := ss) ttop u3.1 u3.2.2
        refine ⟨rfl, ?_⟩
        rw [ht3, List.filterMap_append, List.map_append]
        have yes : ∀ (H10 : Hp) (cc : Addr) (U Dd : Nat), Same H9 H10 → DGet H10 dv (.str u3.1) (some (.ref cc)) → Tp K H10 (.ref cc) (Kd.box U Dd).dat → (((tre oF oF ss rows top 0).cn 0 (nmR u3.1)).map fun n => ((u3.1, Kd.box n.m n.d, u3.2.2) : Hold)) = some (u3.1, Kd.box U Dd, u3.2.2) →
            tTup (tCons (tOp (rIxT K) (tVar 16) (tC (.int 0))) (tCons (tDGet (tVar 5) (tOp (rIxT K) (tVar 16) (tC (.int 0)))) (tCons (tOp (rIxT K) (tVar 16) (tC (.int 2))) tNil)))
              [some (.ref p), some (.ref a), some tv, some (.ref l), some (kV top), some (.ref dv), some (.ref ha), some (.int (at_ : Int)), some (.str nm), some (.ref mc), some sv, some (.ref e), some (.ref q5), some (.str x), some (.str y), some (.ref D2), some (.ref b3), x17, none, none] H10 fun y_1 H4 => ∃ acc, H4 D4 = some (.lst acc) ∧ acc.length < sizeLine ∧ (Same H21 (upd H4 D4 (.lst (acc ++ [y_1]))) ∧ ∃ zs', (upd H4 D4 (.lst (acc ++ [y_1]))) D4 = some (.lst zs') ∧ zs'.length ≤ j + 1 ∧ TpAll K (upd H4 D4 (.lst (acc ++ [y_1]))) zs' (List.map holdD (List.filterMap (fun h => ((tre oF oF ss rows top 0).cn 0 (nmR h.1)).map fun n => ((h.1, Kd.box n.m n.d, h.2.2) : Hold)) (hs.take j)) ++ List.map holdD (List.filterMap (fun h => ((tre oF oF ss rows top 0).cn 0 (nmR h.1)).map fun n => ((h.1, Kd.box n.m n.d, h.2.2) : Hold)) [u3]))) := fun H10 cc U Dd s10 dg hcc ev => by
          have hb10 := (kpT_same s10).tup hb3
          refine ⟨_, rfl, b3, _, 0, _, rfl, rfl, hb10, rfl, _, rfl, _, rfl, b3, _, 0, _, rfl, rfl, hb10, rfl, dv, _, rfl, dg, _, rfl, b3, _, 2, _, rfl, rfl, hb10, rfl, (by show 3 ≤ sizeLine; decide), fun q11 nq11 => ?_⟩
          have s11 := Same.new (o := .tup [.str u3.1, .ref cc, s3]) nq11
          have hq11 : Tp K (upd H10 q11 (.tup [.str u3.1, .ref cc, s3])) (.ref q11) (holdD (u3.1, Kd.box U Dd, u3.2.2)) := .mk upd_same (.cons (.str _) (.cons (hcc.s s11) (.cons (hs3.s (s10.trans s11)) .nil)))
          generalize upd H10 q11 (.tup [.str u3.1, .ref cc, s3]) = H11 at s11 hq11 ⊢
          have s911 := s10.trans s11
          have hD11 := s911 _ _ hD9
          refine ⟨zs, hD11, sz2 (by omega), Same.put (sm9.trans s911) nD4, _, upd_same, by rw [List.length_append]; show _ + 1 ≤ _; omega, ?_⟩
          rw [List.filterMap_cons_some (f := fun h : Hold => ((tre oF oF ss rows top 0).cn 0 (nmR h.1)).map fun n => ((h.1, Kd.box n.m n.d, h.2.2) : Hold)) ev]
          exact ((hzs.s s911).app (.cons hq11 .nil)).k (kpt_lst (Kp.refl.put rfl) hD11)
        have no : ∀ (H10 : Hp), Same H9 H10 → (((tre oF oF ss rows top 0).cn 0 (nmR u3.1)).map fun n => ((u3.1, Kd.box n.m n.d, u3.2.2) : Hold)) = none → Same H21 H10 ∧ ∃ zs', H10 D4 = some (.lst zs') ∧ zs'.length ≤ j + 1 ∧ TpAll K H10 zs' (List.map holdD (List.filterMap (fun h => ((tre oF oF ss rows top 0).cn 0 (nmR h.1)).map fun n => ((h.1, Kd.box n.m n.d, h.2.2) : Hold)) (hs.take j)) ++ List.map holdD (List.filterMap (fun h => ((tre oF oF ss rows top 0).cn 0 (nmR h.1)).map fun n => ((h.1, Kd.box n.m n.d, h.2.2) : Hold)) [u3])) := fun H10 s10 ev => by
          refine ⟨sm9.trans s10, zs, s10 _ _ hD9, by omega, ?_⟩
          rw [List.filterMap_cons_none (f := fun h : Hold => ((tre oF oF ss rows top 0).cn 0 (nmR h.1)).map fun n => ((h.1, Kd.box n.m n.d, h.2.2) : Hold)) ev, List.filterMap_nil, List.map_nil, List.append_nil]
          exact hzs.s s10
        refine ⟨_, rfl, dv, rfl, .inl ⟨_, .inl hdv9⟩, _, rfl, b3, _, 0, _, rfl, rfl, hb3, rfl, (by show 2 ≤ sizeLine; decide), fun e9 ne9 => ?_⟩
        have s10 := Same.new (o := .tup [.int 0, .int 0]) ne9
        have he9 : SqT K (upd H9 e9 (.tup [.int 0, .int 0])) e9 [.int 0, .int 0] := at_t upd_same
        generalize upd H9 e9 (.tup [.int 0, .int 0]) = H10 at s10 he9 ⊢
        have hdv10 := s10 _ _ hdv9
        have hca10 := (kpT_same (sm9.trans s10)).tup hca
        have hcb10 := (kpT_same (sm9.trans s10)).tup hcb
        by_cases hux : u3.1 = x
        · have dg : DGet H10 dv (.str u3.1) (some (.ref ca)) := dget_k (k := nmR u3.1) hdv10 (by rw [hux]; exact valV_pos rfl)
          refine ⟨_, dg, ca, _, 0, _, rfl, rfl, hca10, rfl, _, _, rfl, rfl, _, rfl, ?_⟩
          rw [hux] at lv
          by_cases hpos : 0 < nU x rows + tU x top
          · rw [if_pos hpos] at lv
            rw [decide_eq_true (show (0 : Int) < ((nU x rows + tU x top : Nat) : Int) by omega)]
            exact iteT (yes H10 ca _ _ s10 dg (.tup hca10 (.cons (.int _) (.cons (.int _) .nil))) (by rw [hux]; exact lv))
          · rw [if_neg hpos] at lv
            rw [decide_eq_false (show ¬ (0 : Int) < ((nU x rows + tU x top : Nat) : Int) by omega)]
            exact iteF (no H10 s10 (by rw [hux]; exact lv))
        · by_cases huy : u3.1 = y
          · have dg : DGet H10 dv (.str u3.1) (some (.ref cb)) := dget_k (k := nmR u3.1) hdv10 (by rw [huy, valV_neg (fun w => tw.ne (Sum.inr.inj w))]; exact valV_pos rfl)
            refine ⟨_, dg, cb, _, 0, _, rfl, rfl, hcb10, rfl, _, _, rfl, rfl, _, rfl, ?_⟩
            rw [huy] at lv
            by_cases hpos : 0 < nU y rows + tU y top
            · rw [if_pos hpos] at lv
              rw [decide_eq_true (show (0 : Int) < ((nU y rows + tU y top : Nat) : Int) by omega)]
              exact iteT (yes H10 cb _ _ s10 dg (.tup hcb10 (.cons (.int _) (.cons (.int _) .nil))) (by rw [huy]; exact lv))
            · rw [if_neg hpos] at lv
              rw [decide_eq_false (show ¬ (0 : Int) < ((nU y rows + tU y top : Nat) : Int) by omega)]
              exact iteF (no H10 s10 (by rw [huy]; exact lv))
          · have dg : DGet H10 dv (.str u3.1) none := dget_k (k := nmR u3.1) hdv10 (by rw [valV_neg (fun w => hux (Sum.inr.inj w).symm), valV_neg (fun w => huy (Sum.inr.inj w).symm)]; rfl)
            refine ⟨_, dg, e9, _, 0, _, rfl, rfl, he9, rfl, _, _, rfl, rfl, _, rfl, ?_⟩
            obtain ⟨t1, t2⟩ := tws_nm hux huy ttop
            have z0 : nU u3.1 rows + tU u3.1 top = 0 := by
              rw [nU_zero t1]
              unfold tU
              rw [if_neg t2]
            rw [z0, if_neg (by omega)] at lv
            exact iteF (no H10 s10 lv)
    · rintro H9 ⟨sm9, zs, hD9, hzl, hzs⟩
      rw [List.take_of_length_le (by omega)] at hzs
      refine ⟨_, rfl, _, rfl, ?_⟩
      have tkn : (tre oF oF ss rows top 0).Kn := tre_kn (L := oF) (Lt := oF) (fun r k => trivial) (fun r k => trivial) rows top 0 r1
      have tsz : (tre oF oF ss rows top 0).sz ≤ rows.length * (1 + 1) + 1 := tre_sz (L := oF) (Lt := oF) (A := 1) (fun r k => Nat.le_refl _) (fun r k => Nat.le_refl _) rows top 0
      refine ⟨.ref a, tv, (hs, ss), _, rfl, hcv21.s sm9, htv21.s sm9, by show hs.length ≤ 1000; omega, fun u hu => ?_, tkn, by omega, by omega, fun z3 H22 s22 hz3 => ?_⟩
      · obtain ⟨_, c2, _⟩ := hds.ok u hu
        obtain ⟨nn, dd, e, _⟩ := kdb_box c2
        rw [e]
        rfl
      refine ⟨_, rfl, D4, zs, rfl, .inl ⟨at_l (s22 _ _ hD9), fun q12 nq12 => ?_⟩⟩
      have s23 : Same H22 (upd H22 q12 (.tup zs)) := Same.new nq12
      have hq12 : Tp K (upd H22 q12 (.tup zs)) (.ref q12) (.tuple ((lkF (hs, ss) (tre oF oF ss rows top 0)).1.map holdD)) := .mk upd_same (hzs.s (s22.trans s23))
      generalize upd H22 q12 (.tup zs) = H23 at s23 hq12 ⊢
      have s9_23 := sm9.trans (s22.trans s23)
      refine ⟨_, rfl, a, _, 1, _, rfl, rfl, (kpT_same s9_23).tup h121, rfl, (by show 2 ≤ sizeLine; decide), fun q13 nq13 => ?_⟩
      have s24 := Same.new (o := .tup [.ref q12, gv]) nq13
      have hq13 : Tp K (upd H23 q13 (.tup [.ref q12, gv])) (.ref q13) (clmD (lkF (hs, ss) (tre oF oF ss rows top 0))) := .mk upd_same (.cons (hq12.s s24) (.cons (h421.s (s9_23.trans s24)) .nil))
      have sh3 : Shw (clmD (lkF (hs, ss) (tre oF oF ss rows top 0))) 30 100000 := clm_shw tw (fun u hu => by
        obtain ⟨v, hv, e⟩ := List.mem_filterMap.mp hu
        obtain ⟨c1, c2, c3⟩ := shold v hv
        have lv := lw_val (s := ss) ttop v.1 v.2.2
        rw [lv] at e
        have u1 := (nU_le (z := v.1) ttop)
        have u2 := tU_le (z := v.1) (top := top)
        by_cases hpos : 0 < nU v.1 rows + tU v.1 top
        · rw [if_pos hpos] at e
          cases e
          exact ⟨c1, ⟨hpos, by omega, by omega⟩, c3⟩
        · rw [if_neg hpos] at e
          cases e) rfl (by
          have := List.length_filterMap_le (fun h : Hold => ((tre oF oF ss rows top 0).cn 0 (nmR h.1)).map fun n => ((h.1, Kd.box n.m n.d, h.2.2) : Hold)) hs
          show (List.filterMap _ hs).length ≤ 40
          omega)
      exact ⟨z3, .ref q13, _, 1048576, rfl, hz3.s (s23.trans s24), hq13, sh3.wide, Nat.le_refl _, q _⟩
end
end W81
namespace W81
open PySem PySem.Spec PyProof.Rows L2 HX
/-! ### the law -/
section
variable {P : Program} {w : World} {K : PySem.W.Frag} {mg : Str → Option Value} {base : Heap}
theorem sql_same {H H' : Hp} {a : Addr} {xs : List V} (h : SqL K H a xs) (s : Same H H') : SqL K H' a xs := by
  rcases h with (h | ⟨o, h⟩) | h
  · exact .inl (.inl (s _ _ h))
  · exact .inl (.inr ⟨o, s _ _ h⟩)
  · exact .inr h
def spLaw (K : PySem.W.Frag) : Sp := fun vs H Q _ => ∃ (a : Addr) (ns : List Int), vs = [.ref a] ∧ SqL K H a (ns.map V.int) ∧ ns.length ≤ 63 ∧ ∀ H', Q (.bl true) H'
theorem ok_law {k : Nat} (T : Tx K mg w) (G_law_pool : FnOk P w K mg base CX0 (k + 1) T.a_law_pool T.d_law_pool ["script", "k"] (spPool K)) (G_law_names : FnOk P w K mg base CX0 (k + 1) T.a_law_names T.d_law_names ["pool", "many"] (spNames K))
    (G_law_next : FnOk P w K mg base CX0 (k + 1) T.a_law_next T.d_law_next ["pool", "many"] spNext) (G_law_wrapped : FnOk P w K mg base CX0 (k + 1) T.a_law_wrapped T.d_law_wrapped ["pool", "words", "rows"] (spWrapped K))
    (G_law_tower : FnOk P w K mg base CX0 (k + 1) T.a_law_tower T.d_law_tower ["pool", "sentence", "many", "base"] (spTower K)) (G_law_joined : FnOk P w K mg base CX0 (k + 1) T.a_law_joined T.d_law_joined ["rows", "top"] (spJoined K))
    (G_law_opened : FnOk P w K mg base CX0 (k + 1) T.a_law_opened T.d_law_opened ["ref", "sentence", "level"] (spExpOwn K 70)) (G_law_count : FnOk P w K mg base CX0 (k + 1) T.a_law_count T.d_law_count ["rows", "top", "name"] (spCount K))
    (G_law_same : FnOkG P w K mg base CX0 (k + 1) T.a_law_same T.d_law_same ["told", "due"] (spSame K)) (G_expanded : FnOk P w K mg base CX0 (k + 1) T.a_expanded T.d_expanded ["library", "claim", "derivation"] (spExpanded K 70 70))
    (G_Library__init : FnOk P w K mg base CX0 k T.a_Library__init T.d_Library__init ["self"] (spLInit T.C_Library)) (G_law_size : FnOk P w K mg base CX0 (k + 1) T.a_law_size T.d_law_size ["tree"] (spSize K 70))
    (G_accepts : FnOk P w K mg base CX0 (k + 1) T.a_accepts T.d_accepts ["library", "claim", "derivation"] (spAccepts K 70)) (G_law_taken_apart : FnOkG P w K mg base CX0 (k + 1) T.a_law_taken_apart T.d_law_taken_apart ["pool", "claim", "tree", "names"] (spTaken K 70))
    (G_law_mended : FnOkG P w K mg base CX0 (k + 1) T.a_law_mended T.d_law_mended ["pool", "claim", "tree", "rows", "top", "counts_v"] (spMended K 70)) :
    FnOkG P w K mg base CX0 (k + 2) T.a_law T.d_law ["script"] (spLaw K) := by
  refine HX.Fun.okG T.F_law sc_law (fun vs H Q E h => ?_) (fun cdv A outer s H vs Q E gd hr h => ?_)
  · obtain ⟨_, _, rfl, _⟩ := h
    rfl
  obtain ⟨sa, ns, rfl, hS, h63, q⟩ := h
  have hu := hu_of hr
  refine ⟨_, PSs.nox (pss_cons (ps_set (i := 1) sc_law.nd rfl (Or.inl rfl) (pe_call G_law_pool hr (by rfl) T.m_law_pool T.F_law_pool.kp T.b_law_pool .nil pass0 (pa_cons (pv 0) (pa_cons pe_int pa_nil))))
      (pss_cons (ps_set (i := 2) sc_law.nd rfl (Or.inl rfl) (pe_call G_law_names hr (by rfl) T.m_law_names T.F_law_names.kp T.b_law_names .nil pass0 (pa_cons (pv 1) (pa_cons pe_int pa_nil))))
      (pss_cons (ps_set (i := 3) sc_law.nd rfl (Or.inl rfl) (pe_call G_law_pool hr (by rfl) T.m_law_pool T.F_law_pool.kp T.b_law_pool .nil pass0 (pa_cons (pv 0) (pa_cons pe_int pa_nil))))
      (pss_cons (ps_set (i := 4) sc_law.nd rfl (Or.inl rfl) (pe_call G_law_next hr (by rfl) T.m_law_next T.F_law_next.kp T.b_law_next .nil pass0 (pa_cons (pv 3) (pa_cons pe_int pa_nil))))
      (pss_cons (ps_set (i := 5) sc_law.nd rfl (Or.inl rfl) (pe_call G_law_next hr (by rfl) T.m_law_next T.F_law_next.kp T.b_law_next .nil pass0 (pa_cons (pv 3) (pa_cons pe_int pa_nil))))
      (pss_cons (ps_if (pt_cmpR op_eq (pe_call G_law_next hr (by rfl) T.m_law_next T.F_law_next.kp T.b_law_next .nil pass0 (pa_cons (pv 3) (pa_cons pe_int pa_nil))) pe_int (nomark _)) (pss_one (ps_set (i := 4) sc_law.nd rfl (Or.inl rfl) (pe_call G_law_next hr (by rfl) T.m_law_next T.F_law_next.kp T.b_law_next .nil pass0 (pa_cons (pv 3) (pa_cons pe_int pa_nil))))) pss_nil)
      (pss_cons (ps_if (pt_cmpR op_eq (pe_call G_law_next hr (by rfl) T.m_law_next T.F_law_next.kp T.b_law_next .nil pass0 (pa_cons (pv 3) (pa_cons pe_int pa_nil))) pe_int (nomark _)) (pss_cons (ps_set (i := 4) sc_law.nd rfl (Or.inl rfl) (pe_call G_law_next hr (by rfl) T.m_law_next T.F_law_next.kp T.b_law_next .nil pass0 (pa_cons (pv 3) (pa_cons pe_int pa_nil))))
      (pss_one (ps_set (i := 5) sc_law.nd rfl (Or.inl rfl) (pe_op op_add pe_int (pe_call G_law_next hr (by rfl) T.m_law_next T.F_law_next.kp T.b_law_next .nil pass0 (pa_cons (pv 3) (pa_cons pe_int pa_nil))))))) pss_nil)
      (pss_cons (ps_set (i := 6) sc_law.nd rfl (Or.inl rfl) (pe_call G_law_wrapped hr (by rfl) T.m_law_wrapped T.F_law_wrapped.kp T.b_law_wrapped .nil pass0 (pa_cons (pv 3) (pa_cons (pe_slice (slL K) (pv 2) po_none (po_some pe_int)) (pa_cons (pv 4) pa_nil)))))
      (pss_cons (ps_set (i := 7) sc_law.nd rfl (Or.inl rfl) (pe_tup (pa_cons (pe_ix (ixL K) (pv 2) pe_int (fun _ _ => rfl)) (pa_cons (pe_ix (ixL K) (pv 2) pe_int (fun _ _ => rfl)) pa_nil))))
      (pss_cons (ps_asg (pe_call G_law_tower hr (by rfl) T.m_law_tower T.F_law_tower.kp T.b_law_tower .nil pass0 (pa_cons (pv 3) (pa_cons (pv 6) (pa_cons (pv 5) (pa_cons (pv 7) pa_nil))))) (tupK (n := 2) K rfl (pgs_cons (pg_name (i := 8) sc_law.nd rfl (Or.inl rfl)) (pgs_cons (pg_name (i := 9) sc_law.nd rfl (Or.inl rfl)) pgs_nil))))
      (pss_cons (ps_set (i := 10) sc_law.nd rfl (Or.inl rfl) (pe_call G_law_joined hr (by rfl) T.m_law_joined T.F_law_joined.kp T.b_law_joined .nil pass0 (pa_cons (pv 8) (pa_cons (pe_tup (pa_cons pe_str (pa_cons (pv 9) pa_nil))) pa_nil))))
      (pss_cons (ps_set (i := 11) sc_law.nd rfl (Or.inl rfl) (pe_call G_law_opened hr (by rfl) T.m_law_opened T.F_law_opened.kp T.b_law_opened .nil pass0 (pa_cons (pv 9) (pa_cons (pv 6) (pa_cons (pv 5) pa_nil)))))
      (pss_cons (ps_for PassesOwn.never rfl (pi_revR (by rfl) T.z_reversed (prg_1 (by rfl) T.z_range (pv 5))) (pg_name (i := 12) sc_law.nd rfl (Or.inl rfl)) (pss_one (ps_set (i := 11) sc_law.nd rfl (Or.inl rfl) (pe_op (catA K) (pe_slice (slT K) (pe_ix (ixL K) (pv 8) (pv 12) (fun _ _ => rfl)) po_none (po_some pe_int)) (pe_tup (pa_cons (pe_call G_law_opened hr (by rfl) T.m_law_opened T.F_law_opened.kp T.b_law_opened .nil pass0 (pa_cons (pe_ix (ixT K) (pe_ix (ixT K) (pe_ix (ixL K) (pv 8) (pv 12) (fun _ _ => rfl)) pe_int (fun _ _ => rfl)) pe_int (fun _ _ => rfl)) (pa_cons (pv 6) (pa_cons (pv 12) pa_nil)))) (pa_cons (pv 11) pa_nil)))))))
      (pss_cons (ps_set (i := 13) sc_law.nd rfl (Or.inl rfl) pe_dnewK)
      (pss_cons (ps_set (i := 14) sc_law.nd rfl (Or.inl rfl) (pe_lst pa_nil))
      (pss_cons (ps_for PassesOwn.never rfl (piT K (pv 7)) (pg_name (i := 15) sc_law.nd rfl (Or.inl rfl)) (pss_cons (ps_dput hu (pv 13) (pv 15) (pe_call G_law_count hr (by rfl) T.m_law_count T.F_law_count.kp T.b_law_count .nil pass0 (pa_cons (pv 8) (pa_cons (pv 9) (pa_cons (pv 15) pa_nil)))) rfl)
      (pss_one (ps_expr (pe_bm PySem.F.plainAttrs_list PySem.F.slot_list_append PySem.F.type_list_append mt_append (pv 14) (pa_cons (pe_tup (pa_cons (pv 15) (pa_cons (pe_tup (pa_cons (pe_op op_add (pe_callB (call_max2 rfl) (by rfl) T.z_max (by decide +kernel) (pa_cons pe_int (pa_cons (pe_ix (ixT K) (pe_dget hu (pv 13) (pv 15) (fun _ _ => rfl)) pe_int (fun _ _ => rfl)) pa_nil))) (pe_call G_law_next hr (by rfl) T.m_law_next T.F_law_next.kp T.b_law_next .nil pass0 (pa_cons (pv 3) (pa_cons pe_int pa_nil)))) (pa_cons (pe_op op_add (pe_ix (ixT K) (pe_dget hu (pv 13) (pv 15) (fun _ _ => rfl)) pe_int (fun _ _ => rfl)) (pe_call G_law_next hr (by rfl) T.m_law_next T.F_law_next.kp T.b_law_next .nil pass0 (pa_cons (pv 3) (pa_cons pe_int pa_nil)))) pa_nil))) (pa_cons (pv 6) pa_nil)))) pa_nil))))))
      (pss_cons (ps_set (i := 16) sc_law.nd rfl (Or.inl rfl) (pe_tup (pa_cons (pe_callTy (tupleS K) (by rfl) T.z_tuple (by decide +kernel) (pa_cons (pv 14) pa_nil)) (pa_cons (pv 6) pa_nil))))
      (pss_cons (ps_if (pt_not (pt_val (pe_callG gd G_law_same hr (by rfl) T.m_law_same T.F_law_same.kp T.b_law_same pass0 (pa_cons (pe_call G_expanded hr (by rfl) T.m_expanded T.F_expanded.kp T.b_expanded .nil pass0 (pa_cons (pe_make0 T.k_Library G_Library__init hr (by rfl) T.c_Library T.b_Library__init .nil pass0) (pa_cons (pv 16) (pa_cons (pv 10) pa_nil)))) (pa_cons (pv 11) pa_nil))))) (pss_one (ps_ret pe_bl)) pss_nil)
      (pss_cons (ps_if (pt_cmpR op_le (pe_call G_law_size hr (by rfl) T.m_law_size T.F_law_size.kp T.b_law_size .nil pass0 (pa_cons (pv 11) pa_nil)) pe_int (nomark _)) (pss_one (ps_if (PW.pt (pw_or (pt_not (pt_val (pe_callG gd G_law_same hr (by rfl) T.m_law_same T.F_law_same.kp T.b_law_same pass0 (pa_cons (pe_call G_expanded hr (by rfl) T.m_expanded T.F_expanded.kp T.b_expanded .nil pass0 (pa_cons (pe_make0 T.k_Library G_Library__init hr (by rfl) T.c_Library T.b_Library__init .nil pass0) (pa_cons (pv 16) (pa_cons (pv 11) pa_nil)))) (pa_cons (pv 11) pa_nil))))) (pw_or1 (pt_cmpR op_notBl (pe_call G_accepts hr (by rfl) T.m_accepts T.F_accepts.kp T.b_accepts .nil pass0 (pa_cons (pe_make0 T.k_Library G_Library__init hr (by rfl) T.c_Library T.b_Library__init .nil pass0) (pa_cons (pv 16) (pa_cons (pv 11) pa_nil)))) pe_bl (nomark _))))) (pss_one (ps_ret pe_bl)) pss_nil)) pss_nil)
      (pss_cons (ps_if (pt_not (pt_val (pe_callG gd G_law_taken_apart hr (by rfl) T.m_law_taken_apart T.F_law_taken_apart.kp T.b_law_taken_apart pass0 (pa_cons (pv 3) (pa_cons (pv 16) (pa_cons (pv 10) (pa_cons (pe_slice (slL K) (pv 2) (po_some pe_int) (po_some pe_int)) pa_nil))))))) (pss_one (ps_ret pe_bl)) pss_nil)
      (pss_cons (ps_for PassesOwn.never rfl (piL K (pe_slice (slL K) (pv 2) (po_some pe_int) (po_some (pe_op op_add pe_int (pe_call G_law_next hr (by rfl) T.m_law_next T.F_law_next.kp T.b_law_next .nil pass0 (pa_cons (pv 3) (pa_cons pe_int pa_nil))))))) (pg_name (i := 15) sc_law.nd rfl (Or.inl rfl)) (pss_one (ps_expr (pe_bm PySem.F.plainAttrs_list PySem.F.slot_list_insert PySem.F.type_list_insert mt_insert (pv 14) (pa_cons (pe_call G_law_next hr (by rfl) T.m_law_next T.F_law_next.kp T.b_law_next .nil pass0 (pa_cons (pv 3) (pa_cons (pe_op op_add (pe_callB (lenS K) (by rfl) T.z_len PySem.boot_len (pa_cons (pv 14) pa_nil)) pe_int) pa_nil))) (pa_cons (pe_tup (pa_cons (pv 15) (pa_cons (pe_tup (pa_cons (pe_op op_add pe_int (pe_call G_law_next hr (by rfl) T.m_law_next T.F_law_next.kp T.b_law_next .nil pass0 (pa_cons (pv 3) (pa_cons pe_int pa_nil)))) (pa_cons (pe_call G_law_next hr (by rfl) T.m_law_next T.F_law_next.kp T.b_law_next .nil pass0 (pa_cons (pv 3) (pa_cons pe_int pa_nil))) pa_nil))) (pa_cons (pv 6) pa_nil)))) pa_nil))))))
      (pss_one (ps_ret (pe_callG gd G_law_mended hr (by rfl) T.m_law_mended T.F_law_mended.kp T.b_law_mended pass0 (pa_cons (pv 3) (pa_cons (pe_tup (pa_cons (pe_callTy (tupleS K) (by rfl) T.z_tuple (by decide +kernel) (pa_cons (pv 14) pa_nil)) (pa_cons (pv 6) pa_nil))) (pa_cons (pv 10) (pa_cons (pv 8) (pa_cons (pv 9) (pa_cons (pv 13) pa_nil)))))))))))))))))))))))))))))), ?_⟩
  refine ⟨_, rfl, sa, ns, 0, rfl, hS, h63, by decide, fun p0 l0 np0 hl0 => ?_⟩
  have hP0 : PoolAt (upd H p0 (.lst l0)) p0 := ⟨l0, upd_same, hl0⟩
  have s0 : Same H (upd H p0 (.lst l0)) := Same.new np0
  generalize upd H p0 (.lst l0) = H0 at hP0 s0 ⊢
  refine ⟨_, rfl, p0, 26, rfl, by decide, by decide, hP0, fun H1 N ss k1 hP1 nN hN hsl hsn hso => ?_⟩
  have s1 : Same H H1 := same_kp s0 k1 np0
  refine ⟨_, rfl, sa, ns, 1, rfl, sql_same hS s1, h63, by decide, fun p l np hl => ?_⟩
  have hP : PoolAt (upd H1 p (.lst l)) p := ⟨l, upd_same, hl⟩
  have hN2 : (upd H1 p (.lst l)) N = some (.lst (ss.map V.str)) := (Same.new np) _ _ hN
  have hpN : p ≠ N := fun e => by rw [e, hN] at np; cases np
  generalize upd H1 p (.lst l) = H2 at hP hN2 ⊢
  clear hP0 hP1 k1 s0 s1 hN np
  obtain ⟨l1, e1, hl1⟩ := id hP
  refine ⟨_, rfl, p, l1, 4, rfl, e1, hl1, by decide, by decide, fun R l2 hl2 hR => ?_⟩
  have kp3 : Kp (only1 p) H2 (upd H2 p (.lst l2)) := Kp.refl.put rfl
  have hP3 : PoolAt (upd H2 p (.lst l2)) p := ⟨l2, upd_same, hl2⟩
  generalize upd H2 p (.lst l2) = H3 at kp3 hP3 ⊢
  obtain ⟨l3, e3, hl3⟩ := id hP3
  refine ⟨_, rfl, p, l3, 7, rfl, e3, hl3, by decide, by decide, fun M l4 hl4 hM => ?_⟩
  have kp4 : Kp (only1 p) H2 (upd H3 p (.lst l4)) := kp3.put rfl
  have hP4 : PoolAt (upd H3 p (.lst l4)) p := ⟨l4, upd_same, hl4⟩
  generalize upd H3 p (.lst l4) = H4 at kp4 hP4 ⊢
  dsimp only [tNext, tSeq, tAsg, tC, gName]
  refine ifS_all (fun σ2 H' => ∃ R' : Nat, R' ≤ 19 ∧ Kp (only1 p) H2 H' ∧ PoolAt H' p ∧ σ2 = [some (.ref sa), some (.ref p0), some (.ref N), some (.ref p), some (iv R'), some (iv M), none, none, none, none, none, none, none, none, none, none, none]) ?_ fun els => ?_
  · rintro σ2 H5 ⟨R', hR', kp5, hP5, rfl⟩
    dsimp only [tNext, tSeq, tAsg, tC, gName]
    refine ifS_all (fun σ2 H' => ∃ R' M' : Nat, ((R' ≤ 19 ∧ M' ≤ 6) ∨ (R' ≤ 1 ∧ M' ≤ 45)) ∧ Kp (only1 p) H2 H' ∧ PoolAt H' p ∧ σ2 = [some (.ref sa), some (.ref p0), some (.ref N), some (.ref p), some (iv R'), some (iv M'), none, none, none, none, none, none, none, none, none, none, none]) ?_ fun els => ?_
    · rintro σ2 H6 ⟨R6, M6, hRM, kp6, hP6, rfl⟩
      have hN6 := kp6 _ _ (Ne.symm hpN) hN2
      have smap : (ss.map V.str).length = 26 := by rw [List.length_map, hsl]
      refine ⟨_, rfl, _, rfl, _, rfl, N, _, rfl, at_l hN6, fun wl nwl => ?_⟩
      rw [show cutV (ss.map V.str) none (some 3) = (ss.take 3).map V.str by rw [List.map_take]; exact cut_to (j := 3) (by omega)]
      have hP7 := hP6.new (o := .lst ((ss.take 3).map V.str)) nwl
      have hpwl : p ≠ wl := by
        obtain ⟨l9, e9, _⟩ := hP6
        exact ne_of_none e9 nwl
      have hwl : (upd H6 wl (.lst ((ss.take 3).map V.str))) wl = some (.lst ((ss.take 3).map V.str)) := upd_same
      have kp7 : Kp (only1 p) H2 (upd H6 wl (.lst ((ss.take 3).map V.str))) := kp6.new nwl
      generalize upd H6 wl (.lst ((ss.take 3).map V.str)) = H7 at hP7 hwl kp7 ⊢
      refine ⟨_, rfl, p, wl, ss.take 3, R6, rfl, hP7, hwl, hpwl, by rw [List.length_take]; omega, fun z hz => hso z (List.mem_of_mem_take hz), by omega, fun H8 sv sn kp8 hP8 hsv hsm hsd hss => ?_⟩
      have kp28 : Kp (only1 p) H2 H8 := kp7.trans kp8
      have hN8 := kp28 _ _ (Ne.symm hpN) hN2
      obtain ⟨x, hx⟩ : ∃ x, ss[3]? = some x := ⟨_, List.getElem?_eq_getElem (by omega)⟩
      obtain ⟨y, hy⟩ : ∃ y, ss[4]? = some y := ⟨_, List.getElem?_eq_getElem (by omega)⟩
      have ax : atI (ss.map V.str) 3 = some (.str x) := atI_nat (j := 3) (by rw [List.getElem?_map, hx]; rfl)
      have ay : atI (ss.map V.str) 4 = some (.str y) := atI_nat (j := 4) (by rw [List.getElem?_map, hy]; rfl)
      refine ⟨_, rfl, N, _, 3, _, rfl, rfl, at_l hN8, ax, _, rfl, N, _, 4, _, rfl, rfl, at_l hN8, ay, (by show 2 ≤ sizeLine; decide), fun ba nba => ?_⟩
      have s9 := Same.new (o := .tup [.str x, .str y]) nba
      have hba : SqT K (upd H8 ba (.tup [.str x, .str y])) ba [.str x, .str y] := at_t upd_same
      have hP9 := hP8.new (o := .tup [.str x, .str y]) nba
      have kp29 : Kp (only1 p) H2 (upd H8 ba (.tup [.str x, .str y])) := kp28.new nba
      generalize upd H8 ba (.tup [.str x, .str y]) = H9 at s9 hba hP9 kp29 ⊢
      have hsv9 := hsv.s s9
      refine ⟨_, rfl, _, rfl, _, rfl, _, rfl, p, ba, sv, sn, x, y, M6, rfl, hP9, hsv9, hba, by omega, fun H10 za fl rows top xs kp10 hP10 hza nfl hfl hxs hlen htw => ?_⟩
      have kt10 := hP9.k kp10
      have hsv10 := hsv9.k kt10
      have hba10 := kt10.tup hba
      have kp210 := kp29.trans kp10
      have hpfl : p ≠ fl := by
        obtain ⟨l9, e9, _⟩ := hP9
        exact ne_of_none e9 nfl
      refine ⟨za, _, rfl, hza, rfl, _, _, rfl, _, _, rfl, rfl, ?_⟩
      refine ⟨_, rfl, _, rfl, (by show 2 ≤ sizeLine; decide), fun g ng => ?_⟩
      have s11 := Same.new (o := .tup [.str "own", kV top]) ng
      have hg : Tp K (upd H10 g (.tup [.str "own", kV top])) (.ref g) (Dr.own top).dat := .mk upd_same (.cons (.str _) (.cons (rf_tp top) .nil))
      generalize upd H10 g (.tup [.str "own", kV top]) = H11 at s11 hg ⊢
      refine ⟨fl, .ref g, xs, sn, rows, .own top, rfl, s11 _ _ hfl, hxs.s s11, hg, fun tv H12 s12 htv => ?_⟩
      have ejn : tre oF oF sn rows top 0 = jn sn rows (.own top) := jn_tre rows top 0 (fun j => rfl)
      rw [← ejn] at htv
      have s1012 := s11.trans s12
      refine ⟨_, rfl, _, rfl, _, rfl, ?_⟩
      refine ⟨sv, top, sn, M6, rfl, hsv10.s s1012, by omega, fun uv H13 s13 huv => ?_⟩
      have s1013 := s1012.trans s13
      refine ⟨_, rfl, (M6 : Int), rfl, by omega, by omega, by omega, by omega, ?_⟩
      have eM : ((M6 : Int) - 0).toNat = M6 := by omega
      rw [eM]
      have hxs13 := hxs.s s1013
      have hfl13 := s1013 _ _ hfl
      have xlen := hxs.len
      rw [List.length_map, hlen] at xlen
      refine for_rangeC (n := M6) (fun i σ' H' => Same H13 H' ∧ ∃ (du : V) (x12 : Option V), Tp K H' du (tre (xF sn) (xF sn) sn (rows.drop (M6 - i)) top (M6 - i)).dat ∧
        σ' = [some (.ref sa), some (.ref p0), some (.ref N), some (.ref p), some (iv R6), some (iv M6), some sv, some (.ref ba), some (.ref fl), some (kV top), some tv, some du, x12, none, none, none, none]) ⟨Same.refl _, uv, none, by rw [Nat.sub_zero, List.drop_of_length_le (by omega)]; exact huv, rfl⟩ ?_ ?_
      · rintro i σ' H' hi ⟨sm, du, x12, hdu, rfl⟩
        obtain ⟨pr, hpr⟩ : ∃ pr, rows[M6 - 1 - i]? = some pr := ⟨_, List.getElem?_eq_getElem (by omega)⟩
        obtain ⟨m, r⟩ := pr
        obtain ⟨rv, hrv, hrt⟩ := (hxs13.s sm).get (i := M6 - 1 - i) (d := rowDt sn (m, r)) (by rw [List.getElem?_map, hpr]; rfl)
        obtain ⟨ra, mv, sv2, ov, rfl, hra, hmv, hsv2, hov⟩ := row_at hrt
        obtain ⟨oa, rfl, hoa⟩ := own_at hov
        have eidx : (0 + (M6 : Int) - 1 + (i : Int) * -1) = ((M6 - 1 - i : Nat) : Int) := by omega
        rw [eidx]
        have hfl' := sm _ _ hfl13
        refine ⟨_, rfl, _, rfl, fl, _, _, _, rfl, rfl, at_l hfl', atI_nat hrv, _, rfl, ra, _, rfl, hra, (fun z => (show ¬ HT.sIx 4 4 (some 3) = 4 by decide) z.2), fun c1 nc1 => ?_⟩
        have s14 : Same H' (upd H' c1 (.tup [.str "cut", mv, sv2])) := Same.new nc1
        have hc1 : SqT K (upd H' c1 (.tup [.str "cut", mv, sv2])) c1 [.str "cut", mv, sv2] := at_t upd_same
        rw [show cutV [V.str "cut", mv, sv2, .ref oa] none (some 3) = [V.str "cut", mv, sv2] from rfl]
        generalize upd H' c1 (.tup [.str "cut", mv, sv2]) = H14 at s14 hc1 ⊢
        refine ⟨_, rfl, _, rfl, fl, _, _, _, rfl, rfl, at_l (s14 _ _ hfl'), atI_nat hrv, ra, _, 3, _, rfl, rfl, (kpT_same s14).tup hra, rfl, oa, _, 1, _, rfl, rfl, (kpT_same s14).tup hoa, rfl, _, rfl, _, rfl, ?_⟩
        refine ⟨sv, r, sn, M6 - 1 - i, rfl, hsv10.s ((s1013.trans sm).trans s14), by omega, fun ov2 H15 s15 hov2 => ?_⟩
        refine ⟨_, rfl, (by show 2 ≤ sizeLine; decide), fun c2 nc2 => ?_⟩
        have s16 := Same.new (o := .tup [ov2, du]) nc2
        refine ⟨c1, c2, _, _, rfl, rfl, (kpT_same (s15.trans s16)).tup hc1, at_t upd_same, (by show 3 + 2 ≤ sizeLine; decide), fun z => (by cases z), fun _ z => (by cases z), fun _ _ c nc => ?_⟩
        have s17 := s16.trans (Same.new (o := .tup [.str "cut", mv, sv2, ov2, du]) nc)
        have s14e := s14.trans (s15.trans s17)
        have ed : rows.drop (M6 - (i + 1)) = (m, r) :: rows.drop (M6 - i) := by
          obtain ⟨hlt, e2⟩ := List.getElem?_eq_some_iff.mp hpr
          rw [show M6 - (i + 1) = M6 - 1 - i by omega, List.drop_eq_getElem_cons hlt, e2, show M6 - 1 - i + 1 = M6 - i by omega]
        refine ⟨sm.trans s14e, _, _, ?_, rfl⟩
        rw [ed]
        show Tp K _ (.ref c) (Dr.cut m sn (exO sn r (M6 - (i + 1))) (tre (xF sn) (xF sn) sn (rows.drop (M6 - i)) top (M6 - (i + 1) + 1))).dat
        rw [show M6 - (i + 1) = M6 - 1 - i by omega, show M6 - 1 - i + 1 = M6 - i by omega]
        exact .mk upd_same (.cons (.str _) (.cons (hmv.s s14e) (.cons (hsv2.s s14e) (.cons (hov2.s s17) (.cons (hdu.s s14e) .nil)))))
      rintro σ' H14 ⟨s14, due, x12, hdue, rfl⟩
      rw [Nat.sub_self, List.drop_zero] at hdue
      have tw : Twr x y sn rows top := by
        refine ⟨htw, hso x (List.mem_of_getElem? hx), hso y (List.mem_of_getElem? hy), fun e => ?_, hsm, by omega, by omega, by omega, by omega⟩
        subst e
        have := (List.getElem?_inj (i := 3) (j := 4) (by omega) hsn).mp (by rw [hx, hy])
        omega
      have kp214 : Kp (only1 p) H2 H14 := kp210.trans (Kp.of (s1013.trans s14))
      have hP14 : PoolAt H14 p := hP10.s (s1013.trans s14)
      have hsv14 := hsv10.s (s1013.trans s14)
      have hba14 := (kpT_same (s1013.trans s14)).tup hba10
      have hfl14 := s14 _ _ hfl13
      have hxs14 := hxs13.s s14
      have htv14 := htv.s (s13.trans s14)
      have hN14 := kp214 _ _ (Ne.symm hpN) hN2
      clear hg huv hN8 hN6 hwl hba hba10 hsv hsv9 hsv10 hxs hxs13 hfl hfl13 hza hP7 hP8 hP9 hP10 kp7 kp8 kp10 kp28 kp29 kp210 s9 s11 s12 s13 s14 s1012 s1013 kt10 kp6 hP6 htv
      obtain ⟨r1, r2⟩ := tw.rows
      refine fun dv ndv => ?_
      refine ⟨(by show 0 ≤ sizeLine; decide), fun hl nhl => ?_⟩
      have hpdv : p ≠ dv := by
        obtain ⟨l9, e9, _⟩ := hP14
        exact ne_of_none e9 ndv
      have s15 : Same H14 (upd H14 dv (.dK [])) := Same.new ndv
      have hphl : p ≠ hl := by
        obtain ⟨l9, e9, _⟩ := hP14.s s15
        exact ne_of_none e9 nhl
      have hhd : hl ≠ dv := fun e => by rw [e, upd_same] at nhl; cases nhl
      have nhl0 : H14 hl = none := s15.free nhl
      have hdv0 : (upd (upd H14 dv (.dK [])) hl (.lst [])) dv = some (.dK []) := by rw [upd_ne (Ne.symm hhd), upd_same]
      have kpX : Kp (only1 p) H14 (upd (upd H14 dv (.dK [])) hl (.lst [])) := (Kp.refl.own ndv).own nhl0
      have hPX : PoolAt (upd (upd H14 dv (.dK [])) hl (.lst [])) p := (hP14.new ndv).new nhl
      refine ⟨_, rfl, ba, rfl, ⟨_, (hP14.k kpX).tup hba14⟩, ?_⟩
      refine for_tup (xs := [V.str x, V.str y]) (fun i σ' H' => Kp (only1 p) H14 H' ∧ PoolAt H' p ∧ ∃ (cs : List V) (bh : List Hold) (ys : List V) (x15 : Option V), H' dv = some (.dK (List.zipWith (fun z c => (nmR z, c)) [x, y] cs)) ∧ cs.length = i ∧ bh.length = i ∧ H' hl = some (.lst ys) ∧ TpAll K H' ys (bh.map holdD) ∧
        (∀ (j : Nat) (z : Str), j < i → [x, y][j]? = some z → (∃ c, cs[j]? = some c ∧ Tp K H' c (cntD (nU z rows + tU z top) (nD z rows))) ∧ ∃ n d, bh[j]? = some (z, .box n d, sn) ∧ nU z rows + tU z top ≤ n ∧ nD z rows ≤ d ∧ 1 ≤ n ∧ n ≤ 400 ∧ d ≤ 100) ∧
        σ' = [some (.ref sa), some (.ref p0), some (.ref N), some (.ref p), some (iv R6), some (iv M6), some sv, some (.ref ba), some (.ref fl), some (kV top), some tv, some due, x12, some (.ref dv), some (.ref hl), x15, none])
        ⟨kpX, hPX, [], [], [], none, hdv0, rfl, rfl, upd_same, .nil, fun j z hj => absurd hj (by omega), rfl⟩ (fun i σ' H' _ z => (hP14.k z.1).tup hba14) ?_ ?_
      · rintro i v σ' H' hv ⟨kp, hP', cs, bh, ys, x15, hdv, hcs, hbh, hhl, hys, hall, rfl⟩
        obtain ⟨z, hz, rfl⟩ : ∃ z, [x, y][i]? = some z ∧ v = .str z := by
          rcases two_at hv with ⟨rfl, rfl⟩ | ⟨rfl, rfl⟩
          · exact ⟨x, rfl, rfl⟩
          · exact ⟨y, rfl, rfl⟩
        have hi : i < 2 := by rcases two_at hv with ⟨rfl, _⟩ | ⟨rfl, _⟩ <;> omega
        have hzok : NameOk z := by
          rcases two_at hz with ⟨_, rfl⟩ | ⟨_, rfl⟩
          · exact tw.nx
          · exact tw.ny
        have kt := hP14.k kp
        have hflk := kp _ _ (Ne.symm hpfl) hfl14
        refine ⟨_, rfl, _, rfl, _, rfl, fl, xs, sn, rows, top, z, rfl, hflk, hxs14.k kt, r1, hzok, fun H15 cv s15 hcv => ?_⟩
        have hdv15 := s15 _ _ hdv
        refine ⟨_, rfl, _, rfl, dv, _, rfl, DPut.k (k := nmR z) hdv15 (sz2 (by rw [List.length_zipWith]; show min 2 _ < _; omega)), ?_⟩
        have eput : putK (List.zipWith (fun z c => (nmR z, c)) [x, y] cs) (nmR z) cv = List.zipWith (fun z c => (nmR z, c)) [x, y] (cs ++ [cv]) := by
          rcases two_at hz with ⟨rfl, rfl⟩ | ⟨rfl, rfl⟩
          · obtain rfl := List.length_eq_zero_iff.mp hcs
            rfl
          · match cs, hcs with
            | [c], _ =>
              have hne : ¬ nmR x = nmR z := fun w => tw.ne (Sum.inr.inj w)
              show putK [(nmR x, c)] (nmR z) cv = [(nmR x, c), (nmR z, cv)]
              unfold putK
              rw [if_neg (by simp only [List.any_cons, List.any_nil, Bool.or_false]; rw [decide_eq_false hne]; decide)]
              rfl
        rw [eput]
        have hP15 := hP'.s s15
        have kp16 : Kp (only1 p) H14 (upd H15 dv (.dK (List.zipWith (fun z c => (nmR z, c)) [x, y] (cs ++ [cv])))) := (kp.trans (Kp.of s15)).own ndv
        have hP16 : PoolAt (upd H15 dv (.dK (List.zipWith (fun z c => (nmR z, c)) [x, y] (cs ++ [cv])))) p := hP15.put hpdv
        have kd : KpT (only1 dv) H15 (upd H15 dv (.dK (List.zipWith (fun z c => (nmR z, c)) [x, y] (cs ++ [cv])))) := kpt_dK (Kp.refl.put rfl) hdv15
        have hcv16 := hcv.k kd
        have hys16 := (hys.s s15).k kd
        have hhl16 : (upd H15 dv (.dK (List.zipWith (fun z c => (nmR z, c)) [x, y] (cs ++ [cv])))) hl = some (.lst ys) := by rw [upd_ne hhd]; exact s15 _ _ hhl
        have hdv16 : (upd H15 dv (.dK (List.zipWith (fun z c => (nmR z, c)) [x, y] (cs ++ [cv])))) dv = some (.dK (List.zipWith (fun z c => (nmR z, c)) [x, y] (cs ++ [cv]))) := upd_same
        have hold16 : ∀ c d, Tp K H' c d → Tp K (upd H15 dv (.dK (List.zipWith (fun z c => (nmR z, c)) [x, y] (cs ++ [cv])))) c d := fun c d h => (h.s s15).k kd
        generalize upd H15 dv (.dK (List.zipWith (fun z c => (nmR z, c)) [x, y] (cs ++ [cv]))) = H16 at kp16 hP16 kd hcv16 hys16 hhl16 hdv16 hold16 ⊢
        have eget : valV (List.zipWith (fun z c => (nmR z, c)) [x, y] (cs ++ [cv])) (nmR z) = some cv := by
          rcases two_at hz with ⟨rfl, rfl⟩ | ⟨rfl, rfl⟩
          · obtain rfl := List.length_eq_zero_iff.mp hcs
            exact valV_pos rfl
          · match cs, hcs with
            | [c], _ =>
              have hne : ¬ nmR x = nmR z := fun w => tw.ne (Sum.inr.inj w)
              show valV [(nmR x, c), (nmR z, cv)] (nmR z) = _
              rw [valV_neg hne]
              exact valV_pos rfl
        obtain ⟨ca, rfl, hca⟩ := kd_box (n := nU z rows + tU z top) (d := nD z rows) hcv16
        have dg : ∀ H9, H9 dv = some (.dK (List.zipWith (fun z c => (nmR z, c)) [x, y] (cs ++ [V.ref ca]))) → DGet H9 dv (.str z) (some (.ref ca)) := fun H9 h => dget_k (k := nmR z) h eget
        obtain ⟨l9, e9, hl9⟩ := id hP16
        refine ⟨_, rfl, .inl ⟨rfl, _, at_l hhl16⟩, _, rfl, _, rfl, _, rfl, dv, _, rfl, dg _ hdv16, ca, _, 0, _, rfl, rfl, hca, rfl, _, _, rfl, _, rfl, p, l9, 3, rfl, e9, hl9, by decide, by decide, fun a1 l10 hl10 ha1 => ?_⟩
        have kt17 : KpT (only1 p) H16 (upd H16 p (.lst l10)) := hP16.k (Kp.refl.put rfl)
        have kp17 : Kp (only1 p) H14 (upd H16 p (.lst l10)) := kp16.put rfl
        have hP17 : PoolAt (upd H16 p (.lst l10)) p := ⟨l10, upd_same, hl10⟩
        have hdv17 : (upd H16 p (.lst l10)) dv = some (.dK (List.zipWith (fun z c => (nmR z, c)) [x, y] (cs ++ [V.ref ca]))) := by rw [upd_ne (Ne.symm hpdv)]; exact hdv16
        have hhl17 : (upd H16 p (.lst l10)) hl = some (.lst ys) := by rw [upd_ne (Ne.symm hphl)]; exact hhl16
        generalize upd H16 p (.lst l10) = H17 at kt17 kp17 hP17 hdv17 hhl17 ⊢
        obtain ⟨l11, e11, hl11⟩ := id hP17
        refine ⟨_, _, rfl, rfl, _, rfl, _, rfl, dv, _, rfl, dg _ hdv17, ca, _, 1, _, rfl, rfl, kt17.tup hca, rfl, _, rfl, p, l11, 3, rfl, e11, hl11, by decide, by decide, fun a2 l12 hl12 ha2 => ?_⟩
        have kt18 : KpT (only1 p) H17 (upd H17 p (.lst l12)) := hP17.k (Kp.refl.put rfl)
        have kp18 : Kp (only1 p) H14 (upd H17 p (.lst l12)) := kp17.put rfl
        have hP18 : PoolAt (upd H17 p (.lst l12)) p := ⟨l12, upd_same, hl12⟩
        have hdv18 : (upd H17 p (.lst l12)) dv = some (.dK (List.zipWith (fun z c => (nmR z, c)) [x, y] (cs ++ [V.ref ca]))) := by rw [upd_ne (Ne.symm hpdv)]; exact hdv17
        have hhl18 : (upd H17 p (.lst l12)) hl = some (.lst ys) := by rw [upd_ne (Ne.symm hphl)]; exact hhl17
        generalize upd H17 p (.lst l12) = H18 at kt18 kp18 hP18 hdv18 hhl18 ⊢
        refine ⟨_, _, rfl, rfl, (by show 2 ≤ sizeLine; decide), fun e ne => ?_⟩
        have em1 : V.int ((if ((nU z rows + tU z top : Nat) : Int) > 1 then ((nU z rows + tU z top : Nat) : Int) else 1) + (a1 : Int)) = iv (max 1 (nU z rows + tU z top) + a1) := by
          show V.int _ = V.int _
          congr 1
          split <;> omega
        have em2 : V.int (((nD z rows : Nat) : Int) + (a2 : Int)) = iv (nD z rows + a2) := rfl
        dsimp only
        rw [em1, em2]
        have u1 := nU_le (z := z) htw
        have u2 := tU_le (z := z) (top := top)
        have s19 := Same.new (o := .tup [iv (max 1 (nU z rows + tU z top) + a1), iv (nD z rows + a2)]) ne
        have he : Tp K (upd H18 e (.tup [iv (max 1 (nU z rows + tU z top) + a1), iv (nD z rows + a2)])) (.ref e) (Kd.box (max 1 (nU z rows + tU z top) + a1) (nD z rows + a2)).dat := .mk upd_same (.cons (.int _) (.cons (.int _) .nil))
        have kp19 := kp18.new (o := .tup [iv (max 1 (nU z rows + tU z top) + a1), iv (nD z rows + a2)]) ne
        have hP19 := hP18.new (o := .tup [iv (max 1 (nU z rows + tU z top) + a1), iv (nD z rows + a2)]) ne
        generalize upd H18 e (.tup [iv (max 1 (nU z rows + tU z top) + a1), iv (nD z rows + a2)]) = H19 at s19 he kp19 hP19 ⊢
        refine ⟨_, rfl, (by show 3 ≤ sizeLine; decide), fun f nf => ?_⟩
        have s20 := Same.new (o := .tup [.str z, .ref e, sv]) nf
        have kp20 := kp19.new (o := .tup [.str z, .ref e, sv]) nf
        have hP20 := hP19.new (o := .tup [.str z, .ref e, sv]) nf
        have hf : Tp K (upd H19 f (.tup [.str z, .ref e, sv])) (.ref f) (holdD (z, Kd.box (max 1 (nU z rows + tU z top) + a1) (nD z rows + a2), sn)) := .mk upd_same (.cons (.str _) (.cons (he.s s20) (.cons (hsv14.k (hP14.k kp20)) .nil)))
        generalize upd H19 f (.tup [.str z, .ref e, sv]) = H20 at s20 kp20 hP20 hf ⊢
        have s1820 := s19.trans s20
        have hhl20 := s1820 _ _ hhl18
        have kl : KpT (only1 hl) H20 (upd H20 hl (.lst (ys ++ [.ref f]))) := kpt_lst (Kp.refl.put rfl) hhl20
        have tr : ∀ v d, Tp K H16 v d → Tp K (upd H20 hl (.lst (ys ++ [.ref f]))) v d := fun v d h => (((h.k kt17).k kt18).s s1820).k kl
        have trA : ∀ v d, TpAll K H16 v d → TpAll K (upd H20 hl (.lst (ys ++ [.ref f]))) v d := fun v d h => (((h.k kt17).k kt18).s s1820).k kl
        have ylen := hys16.len
        rw [List.length_map, hbh] at ylen
        refine ⟨hl, _, _, rfl, rfl, hhl20, sz2 (by omega), kp20.own nhl0, hP20.put hphl, cs ++ [.ref ca], bh ++ [(z, Kd.box (max 1 (nU z rows + tU z top) + a1) (nD z rows + a2), sn)], _, _, ?_, by rw [List.length_append, hcs]; rfl, by rw [List.length_append, hbh]; rfl, upd_same, ?_, ?_, rfl⟩
        · rw [upd_ne (Ne.symm hhd)]
          exact s1820 _ _ hdv18
        · rw [List.map_append]
          exact (trA _ _ hys16).app (.cons (hf.k kl) .nil)
        · intro j z' hj hz'
          by_cases hji : j < i
          · obtain ⟨⟨c, hc1, hc2⟩, n, d, hb1, hb2⟩ := hall j z' hji hz'
            refine ⟨⟨c, by rw [List.getElem?_append_left (by omega)]; exact hc1, tr _ _ (hold16 _ _ hc2)⟩, n, d, by rw [List.getElem?_append_left (by omega)]; exact hb1, hb2⟩
          · have hji : j = i := by omega
            subst hji
            rw [hz] at hz'
            cases hz'
            refine ⟨⟨.ref ca, by rw [List.getElem?_append_right (by omega), hcs, Nat.sub_self]; rfl, tr _ _ hcv16⟩, _, _, by rw [List.getElem?_append_right (by omega), hbh, Nat.sub_self]; rfl, by omega, by omega, by omega, by omega, by omega⟩
      · rintro σ' H15 ⟨kp, hP15, cs, bh, ys, x15, hdv, hcs, hbh, hhl, hys, hall, rfl⟩
        have hcs : cs.length = 2 := hcs
        have hbh : bh.length = 2 := hbh
        obtain ⟨⟨cx, hcx1, hcx⟩, n1, d1, hb1, x1, x2, x3, x4, x5⟩ := hall 0 x (by show 0 < 2; decide) rfl
        obtain ⟨⟨cy, hcy1, hcy⟩, n2, d2, hb2, y1, y2, y3, y4, y5⟩ := hall 1 y (by show 1 < 2; decide) rfl
        have ecs : cs = [cx, cy] := by
          match cs, hcs with
          | [c, d], _ =>
            cases hcx1
            cases hcy1
            rfl
        have ebh : bh = baseH x y sn n1 d1 n2 d2 := by
          match bh, hbh with
          | [c, d], _ =>
            cases hb1
            cases hb2
            rfl
        subst ecs ebh
        have hdv : H15 dv = some (.dK [(nmR x, cx), (nmR y, cy)]) := hdv
        have cov : Cov x y rows top n1 d1 n2 d2 := ⟨x1, x2, y1, y2⟩
        have sm1 : (Kd.box n1 d1).Sm := ⟨x3, by omega, by omega⟩
        have sm2 : (Kd.box n2 d2).Sm := ⟨y3, by omega, by omega⟩
        have kt15 := hP14.k kp
        have hsv15 := hsv14.k kt15
        have htv15 := htv14.k kt15
        have hdue15 := hdue.k kt15
        have hfl15 := kp _ _ (Ne.symm hpfl) hfl14
        have hxs15 := hxs14.k kt15
        have hN15 := kp _ _ (Ne.symm hpN) hN14
        have shn := due_shown tw.tw tw.ne tw.sh cov
        refine ⟨_, rfl, hl, ys, rfl, .inl ⟨at_l hhl, fun q1 nq1 => ?_⟩⟩
        have s16 : Same H15 (upd H15 q1 (.tup ys)) := Same.new nq1
        have hq1 : Tp K (upd H15 q1 (.tup ys)) (.ref q1) (.tuple ((baseH x y sn n1 d1 n2 d2).map holdD)) := .mk upd_same (hys.s s16)
        generalize upd H15 q1 (.tup ys) = H16 at s16 hq1 ⊢
        refine ⟨_, rfl, (by show 2 ≤ sizeLine; decide), fun q2 nq2 => ?_⟩
        have s17 := Same.new (o := .tup [.ref q1, sv]) nq2
        have hclm : Tp K (upd H16 q2 (.tup [.ref q1, sv])) (.ref q2) (clmD (baseH x y sn n1 d1 n2 d2, sn)) := .mk upd_same (.cons (hq1.s s17) (.cons (hsv15.s (s16.trans s17)) .nil))
        generalize upd H16 q2 (.tup [.ref q1, sv]) = H17 at s17 hclm ⊢
        have s1517 := s16.trans s17
        refine fun lx ldx nx ndx ne => ⟨lx, ldx, rfl, upd_same, fun H18 k18 => ⟨rfl, ?_⟩⟩
        have s18 := lib_same nx ndx ne k18
        have s1518 := s1517.trans s18
        have wdp := tw.dp
        have wsz := tw.sz
        have wln := tw.ln
        have wall := tw.all
        have bnd : ∀ r h, scF (baseH x y sn n1 d1 n2 d2) r = some h → h.2.dp < 70 := scF_dp (fun h hh => by
          have hh : h ∈ [((x, .box n1 d1, sn) : Hold), (y, .box n2 d2, sn)] := hh
          rcases List.mem_cons.mp hh with rfl | hh
          · show sn.dp < 70; omega
          · rw [List.mem_singleton] at hh
            subst hh
            show sn.dp < 70; omega)
        have nd2 : ((baseH x y sn n1 d1 n2 d2).map (·.1)).Nodup := by simp [baseH, tw.ne]
        have hGx : scF (baseH x y sn n1 d1 n2 d2) (nmR x) = some (.box n1 d1, sn) := scF_in (u := (x, .box n1 d1, sn)) nd2 (by simp [baseH])
        have hGy : scF (baseH x y sn n1 d1 n2 d2) (nmR y) = some (.box n2 d2, sn) := scF_in (u := (y, .box n2 d2, sn)) nd2 (by simp [baseH])
        have towS := inv_shown (sts := []) (ext := []) (g' := sn) tw.tw ⟨rfl, rfl⟩ (n1 := n1) (d1 := d1) (n2 := n2) (d2 := d2) (by rw [List.append_nil]; exact nd2) tw.sh cov
        rw [List.append_nil] at towS
        have eiv : (invL [] : Rf → Nat → Dr) = oF := by
          funext r k
          rfl
        rw [eiv] at towS
        have tdp : (tre oF oF sn rows top 0).dp ≤ rows.length + 0 := tre_dp (L := oF) (Lt := oF) (M := 0) (fun r k => Nat.le_refl _) (fun r k => Nat.le_refl _) rows top 0
        have tci : CutIn 70 (tre oF oF sn rows top 0) := tre_ci (L := oF) (Lt := oF) (by omega) (fun r k => trivial) (fun r k => trivial) rows top 0
        have ddp : (tre (xF sn) (xF sn) sn rows top 0).dp ≤ rows.length + 2 * sn.dp := tre_dp (fun r k => exO_dp sn r k) (fun r k => exO_dp sn r k) rows top 0
        have dsz : (tre (xF sn) (xF sn) sn rows top 0).sz ≤ rows.length * (3 * sn.sz + 1) + 3 * sn.sz := tre_sz (fun r k => exO_sz sn r k) (fun r k => exO_sz sn r k) rows top 0
        have dci : CutIn 70 (tre (xF sn) (xF sn) sn rows top 0) := tre_ci (by omega) (fun r k => exO_ci sn r k) (fun r k => exO_ci sn r k) rows top 0
        have dkn : (tre (xF sn) (xF sn) sn rows top 0).Kn := tre_kn (fun r k => exO_kn sn r k tw.sm) (fun r k => exO_kn sn r k tw.sm) rows top 0 r1
        have dsz2 : rows.length * (3 * sn.sz + 1) ≤ 45 * (3 * 39 + 1) := Nat.mul_le_mul wln (by omega)
        have shD : Shw (tre (xF sn) (xF sn) sn rows top 0).dat 60 1048576 := by
          refine (tre_shw (M := 2 * sn.dp + 2) (W := 11700) tw.sm (by omega) (fun r k hr hk => ?_) (fun r k hr hk => ?_) rows top 0 r1 r2 (by omega)).mono (by omega) ?_
          · exact (Dr.shw (exO_lf sn r k tw.sm hr (by omega))).mono (by have := exO_dp sn r k; show (exO sn r k).dp + 2 ≤ _; omega) (by have := exO_sz sn r k; show (exO sn r k).sz * 100 ≤ _; omega)
          · exact (Dr.shw (exO_lf sn r k tw.sm hr (by omega))).mono (by have := exO_dp sn r k; show (exO sn r k).dp + 2 ≤ _; omega) (by have := exO_sz sn r k; show (exO sn r k).sz * 100 ≤ _; omega)
          · have := Nat.mul_le_mul wln (show 11700 + sn.sz * 60 + 50 ≤ 14090 by omega)
            omega
        obtain ⟨dds, edd⟩ : ∃ ds, (tre (xF sn) (xF sn) sn rows top 0).dat = .tuple ds := by cases (tre (xF sn) (xF sn) sn rows top 0) <;> exact ⟨_, rfl⟩
        refine ⟨_, rfl, _, rfl, .ref lx, .ref q2, tv, _, (baseH x y sn n1 d1 n2 d2, sn), rfl, hclm.s s18, htv15.s s1518, by show 2 ≤ 1000; decide, towS.1, ⟨by show sn.dp < 70; omega, bnd⟩, tci, by omega, by omega, fun z1 H19 s19 hz1 => ?_⟩
        have eexp : exP (tre oF oF sn rows top 0) (scF (baseH x y sn n1 d1 n2 d2)) sn 0 = tre (xF sn) (xF sn) sn rows top 0 := exP_tow
        have hz1 : Tp K H19 z1 (tre (xF sn) (xF sn) sn rows top 0).dat := by
          rw [← eexp]
          exact hz1
        have s1519 := s1518.trans s19
        refine ⟨_, rfl, z1, due, dds, 1048576, rfl, by rw [← edd]; exact hz1, by rw [← edd]; exact hdue15.s s1519, by rw [← edd]; exact shD, Nat.le_refl _, true, rfl, iteF ?_⟩
        have hclm19 := hclm.s (s18.trans s19)
        have htv19 := htv15.s s1519
        have hdue19 := hdue15.s s1519
        have hP19 := hP15.s s1519
        have hsv19 := hsv15.s s1519
        have hfl19 := s1519 _ _ hfl15
        have hxs19 := hxs15.s s1519
        have hN19 := s1519 _ _ hN15
        have hdv19 := s1519 _ _ hdv
        have hhl19 := s1519 _ _ hhl
        have hys19 := hys.s s1519
        have hcx19 := hcx.s s1519
        have hcy19 := hcy.s s1519
        dsimp only [tNext, tSeq, tAsg, tC, gName]
        refine ifS_all (fun σ2 H' => Same H19 H' ∧ σ2 = [some (.ref sa), some (.ref p0), some (.ref N), some (.ref p), some (iv R6), some (iv M6), some sv, some (.ref ba), some (.ref fl), some (kV top), some tv, some due, x12, some (.ref dv), some (.ref hl), x15, some (.ref q2)]) ?_ fun els => ?_
        · rintro σ2 H20 ⟨s20, rfl⟩
          have hN20 := s20 _ _ hN19
          refine ⟨_, rfl, _, rfl, _, rfl, _, rfl, _, rfl, _, rfl, N, _, rfl, at_l hN20, fun wl nwl => ?_⟩
          have ec : cutV (ss.map V.str) (some 5) (some 24) = ((ss.drop 5).take 19).map V.str := by
            rw [List.map_take, List.map_drop]
            unfold cutV
            rw [show (some (5 : Int)) = some ((5 : Nat) : Int) from rfl, show (some (24 : Int)) = some ((24 : Nat) : Int) from rfl, HT.sIx_nat, HT.sIx_nat, smap]
            rfl
          rw [ec]
          have hin : ∀ z, z ∈ ss.drop 5 → NameOk z ∧ z ≠ x ∧ z ≠ y := fun z hz => by
            have h5 := List.take_append_drop 5 ss
            have hn := hsn
            rw [← h5] at hn
            have h6 := (List.nodup_append.mp hn).2.2
            have mx : x ∈ ss.take 5 := List.mem_of_getElem? (i := 3) (by rw [List.getElem?_take_of_lt (by omega)]; exact hx)
            have my : y ∈ ss.take 5 := List.mem_of_getElem? (i := 4) (by rw [List.getElem?_take_of_lt (by omega)]; exact hy)
            exact ⟨hso z (List.mem_of_mem_drop hz), fun e => h6 _ mx _ hz e.symm, fun e => h6 _ my _ hz e.symm⟩
          have hnd5 : (ss.drop 5).Nodup := (List.drop_sublist 5 ss).nodup hsn
          have sw := Same.new (o := .lst (((ss.drop 5).take 19).map V.str)) nwl
          have hpwl2 : p ≠ wl := by
            obtain ⟨l9, e9, _⟩ := hP19.s s20
            exact ne_of_none e9 nwl
          have hwl2 : (upd H20 wl (.lst (((ss.drop 5).take 19).map V.str))) wl = some (.lst (((ss.drop 5).take 19).map V.str)) := upd_same
          generalize upd H20 wl (.lst (((ss.drop 5).take 19).map V.str)) = H21 at sw hwl2 ⊢
          have s21 := s20.trans sw
          refine ⟨p, wl, .ref q2, tv, _, x, y, sn, rows, top, n1, d1, n2, d2, rfl, hP19.s s21, hwl2, hpwl2, hclm19.s s21, htv19.s s21, (List.take_sublist 19 _).nodup hnd5, fun z hz => hin z (List.mem_of_mem_take hz), by rw [List.length_take]; omega, tw, cov, sm1, sm2, Nat.le_refl _, fun H22 k22 hP22 => ⟨true, rfl, iteF ?_⟩⟩
          have hP21 := hP19.s s21
          have kt22 := hP21.k k22
          have htv22 := (htv19.s s21).k kt22
          have hsv22 := (hsv19.s s21).k kt22
          have hfl22 := k22 _ _ (Ne.symm hpfl) (s21 _ _ hfl19)
          have hxs22 := (hxs19.s s21).k kt22
          have hN22 := k22 _ _ (Ne.symm hpN) (s21 _ _ hN19)
          have hdv22 := k22 _ _ (Ne.symm hpdv) (s21 _ _ hdv19)
          have hhl22 := k22 _ _ (Ne.symm hphl) (s21 _ _ hhl19)
          have hys22 := (hys19.s s21).k kt22
          have hcx22 := (hcx19.s s21).k kt22
          have hcy22 := (hcy19.s s21).k kt22
          obtain ⟨l23, e23, hl23⟩ := id hP22
          refine ⟨_, rfl, _, rfl, _, rfl, p, l23, 21, rfl, e23, hl23, by decide, by decide, fun mx l24 hl24 hmx => ?_⟩
          have kp24 : Kp (only1 p) H22 (upd H22 p (.lst l24)) := Kp.refl.put rfl
          have hP24 : PoolAt (upd H22 p (.lst l24)) p := ⟨l24, upd_same, hl24⟩
          generalize upd H22 p (.lst l24) = H24 at kp24 hP24 ⊢
          have kt24 := hP22.k kp24
          refine ⟨_, _, rfl, rfl, _, rfl, N, _, rfl, at_l (kp24 _ _ (Ne.symm hpN) hN22), fun w2 nw2 => ?_⟩
          have ec2 : cutV (ss.map V.str) (some 5) (some (5 + (mx : Int))) = ((ss.drop 5).take mx).map V.str := by
            rw [List.map_take, List.map_drop]
            unfold cutV
            rw [show (some (5 : Int)) = some ((5 : Nat) : Int) from rfl, show (5 + (mx : Int)) = ((5 + mx : Nat) : Int) by omega, HT.sIx_nat, HT.sIx_nat, smap, show min (5 + mx) 26 = 5 + mx by omega, show min 5 26 = 5 from rfl, show 5 + mx - 5 = mx by omega]
          rw [ec2]
          have sw2 := Same.new (o := .lst (((ss.drop 5).take mx).map V.str)) nw2
          have hw2 : (upd H24 w2 (.lst (((ss.drop 5).take mx).map V.str))) w2 = some (.lst (((ss.drop 5).take mx).map V.str)) := upd_same
          have hpw2 : p ≠ w2 := by
            obtain ⟨l9, e9, _⟩ := hP24
            exact ne_of_none e9 nw2
          have hhl24 := kp24 _ _ (Ne.symm hphl) hhl22
          have hhw2 : hl ≠ w2 := ne_of_none hhl24 nw2
          generalize upd H24 w2 (.lst (((ss.drop 5).take mx).map V.str)) = H25 at sw2 hw2 ⊢
          have hP25 := hP24.s sw2
          have hhl25 := sw2 _ _ hhl24
          have hys25 := (hys22.k kt24).s sw2
          have htv25 := (htv22.k kt24).s sw2
          have hsv25 := (hsv22.k kt24).s sw2
          have hxs25 := (hxs22.k kt24).s sw2
          have hcx25 := (hcx22.k kt24).s sw2
          have hcy25 := (hcy22.k kt24).s sw2
          have hfl25 := sw2 _ _ (kp24 _ _ (Ne.symm hpfl) hfl22)
          have hdv25 := sw2 _ _ (kp24 _ _ (Ne.symm hpdv) hdv22)
          generalize ezs : (ss.drop 5).take mx = zs at hw2 ⊢
          have zlen : zs.length ≤ 20 := by rw [← ezs, List.length_take]; omega
          have znd : zs.Nodup := by rw [← ezs]; exact (List.take_sublist mx _).nodup hnd5
          have zin : ∀ z, z ∈ zs → NameOk z ∧ z ≠ x ∧ z ≠ y := fun z hz => hin z (by rw [← ezs] at hz; exact List.mem_of_mem_take hz)
          have kpm : ∀ H', Kp (fun b => b = p ∨ b = hl) H25 H' → KpT (fun b => b = p ∨ b = hl) H25 H' := fun H' k => ⟨k, fun b hb => by
            rcases hb with rfl | rfl
            · obtain ⟨l9, e9, _⟩ := hP25
              exact ⟨_, e9, fun xs f => ⟨(by intro z; cases z), (by intro z; cases z)⟩⟩
            · exact ⟨_, hhl25, fun xs f => ⟨(by intro z; cases z), (by intro z; cases z)⟩⟩⟩
          have hflhl : fl ≠ hl := ne_of_none hfl14 nhl0
          refine ⟨w2, rfl, ⟨_, at_l hw2⟩, ?_⟩
          refine for_list (xs := zs.map V.str) (fun i σ' H' => Kp (fun b => b = p ∨ b = hl) H25 H' ∧ PoolAt H' p ∧ ∃ (hs : List Hold) (ys : List V) (x15 : Option V), H' hl = some (.lst ys) ∧ TpAll K H' ys (hs.map holdD) ∧ hs.length = 2 + i ∧ (hs.map (·.1)).Nodup ∧ (∀ h, h ∈ hs → NameOk h.1 ∧ KdB h.2.1 ∧ h.2.2 = sn) ∧ (∀ h, h ∈ hs → h.1 = x ∨ h.1 = y ∨ h.1 ∈ zs.take i) ∧
            ((x, .box n1 d1, sn) : Hold) ∈ hs ∧ ((y, .box n2 d2, sn) : Hold) ∈ hs ∧ σ' = [some (.ref sa), some (.ref p0), some (.ref N), some (.ref p), some (iv R6), some (iv M6), some sv, some (.ref ba), some (.ref fl), some (kV top), some tv, some due, x12, some (.ref dv), some (.ref hl), x15, some (.ref q2)])
            ⟨Kp.refl, hP25, baseH x y sn n1 d1 n2 d2, ys, x15, hhl25, hys25, rfl, nd2, fun h hh => ?_, fun h hh => ?_, by simp [baseH], by simp [baseH], rfl⟩ (fun i σ' H' _ z => at_l (z.1 _ _ (fun e => e.elim (fun e => hpw2 e.symm) (fun e => hhw2 e.symm)) hw2)) ?_ ?_
          · have hh : h ∈ [((x, .box n1 d1, sn) : Hold), (y, .box n2 d2, sn)] := hh
            rcases List.mem_cons.mp hh with rfl | hh
            · exact ⟨tw.nx, ⟨x3, by omega, x5⟩, rfl⟩
            · rw [List.mem_singleton] at hh
              subst hh
              exact ⟨tw.ny, ⟨y3, by omega, y5⟩, rfl⟩
          · have hh : h ∈ [((x, .box n1 d1, sn) : Hold), (y, .box n2 d2, sn)] := hh
            rcases List.mem_cons.mp hh with rfl | hh
            · exact .inl rfl
            · rw [List.mem_singleton] at hh
              subst hh
              exact .inr (.inl rfl)
          · rintro i v σ' H' hv ⟨k, hP', hs, ys, x15, hhl', hys', hlen', hnd', hok', hnm', hbx, hby, rfl⟩
            rw [List.getElem?_map] at hv
            cases ez : zs[i]? with
            | none => rw [ez] at hv; cases hv
            | some z =>
              rw [ez] at hv
              cases hv
              have hi : i < zs.length := (List.getElem?_eq_some_iff.mp ez).1
              obtain ⟨z1, z2, z3⟩ := zin z (List.mem_of_getElem? ez)
              have htk : zs.take (i + 1) = zs.take i ++ [z] := by rw [List.take_add_one, ez]; rfl
              have znew : z ∉ hs.map (·.1) := fun hm => by
                obtain ⟨u, hu, rfl⟩ := List.mem_map.mp hm
                rcases hnm' u hu with h | h | h
                · exact z2 h
                · exact z3 h
                · have h5 := List.take_append_drop (i + 1) zs
                  rw [htk] at h5
                  have zn := znd
                  rw [← h5] at zn
                  have h6 := (List.nodup_append.mp zn).1
                  exact (List.nodup_append.mp h6).2.2 _ h _ (List.mem_singleton.mpr rfl) rfl
              have ylen := hys'.len
              rw [List.length_map] at ylen
              obtain ⟨m1, f1, hm1⟩ := id hP'
              refine ⟨_, rfl, .inl ⟨rfl, _, at_l hhl'⟩, _, rfl, _, rfl, hl, ys, rfl, .inl (at_l hhl'), _, _, rfl, rfl, p, m1, _, rfl, f1, hm1, by omega, by omega, fun at_ m2 hm2 hat => ?_⟩
              have ka : KpT (only1 p) H' (upd H' p (.lst m2)) := hP'.k (Kp.refl.put rfl)
              have k26 : Kp (fun b => b = p ∨ b = hl) H25 (upd H' p (.lst m2)) := k.put (.inl rfl)
              have hP26 : PoolAt (upd H' p (.lst m2)) p := ⟨m2, upd_same, hm2⟩
              have hhl26 : (upd H' p (.lst m2)) hl = some (.lst ys) := by rw [upd_ne (Ne.symm hphl)]; exact hhl'
              have hys26 := hys'.k ka
              generalize upd H' p (.lst m2) = H26 at k26 hP26 hhl26 hys26 ⊢
              obtain ⟨m3, f3, hm3⟩ := id hP26
              refine ⟨_, rfl, _, rfl, p, m3, 600, rfl, f3, hm3, by decide, by decide, fun a1 m4 hm4 ha1 => ?_⟩
              have kb : KpT (only1 p) H26 (upd H26 p (.lst m4)) := hP26.k (Kp.refl.put rfl)
              have k27 : Kp (fun b => b = p ∨ b = hl) H25 (upd H26 p (.lst m4)) := k26.put (.inl rfl)
              have hP27 : PoolAt (upd H26 p (.lst m4)) p := ⟨m4, upd_same, hm4⟩
              have hhl27 : (upd H26 p (.lst m4)) hl = some (.lst ys) := by rw [upd_ne (Ne.symm hphl)]; exact hhl26
              have hys27 := hys26.k kb
              generalize upd H26 p (.lst m4) = H27 at k27 hP27 hhl27 hys27 ⊢
              obtain ⟨m5, f5, hm5⟩ := id hP27
              refine ⟨_, _, rfl, rfl, _, rfl, p, m5, 101, rfl, f5, hm5, by decide, by decide, fun a2 m6 hm6 ha2 => ?_⟩
              have kc : KpT (only1 p) H27 (upd H27 p (.lst m6)) := hP27.k (Kp.refl.put rfl)
              have k28 : Kp (fun b => b = p ∨ b = hl) H25 (upd H27 p (.lst m6)) := k27.put (.inl rfl)
              have hP28 : PoolAt (upd H27 p (.lst m6)) p := ⟨m6, upd_same, hm6⟩
              have hhl28 : (upd H27 p (.lst m6)) hl = some (.lst ys) := by rw [upd_ne (Ne.symm hphl)]; exact hhl27
              have hys28 := hys27.k kc
              generalize upd H27 p (.lst m6) = H28 at k28 hP28 hhl28 hys28 ⊢
              refine ⟨(by show 2 ≤ sizeLine; decide), fun e ne => ?_⟩
              have em : V.int (1 + (a1 : Int)) = iv (1 + a1) := rfl
              dsimp only
              rw [em]
              have s29 := Same.new (o := .tup [iv (1 + a1), iv a2]) ne
              have k29 : Kp (fun b => b = p ∨ b = hl) H25 (upd H28 e (.tup [iv (1 + a1), iv a2])) := k28.new ne
              have he : Tp K (upd H28 e (.tup [iv (1 + a1), iv a2])) (.ref e) (Kd.box (1 + a1) a2).dat := .mk upd_same (.cons (.int _) (.cons (.int _) .nil))
              have hP29 := hP28.new (o := .tup [iv (1 + a1), iv a2]) ne
              generalize upd H28 e (.tup [iv (1 + a1), iv a2]) = H29 at s29 k29 he hP29 ⊢
              refine ⟨_, rfl, (by show 3 ≤ sizeLine; decide), fun f nf => ?_⟩
              have s30 := Same.new (o := .tup [.str z, .ref e, sv]) nf
              have k30 : Kp (fun b => b = p ∨ b = hl) H25 (upd H29 f (.tup [.str z, .ref e, sv])) := k29.new nf
              have hf : Tp K (upd H29 f (.tup [.str z, .ref e, sv])) (.ref f) (holdD (z, Kd.box (1 + a1) a2, sn)) := .mk upd_same (.cons (.str _) (.cons (he.s s30) (.cons (hsv25.k (kpm _ k30)) .nil)))
              have hP30 := hP29.new (o := .tup [.str z, .ref e, sv]) nf
              generalize upd H29 f (.tup [.str z, .ref e, sv]) = H30 at s30 k30 hf hP30 ⊢
              have s2830 := s29.trans s30
              have hhl30 := s2830 _ _ hhl28
              have hys30 := hys28.s s2830
              have hat2 : at_ ≤ hs.length := by omega
              refine ⟨hl, ys, (at_ : Int), .ref f, rfl, rfl, hhl30, sz2 (by omega), by omega, by omega, ?_⟩
              rw [Int.toNat_natCast]
              have kl : KpT (only1 hl) H30 (upd H30 hl (.lst (ys.take at_ ++ [.ref f] ++ ys.drop at_))) := kpt_lst (Kp.refl.put rfl) hhl30
              refine ⟨k30.put (.inr rfl), hP30.put hphl, hs.take at_ ++ [(z, Kd.box (1 + a1) a2, sn)] ++ hs.drop at_, _, _, upd_same, ?_, ?_, ?_, fun h hh => ?_, fun h hh => ?_, ?_, ?_, rfl⟩
              · rw [List.map_append, List.map_append, List.map_take, List.map_drop]
                exact (((hys30.take at_).app (.cons hf .nil)).app (hys30.drop at_)).k kl
              · rw [List.length_append, List.length_append, List.length_take, List.length_drop]
                show min at_ hs.length + 1 + _ = _
                omega
              · have pm : (hs.take at_ ++ [(z, Kd.box (1 + a1) a2, sn)] ++ hs.drop at_).map (·.1) = (hs.map (·.1)).take at_ ++ [z] ++ (hs.map (·.1)).drop at_ := by
                  rw [List.map_append, List.map_append, List.map_take, List.map_drop]
                  rfl
                rw [pm]
                generalize hs.map (·.1) = nms at hnd' znew
                have h5 := List.take_append_drop at_ nms
                have hperm : (nms.take at_ ++ [z] ++ nms.drop at_).Perm (z :: nms) := by
                  have e1 : (nms.take at_ ++ [z] ++ nms.drop at_).Perm ([z] ++ nms.take at_ ++ nms.drop at_) := List.Perm.append_right _ List.perm_append_comm
                  rw [List.append_assoc [z], h5] at e1
                  exact e1
                exact hperm.nodup_iff.mpr (List.nodup_cons.mpr ⟨znew, hnd'⟩)
              · rcases List.mem_append.mp hh with hh | hh
                · rcases List.mem_append.mp hh with hh | hh
                  · exact hok' h (List.mem_of_mem_take hh)
                  · rw [List.mem_singleton] at hh
                    subst hh
                    exact ⟨z1, ⟨by omega, by omega, by omega⟩, rfl⟩
                · exact hok' h (List.mem_of_mem_drop hh)
              · have old : h ∈ hs → h.1 = x ∨ h.1 = y ∨ h.1 ∈ zs.take (i + 1) := fun hm => by
                  rcases hnm' h hm with h' | h' | h'
                  · exact .inl h'
                  · exact .inr (.inl h')
                  · exact .inr (.inr (by rw [htk]; exact List.mem_append_left _ h'))
                rcases List.mem_append.mp hh with hh | hh
                · rcases List.mem_append.mp hh with hh | hh
                  · exact old (List.mem_of_mem_take hh)
                  · rw [List.mem_singleton] at hh
                    subst hh
                    exact .inr (.inr (by rw [htk]; exact List.mem_append_right _ (List.mem_singleton.mpr rfl)))
                · exact old (List.mem_of_mem_drop hh)
              · have hm := hbx
                rw [← List.take_append_drop at_ hs] at hm
                rcases List.mem_append.mp hm with hm | hm
                · exact List.mem_append_left _ (List.mem_append_left _ hm)
                · exact List.mem_append_right _ hm
              · have hm := hby
                rw [← List.take_append_drop at_ hs] at hm
                rcases List.mem_append.mp hm with hm | hm
                · exact List.mem_append_left _ (List.mem_append_left _ hm)
                · exact List.mem_append_right _ hm
          · rintro σ' H' ⟨k, hP', hs, ys, x15, hhl', hys', hlen', hnd', hok', hnm', hbx, hby, rfl⟩
            have kt := kpm _ k
            have hlen2 : hs.length ≤ 30 := by
              rw [hlen', List.length_map]
              omega
            refine ⟨_, rfl, _, rfl, hl, ys, rfl, .inl ⟨at_l hhl', fun q8 nq8 => ?_⟩⟩
            have s31 : Same H' (upd H' q8 (.tup ys)) := Same.new nq8
            have hq8 : Tp K (upd H' q8 (.tup ys)) (.ref q8) (.tuple (hs.map holdD)) := .mk upd_same (hys'.s s31)
            generalize upd H' q8 (.tup ys) = H31 at s31 hq8 ⊢
            refine ⟨_, rfl, (by show 2 ≤ sizeLine; decide), fun q9 nq9 => ?_⟩
            have s32 := Same.new (o := .tup [.ref q8, sv]) nq9
            have hq9 : Tp K (upd H31 q9 (.tup [.ref q8, sv])) (.ref q9) (clmD (hs, sn)) := .mk upd_same (.cons (hq8.s s32) (.cons (((hsv25.k kt).s s31).s s32) .nil))
            generalize upd H31 q9 (.tup [.ref q8, sv]) = H32 at s32 hq9 ⊢
            have s3 := s31.trans s32
            refine ⟨_, rfl, _, rfl, _, rfl, _, rfl, ?_⟩
            exact ⟨p, fl, dv, .ref q9, tv, xs, x, y, sn, rows, top, n1, d1, n2, d2, hs, cx, cy, rfl, hP'.s s3, hq9, (htv25.k kt).s s3, s3 _ _ (k _ _ (fun e => e.elim (fun e => hpfl e.symm) hflhl) hfl25), hpfl, (hxs25.k kt).s s3, s3 _ _ (k _ _ (fun e => e.elim (fun e => hpdv e.symm) (fun e => hhd e.symm)) hdv25), (hcx25.k kt).s s3, (hcy25.k kt).s s3, ⟨hnd', hok', hbx, hby, hlen2, x4, y4⟩, tw, Nat.le_refl _, fun H9 => q H9⟩
        · refine ⟨_, rfl, due, _, rfl, hdue19, by omega, fun H20 nsz s20 => ⟨_, _, rfl, rfl, _, rfl, ite2 (fun _ => ?_) (fun _ => ?_)⟩⟩
          · refine fun lx2 ldx2 nx2 ndx2 ne2 => ⟨lx2, ldx2, rfl, upd_same, fun H21 k21 => ⟨rfl, ?_⟩⟩
            have s21 := lib_same nx2 ndx2 ne2 k21
            have s1921 := s20.trans s21
            refine ⟨_, rfl, _, rfl, .ref lx2, .ref q2, due, _, (baseH x y sn n1 d1 n2 d2, sn), rfl, hclm19.s s1921, hdue19.s s1921, by show 2 ≤ 1000; decide, shn.1, ⟨by show sn.dp < 70; omega, bnd⟩, dci, by omega, by omega, fun z2 H22 s22 hz2 => ?_⟩
            have eexp2 : exP (tre (xF sn) (xF sn) sn rows top 0) (scF (baseH x y sn n1 d1 n2 d2)) sn 0 = tre (xF sn) (xF sn) sn rows top 0 := exP_due tw.tw wok0 ⟨⟨_, hGx⟩, ⟨_, hGy⟩, fun j e => by cases e⟩
            have hz2 : Tp K H22 z2 (tre (xF sn) (xF sn) sn rows top 0).dat := by
              rw [← eexp2]
              exact hz2
            have s1922 := s1921.trans s22
            refine ⟨_, rfl, z2, due, dds, 1048576, rfl, by rw [← edd]; exact hz2, by rw [← edd]; exact hdue19.s s1922, by rw [← edd]; exact shD, Nat.le_refl _, true, rfl, iteF ?_⟩
            refine fun lx3 ldx3 nx3 ndx3 ne3 => ⟨lx3, ldx3, rfl, upd_same, fun H23 k23 => ⟨rfl, ?_⟩⟩
            have s23 := lib_same nx3 ndx3 ne3 k23
            have s1923 := s1922.trans s23
            refine ⟨_, rfl, _, rfl, .ref lx3, .ref q2, due, _, (baseH x y sn n1 d1 n2 d2, sn), rfl, hclm19.s s1923, hdue19.s s1923, shn, by show 2 ≤ 1000; decide, dkn, by omega, by omega, by omega, fun H24 s24 => ⟨true, true, rfl, rfl, _, rfl, ?_⟩⟩
            exact iteF (els _ _ ⟨s1923.trans s24, rfl⟩)
          · exact els _ _ ⟨s20, rfl⟩
    · obtain ⟨l5, e5, hl5⟩ := id hP5
      refine ⟨_, rfl, p, l5, 8, rfl, e5, hl5, by decide, by decide, fun d6 l6 hl6 hd6 => ?_⟩
      have kp6 : Kp (only1 p) H2 (upd H5 p (.lst l6)) := kp5.put rfl
      have hP6 : PoolAt (upd H5 p (.lst l6)) p := ⟨l6, upd_same, hl6⟩
      generalize upd H5 p (.lst l6) = H6 at kp6 hP6 ⊢
      refine ⟨rfl, _, rfl, ite2 (fun _ => ?_) (fun _ => ?_)⟩
      · obtain ⟨l7, e7, hl7⟩ := id hP6
        refine ⟨_, rfl, p, l7, 2, rfl, e7, hl7, by decide, by decide, fun d7 l8 hl8 hd7 => ?_⟩
        have kp8 : Kp (only1 p) H2 (upd H6 p (.lst l8)) := kp6.put rfl
        have hP8 : PoolAt (upd H6 p (.lst l8)) p := ⟨l8, upd_same, hl8⟩
        generalize upd H6 p (.lst l8) = H8 at kp8 hP8 ⊢
        obtain ⟨l9, e9, hl9⟩ := id hP8
        refine ⟨_, rfl, p, l9, 16, rfl, e9, hl9, by decide, by decide, fun d9 l10 hl10 hd9 => ?_⟩
        refine ⟨_, _, rfl, rfl, els _ _ ⟨d7, 30 + d9, .inr ⟨by omega, by omega⟩, kp8.put rfl, ⟨l10, upd_same, hl10⟩, rfl⟩⟩
      · exact els _ _ ⟨R', M, .inl ⟨hR', by omega⟩, kp6, hP6, rfl⟩
  · obtain ⟨l5, e5, hl5⟩ := id hP4
    refine ⟨_, rfl, p, l5, 4, rfl, e5, hl5, by decide, by decide, fun d6 l6 hl6 hd6 => ?_⟩
    have kp6 : Kp (only1 p) H2 (upd H4 p (.lst l6)) := kp4.put rfl
    have hP6 : PoolAt (upd H4 p (.lst l6)) p := ⟨l6, upd_same, hl6⟩
    generalize upd H4 p (.lst l6) = H6 at kp6 hP6 ⊢
    refine ⟨rfl, _, rfl, ite2 (fun _ => ?_) (fun _ => ?_)⟩
    · obtain ⟨l7, e7, hl7⟩ := id hP6
      refine ⟨_, rfl, p, l7, 20, rfl, e7, hl7, by decide, by decide, fun d7 l8 hl8 hd7 => ?_⟩
      exact els _ _ ⟨d7, by omega, kp6.put rfl, ⟨l8, upd_same, hl8⟩, rfl⟩
    · exact els _ _ ⟨R, by omega, kp6, hP6, rfl⟩
end
end W81
namespace W81
open PySem PySem.Spec PyProof.Rows L2 HX
section
variable {P : Program} {w : World} {K : PySem.W.Frag} {mg : Str → Option Value} {base : Heap}
theorem counts_all (T : Tx K mg w) : ∀ d, FnOk P w K mg base CX0 (d + 8) T.a_counts T.d_counts ["derivation", "level"] (spCounts K T.C_Count d)
  | 0 => ⟨fun vs H Q E h => by obtain ⟨_, _, _, _, _, _, _, h, _⟩ := h; exact absurd h (Nat.not_lt_zero _), fun _ _ _ _ _ _ _ _ _ _ _ _ _ h => by obtain ⟨_, _, _, _, _, _, _, h, _⟩ := h; exact absurd h (Nat.not_lt_zero _)⟩
  | d + 1 => by
    have init : FnOk P w K mg base CX0 1 T.a_Count__init T.d_Count__init ["self", "least", "most", "days"] (spCInit T.C_Count) := ok_Count__init (k := 0) T
    have add := ok_Count__add (k := 1) T init
    have or_ := ok_Count__or (k := 1) T init
    have bx := ok_Count_boxed (k := 1) T init
    exact counts_step (k := d + 7) (d := d) T (init.mono (by omega)) (counts_all T d) ((ok_without (k := 0) T).mono (by omega)) ((ok_either (k := 3) T (init.mono (by decide)) (or_.mono (by decide))).mono (by omega)) ((ok_added (k := 3) T add).mono (by omega)) ((ok_boxed_counts (k := 3) T bx).mono (by omega))
theorem check_all (T : Tx K mg w) : ∀ d, d ≤ 70 → FnOk P w K mg base CX0 (d + 90) T.a_check_part T.d_check_part ["library", "scope", "goal", "derivation", "level", "path"] (spCheckPart K d)
  | 0, _ => ⟨fun vs H Q E h => by obtain ⟨_, _, _, _, _, _, _, _, _, _, _, _, _, _, _, _, _, _, _, _, _, h, _⟩ := h; exact absurd h (Nat.not_lt_zero _), fun _ _ _ _ _ _ _ _ _ _ _ _ _ h => by obtain ⟨_, _, _, _, _, _, _, _, _, _, _, _, _, _, _, _, _, _, _, _, _, h, _⟩ := h; exact absurd h (Nat.not_lt_zero _)⟩
  | d + 1, hd => by
    have init : FnOk P w K mg base CX0 1 T.a_Count__init T.d_Count__init ["self", "least", "most", "days"] (spCInit T.C_Count) := ok_Count__init (k := 0) T
    have co := ok_count_of (k := 77) T (init.mono (by decide)) (counts_all (P := P) (base := base) T 70)
    have pl := ok_places_above (k := 3) T ((ok_premise_goals (k := 0) T).mono (by decide)) ((ok_new_hold (k := 0) T).mono (by decide)) ((ok_brings (P := P) (base := base) (k := 0) T).mono (by decide))
    exact check_step (k := d + 90) (d := d) (D := 70) (by omega) T ((ok_row_fault (k := 3) T ((ok_use_fault (k := 0) T).mono (by decide))).mono (by omega)) ((ok_premises (k := 0) T).mono (by omega)) (pl.mono (by omega)) (check_all T d (by omega)) ((ok_new_hold (k := 0) T).mono (by omega)) (co.mono (by omega)) ((ok_Count_fits (k := 0) T).mono (by omega))
theorem expown_all (T : Tx K mg w) : ∀ d, FnOk P w K mg base CX0 (d + 1) T.a_expanded_own T.d_expanded_own ["ref", "goal", "level"] (spExpOwn K d)
  | 0 => ⟨fun vs H Q E h => by obtain ⟨_, _, _, _, _, _, h, _⟩ := h; exact absurd h (Nat.not_lt_zero _), fun _ _ _ _ _ _ _ _ _ _ _ _ _ h => by obtain ⟨_, _, _, _, _, _, h, _⟩ := h; exact absurd h (Nat.not_lt_zero _)⟩
  | d + 1 => expown_step (k := d + 1) T (expown_all T d)
theorem opened_all (T : Tx K mg w) : ∀ d, FnOk P w K mg base CX0 (d + 1) T.a_law_opened T.d_law_opened ["ref", "sentence", "level"] (spExpOwn K d)
  | 0 => ⟨fun vs H Q E h => by obtain ⟨_, _, _, _, _, _, h, _⟩ := h; exact absurd h (Nat.not_lt_zero _), fun _ _ _ _ _ _ _ _ _ _ _ _ _ h => by obtain ⟨_, _, _, _, _, _, h, _⟩ := h; exact absurd h (Nat.not_lt_zero _)⟩
  | d + 1 => opened_step (k := d + 1) T (opened_all T d)
theorem exppart_all (T : Tx K mg w) : ∀ d, FnOk P w K mg base CX0 (d + 80) T.a_expanded_part T.d_expanded_part ["library", "scope", "goal", "derivation", "level"] (spExpPart K 70 d)
  | 0 => ⟨fun vs H Q E h => by obtain ⟨_, _, _, _, _, _, _, _, _, _, _, _, _, _, _, _, _, h, _⟩ := h; exact absurd h (Nat.not_lt_zero _), fun _ _ _ _ _ _ _ _ _ _ _ _ _ h => by obtain ⟨_, _, _, _, _, _, _, _, _, _, _, _, _, _, _, _, _, h, _⟩ := h; exact absurd h (Nat.not_lt_zero _)⟩
  | d + 1 => by
    have pl := ok_places_above (k := 3) T ((ok_premise_goals (k := 0) T).mono (by decide)) ((ok_new_hold (k := 0) T).mono (by decide)) ((ok_brings (P := P) (base := base) (k := 0) T).mono (by decide))
    exact exppart_step (k := d + 80) (d := d) (D := 70) T ((expown_all T 70).mono (by omega)) ((ok_premises (k := 0) T).mono (by omega)) (pl.mono (by omega)) (exppart_all T d) ((ok_rebuilt (k := 0) T).mono (by omega))
theorem inverted_all (T : Tx K mg w) : ∀ d, FnOk P w K mg base CX0 (d + 3) T.a_inverted T.d_inverted ["derivation", "goal", "choice", "level"] (spInverted K d)
  | 0 => ⟨fun vs H Q E h => by obtain ⟨_, _, _, _, _, _, _, _, _, _, _, _, h, _⟩ := h; exact absurd h (Nat.not_lt_zero _), fun _ _ _ _ _ _ _ _ _ _ _ _ _ h => by obtain ⟨_, _, _, _, _, _, _, _, _, _, _, _, h, _⟩ := h; exact absurd h (Nat.not_lt_zero _)⟩
  | d + 1 => inverted_step (k := d + 3) T ((ok_used (k := 0) T).mono (by omega)) ((ok_premises (k := 0) T).mono (by omega)) (inverted_all T d) ((ok_rebuilt (k := 0) T).mono (by omega))
theorem linverted_all (T : Tx K mg w) : ∀ d, FnOk P w K mg base CX0 (d + 1) T.a_law_inverted T.d_law_inverted ["tree", "goal", "choice", "level"] (spInverted K d)
  | 0 => ⟨fun vs H Q E h => by obtain ⟨_, _, _, _, _, _, _, _, _, _, _, _, h, _⟩ := h; exact absurd h (Nat.not_lt_zero _), fun _ _ _ _ _ _ _ _ _ _ _ _ _ h => by obtain ⟨_, _, _, _, _, _, _, _, _, _, _, _, h, _⟩ := h; exact absurd h (Nat.not_lt_zero _)⟩
  | d + 1 => linverted_step (k := d + 1) T (linverted_all T d)
theorem moved_all (T : Tx K mg w) : ∀ d, FnOk P w K mg base CX0 (d + 3) T.a_moved T.d_moved ["derivation", "old", "new", "renamed"] (spMoved K d)
  | 0 => ⟨fun vs H Q E h => by obtain ⟨_, _, _, _, _, _, _, _, h, _⟩ := h; exact absurd h (Nat.not_lt_zero _), fun _ _ _ _ _ _ _ _ _ _ _ _ _ h => by obtain ⟨_, _, _, _, _, _, _, _, h, _⟩ := h; exact absurd h (Nat.not_lt_zero _)⟩
  | d + 1 => moved_step (k := d + 3) T ((ok_premises (k := 0) T).mono (by omega)) (moved_all T d) ((ok_rebuilt (k := 0) T).mono (by omega)) ((ok_refers_to (k := 0) T).mono (by omega)) ((ok_moved_ref (k := 0) T).mono (by omega))
theorem size_all (T : Tx K mg w) : ∀ d, FnOk P w K mg base CX0 (d + 3) T.a_law_size T.d_law_size ["tree"] (spSize K d)
  | 0 => ⟨fun vs H Q E h => by obtain ⟨_, _, _, _, h, _⟩ := h; exact absurd h (Nat.not_lt_zero _), fun _ _ _ _ _ _ _ _ _ _ _ _ _ h => by obtain ⟨_, _, _, _, h, _⟩ := h; exact absurd h (Nat.not_lt_zero _)⟩
  | d + 1 => size_step (k := d + 3) T ((ok_law_is_row (k := 0) T).mono (by omega)) (size_all T d)
end
/-! ### the whole chain -/
theorem law_ok {P : Program} {w : World} {K : PySem.W.Frag} {mg : Str → Option Value} {base : Heap} {T : Tx K mg w} : FnOkG P w K mg base CX0 230 T.a_law T.d_law ["script"] (spLaw K) := by
  have init : FnOk P w K mg base CX0 1 T.a_Library__init T.d_Library__init ["self"] (spLInit T.C_Library) := ok_Library__init (k := 0) T
  have cinit : FnOk P w K mg base CX0 1 T.a_Count__init T.d_Count__init ["self", "least", "most", "days"] (spCInit T.C_Count) := ok_Count__init (k := 0) T
  have next : FnOk P w K mg base CX0 1 T.a_law_next T.d_law_next ["pool", "many"] spNext := ok_law_next (k := 0) T
  have sco : FnOk P w K mg base CX0 1 T.a_scope_of T.d_scope_of ["claim"] (spScopeOf K) := ok_scope_of (k := 0) T
  have chk := ok_check (P := P) (base := base) (k := 200) (D := 70) T ((check_all T 70 (Nat.le_refl _)).mono (by decide)) (sco.mono (by decide)) ((counts_all T 70).mono (by decide)) (cinit.mono (by decide)) ((ok_Count_fits (k := 0) T).mono (by decide))
  have acc := ok_accepts (P := P) (base := base) (k := 202) T chk
  have exp := ok_expanded (P := P) (base := base) (k := 180) (D := 70) (d := 70) T (sco.mono (by decide)) ((exppart_all T 70).mono (by decide))
  have same : FnOkG P w K mg base CX0 1 T.a_law_same T.d_law_same ["told", "due"] (spSame K) := ok_law_same (k := 0) T
  have isn : FnOk P w K mg base CX0 1 T.a_is_number T.d_is_number ["value"] spIsNumber := ok_is_number (k := 0) T
  have mkc := ok_make_claim (P := P) (base := base) (k := 3) T ((ok_is_name (k := 0) T).mono (by decide)) ((ok_is_kind (k := 1) T isn).mono (by decide))
  have wh := ok_with_hold (P := P) (base := base) (k := 4) T mkc
  have it := ok_invert_take (P := P) (base := base) (k := 100) (d := 70) T (wh.mono (by decide)) ((inverted_all T 70).mono (by decide))
  have io := ok_invert_offer (P := P) (base := base) (k := 100) (d := 70) T ((inverted_all T 70).mono (by decide))
  have tk := ok_law_taken_apart (P := P) (base := base) (k := 220) (D := 70) T (it.mono (by decide)) (io.mono (by decide)) ((linverted_all T 70).mono (by decide)) (next.mono (by decide)) (same.mono (by decide)) (acc.mono (by decide)) (init.mono (by decide))
  have ho : FnOk P w K mg base CX0 1 T.a_hold_of T.d_hold_of ["claim", "name"] (spHoldOf K) := ok_hold_of (k := 0) T
  have wk : FnOk P w K mg base CX0 1 T.a_with_kind T.d_with_kind ["claim", "name", "kind"] (spWithKind K) := ok_with_kind (k := 0) T
  have wr := ok_with_room (P := P) (base := base) (k := 1) T (ok_covers (k := 0) T) ho wk
  have phs := ok_pooled_holds (P := P) (base := base) (k := 100) (d := 70) T (ho.mono (by decide)) (wk.mono (by decide)) ((ok_without_hold (k := 1) T ho).mono (by decide)) ((ok_pooled (k := 0) T).mono (by decide)) ((moved_all T 70).mono (by decide))
  have lk := ok_least_kinds (P := P) (base := base) (k := 100) (D := 70) T ((counts_all T 70).mono (by decide))
  have jo : FnOk P w K mg base CX0 1 T.a_law_joined T.d_law_joined ["rows", "top"] (spJoined K) := ok_law_joined (k := 0) T
  have rn := ok_law_renamed (P := P) (base := base) (k := 1) T jo
  have md := ok_law_mended (P := P) (base := base) (k := 200) (D := 70) T (next.mono (by decide)) (same.mono (by decide)) (wr.mono (by decide)) (phs.mono (by decide)) (rn.mono (by decide)) (lk.mono (by decide))
  exact ok_law (k := 228) T ((ok_law_pool (k := 1) T (ok_law_cell (k := 0) T)).mono (by decide)) ((ok_law_names (k := 1) T next).mono (by decide)) (next.mono (by decide)) ((ok_law_wrapped (k := 1) T next).mono (by decide)) ((ok_law_tower (k := 1) T next).mono (by decide)) (jo.mono (by decide))
    ((opened_all T 70).mono (by decide)) ((ok_law_count (k := 0) T).mono (by decide)) (same.mono (by decide)) (exp.mono (by decide)) (init.mono (by decide)) ((size_all T 70).mono (by decide)) (acc.mono (by decide)) (tk.mono (by decide)) (md.mono (by decide))
/-! ### what the top has written -/
theorem all_mk {P : Program} {w : World} {K : PySem.W.Frag} {h : Heap} {mg : Str → Option Value} {fa : Addr} (X : K.In h) (G : h.Ns mainGlobals mg) (hfa : mg "law" = some (.ref fa))
    {f0 : Addr} {od0 an0 : Option Addr} {sl0 : Array (Option Value)} {oc0 kV0 dc0 pm0 cd0 ct0 : Value}
    {f1 : Addr} {od1 an1 : Option Addr} {sl1 : Array (Option Value)} {oc1 kV1 dc1 pm1 cd1 ct1 : Value}
    {f2 : Addr} {od2 an2 : Option Addr} {sl2 : Array (Option Value)} {oc2 kV2 dc2 pm2 cd2 ct2 : Value}
    {f3 : Addr} {od3 an3 : Option Addr} {sl3 : Array (Option Value)} {oc3 kV3 dc3 pm3 cd3 ct3 : Value}
    {f4 : Addr} {od4 an4 : Option Addr} {sl4 : Array (Option Value)} {oc4 kV4 dc4 pm4 cd4 ct4 : Value}
    {f5 : Addr} {od5 an5 : Option Addr} {sl5 : Array (Option Value)} {oc5 kV5 dc5 pm5 cd5 ct5 : Value}
    {f6 : Addr} {od6 an6 : Option Addr} {sl6 : Array (Option Value)} {oc6 kV6 dc6 pm6 cd6 ct6 : Value}
    {f7 : Addr} {od7 an7 : Option Addr} {sl7 : Array (Option Value)} {oc7 kV7 dc7 pm7 cd7 ct7 : Value}
    {f8 : Addr} {od8 an8 : Option Addr} {sl8 : Array (Option Value)} {oc8 kV8 dc8 pm8 cd8 ct8 : Value}
    {f9 : Addr} {od9 an9 : Option Addr} {sl9 : Array (Option Value)} {oc9 kV9 dc9 pm9 cd9 ct9 : Value}
    {T9 : Addr} {oT9 : Value} {eT9 : Option Addr} {nT9 : Nat} {sT9 : Array (Option Value)} {tT9 : Tok}
    {f10 : Addr} {od10 an10 : Option Addr} {sl10 : Array (Option Value)} {oc10 kV10 dc10 pm10 cd10 ct10 : Value}
    {f11 : Addr} {od11 an11 : Option Addr} {sl11 : Array (Option Value)} {oc11 kV11 dc11 pm11 cd11 ct11 : Value}
    {f12 : Addr} {od12 an12 : Option Addr} {sl12 : Array (Option Value)} {oc12 kV12 dc12 pm12 cd12 ct12 : Value}
    {f13 : Addr} {od13 an13 : Option Addr} {sl13 : Array (Option Value)} {oc13 kV13 dc13 pm13 cd13 ct13 : Value}
    {f14 : Addr} {od14 an14 : Option Addr} {sl14 : Array (Option Value)} {oc14 kV14 dc14 pm14 cd14 ct14 : Value}
    {f15 : Addr} {od15 an15 : Option Addr} {sl15 : Array (Option Value)} {oc15 kV15 dc15 pm15 cd15 ct15 : Value}
    {f16 : Addr} {od16 an16 : Option Addr} {sl16 : Array (Option Value)} {oc16 kV16 dc16 pm16 cd16 ct16 : Value}
    {f17 : Addr} {od17 an17 : Option Addr} {sl17 : Array (Option Value)} {oc17 kV17 dc17 pm17 cd17 ct17 : Value}
    {f18 : Addr} {od18 an18 : Option Addr} {sl18 : Array (Option Value)} {oc18 kV18 dc18 pm18 cd18 ct18 : Value}
    {f19 : Addr} {od19 an19 : Option Addr} {sl19 : Array (Option Value)} {oc19 kV19 dc19 pm19 cd19 ct19 : Value}
    {f20 : Addr} {od20 an20 : Option Addr} {sl20 : Array (Option Value)} {oc20 kV20 dc20 pm20 cd20 ct20 : Value}
    {f21 : Addr} {od21 an21 : Option Addr} {sl21 : Array (Option Value)} {oc21 kV21 dc21 pm21 cd21 ct21 : Value}
    {f22 : Addr} {od22 an22 : Option Addr} {sl22 : Array (Option Value)} {oc22 kV22 dc22 pm22 cd22 ct22 : Value}
    {f23 : Addr} {od23 an23 : Option Addr} {sl23 : Array (Option Value)} {oc23 kV23 dc23 pm23 cd23 ct23 : Value}
    {f24 : Addr} {od24 an24 : Option Addr} {sl24 : Array (Option Value)} {oc24 kV24 dc24 pm24 cd24 ct24 : Value}
    {f25 : Addr} {od25 an25 : Option Addr} {sl25 : Array (Option Value)} {oc25 kV25 dc25 pm25 cd25 ct25 : Value}
    {f26 : Addr} {od26 an26 : Option Addr} {sl26 : Array (Option Value)} {oc26 kV26 dc26 pm26 cd26 ct26 : Value}
    {f27 : Addr} {od27 an27 : Option Addr} {sl27 : Array (Option Value)} {oc27 kV27 dc27 pm27 cd27 ct27 : Value}
    {f28 : Addr} {od28 an28 : Option Addr} {sl28 : Array (Option Value)} {oc28 kV28 dc28 pm28 cd28 ct28 : Value}
    {f29 : Addr} {od29 an29 : Option Addr} {sl29 : Array (Option Value)} {oc29 kV29 dc29 pm29 cd29 ct29 : Value}
    {f30 : Addr} {od30 an30 : Option Addr} {sl30 : Array (Option Value)} {oc30 kV30 dc30 pm30 cd30 ct30 : Value}
    {f31 : Addr} {od31 an31 : Option Addr} {sl31 : Array (Option Value)} {oc31 kV31 dc31 pm31 cd31 ct31 : Value}
    {f32 : Addr} {od32 an32 : Option Addr} {sl32 : Array (Option Value)} {oc32 kV32 dc32 pm32 cd32 ct32 : Value}
    {f33 : Addr} {od33 an33 : Option Addr} {sl33 : Array (Option Value)} {oc33 kV33 dc33 pm33 cd33 ct33 : Value}
    {f34 : Addr} {od34 an34 : Option Addr} {sl34 : Array (Option Value)} {oc34 kV34 dc34 pm34 cd34 ct34 : Value}
    {f35 : Addr} {od35 an35 : Option Addr} {sl35 : Array (Option Value)} {oc35 kV35 dc35 pm35 cd35 ct35 : Value}
    {f36 : Addr} {od36 an36 : Option Addr} {sl36 : Array (Option Value)} {oc36 kV36 dc36 pm36 cd36 ct36 : Value}
    {f37 : Addr} {od37 an37 : Option Addr} {sl37 : Array (Option Value)} {oc37 kV37 dc37 pm37 cd37 ct37 : Value}
    {f38 : Addr} {od38 an38 : Option Addr} {sl38 : Array (Option Value)} {oc38 kV38 dc38 pm38 cd38 ct38 : Value}
    {f39 : Addr} {od39 an39 : Option Addr} {sl39 : Array (Option Value)} {oc39 kV39 dc39 pm39 cd39 ct39 : Value}
    {f40 : Addr} {od40 an40 : Option Addr} {sl40 : Array (Option Value)} {oc40 kV40 dc40 pm40 cd40 ct40 : Value}
    {f41 : Addr} {od41 an41 : Option Addr} {sl41 : Array (Option Value)} {oc41 kV41 dc41 pm41 cd41 ct41 : Value}
    {f42 : Addr} {od42 an42 : Option Addr} {sl42 : Array (Option Value)} {oc42 kV42 dc42 pm42 cd42 ct42 : Value}
    {f43 : Addr} {od43 an43 : Option Addr} {sl43 : Array (Option Value)} {oc43 kV43 dc43 pm43 cd43 ct43 : Value}
    {f44 : Addr} {od44 an44 : Option Addr} {sl44 : Array (Option Value)} {oc44 kV44 dc44 pm44 cd44 ct44 : Value}
    {f45 : Addr} {od45 an45 : Option Addr} {sl45 : Array (Option Value)} {oc45 kV45 dc45 pm45 cd45 ct45 : Value}
    {f46 : Addr} {od46 an46 : Option Addr} {sl46 : Array (Option Value)} {oc46 kV46 dc46 pm46 cd46 ct46 : Value}
    {f47 : Addr} {od47 an47 : Option Addr} {sl47 : Array (Option Value)} {oc47 kV47 dc47 pm47 cd47 ct47 : Value}
    {f48 : Addr} {od48 an48 : Option Addr} {sl48 : Array (Option Value)} {oc48 kV48 dc48 pm48 cd48 ct48 : Value}
    {f49 : Addr} {od49 an49 : Option Addr} {sl49 : Array (Option Value)} {oc49 kV49 dc49 pm49 cd49 ct49 : Value}
    {f50 : Addr} {od50 an50 : Option Addr} {sl50 : Array (Option Value)} {oc50 kV50 dc50 pm50 cd50 ct50 : Value}
    {f51 : Addr} {od51 an51 : Option Addr} {sl51 : Array (Option Value)} {oc51 kV51 dc51 pm51 cd51 ct51 : Value}
    {f52 : Addr} {od52 an52 : Option Addr} {sl52 : Array (Option Value)} {oc52 kV52 dc52 pm52 cd52 ct52 : Value}
    {f53 : Addr} {od53 an53 : Option Addr} {sl53 : Array (Option Value)} {oc53 kV53 dc53 pm53 cd53 ct53 : Value}
    {f54 : Addr} {od54 an54 : Option Addr} {sl54 : Array (Option Value)} {oc54 kV54 dc54 pm54 cd54 ct54 : Value}
    {f55 : Addr} {od55 an55 : Option Addr} {sl55 : Array (Option Value)} {oc55 kV55 dc55 pm55 cd55 ct55 : Value}
    {f56 : Addr} {od56 an56 : Option Addr} {sl56 : Array (Option Value)} {oc56 kV56 dc56 pm56 cd56 ct56 : Value}
    {f57 : Addr} {od57 an57 : Option Addr} {sl57 : Array (Option Value)} {oc57 kV57 dc57 pm57 cd57 ct57 : Value}
    {f58 : Addr} {od58 an58 : Option Addr} {sl58 : Array (Option Value)} {oc58 kV58 dc58 pm58 cd58 ct58 : Value}
    {f59 : Addr} {od59 an59 : Option Addr} {sl59 : Array (Option Value)} {oc59 kV59 dc59 pm59 cd59 ct59 : Value}
    {f60 : Addr} {od60 an60 : Option Addr} {sl60 : Array (Option Value)} {oc60 kV60 dc60 pm60 cd60 ct60 : Value}
    {f61 : Addr} {od61 an61 : Option Addr} {sl61 : Array (Option Value)} {oc61 kV61 dc61 pm61 cd61 ct61 : Value}
    {f62 : Addr} {od62 an62 : Option Addr} {sl62 : Array (Option Value)} {oc62 kV62 dc62 pm62 cd62 ct62 : Value}
    {f63 : Addr} {od63 an63 : Option Addr} {sl63 : Array (Option Value)} {oc63 kV63 dc63 pm63 cd63 ct63 : Value}
    {CCount CLib fP fB : Addr}
    {eP eB : Array DictEntry} {nP nB : Nat}
    {tLE tDI tLO : Tok}
    {t_own : Tok} {b_own : Addr} {ob_own : Option Addr} {nb_own : Nat} {sb_own : Array (Option Value)}
    {t_take : Tok} {b_take : Addr} {ob_take : Option Addr} {nb_take : Nat} {sb_take : Array (Option Value)}
    {t_offer : Tok} {b_offer : Addr} {ob_offer : Option Addr} {nb_offer : Nat} {sb_offer : Array (Option Value)}
    {t_pick : Tok} {b_pick : Addr} {ob_pick : Option Addr} {nb_pick : Nat} {sb_pick : Array (Option Value)}
    {t_pay : Tok} {b_pay : Addr} {ob_pay : Option Addr} {nb_pay : Nat} {sb_pay : Array (Option Value)}
    {t_cut : Tok} {b_cut : Addr} {ob_cut : Option Addr} {nb_cut : Nat} {sb_cut : Array (Option Value)}
    (a0 : PySem.W.findIn K (.ref CCount) "__init__" = some (some (.ref f0)))
    (i0 : PySem.W.isFn K (.ref f0) = true)
    (l0 : K.lookup f0 = some ⟨oc0, od0, .func (PySem.W.fnOf "__init__" "Count.__init__" (defArgs s_Count__init) (defBody s_Count__init) (defScope s_Count__init) .none kV0 dc0 pm0 an0 cd0 ct0), sl0⟩)
    (c0 : PySem.W.codeIn K cd0 "Count.__init__" = true)
    (k0 : PySem.W.keepIn K (.ref f0) = true)
    (a1 : PySem.W.findIn K (.ref CCount) "__add__" = some (some (.ref f1)))
    (i1 : PySem.W.isFn K (.ref f1) = true)
    (l1 : K.lookup f1 = some ⟨oc1, od1, .func (PySem.W.fnOf "__add__" "Count.__add__" (defArgs s_Count__add) (defBody s_Count__add) (defScope s_Count__add) .none kV1 dc1 pm1 an1 cd1 ct1), sl1⟩)
    (c1 : PySem.W.codeIn K cd1 "Count.__add__" = true)
    (k1 : PySem.W.keepIn K (.ref f1) = true)
    (a2 : PySem.W.findIn K (.ref CCount) "__or__" = some (some (.ref f2)))
    (i2 : PySem.W.isFn K (.ref f2) = true)
    (l2 : K.lookup f2 = some ⟨oc2, od2, .func (PySem.W.fnOf "__or__" "Count.__or__" (defArgs s_Count__or) (defBody s_Count__or) (defScope s_Count__or) .none kV2 dc2 pm2 an2 cd2 ct2), sl2⟩)
    (c2 : PySem.W.codeIn K cd2 "Count.__or__" = true)
    (k2 : PySem.W.keepIn K (.ref f2) = true)
    (a3 : PySem.W.findIn K (.ref CCount) "boxed" = some (some (.ref f3)))
    (i3 : PySem.W.isFn K (.ref f3) = true)
    (l3 : K.lookup f3 = some ⟨oc3, od3, .func (PySem.W.fnOf "boxed" "Count.boxed" (defArgs s_Count_boxed) (defBody s_Count_boxed) (defScope s_Count_boxed) .none kV3 dc3 pm3 an3 cd3 ct3), sl3⟩)
    (c3 : PySem.W.codeIn K cd3 "Count.boxed" = true)
    (k3 : PySem.W.keepIn K (.ref f3) = true)
    (a4 : PySem.W.findIn K (.ref CCount) "fits" = some (some (.ref f4)))
    (i4 : PySem.W.isFn K (.ref f4) = true)
    (l4 : K.lookup f4 = some ⟨oc4, od4, .func (PySem.W.fnOf "fits" "Count.fits" (defArgs s_Count_fits) (defBody s_Count_fits) (defScope s_Count_fits) .none kV4 dc4 pm4 an4 cd4 ct4), sl4⟩)
    (c4 : PySem.W.codeIn K cd4 "Count.fits" = true)
    (k4 : PySem.W.keepIn K (.ref f4) = true)
    (a5 : PySem.W.nsIn K mainGlobals "added" = some (some (.ref f5)))
    (l5 : K.lookup f5 = some ⟨oc5, od5, .func (PySem.W.fnOf "added" "added" (defArgs s_added) (defBody s_added) (defScope s_added) .none kV5 dc5 pm5 an5 cd5 ct5), sl5⟩)
    (c5 : PySem.W.codeIn K cd5 "added" = true)
    (k5 : PySem.W.keepIn K (.ref f5) = true)
    (a6 : PySem.W.nsIn K mainGlobals "either" = some (some (.ref f6)))
    (l6 : K.lookup f6 = some ⟨oc6, od6, .func (PySem.W.fnOf "either" "either" (defArgs s_either) (defBody s_either) (defScope s_either) .none kV6 dc6 pm6 an6 cd6 ct6), sl6⟩)
    (c6 : PySem.W.codeIn K cd6 "either" = true)
    (k6 : PySem.W.keepIn K (.ref f6) = true)
    (a7 : PySem.W.nsIn K mainGlobals "boxed_counts" = some (some (.ref f7)))
    (l7 : K.lookup f7 = some ⟨oc7, od7, .func (PySem.W.fnOf "boxed_counts" "boxed_counts" (defArgs s_boxed_counts) (defBody s_boxed_counts) (defScope s_boxed_counts) .none kV7 dc7 pm7 an7 cd7 ct7), sl7⟩)
    (c7 : PySem.W.codeIn K cd7 "boxed_counts" = true)
    (k7 : PySem.W.keepIn K (.ref f7) = true)
    (a8 : PySem.W.nsIn K mainGlobals "without" = some (some (.ref f8)))
    (l8 : K.lookup f8 = some ⟨oc8, od8, .func (PySem.W.fnOf "without" "without" (defArgs s_without) (defBody s_without) (defScope s_without) .none kV8 dc8 pm8 an8 cd8 ct8), sl8⟩)
    (c8 : PySem.W.codeIn K cd8 "without" = true)
    (k8 : PySem.W.keepIn K (.ref f8) = true)
    (a9 : PySem.W.nsIn K mainGlobals "counts" = some (some (.ref f9)))
    (l9 : K.lookup f9 = some ⟨oc9, od9, .func (PySem.W.fnOf "counts" "counts" (defArgs s_counts) (defBody s_counts) (defScope s_counts) (.ref T9) kV9 dc9 pm9 an9 cd9 ct9), sl9⟩)
    (lT9 : K.lookup T9 = some ⟨oT9, eT9, .seq #[.int 0 tT9] nT9, sT9⟩)
    (c9 : PySem.W.codeIn K cd9 "counts" = true)
    (k9 : PySem.W.keepIn K (.ref f9) = true)
    (a10 : PySem.W.nsIn K mainGlobals "count_of" = some (some (.ref f10)))
    (l10 : K.lookup f10 = some ⟨oc10, od10, .func (PySem.W.fnOf "count_of" "count_of" (defArgs s_count_of) (defBody s_count_of) (defScope s_count_of) .none kV10 dc10 pm10 an10 cd10 ct10), sl10⟩)
    (c10 : PySem.W.codeIn K cd10 "count_of" = true)
    (k10 : PySem.W.keepIn K (.ref f10) = true)
    (a11 : PySem.W.nsIn K mainGlobals "premises" = some (some (.ref f11)))
    (l11 : K.lookup f11 = some ⟨oc11, od11, .func (PySem.W.fnOf "premises" "premises" (defArgs s_premises) (defBody s_premises) (defScope s_premises) .none kV11 dc11 pm11 an11 cd11 ct11), sl11⟩)
    (c11 : PySem.W.codeIn K cd11 "premises" = true)
    (k11 : PySem.W.keepIn K (.ref f11) = true)
    (a12 : PySem.W.nsIn K mainGlobals "brings" = some (some (.ref f12)))
    (l12 : K.lookup f12 = some ⟨oc12, od12, .func (PySem.W.fnOf "brings" "brings" (defArgs s_brings) (defBody s_brings) (defScope s_brings) .none kV12 dc12 pm12 an12 cd12 ct12), sl12⟩)
    (c12 : PySem.W.codeIn K cd12 "brings" = true)
    (k12 : PySem.W.keepIn K (.ref f12) = true)
    (a13 : PySem.W.nsIn K mainGlobals "rebuilt" = some (some (.ref f13)))
    (l13 : K.lookup f13 = some ⟨oc13, od13, .func (PySem.W.fnOf "rebuilt" "rebuilt" (defArgs s_rebuilt) (defBody s_rebuilt) (defScope s_rebuilt) .none kV13 dc13 pm13 an13 cd13 ct13), sl13⟩)
    (c13 : PySem.W.codeIn K cd13 "rebuilt" = true)
    (k13 : PySem.W.keepIn K (.ref f13) = true)
    (a14 : PySem.W.nsIn K mainGlobals "refers_to" = some (some (.ref f14)))
    (l14 : K.lookup f14 = some ⟨oc14, od14, .func (PySem.W.fnOf "refers_to" "refers_to" (defArgs s_refers_to) (defBody s_refers_to) (defScope s_refers_to) .none kV14 dc14 pm14 an14 cd14 ct14), sl14⟩)
    (c14 : PySem.W.codeIn K cd14 "refers_to" = true)
    (k14 : PySem.W.keepIn K (.ref f14) = true)
    (a15 : PySem.W.nsIn K mainGlobals "scope_of" = some (some (.ref f15)))
    (l15 : K.lookup f15 = some ⟨oc15, od15, .func (PySem.W.fnOf "scope_of" "scope_of" (defArgs s_scope_of) (defBody s_scope_of) (defScope s_scope_of) .none kV15 dc15 pm15 an15 cd15 ct15), sl15⟩)
    (c15 : PySem.W.codeIn K cd15 "scope_of" = true)
    (k15 : PySem.W.keepIn K (.ref f15) = true)
    (a16 : PySem.W.nsIn K mainGlobals "use_fault" = some (some (.ref f16)))
    (l16 : K.lookup f16 = some ⟨oc16, od16, .func (PySem.W.fnOf "use_fault" "use_fault" (defArgs s_use_fault) (defBody s_use_fault) (defScope s_use_fault) .none kV16 dc16 pm16 an16 cd16 ct16), sl16⟩)
    (c16 : PySem.W.codeIn K cd16 "use_fault" = true)
    (k16 : PySem.W.keepIn K (.ref f16) = true)
    (a17 : PySem.W.nsIn K mainGlobals "row_fault" = some (some (.ref f17)))
    (l17 : K.lookup f17 = some ⟨oc17, od17, .func (PySem.W.fnOf "row_fault" "row_fault" (defArgs s_row_fault) (defBody s_row_fault) (defScope s_row_fault) .none kV17 dc17 pm17 an17 cd17 ct17), sl17⟩)
    (c17 : PySem.W.codeIn K cd17 "row_fault" = true)
    (k17 : PySem.W.keepIn K (.ref f17) = true)
    (a18 : PySem.W.nsIn K mainGlobals "premise_goals" = some (some (.ref f18)))
    (l18 : K.lookup f18 = some ⟨oc18, od18, .func (PySem.W.fnOf "premise_goals" "premise_goals" (defArgs s_premise_goals) (defBody s_premise_goals) (defScope s_premise_goals) .none kV18 dc18 pm18 an18 cd18 ct18), sl18⟩)
    (c18 : PySem.W.codeIn K cd18 "premise_goals" = true)
    (k18 : PySem.W.keepIn K (.ref f18) = true)
    (a19 : PySem.W.nsIn K mainGlobals "new_hold" = some (some (.ref f19)))
    (l19 : K.lookup f19 = some ⟨oc19, od19, .func (PySem.W.fnOf "new_hold" "new_hold" (defArgs s_new_hold) (defBody s_new_hold) (defScope s_new_hold) .none kV19 dc19 pm19 an19 cd19 ct19), sl19⟩)
    (c19 : PySem.W.codeIn K cd19 "new_hold" = true)
    (k19 : PySem.W.keepIn K (.ref f19) = true)
    (a20 : PySem.W.nsIn K mainGlobals "places_above" = some (some (.ref f20)))
    (l20 : K.lookup f20 = some ⟨oc20, od20, .func (PySem.W.fnOf "places_above" "places_above" (defArgs s_places_above) (defBody s_places_above) (defScope s_places_above) .none kV20 dc20 pm20 an20 cd20 ct20), sl20⟩)
    (c20 : PySem.W.codeIn K cd20 "places_above" = true)
    (k20 : PySem.W.keepIn K (.ref f20) = true)
    (a21 : PySem.W.nsIn K mainGlobals "_check_part" = some (some (.ref f21)))
    (l21 : K.lookup f21 = some ⟨oc21, od21, .func (PySem.W.fnOf "_check_part" "_check_part" (defArgs s_check_part) (defBody s_check_part) (defScope s_check_part) .none kV21 dc21 pm21 an21 cd21 ct21), sl21⟩)
    (c21 : PySem.W.codeIn K cd21 "_check_part" = true)
    (k21 : PySem.W.keepIn K (.ref f21) = true)
    (a22 : PySem.W.nsIn K mainGlobals "check" = some (some (.ref f22)))
    (l22 : K.lookup f22 = some ⟨oc22, od22, .func (PySem.W.fnOf "check" "check" (defArgs s_check) (defBody s_check) (defScope s_check) .none kV22 dc22 pm22 an22 cd22 ct22), sl22⟩)
    (c22 : PySem.W.codeIn K cd22 "check" = true)
    (k22 : PySem.W.keepIn K (.ref f22) = true)
    (a23 : PySem.W.nsIn K mainGlobals "accepts" = some (some (.ref f23)))
    (l23 : K.lookup f23 = some ⟨oc23, od23, .func (PySem.W.fnOf "accepts" "accepts" (defArgs s_accepts) (defBody s_accepts) (defScope s_accepts) .none kV23 dc23 pm23 an23 cd23 ct23), sl23⟩)
    (c23 : PySem.W.codeIn K cd23 "accepts" = true)
    (k23 : PySem.W.keepIn K (.ref f23) = true)
    (a24 : PySem.W.nsIn K mainGlobals "is_number" = some (some (.ref f24)))
    (l24 : K.lookup f24 = some ⟨oc24, od24, .func (PySem.W.fnOf "is_number" "is_number" (defArgs s_is_number) (defBody s_is_number) (defScope s_is_number) .none kV24 dc24 pm24 an24 cd24 ct24), sl24⟩)
    (c24 : PySem.W.codeIn K cd24 "is_number" = true)
    (k24 : PySem.W.keepIn K (.ref f24) = true)
    (a25 : PySem.W.nsIn K mainGlobals "is_kind" = some (some (.ref f25)))
    (l25 : K.lookup f25 = some ⟨oc25, od25, .func (PySem.W.fnOf "is_kind" "is_kind" (defArgs s_is_kind) (defBody s_is_kind) (defScope s_is_kind) .none kV25 dc25 pm25 an25 cd25 ct25), sl25⟩)
    (c25 : PySem.W.codeIn K cd25 "is_kind" = true)
    (k25 : PySem.W.keepIn K (.ref f25) = true)
    (a26 : PySem.W.nsIn K mainGlobals "pooled" = some (some (.ref f26)))
    (l26 : K.lookup f26 = some ⟨oc26, od26, .func (PySem.W.fnOf "pooled" "pooled" (defArgs s_pooled) (defBody s_pooled) (defScope s_pooled) .none kV26 dc26 pm26 an26 cd26 ct26), sl26⟩)
    (c26 : PySem.W.codeIn K cd26 "pooled" = true)
    (k26 : PySem.W.keepIn K (.ref f26) = true)
    (a27 : PySem.W.nsIn K mainGlobals "covers" = some (some (.ref f27)))
    (l27 : K.lookup f27 = some ⟨oc27, od27, .func (PySem.W.fnOf "covers" "covers" (defArgs s_covers) (defBody s_covers) (defScope s_covers) .none kV27 dc27 pm27 an27 cd27 ct27), sl27⟩)
    (c27 : PySem.W.codeIn K cd27 "covers" = true)
    (k27 : PySem.W.keepIn K (.ref f27) = true)
    (a28 : PySem.W.nsIn K mainGlobals "is_name" = some (some (.ref f28)))
    (l28 : K.lookup f28 = some ⟨oc28, od28, .func (PySem.W.fnOf "is_name" "is_name" (defArgs s_is_name) (defBody s_is_name) (defScope s_is_name) .none kV28 dc28 pm28 an28 cd28 ct28), sl28⟩)
    (c28 : PySem.W.codeIn K cd28 "is_name" = true)
    (k28 : PySem.W.keepIn K (.ref f28) = true)
    (a29 : PySem.W.nsIn K mainGlobals "make_claim" = some (some (.ref f29)))
    (l29 : K.lookup f29 = some ⟨oc29, od29, .func (PySem.W.fnOf "make_claim" "make_claim" (defArgs s_make_claim) (defBody s_make_claim) (defScope s_make_claim) .none kV29 dc29 pm29 an29 cd29 ct29), sl29⟩)
    (c29 : PySem.W.codeIn K cd29 "make_claim" = true)
    (k29 : PySem.W.keepIn K (.ref f29) = true)
    (a30 : PySem.W.nsIn K mainGlobals "hold_of" = some (some (.ref f30)))
    (l30 : K.lookup f30 = some ⟨oc30, od30, .func (PySem.W.fnOf "hold_of" "hold_of" (defArgs s_hold_of) (defBody s_hold_of) (defScope s_hold_of) .none kV30 dc30 pm30 an30 cd30 ct30), sl30⟩)
    (c30 : PySem.W.codeIn K cd30 "hold_of" = true)
    (k30 : PySem.W.keepIn K (.ref f30) = true)
    (a31 : PySem.W.nsIn K mainGlobals "with_hold" = some (some (.ref f31)))
    (l31 : K.lookup f31 = some ⟨oc31, od31, .func (PySem.W.fnOf "with_hold" "with_hold" (defArgs s_with_hold) (defBody s_with_hold) (defScope s_with_hold) .none kV31 dc31 pm31 an31 cd31 ct31), sl31⟩)
    (c31 : PySem.W.codeIn K cd31 "with_hold" = true)
    (k31 : PySem.W.keepIn K (.ref f31) = true)
    (a32 : PySem.W.nsIn K mainGlobals "without_hold" = some (some (.ref f32)))
    (l32 : K.lookup f32 = some ⟨oc32, od32, .func (PySem.W.fnOf "without_hold" "without_hold" (defArgs s_without_hold) (defBody s_without_hold) (defScope s_without_hold) .none kV32 dc32 pm32 an32 cd32 ct32), sl32⟩)
    (c32 : PySem.W.codeIn K cd32 "without_hold" = true)
    (k32 : PySem.W.keepIn K (.ref f32) = true)
    (a33 : PySem.W.nsIn K mainGlobals "moved_ref" = some (some (.ref f33)))
    (l33 : K.lookup f33 = some ⟨oc33, od33, .func (PySem.W.fnOf "moved_ref" "moved_ref" (defArgs s_moved_ref) (defBody s_moved_ref) (defScope s_moved_ref) .none kV33 dc33 pm33 an33 cd33 ct33), sl33⟩)
    (c33 : PySem.W.codeIn K cd33 "moved_ref" = true)
    (k33 : PySem.W.keepIn K (.ref f33) = true)
    (a34 : PySem.W.nsIn K mainGlobals "moved" = some (some (.ref f34)))
    (l34 : K.lookup f34 = some ⟨oc34, od34, .func (PySem.W.fnOf "moved" "moved" (defArgs s_moved) (defBody s_moved) (defScope s_moved) .none kV34 dc34 pm34 an34 cd34 ct34), sl34⟩)
    (c34 : PySem.W.codeIn K cd34 "moved" = true)
    (k34 : PySem.W.keepIn K (.ref f34) = true)
    (a35 : PySem.W.nsIn K mainGlobals "_used" = some (some (.ref f35)))
    (l35 : K.lookup f35 = some ⟨oc35, od35, .func (PySem.W.fnOf "_used" "_used" (defArgs s_used) (defBody s_used) (defScope s_used) .none kV35 dc35 pm35 an35 cd35 ct35), sl35⟩)
    (c35 : PySem.W.codeIn K cd35 "_used" = true)
    (k35 : PySem.W.keepIn K (.ref f35) = true)
    (a36 : PySem.W.nsIn K mainGlobals "_inverted" = some (some (.ref f36)))
    (l36 : K.lookup f36 = some ⟨oc36, od36, .func (PySem.W.fnOf "_inverted" "_inverted" (defArgs s_inverted) (defBody s_inverted) (defScope s_inverted) .none kV36 dc36 pm36 an36 cd36 ct36), sl36⟩)
    (c36 : PySem.W.codeIn K cd36 "_inverted" = true)
    (k36 : PySem.W.keepIn K (.ref f36) = true)
    (a37 : PySem.W.nsIn K mainGlobals "invert_take" = some (some (.ref f37)))
    (l37 : K.lookup f37 = some ⟨oc37, od37, .func (PySem.W.fnOf "invert_take" "invert_take" (defArgs s_invert_take) (defBody s_invert_take) (defScope s_invert_take) .none kV37 dc37 pm37 an37 cd37 ct37), sl37⟩)
    (c37 : PySem.W.codeIn K cd37 "invert_take" = true)
    (k37 : PySem.W.keepIn K (.ref f37) = true)
    (a38 : PySem.W.nsIn K mainGlobals "invert_offer" = some (some (.ref f38)))
    (l38 : K.lookup f38 = some ⟨oc38, od38, .func (PySem.W.fnOf "invert_offer" "invert_offer" (defArgs s_invert_offer) (defBody s_invert_offer) (defScope s_invert_offer) .none kV38 dc38 pm38 an38 cd38 ct38), sl38⟩)
    (c38 : PySem.W.codeIn K cd38 "invert_offer" = true)
    (k38 : PySem.W.keepIn K (.ref f38) = true)
    (a39 : PySem.W.nsIn K mainGlobals "expanded_own" = some (some (.ref f39)))
    (l39 : K.lookup f39 = some ⟨oc39, od39, .func (PySem.W.fnOf "expanded_own" "expanded_own" (defArgs s_expanded_own) (defBody s_expanded_own) (defScope s_expanded_own) .none kV39 dc39 pm39 an39 cd39 ct39), sl39⟩)
    (c39 : PySem.W.codeIn K cd39 "expanded_own" = true)
    (k39 : PySem.W.keepIn K (.ref f39) = true)
    (a40 : PySem.W.nsIn K mainGlobals "_expanded_part" = some (some (.ref f40)))
    (l40 : K.lookup f40 = some ⟨oc40, od40, .func (PySem.W.fnOf "_expanded_part" "_expanded_part" (defArgs s_expanded_part) (defBody s_expanded_part) (defScope s_expanded_part) .none kV40 dc40 pm40 an40 cd40 ct40), sl40⟩)
    (c40 : PySem.W.codeIn K cd40 "_expanded_part" = true)
    (k40 : PySem.W.keepIn K (.ref f40) = true)
    (a41 : PySem.W.nsIn K mainGlobals "expanded" = some (some (.ref f41)))
    (l41 : K.lookup f41 = some ⟨oc41, od41, .func (PySem.W.fnOf "expanded" "expanded" (defArgs s_expanded) (defBody s_expanded) (defScope s_expanded) .none kV41 dc41 pm41 an41 cd41 ct41), sl41⟩)
    (c41 : PySem.W.codeIn K cd41 "expanded" = true)
    (k41 : PySem.W.keepIn K (.ref f41) = true)
    (a42 : PySem.W.findIn K (.ref CLib) "__init__" = some (some (.ref f42)))
    (i42 : PySem.W.isFn K (.ref f42) = true)
    (l42 : K.lookup f42 = some ⟨oc42, od42, .func (PySem.W.fnOf "__init__" "Library.__init__" (defArgs s_Library__init) (defBody s_Library__init) (defScope s_Library__init) .none kV42 dc42 pm42 an42 cd42 ct42), sl42⟩)
    (c42 : PySem.W.codeIn K cd42 "Library.__init__" = true)
    (k42 : PySem.W.keepIn K (.ref f42) = true)
    (a43 : PySem.W.nsIn K mainGlobals "with_kind" = some (some (.ref f43)))
    (l43 : K.lookup f43 = some ⟨oc43, od43, .func (PySem.W.fnOf "with_kind" "with_kind" (defArgs s_with_kind) (defBody s_with_kind) (defScope s_with_kind) .none kV43 dc43 pm43 an43 cd43 ct43), sl43⟩)
    (c43 : PySem.W.codeIn K cd43 "with_kind" = true)
    (k43 : PySem.W.keepIn K (.ref f43) = true)
    (a44 : PySem.W.nsIn K mainGlobals "with_room" = some (some (.ref f44)))
    (l44 : K.lookup f44 = some ⟨oc44, od44, .func (PySem.W.fnOf "with_room" "with_room" (defArgs s_with_room) (defBody s_with_room) (defScope s_with_room) .none kV44 dc44 pm44 an44 cd44 ct44), sl44⟩)
    (c44 : PySem.W.codeIn K cd44 "with_room" = true)
    (k44 : PySem.W.keepIn K (.ref f44) = true)
    (a45 : PySem.W.nsIn K mainGlobals "pooled_holds" = some (some (.ref f45)))
    (l45 : K.lookup f45 = some ⟨oc45, od45, .func (PySem.W.fnOf "pooled_holds" "pooled_holds" (defArgs s_pooled_holds) (defBody s_pooled_holds) (defScope s_pooled_holds) .none kV45 dc45 pm45 an45 cd45 ct45), sl45⟩)
    (c45 : PySem.W.codeIn K cd45 "pooled_holds" = true)
    (k45 : PySem.W.keepIn K (.ref f45) = true)
    (a46 : PySem.W.nsIn K mainGlobals "least_kinds" = some (some (.ref f46)))
    (l46 : K.lookup f46 = some ⟨oc46, od46, .func (PySem.W.fnOf "least_kinds" "least_kinds" (defArgs s_least_kinds) (defBody s_least_kinds) (defScope s_least_kinds) .none kV46 dc46 pm46 an46 cd46 ct46), sl46⟩)
    (c46 : PySem.W.codeIn K cd46 "least_kinds" = true)
    (k46 : PySem.W.keepIn K (.ref f46) = true)
    (a47 : PySem.W.nsIn K mainGlobals "_law_cell" = some (some (.ref f47)))
    (l47 : K.lookup f47 = some ⟨oc47, od47, .func (PySem.W.fnOf "_law_cell" "_law_cell" (defArgs s_law_cell) (defBody s_law_cell) (defScope s_law_cell) .none kV47 dc47 pm47 an47 cd47 ct47), sl47⟩)
    (c47 : PySem.W.codeIn K cd47 "_law_cell" = true)
    (k47 : PySem.W.keepIn K (.ref f47) = true)
    (a48 : PySem.W.nsIn K mainGlobals "_law_pool" = some (some (.ref f48)))
    (l48 : K.lookup f48 = some ⟨oc48, od48, .func (PySem.W.fnOf "_law_pool" "_law_pool" (defArgs s_law_pool) (defBody s_law_pool) (defScope s_law_pool) .none kV48 dc48 pm48 an48 cd48 ct48), sl48⟩)
    (c48 : PySem.W.codeIn K cd48 "_law_pool" = true)
    (k48 : PySem.W.keepIn K (.ref f48) = true)
    (a49 : PySem.W.nsIn K mainGlobals "_law_next" = some (some (.ref f49)))
    (l49 : K.lookup f49 = some ⟨oc49, od49, .func (PySem.W.fnOf "_law_next" "_law_next" (defArgs s_law_next) (defBody s_law_next) (defScope s_law_next) .none kV49 dc49 pm49 an49 cd49 ct49), sl49⟩)
    (c49 : PySem.W.codeIn K cd49 "_law_next" = true)
    (k49 : PySem.W.keepIn K (.ref f49) = true)
    (a50 : PySem.W.nsIn K mainGlobals "_law_names" = some (some (.ref f50)))
    (l50 : K.lookup f50 = some ⟨oc50, od50, .func (PySem.W.fnOf "_law_names" "_law_names" (defArgs s_law_names) (defBody s_law_names) (defScope s_law_names) .none kV50 dc50 pm50 an50 cd50 ct50), sl50⟩)
    (c50 : PySem.W.codeIn K cd50 "_law_names" = true)
    (k50 : PySem.W.keepIn K (.ref f50) = true)
    (a51 : PySem.W.nsIn K mainGlobals "_law_same" = some (some (.ref f51)))
    (l51 : K.lookup f51 = some ⟨oc51, od51, .func (PySem.W.fnOf "_law_same" "_law_same" (defArgs s_law_same) (defBody s_law_same) (defScope s_law_same) .none kV51 dc51 pm51 an51 cd51 ct51), sl51⟩)
    (c51 : PySem.W.codeIn K cd51 "_law_same" = true)
    (k51 : PySem.W.keepIn K (.ref f51) = true)
    (a52 : PySem.W.nsIn K mainGlobals "_law_wrapped" = some (some (.ref f52)))
    (l52 : K.lookup f52 = some ⟨oc52, od52, .func (PySem.W.fnOf "_law_wrapped" "_law_wrapped" (defArgs s_law_wrapped) (defBody s_law_wrapped) (defScope s_law_wrapped) .none kV52 dc52 pm52 an52 cd52 ct52), sl52⟩)
    (c52 : PySem.W.codeIn K cd52 "_law_wrapped" = true)
    (k52 : PySem.W.keepIn K (.ref f52) = true)
    (a53 : PySem.W.nsIn K mainGlobals "_law_tower" = some (some (.ref f53)))
    (l53 : K.lookup f53 = some ⟨oc53, od53, .func (PySem.W.fnOf "_law_tower" "_law_tower" (defArgs s_law_tower) (defBody s_law_tower) (defScope s_law_tower) .none kV53 dc53 pm53 an53 cd53 ct53), sl53⟩)
    (c53 : PySem.W.codeIn K cd53 "_law_tower" = true)
    (k53 : PySem.W.keepIn K (.ref f53) = true)
    (a54 : PySem.W.nsIn K mainGlobals "_law_joined" = some (some (.ref f54)))
    (l54 : K.lookup f54 = some ⟨oc54, od54, .func (PySem.W.fnOf "_law_joined" "_law_joined" (defArgs s_law_joined) (defBody s_law_joined) (defScope s_law_joined) .none kV54 dc54 pm54 an54 cd54 ct54), sl54⟩)
    (c54 : PySem.W.codeIn K cd54 "_law_joined" = true)
    (k54 : PySem.W.keepIn K (.ref f54) = true)
    (a55 : PySem.W.nsIn K mainGlobals "_law_opened" = some (some (.ref f55)))
    (l55 : K.lookup f55 = some ⟨oc55, od55, .func (PySem.W.fnOf "_law_opened" "_law_opened" (defArgs s_law_opened) (defBody s_law_opened) (defScope s_law_opened) .none kV55 dc55 pm55 an55 cd55 ct55), sl55⟩)
    (c55 : PySem.W.codeIn K cd55 "_law_opened" = true)
    (k55 : PySem.W.keepIn K (.ref f55) = true)
    (a56 : PySem.W.nsIn K mainGlobals "_law_is_row" = some (some (.ref f56)))
    (l56 : K.lookup f56 = some ⟨oc56, od56, .func (PySem.W.fnOf "_law_is_row" "_law_is_row" (defArgs s_law_is_row) (defBody s_law_is_row) (defScope s_law_is_row) .none kV56 dc56 pm56 an56 cd56 ct56), sl56⟩)
    (c56 : PySem.W.codeIn K cd56 "_law_is_row" = true)
    (k56 : PySem.W.keepIn K (.ref f56) = true)
    (a57 : PySem.W.nsIn K mainGlobals "_law_size" = some (some (.ref f57)))
    (l57 : K.lookup f57 = some ⟨oc57, od57, .func (PySem.W.fnOf "_law_size" "_law_size" (defArgs s_law_size) (defBody s_law_size) (defScope s_law_size) .none kV57 dc57 pm57 an57 cd57 ct57), sl57⟩)
    (c57 : PySem.W.codeIn K cd57 "_law_size" = true)
    (k57 : PySem.W.keepIn K (.ref f57) = true)
    (a58 : PySem.W.nsIn K mainGlobals "_law_count" = some (some (.ref f58)))
    (l58 : K.lookup f58 = some ⟨oc58, od58, .func (PySem.W.fnOf "_law_count" "_law_count" (defArgs s_law_count) (defBody s_law_count) (defScope s_law_count) .none kV58 dc58 pm58 an58 cd58 ct58), sl58⟩)
    (c58 : PySem.W.codeIn K cd58 "_law_count" = true)
    (k58 : PySem.W.keepIn K (.ref f58) = true)
    (a59 : PySem.W.nsIn K mainGlobals "_law_inverted" = some (some (.ref f59)))
    (l59 : K.lookup f59 = some ⟨oc59, od59, .func (PySem.W.fnOf "_law_inverted" "_law_inverted" (defArgs s_law_inverted) (defBody s_law_inverted) (defScope s_law_inverted) .none kV59 dc59 pm59 an59 cd59 ct59), sl59⟩)
    (c59 : PySem.W.codeIn K cd59 "_law_inverted" = true)
    (k59 : PySem.W.keepIn K (.ref f59) = true)
    (a60 : PySem.W.nsIn K mainGlobals "_law_taken_apart" = some (some (.ref f60)))
    (l60 : K.lookup f60 = some ⟨oc60, od60, .func (PySem.W.fnOf "_law_taken_apart" "_law_taken_apart" (defArgs s_law_taken_apart) (defBody s_law_taken_apart) (defScope s_law_taken_apart) .none kV60 dc60 pm60 an60 cd60 ct60), sl60⟩)
    (c60 : PySem.W.codeIn K cd60 "_law_taken_apart" = true)
    (k60 : PySem.W.keepIn K (.ref f60) = true)
    (a61 : PySem.W.nsIn K mainGlobals "_law_renamed" = some (some (.ref f61)))
    (l61 : K.lookup f61 = some ⟨oc61, od61, .func (PySem.W.fnOf "_law_renamed" "_law_renamed" (defArgs s_law_renamed) (defBody s_law_renamed) (defScope s_law_renamed) .none kV61 dc61 pm61 an61 cd61 ct61), sl61⟩)
    (c61 : PySem.W.codeIn K cd61 "_law_renamed" = true)
    (k61 : PySem.W.keepIn K (.ref f61) = true)
    (a62 : PySem.W.nsIn K mainGlobals "_law_mended" = some (some (.ref f62)))
    (l62 : K.lookup f62 = some ⟨oc62, od62, .func (PySem.W.fnOf "_law_mended" "_law_mended" (defArgs s_law_mended) (defBody s_law_mended) (defScope s_law_mended) .none kV62 dc62 pm62 an62 cd62 ct62), sl62⟩)
    (c62 : PySem.W.codeIn K cd62 "_law_mended" = true)
    (k62 : PySem.W.keepIn K (.ref f62) = true)
    (a63 : PySem.W.nsIn K mainGlobals "law" = some (some (.ref f63)))
    (l63 : K.lookup f63 = some ⟨oc63, od63, .func (PySem.W.fnOf "law" "law" (defArgs s_law) (defBody s_law) (defScope s_law) .none kV63 dc63 pm63 an63 cd63 ct63), sl63⟩)
    (c63 : PySem.W.codeIn K cd63 "law" = true)
    (k63 : PySem.W.keepIn K (.ref f63) = true)
    (z_bool : PySem.W.nsIn K mainGlobals "bool" = some none)
    (z_len : PySem.W.nsIn K mainGlobals "len" = some none)
    (z_range : PySem.W.nsIn K mainGlobals "range" = some none)
    (z_int : PySem.W.nsIn K mainGlobals "int" = some none)
    (z_abs : PySem.W.nsIn K mainGlobals "abs" = some none)
    (z_str : PySem.W.nsIn K mainGlobals "str" = some none)
    (z_min : PySem.W.nsIn K mainGlobals "min" = some none)
    (z_max : PySem.W.nsIn K mainGlobals "max" = some none)
    (z_list : PySem.W.nsIn K mainGlobals "list" = some none)
    (z_tuple : PySem.W.nsIn K mainGlobals "tuple" = some none)
    (z_repr : PySem.W.nsIn K mainGlobals "repr" = some none)
    (z_dict : PySem.W.nsIn K mainGlobals "dict" = some none)
    (z_isinstance : PySem.W.nsIn K mainGlobals "isinstance" = some none)
    (z_reversed : PySem.W.nsIn K mainGlobals "reversed" = some none)
    (z_sum : PySem.W.nsIn K mainGlobals "sum" = some none)
    (aC : PySem.W.nsIn K mainGlobals "Count" = some (some (.ref CCount)))
    (aL : PySem.W.nsIn K mainGlobals "Library" = some (some (.ref CLib)))
    (aP : PySem.W.nsIn K mainGlobals "PREMISES" = some (some (.ref fP)))
    (aB : PySem.W.nsIn K mainGlobals "BRINGS" = some (some (.ref fB)))
    (aLE : PySem.W.nsIn K mainGlobals "LETTERS" = some (some (.str "abcdefghijklmnopqrstuvwxyz" tLE)))
    (aDI : PySem.W.nsIn K mainGlobals "DIGITS" = some (some (.str "0123456789" tDI)))
    (aLO : PySem.W.nsIn K mainGlobals "LONGEST_NAME" = some (some (.int 12 tLO)))
    (lP : K.lookup fP = some ⟨.type "dict", none, .dict eP nP, #[]⟩)
    (kP : PySem.W.KeysLit w.params eP.toList)
    (lB : K.lookup fB = some ⟨.type "dict", none, .dict eB nB, #[]⟩)
    (kB : PySem.W.KeysLit w.params eB.toList)
    (p_own : PySem.W.nsIn K fP "own" = some (some (.int 0 t_own)))
    (q_own : PySem.W.nsIn K fB "own" = some (some (.ref b_own)))
    (lb_own : K.lookup b_own = some ⟨.type "tuple", ob_own, .seq #[] nb_own, sb_own⟩)
    (p_take : PySem.W.nsIn K fP "take" = some (some (.int 1 t_take)))
    (q_take : PySem.W.nsIn K fB "take" = some (some (.ref b_take)))
    (lb_take : K.lookup b_take = some ⟨.type "tuple", ob_take, .seq #[.bool true] nb_take, sb_take⟩)
    (p_offer : PySem.W.nsIn K fP "offer" = some (some (.int 2 t_offer)))
    (q_offer : PySem.W.nsIn K fB "offer" = some (some (.ref b_offer)))
    (lb_offer : K.lookup b_offer = some ⟨.type "tuple", ob_offer, .seq #[.bool false, .bool false] nb_offer, sb_offer⟩)
    (p_pick : PySem.W.nsIn K fP "pick" = some (some (.int 1 t_pick)))
    (q_pick : PySem.W.nsIn K fB "pick" = some (some (.ref b_pick)))
    (lb_pick : K.lookup b_pick = some ⟨.type "tuple", ob_pick, .seq #[.bool true] nb_pick, sb_pick⟩)
    (p_pay : PySem.W.nsIn K fP "pay" = some (some (.int 2 t_pay)))
    (q_pay : PySem.W.nsIn K fB "pay" = some (some (.ref b_pay)))
    (lb_pay : K.lookup b_pay = some ⟨.type "tuple", ob_pay, .seq #[.bool false, .bool true] nb_pay, sb_pay⟩)
    (p_cut : PySem.W.nsIn K fP "cut" = some (some (.int 2 t_cut)))
    (q_cut : PySem.W.nsIn K fB "cut" = some (some (.ref b_cut)))
    (lb_cut : K.lookup b_cut = some ⟨.type "tuple", ob_cut, .seq #[.bool false, .bool true] nb_cut, sb_cut⟩)
    (pgC : PySem.W.plainGet K CCount Str.empty = true)
    (hdC : PySem.W.hasDictIn K CCount = true)
    (poC : PySem.W.plainOver K CCount = true)
    (saC : PySem.W.findIn K (.ref CCount) "__setattr__" = some (some (.builtin "object.__setattr__")))
    (mkC : PySem.W.makesIn K CCount = true)
    (kcC : PySem.W.keepIn K (.ref CCount) = true)
    (pgL : PySem.W.plainGet K CLib Str.empty = true)
    (hdL : PySem.W.hasDictIn K CLib = true)
    (poL : PySem.W.plainOver K CLib = true)
    (saL : PySem.W.findIn K (.ref CLib) "__setattr__" = some (some (.builtin "object.__setattr__")))
    (mkL : PySem.W.makesIn K CLib = true)
    (kcL : PySem.W.keepIn K (.ref CLib) = true)
    (sfC : PySem.W.selfFirst K CCount = true)
    (nCleast : PySem.W.findIn K (.ref CCount) "least" = some none)
    (nCmost : PySem.W.findIn K (.ref CCount) "most" = some none)
    (nCdays : PySem.W.findIn K (.ref CCount) "days" = some none)
    (nLchanges : PySem.W.findIn K (.ref CLib) "changes" = some none)
    (nLwords : PySem.W.findIn K (.ref CLib) "_words" = some none)
    (nLmeetings : PySem.W.findIn K (.ref CLib) "_meetings" = some none)
    (nLentries : PySem.W.findIn K (.ref CLib) "_entries" = some none) :
    ∃ fd : FuncData, (∀ (s : Shared) (v : Value), BindsTo s fd ⟨[v], []⟩ [("script", v)]) ∧ ∀ base : Heap, K.In base → base.Ns mainGlobals mg → FnOkG P w K mg base CX0 230 fa fd ["script"] (spLaw K) := by
  have e := hfa.symm.trans (PySem.W.mg_of X G a63)
  cases e
  have F0 := fun_mk (st := s_Count__init) l0 c0 k0
  have b0 := F0.binds (ps := ["self", "least", "most", "days"]) fun _ _ _ _ _ _ us hl => match us, hl with | [_, _, _, _], _ => rfl
  have F1 := fun_mk (st := s_Count__add) l1 c1 k1
  have b1 := F1.binds (ps := ["self", "other"]) fun _ _ _ _ _ _ us hl => match us, hl with | [_, _], _ => rfl
  have F2 := fun_mk (st := s_Count__or) l2 c2 k2
  have b2 := F2.binds (ps := ["self", "other"]) fun _ _ _ _ _ _ us hl => match us, hl with | [_, _], _ => rfl
  have F3 := fun_mk (st := s_Count_boxed) l3 c3 k3
  have b3 := F3.binds (ps := ["self", "kind"]) fun _ _ _ _ _ _ us hl => match us, hl with | [_, _], _ => rfl
  have F4 := fun_mk (st := s_Count_fits) l4 c4 k4
  have b4 := F4.binds (ps := ["self", "kind"]) fun _ _ _ _ _ _ us hl => match us, hl with | [_, _], _ => rfl
  have F5 := fun_mk (st := s_added) l5 c5 k5
  have b5 := F5.binds (ps := ["first", "second"]) fun _ _ _ _ _ _ us hl => match us, hl with | [_, _], _ => rfl
  have F6 := fun_mk (st := s_either) l6 c6 k6
  have b6 := F6.binds (ps := ["first", "second"]) fun _ _ _ _ _ _ us hl => match us, hl with | [_, _], _ => rfl
  have F7 := fun_mk (st := s_boxed_counts) l7 c7 k7
  have b7 := F7.binds (ps := ["found", "kind"]) fun _ _ _ _ _ _ us hl => match us, hl with | [_, _], _ => rfl
  have F8 := fun_mk (st := s_without) l8 c8 k8
  have b8 := F8.binds (ps := ["found", "ref"]) fun _ _ _ _ _ _ us hl => match us, hl with | [_, _], _ => rfl
  have F9 : FunD K "counts" "counts" (defArgs s_counts) (defBody s_counts) (defScope s_counts) [.int 0] [] f9 (PySem.W.fnOf "counts" "counts" (defArgs s_counts) (defBody s_counts) (defScope s_counts) (.ref T9) kV9 dc9 pm9 an9 cd9 ct9) := ⟨⟨oc9, od9, .ref T9, kV9, dc9, pm9, an9, cd9, ct9, sl9, rfl, l9, c9, .inr ⟨(by intro z; cases z), T9, _, [.int 0 tT9], nT9, rfl, lT9, rfl, .cons ⟨_, rfl⟩ .nil⟩, .inl rfl⟩, k9⟩
  obtain ⟨u9, v9, e9⟩ := FunD.binds1 (ps := ["derivation", "level"]) F9 1 0 (by intro z; cases z) rfl (fun _ _ _ _ _ _ _ us its h1 h2 => match us, its, h1, h2 with | [_], [_], _, _ => ⟨_, rfl, rfl⟩)
  obtain ⟨w9, y9, b9⟩ := FunD.binds1 (ps := ["derivation", "level"]) F9 2 1 (by intro z; cases z) rfl (fun _ _ _ _ _ _ _ us its h1 h2 => match us, its, h1, h2 with | [_, _], [_], _, _ => ⟨_, rfl, rfl⟩)
  have y9 : Vals [] w9 := y9
  cases y9
  have F10 := fun_mk (st := s_count_of) l10 c10 k10
  have b10 := F10.binds (ps := ["derivation", "level", "ref"]) fun _ _ _ _ _ _ us hl => match us, hl with | [_, _, _], _ => rfl
  have F11 := fun_mk (st := s_premises) l11 c11 k11
  have b11 := F11.binds (ps := ["derivation"]) fun _ _ _ _ _ _ us hl => match us, hl with | [_], _ => rfl
  have F12 := fun_mk (st := s_brings) l12 c12 k12
  have b12 := F12.binds (ps := ["derivation"]) fun _ _ _ _ _ _ us hl => match us, hl with | [_], _ => rfl
  have F13 := fun_mk (st := s_rebuilt) l13 c13 k13
  have b13 := F13.binds (ps := ["derivation", "parts"]) fun _ _ _ _ _ _ us hl => match us, hl with | [_, _], _ => rfl
  have F14 := fun_mk (st := s_refers_to) l14 c14 k14
  have b14 := F14.binds (ps := ["derivation"]) fun _ _ _ _ _ _ us hl => match us, hl with | [_], _ => rfl
  have F15 := fun_mk (st := s_scope_of) l15 c15 k15
  have b15 := F15.binds (ps := ["claim"]) fun _ _ _ _ _ _ us hl => match us, hl with | [_], _ => rfl
  have F16 := fun_mk (st := s_use_fault) l16 c16 k16
  have b16 := F16.binds (ps := ["library", "sentence", "goal", "row"]) fun _ _ _ _ _ _ us hl => match us, hl with | [_, _, _, _], _ => rfl
  have F17 := fun_mk (st := s_row_fault) l17 c17 k17
  have b17 := F17.binds (ps := ["library", "scope", "goal", "row"]) fun _ _ _ _ _ _ us hl => match us, hl with | [_, _, _, _], _ => rfl
  have F18 := fun_mk (st := s_premise_goals) l18 c18 k18
  have b18 := F18.binds (ps := ["library", "scope", "goal", "row"]) fun _ _ _ _ _ _ us hl => match us, hl with | [_, _, _, _], _ => rfl
  have F19 := fun_mk (st := s_new_hold) l19 c19 k19
  have b19 := F19.binds (ps := ["library", "scope", "goal", "row"]) fun _ _ _ _ _ _ us hl => match us, hl with | [_, _, _, _], _ => rfl
  have F20 := fun_mk (st := s_places_above) l20 c20 k20
  have b20 := F20.binds (ps := ["library", "scope", "goal", "row", "level"]) fun _ _ _ _ _ _ us hl => match us, hl with | [_, _, _, _, _], _ => rfl
  have F21 := fun_mk (st := s_check_part) l21 c21 k21
  have b21 := F21.binds (ps := ["library", "scope", "goal", "derivation", "level", "path"]) fun _ _ _ _ _ _ us hl => match us, hl with | [_, _, _, _, _, _], _ => rfl
  have F22 := fun_mk (st := s_check) l22 c22 k22
  have b22 := F22.binds (ps := ["library", "claim", "derivation"]) fun _ _ _ _ _ _ us hl => match us, hl with | [_, _, _], _ => rfl
  have F23 := fun_mk (st := s_accepts) l23 c23 k23
  have b23 := F23.binds (ps := ["library", "claim", "derivation"]) fun _ _ _ _ _ _ us hl => match us, hl with | [_, _, _], _ => rfl
  have F24 := fun_mk (st := s_is_number) l24 c24 k24
  have b24 := F24.binds (ps := ["value"]) fun _ _ _ _ _ _ us hl => match us, hl with | [_], _ => rfl
  have F25 := fun_mk (st := s_is_kind) l25 c25 k25
  have b25 := F25.binds (ps := ["value"]) fun _ _ _ _ _ _ us hl => match us, hl with | [_], _ => rfl
  have F26 := fun_mk (st := s_pooled) l26 c26 k26
  have b26 := F26.binds (ps := ["first", "second"]) fun _ _ _ _ _ _ us hl => match us, hl with | [_, _], _ => rfl
  have F27 := fun_mk (st := s_covers) l27 c27 k27
  have b27 := F27.binds (ps := ["room", "kind"]) fun _ _ _ _ _ _ us hl => match us, hl with | [_, _], _ => rfl
  have F28 := fun_mk (st := s_is_name) l28 c28 k28
  have b28 := F28.binds (ps := ["text"]) fun _ _ _ _ _ _ us hl => match us, hl with | [_], _ => rfl
  have F29 := fun_mk (st := s_make_claim) l29 c29 k29
  have b29 := F29.binds (ps := ["holds", "goal"]) fun _ _ _ _ _ _ us hl => match us, hl with | [_, _], _ => rfl
  have F30 := fun_mk (st := s_hold_of) l30 c30 k30
  have b30 := F30.binds (ps := ["claim", "name"]) fun _ _ _ _ _ _ us hl => match us, hl with | [_, _], _ => rfl
  have F31 := fun_mk (st := s_with_hold) l31 c31 k31
  have b31 := F31.binds (ps := ["claim", "name", "kind", "sentence"]) fun _ _ _ _ _ _ us hl => match us, hl with | [_, _, _, _], _ => rfl
  have F32 := fun_mk (st := s_without_hold) l32 c32 k32
  have b32 := F32.binds (ps := ["claim", "name"]) fun _ _ _ _ _ _ us hl => match us, hl with | [_, _], _ => rfl
  have F33 := fun_mk (st := s_moved_ref) l33 c33 k33
  have b33 := F33.binds (ps := ["ref", "old", "new", "renamed"]) fun _ _ _ _ _ _ us hl => match us, hl with | [_, _, _, _], _ => rfl
  have F34 := fun_mk (st := s_moved) l34 c34 k34
  have b34 := F34.binds (ps := ["derivation", "old", "new", "renamed"]) fun _ _ _ _ _ _ us hl => match us, hl with | [_, _, _, _], _ => rfl
  have F35 := fun_mk (st := s_used) l35 c35 k35
  have b35 := F35.binds (ps := ["ref", "goal", "choice", "level"]) fun _ _ _ _ _ _ us hl => match us, hl with | [_, _, _, _], _ => rfl
  have F36 := fun_mk (st := s_inverted) l36 c36 k36
  have b36 := F36.binds (ps := ["derivation", "goal", "choice", "level"]) fun _ _ _ _ _ _ us hl => match us, hl with | [_, _, _, _], _ => rfl
  have F37 := fun_mk (st := s_invert_take) l37 c37 k37
  have b37 := F37.binds (ps := ["claim", "derivation", "name"]) fun _ _ _ _ _ _ us hl => match us, hl with | [_, _, _], _ => rfl
  have F38 := fun_mk (st := s_invert_offer) l38 c38 k38
  have b38 := F38.binds (ps := ["claim", "derivation", "side"]) fun _ _ _ _ _ _ us hl => match us, hl with | [_, _, _], _ => rfl
  have F39 := fun_mk (st := s_expanded_own) l39 c39 k39
  have b39 := F39.binds (ps := ["ref", "goal", "level"]) fun _ _ _ _ _ _ us hl => match us, hl with | [_, _, _], _ => rfl
  have F40 := fun_mk (st := s_expanded_part) l40 c40 k40
  have b40 := F40.binds (ps := ["library", "scope", "goal", "derivation", "level"]) fun _ _ _ _ _ _ us hl => match us, hl with | [_, _, _, _, _], _ => rfl
  have F41 := fun_mk (st := s_expanded) l41 c41 k41
  have b41 := F41.binds (ps := ["library", "claim", "derivation"]) fun _ _ _ _ _ _ us hl => match us, hl with | [_, _, _], _ => rfl
  have F42 := fun_mk (st := s_Library__init) l42 c42 k42
  have b42 := F42.binds (ps := ["self"]) fun _ _ _ _ _ _ us hl => match us, hl with | [_], _ => rfl
  have F43 := fun_mk (st := s_with_kind) l43 c43 k43
  have b43 := F43.binds (ps := ["claim", "name", "kind"]) fun _ _ _ _ _ _ us hl => match us, hl with | [_, _, _], _ => rfl
  have F44 := fun_mk (st := s_with_room) l44 c44 k44
  have b44 := F44.binds (ps := ["claim", "name", "kind"]) fun _ _ _ _ _ _ us hl => match us, hl with | [_, _, _], _ => rfl
  have F45 := fun_mk (st := s_pooled_holds) l45 c45 k45
  have b45 := F45.binds (ps := ["claim", "derivation", "first", "second"]) fun _ _ _ _ _ _ us hl => match us, hl with | [_, _, _, _], _ => rfl
  have F46 := fun_mk (st := s_least_kinds) l46 c46 k46
  have b46 := F46.binds (ps := ["claim", "derivation"]) fun _ _ _ _ _ _ us hl => match us, hl with | [_, _], _ => rfl
  have F47 := fun_mk (st := s_law_cell) l47 c47 k47
  have b47 := F47.binds (ps := ["script", "k"]) fun _ _ _ _ _ _ us hl => match us, hl with | [_, _], _ => rfl
  have F48 := fun_mk (st := s_law_pool) l48 c48 k48
  have b48 := F48.binds (ps := ["script", "k"]) fun _ _ _ _ _ _ us hl => match us, hl with | [_, _], _ => rfl
  have F49 := fun_mk (st := s_law_next) l49 c49 k49
  have b49 := F49.binds (ps := ["pool", "many"]) fun _ _ _ _ _ _ us hl => match us, hl with | [_, _], _ => rfl
  have F50 := fun_mk (st := s_law_names) l50 c50 k50
  have b50 := F50.binds (ps := ["pool", "many"]) fun _ _ _ _ _ _ us hl => match us, hl with | [_, _], _ => rfl
  have F51 := fun_mk (st := s_law_same) l51 c51 k51
  have b51 := F51.binds (ps := ["told", "due"]) fun _ _ _ _ _ _ us hl => match us, hl with | [_, _], _ => rfl
  have F52 := fun_mk (st := s_law_wrapped) l52 c52 k52
  have b52 := F52.binds (ps := ["pool", "words", "rows"]) fun _ _ _ _ _ _ us hl => match us, hl with | [_, _, _], _ => rfl
  have F53 := fun_mk (st := s_law_tower) l53 c53 k53
  have b53 := F53.binds (ps := ["pool", "sentence", "many", "base"]) fun _ _ _ _ _ _ us hl => match us, hl with | [_, _, _, _], _ => rfl
  have F54 := fun_mk (st := s_law_joined) l54 c54 k54
  have b54 := F54.binds (ps := ["rows", "top"]) fun _ _ _ _ _ _ us hl => match us, hl with | [_, _], _ => rfl
  have F55 := fun_mk (st := s_law_opened) l55 c55 k55
  have b55 := F55.binds (ps := ["ref", "sentence", "level"]) fun _ _ _ _ _ _ us hl => match us, hl with | [_, _, _], _ => rfl
  have F56 := fun_mk (st := s_law_is_row) l56 c56 k56
  have b56 := F56.binds (ps := ["item"]) fun _ _ _ _ _ _ us hl => match us, hl with | [_], _ => rfl
  have F57 := fun_mk (st := s_law_size) l57 c57 k57
  have b57 := F57.binds (ps := ["tree"]) fun _ _ _ _ _ _ us hl => match us, hl with | [_], _ => rfl
  have F58 := fun_mk (st := s_law_count) l58 c58 k58
  have b58 := F58.binds (ps := ["rows", "top", "name"]) fun _ _ _ _ _ _ us hl => match us, hl with | [_, _, _], _ => rfl
  have F59 := fun_mk (st := s_law_inverted) l59 c59 k59
  have b59 := F59.binds (ps := ["tree", "goal", "choice", "level"]) fun _ _ _ _ _ _ us hl => match us, hl with | [_, _, _, _], _ => rfl
  have F60 := fun_mk (st := s_law_taken_apart) l60 c60 k60
  have b60 := F60.binds (ps := ["pool", "claim", "tree", "names"]) fun _ _ _ _ _ _ us hl => match us, hl with | [_, _, _, _], _ => rfl
  have F61 := fun_mk (st := s_law_renamed) l61 c61 k61
  have b61 := F61.binds (ps := ["rows", "top", "old", "new"]) fun _ _ _ _ _ _ us hl => match us, hl with | [_, _, _, _], _ => rfl
  have F62 := fun_mk (st := s_law_mended) l62 c62 k62
  have b62 := F62.binds (ps := ["pool", "claim", "tree", "rows", "top", "counts_v"]) fun _ _ _ _ _ _ us hl => match us, hl with | [_, _, _, _, _, _], _ => rfl
  have F63 := fun_mk (st := s_law) l63 c63 k63
  have b63 := F63.binds (ps := ["script"]) fun _ _ _ _ _ _ us hl => match us, hl with | [_], _ => rfl
  refine ⟨PySem.W.fnOf "law" "law" (defArgs s_law) (defBody s_law) (defScope s_law) .none kV63 dc63 pm63 an63 cd63 ct63, fun s v => .of_eq rfl, fun base _ _ => ?_⟩
  exact law_ok (T := {
a_Count__init := f0, d_Count__init := _, F_Count__init := F0, b_Count__init := b0,
    a_Count__add := f1, d_Count__add := _, F_Count__add := F1, b_Count__add := b1,
    a_Count__or := f2, d_Count__or := _, F_Count__or := F2, b_Count__or := b2,
    a_Count_boxed := f3, d_Count_boxed := _, F_Count_boxed := F3, b_Count_boxed := b3,
    a_Count_fits := f4, d_Count_fits := _, F_Count_fits := F4, b_Count_fits := b4,
    a_added := f5, d_added := _, F_added := F5, b_added := b5,
    m_added := PySem.W.mg_of X G a5,
    a_either := f6, d_either := _, F_either := F6, b_either := b6,
    m_either := PySem.W.mg_of X G a6,
    a_boxed_counts := f7, d_boxed_counts := _, F_boxed_counts := F7, b_boxed_counts := b7,
    m_boxed_counts := PySem.W.mg_of X G a7,
    a_without := f8, d_without := _, F_without := F8, b_without := b8,
    m_without := PySem.W.mg_of X G a8,
    u_counts := u9, b1_counts := e9, v_counts := v9,
    a_counts := f9, d_counts := _, F_counts := F9, b_counts := b9,
    m_counts := PySem.W.mg_of X G a9,
    a_count_of := f10, d_count_of := _, F_count_of := F10, b_count_of := b10,
    m_count_of := PySem.W.mg_of X G a10,
    a_premises := f11, d_premises := _, F_premises := F11, b_premises := b11,
    m_premises := PySem.W.mg_of X G a11,
    a_brings := f12, d_brings := _, F_brings := F12, b_brings := b12,
    m_brings := PySem.W.mg_of X G a12,
    a_rebuilt := f13, d_rebuilt := _, F_rebuilt := F13, b_rebuilt := b13,
    m_rebuilt := PySem.W.mg_of X G a13,
    a_refers_to := f14, d_refers_to := _, F_refers_to := F14, b_refers_to := b14,
    m_refers_to := PySem.W.mg_of X G a14,
    a_scope_of := f15, d_scope_of := _, F_scope_of := F15, b_scope_of := b15,
    m_scope_of := PySem.W.mg_of X G a15,
    a_use_fault := f16, d_use_fault := _, F_use_fault := F16, b_use_fault := b16,
    m_use_fault := PySem.W.mg_of X G a16,
    a_row_fault := f17, d_row_fault := _, F_row_fault := F17, b_row_fault := b17,
    m_row_fault := PySem.W.mg_of X G a17,
    a_premise_goals := f18, d_premise_goals := _, F_premise_goals := F18, b_premise_goals := b18,
    m_premise_goals := PySem.W.mg_of X G a18,
    a_new_hold := f19, d_new_hold := _, F_new_hold := F19, b_new_hold := b19,
    m_new_hold := PySem.W.mg_of X G a19,
    a_places_above := f20, d_places_above := _, F_places_above := F20, b_places_above := b20,
    m_places_above := PySem.W.mg_of X G a20,
    a_check_part := f21, d_check_part := _, F_check_part := F21, b_check_part := b21,
    m_check_part := PySem.W.mg_of X G a21,
    a_check := f22, d_check := _, F_check := F22, b_check := b22,
    m_check := PySem.W.mg_of X G a22,
    a_accepts := f23, d_accepts := _, F_accepts := F23, b_accepts := b23,
    m_accepts := PySem.W.mg_of X G a23,
    a_is_number := f24, d_is_number := _, F_is_number := F24, b_is_number := b24,
    m_is_number := PySem.W.mg_of X G a24,
    a_is_kind := f25, d_is_kind := _, F_is_kind := F25, b_is_kind := b25,
    m_is_kind := PySem.W.mg_of X G a25,
    a_pooled := f26, d_pooled := _, F_pooled := F26, b_pooled := b26,
    m_pooled := PySem.W.mg_of X G a26,
    a_covers := f27, d_covers := _, F_covers := F27, b_covers := b27,
    m_covers := PySem.W.mg_of X G a27,
    a_is_name := f28, d_is_name := _, F_is_name := F28, b_is_name := b28,
    m_is_name := PySem.W.mg_of X G a28,
    a_make_claim := f29, d_make_claim := _, F_make_claim := F29, b_make_claim := b29,
    m_make_claim := PySem.W.mg_of X G a29,
    a_hold_of := f30, d_hold_of := _, F_hold_of := F30, b_hold_of := b30,
    m_hold_of := PySem.W.mg_of X G a30,
    a_with_hold := f31, d_with_hold := _, F_with_hold := F31, b_with_hold := b31,
    m_with_hold := PySem.W.mg_of X G a31,
    a_without_hold := f32, d_without_hold := _, F_without_hold := F32, b_without_hold := b32,
    m_without_hold := PySem.W.mg_of X G a32,
    a_moved_ref := f33, d_moved_ref := _, F_moved_ref := F33, b_moved_ref := b33,
    m_moved_ref := PySem.W.mg_of X G a33,
    a_moved := f34, d_moved := _, F_moved := F34, b_moved := b34,
    m_moved := PySem.W.mg_of X G a34,
    a_used := f35, d_used := _, F_used := F35, b_used := b35,
    m_used := PySem.W.mg_of X G a35,
    a_inverted := f36, d_inverted := _, F_inverted := F36, b_inverted := b36,
    m_inverted := PySem.W.mg_of X G a36,
    a_invert_take := f37, d_invert_take := _, F_invert_take := F37, b_invert_take := b37,
    m_invert_take := PySem.W.mg_of X G a37,
    a_invert_offer := f38, d_invert_offer := _, F_invert_offer := F38, b_invert_offer := b38,
    m_invert_offer := PySem.W.mg_of X G a38,
    a_expanded_own := f39, d_expanded_own := _, F_expanded_own := F39, b_expanded_own := b39,
    m_expanded_own := PySem.W.mg_of X G a39,
    a_expanded_part := f40, d_expanded_part := _, F_expanded_part := F40, b_expanded_part := b40,
    m_expanded_part := PySem.W.mg_of X G a40,
    a_expanded := f41, d_expanded := _, F_expanded := F41, b_expanded := b41,
    m_expanded := PySem.W.mg_of X G a41,
    a_Library__init := f42, d_Library__init := _, F_Library__init := F42, b_Library__init := b42,
    a_with_kind := f43, d_with_kind := _, F_with_kind := F43, b_with_kind := b43,
    m_with_kind := PySem.W.mg_of X G a43,
    a_with_room := f44, d_with_room := _, F_with_room := F44, b_with_room := b44,
    m_with_room := PySem.W.mg_of X G a44,
    a_pooled_holds := f45, d_pooled_holds := _, F_pooled_holds := F45, b_pooled_holds := b45,
    m_pooled_holds := PySem.W.mg_of X G a45,
    a_least_kinds := f46, d_least_kinds := _, F_least_kinds := F46, b_least_kinds := b46,
    m_least_kinds := PySem.W.mg_of X G a46,
    a_law_cell := f47, d_law_cell := _, F_law_cell := F47, b_law_cell := b47,
    m_law_cell := PySem.W.mg_of X G a47,
    a_law_pool := f48, d_law_pool := _, F_law_pool := F48, b_law_pool := b48,
    m_law_pool := PySem.W.mg_of X G a48,
    a_law_next := f49, d_law_next := _, F_law_next := F49, b_law_next := b49,
    m_law_next := PySem.W.mg_of X G a49,
    a_law_names := f50, d_law_names := _, F_law_names := F50, b_law_names := b50,
    m_law_names := PySem.W.mg_of X G a50,
    a_law_same := f51, d_law_same := _, F_law_same := F51, b_law_same := b51,
    m_law_same := PySem.W.mg_of X G a51,
    a_law_wrapped := f52, d_law_wrapped := _, F_law_wrapped := F52, b_law_wrapped := b52,
    m_law_wrapped := PySem.W.mg_of X G a52,
    a_law_tower := f53, d_law_tower := _, F_law_tower := F53, b_law_tower := b53,
    m_law_tower := PySem.W.mg_of X G a53,
    a_law_joined := f54, d_law_joined := _, F_law_joined := F54, b_law_joined := b54,
    m_law_joined := PySem.W.mg_of X G a54,
    a_law_opened := f55, d_law_opened := _, F_law_opened := F55, b_law_opened := b55,
    m_law_opened := PySem.W.mg_of X G a55,
    a_law_is_row := f56, d_law_is_row := _, F_law_is_row := F56, b_law_is_row := b56,
    m_law_is_row := PySem.W.mg_of X G a56,
    a_law_size := f57, d_law_size := _, F_law_size := F57, b_law_size := b57,
    m_law_size := PySem.W.mg_of X G a57,
    a_law_count := f58, d_law_count := _, F_law_count := F58, b_law_count := b58,
    m_law_count := PySem.W.mg_of X G a58,
    a_law_inverted := f59, d_law_inverted := _, F_law_inverted := F59, b_law_inverted := b59,
    m_law_inverted := PySem.W.mg_of X G a59,
    a_law_taken_apart := f60, d_law_taken_apart := _, F_law_taken_apart := F60, b_law_taken_apart := b60,
    m_law_taken_apart := PySem.W.mg_of X G a60,
    a_law_renamed := f61, d_law_renamed := _, F_law_renamed := F61, b_law_renamed := b61,
    m_law_renamed := PySem.W.mg_of X G a61,
    a_law_mended := f62, d_law_mended := _, F_law_mended := F62, b_law_mended := b62,
    m_law_mended := PySem.W.mg_of X G a62,
    a_law := fa, d_law := _, F_law := F63, b_law := b63,
    m_law := PySem.W.mg_of X G a63,
    z_bool := PySem.W.mg_none_of X G z_bool,
    z_len := PySem.W.mg_none_of X G z_len,
    z_range := PySem.W.mg_none_of X G z_range,
    z_int := PySem.W.mg_none_of X G z_int,
    z_abs := PySem.W.mg_none_of X G z_abs,
    z_str := PySem.W.mg_none_of X G z_str,
    z_min := PySem.W.mg_none_of X G z_min,
    z_max := PySem.W.mg_none_of X G z_max,
    z_list := PySem.W.mg_none_of X G z_list,
    z_tuple := PySem.W.mg_none_of X G z_tuple,
    z_repr := PySem.W.mg_none_of X G z_repr,
    z_dict := PySem.W.mg_none_of X G z_dict,
    z_isinstance := PySem.W.mg_none_of X G z_isinstance,
    z_reversed := PySem.W.mg_none_of X G z_reversed,
    z_sum := PySem.W.mg_none_of X G z_sum,
    C_Count := CCount, cl_Count := ⟨pgC, hdC, poC, saC⟩, c_Count := PySem.W.mg_of X G aC, k_Count := ⟨mkC, a0, i0, kcC⟩, sf_Count := sfC, n_least := nCleast, n_most := nCmost, n_days := nCdays,
    mt_Count_boxed := ⟨a3, i3, k3⟩,
    mt_Count_fits := ⟨a4, i4, k4⟩,
    of_Count__add := a1, oi_Count__add := i1,
    of_Count__or := a2, oi_Count__or := i2,
    C_Library := CLib, cl_Library := ⟨pgL, hdL, poL, saL⟩, c_Library := PySem.W.mg_of X G aL, k_Library := ⟨mkL, a42, i42, kcL⟩,
    n_changes := nLchanges, n_words := nLwords, n_meetings := nLmeetings, n_entries := nLentries,
    a_PREMISES := fP, m_PREMISES := PySem.W.mg_of X G aP, a_BRINGS := fB, m_BRINGS := PySem.W.mg_of X G aB,
    t_LETTERS := tLE, m_LETTERS := PySem.W.mg_of X G aLE, t_DIGITS := tDI, m_DIGITS := PySem.W.mg_of X G aDI, t_LONGEST_NAME := tLO, m_LONGEST_NAME := PySem.W.mg_of X G aLO,
    pr_own := ⟨eP, nP, _, lP, kP, p_own, t_own, rfl⟩,
    tb_own := b_own, br_own := ⟨eB, nB, _, lB, kB, q_own, rfl⟩, bt_own := fun H => .inr ⟨_, _, _, lb_own, rfl, rfl, by decide, .nil⟩,
    pr_take := ⟨eP, nP, _, lP, kP, p_take, t_take, rfl⟩,
    tb_take := b_take, br_take := ⟨eB, nB, _, lB, kB, q_take, rfl⟩, bt_take := fun H => .inr ⟨_, _, _, lb_take, rfl, rfl, by decide, .cons rfl (.nil)⟩,
    pr_offer := ⟨eP, nP, _, lP, kP, p_offer, t_offer, rfl⟩,
    tb_offer := b_offer, br_offer := ⟨eB, nB, _, lB, kB, q_offer, rfl⟩, bt_offer := fun H => .inr ⟨_, _, _, lb_offer, rfl, rfl, by decide, .cons rfl (.cons rfl (.nil))⟩,
    pr_pick := ⟨eP, nP, _, lP, kP, p_pick, t_pick, rfl⟩,
    tb_pick := b_pick, br_pick := ⟨eB, nB, _, lB, kB, q_pick, rfl⟩, bt_pick := fun H => .inr ⟨_, _, _, lb_pick, rfl, rfl, by decide, .cons rfl (.nil)⟩,
    pr_pay := ⟨eP, nP, _, lP, kP, p_pay, t_pay, rfl⟩,
    tb_pay := b_pay, br_pay := ⟨eB, nB, _, lB, kB, q_pay, rfl⟩, bt_pay := fun H => .inr ⟨_, _, _, lb_pay, rfl, rfl, by decide, .cons rfl (.cons rfl (.nil))⟩,
    pr_cut := ⟨eP, nP, _, lP, kP, p_cut, t_cut, rfl⟩,
    tb_cut := b_cut, br_cut := ⟨eB, nB, _, lB, kB, q_cut, rfl⟩, bt_cut := fun H => .inr ⟨_, _, _, lb_cut, rfl, rfl, by decide, .cons rfl (.cons rfl (.nil))⟩ })
end W81
open PySem PySem.W PyProof.Rows
set_option maxRecDepth 100000 in
set_option maxHeartbeats 0 in
theorem PySem.Challenge.cw_heldanswers_k81_seam_large_expansions_holds : PySem.Challenge.rw_heldanswers_k81_seam_large_expansions.Holds := by
  w_on; o_law; k_head; (case hw => w_witness2)
  k_fill
  refine HX.walk_ofG (l := PySem.Challenge.rw_heldanswers_k81_seam_large_expansions) (n := 63) (k := 230) (x := "script") (CX := fun _ => L2.CX0) (sp := fun w => W81.spLaw _) rfl (by decide) rfl ⟨rfl, by decide, by decide⟩ (fun w h Y => PySem.W.kIn_of Y) ?F (fun _ _ a ns hl _ hS => ⟨a, ns, rfl, hS, hl, fun _ => rfl⟩) fun _ _ _ _ _ z => z
  case F =>
    intro w mg fa h KX G hmg
    have hmg2 : mg "law" = some (.ref fa) := hmg
    clear hmg
    refine' W81.all_mk KX G hmg2 ?a0 ?i0 ?l0 ?c0 ?k0 ?a1 ?i1 ?l1 ?c1 ?k1 ?a2 ?i2 ?l2 ?c2 ?k2 ?a3 ?i3 ?l3 ?c3 ?k3 ?a4 ?i4 ?l4 ?c4 ?k4 ?a5 ?l5 ?c5 ?k5 ?a6 ?l6 ?c6 ?k6 ?a7 ?l7 ?c7 ?k7 ?a8 ?l8 ?c8 ?k8 ?a9 ?l9 ?lT9 ?c9 ?k9 ?a10 ?l10 ?c10 ?k10 ?a11 ?l11 ?c11 ?k11 ?a12 ?l12 ?c12 ?k12 ?a13 ?l13 ?c13 ?k13 ?a14 ?l14 ?c14 ?k14 ?a15 ?l15 ?c15 ?k15 ?a16 ?l16 ?c16 ?k16 ?a17 ?l17 ?c17 ?k17 ?a18 ?l18 ?c18 ?k18 ?a19 ?l19 ?c19 ?k19 ?a20 ?l20 ?c20 ?k20 ?a21 ?l21 ?c21 ?k21 ?a22 ?l22 ?c22 ?k22 ?a23 ?l23 ?c23 ?k23 ?a24 ?l24 ?c24 ?k24 ?a25 ?l25 ?c25 ?k25 ?a26 ?l26 ?c26 ?k26 ?a27 ?l27 ?c27 ?k27 ?a28 ?l28 ?c28 ?k28 ?a29 ?l29 ?c29 ?k29 ?a30 ?l30 ?c30 ?k30 ?a31 ?l31 ?c31 ?k31 ?a32 ?l32 ?c32 ?k32 ?a33 ?l33 ?c33 ?k33 ?a34 ?l34 ?c34 ?k34 ?a35 ?l35 ?c35 ?k35 ?a36 ?l36 ?c36 ?k36 ?a37 ?l37 ?c37 ?k37 ?a38 ?l38 ?c38 ?k38 ?a39 ?l39 ?c39 ?k39 ?a40 ?l40 ?c40 ?k40 ?a41 ?l41 ?c41 ?k41 ?a42 ?i42 ?l42 ?c42 ?k42 ?a43 ?l43 ?c43 ?k43 ?a44 ?l44 ?c44 ?k44 ?a45 ?l45 ?c45 ?k45 ?a46 ?l46 ?c46 ?k46 ?a47 ?l47 ?c47 ?k47 ?a48 ?l48 ?c48 ?k48 ?a49 ?l49 ?c49 ?k49 ?a50 ?l50 ?c50 ?k50 ?a51 ?l51 ?c51 ?k51 ?a52 ?l52 ?c52 ?k52 ?a53 ?l53 ?c53 ?k53 ?a54 ?l54 ?c54 ?k54 ?a55 ?l55 ?c55 ?k55 ?a56 ?l56 ?c56 ?k56 ?a57 ?l57 ?c57 ?k57 ?a58 ?l58 ?c58 ?k58 ?a59 ?l59 ?c59 ?k59 ?a60 ?l60 ?c60 ?k60 ?a61 ?l61 ?c61 ?k61 ?a62 ?l62 ?c62 ?k62 ?a63 ?l63 ?c63 ?k63 ?z_bool ?z_len ?z_range ?z_int ?z_abs ?z_str ?z_min ?z_max ?z_list ?z_tuple ?z_repr ?z_dict ?z_isinstance ?z_reversed ?z_sum ?aC ?aL ?aP ?aB ?aLE ?aDI ?aLO ?lP ?kP ?lB ?kB ?p_own ?q_own ?lb_own ?p_take ?q_take ?lb_take ?p_offer ?q_offer ?lb_offer ?p_pick ?q_pick ?lb_pick ?p_pay ?q_pay ?lb_pay ?p_cut ?q_cut ?lb_cut ?pgC ?hdC ?poC ?saC ?mkC ?kcC ?pgL ?hdL ?poL ?saL ?mkL ?kcL ?sfC ?nCleast ?nCmost ?nCdays ?nLchanges ?nLwords ?nLmeetings ?nLentries
    (case aC => k_is)
    (case aL => k_is)
    (case aP => k_is)
    (case aB => k_is)
    (case lP => k_is)
    (case lB => k_is)
    (case a0 => k_is)
    (case i0 => k_is)
    (case l0 => k_is)
    (case c0 => k_is)
    (case k0 => k_is)
    (case a1 => k_is)
    (case i1 => k_is)
    (case l1 => k_is)
    (case c1 => k_is)
    (case k1 => k_is)
    (case a2 => k_is)
    (case i2 => k_is)
    (case l2 => k_is)
    (case c2 => k_is)
    (case k2 => k_is)
    (case a3 => k_is)
    (case i3 => k_is)
    (case l3 => k_is)
    (case c3 => k_is)
    (case k3 => k_is)
    (case a4 => k_is)
    (case i4 => k_is)
    (case l4 => k_is)
    (case c4 => k_is)
    (case k4 => k_is)
    (case a5 => k_is)
    (case l5 => k_is)
    (case c5 => k_is)
    (case k5 => k_is)
    (case a6 => k_is)
    (case l6 => k_is)
    (case c6 => k_is)
    (case k6 => k_is)
    (case a7 => k_is)
    (case l7 => k_is)
    (case c7 => k_is)
    (case k7 => k_is)
    (case a8 => k_is)
    (case l8 => k_is)
    (case c8 => k_is)
    (case k8 => k_is)
    (case a9 => k_is)
    (case l9 => k_is)
    (case lT9 => k_is)
    (case c9 => k_is)
    (case k9 => k_is)
    (case a10 => k_is)
    (case l10 => k_is)
    (case c10 => k_is)
    (case k10 => k_is)
    (case a11 => k_is)
    (case l11 => k_is)
    (case c11 => k_is)
    (case k11 => k_is)
    (case a12 => k_is)
    (case l12 => k_is)
    (case c12 => k_is)
    (case k12 => k_is)
    (case a13 => k_is)
    (case l13 => k_is)
    (case c13 => k_is)
    (case k13 => k_is)
    (case a14 => k_is)
    (case l14 => k_is)
    (case c14 => k_is)
    (case k14 => k_is)
    (case a15 => k_is)
    (case l15 => k_is)
    (case c15 => k_is)
    (case k15 => k_is)
    (case a16 => k_is)
    (case l16 => k_is)
    (case c16 => k_is)
    (case k16 => k_is)
    (case a17 => k_is)
    (case l17 => k_is)
    (case c17 => k_is)
    (case k17 => k_is)
    (case a18 => k_is)
    (case l18 => k_is)
    (case c18 => k_is)
    (case k18 => k_is)
    (case a19 => k_is)
    (case l19 => k_is)
    (case c19 => k_is)
    (case k19 => k_is)
    (case a20 => k_is)
    (case l20 => k_is)
    (case c20 => k_is)
    (case k20 => k_is)
    (case a21 => k_is)
    (case l21 => k_is)
    (case c21 => k_is)
    (case k21 => k_is)
    (case a22 => k_is)
    (case l22 => k_is)
    (case c22 => k_is)
    (case k22 => k_is)
    (case a23 => k_is)
    (case l23 => k_is)
    (case c23 => k_is)
    (case k23 => k_is)
    (case a24 => k_is)
    (case l24 => k_is)
    (case c24 => k_is)
    (case k24 => k_is)
    (case a25 => k_is)
    (case l25 => k_is)
    (case c25 => k_is)
    (case k25 => k_is)
    (case a26 => k_is)
    (case l26 => k_is)
    (case c26 => k_is)
    (case k26 => k_is)
    (case a27 => k_is)
    (case l27 => k_is)
    (case c27 => k_is)
    (case k27 => k_is)
    (case a28 => k_is)
    (case l28 => k_is)
    (case c28 => k_is)
    (case k28 => k_is)
    (case a29 => k_is)
    (case l29 => k_is)
    (case c29 => k_is)
    (case k29 => k_is)
    (case a30 => k_is)
    (case l30 => k_is)
    (case c30 => k_is)
    (case k30 => k_is)
    (case a31 => k_is)
    (case l31 => k_is)
    (case c31 => k_is)
    (case k31 => k_is)
    (case a32 => k_is)
    (case l32 => k_is)
    (case c32 => k_is)
    (case k32 => k_is)
    (case a33 => k_is)
    (case l33 => k_is)
    (case c33 => k_is)
    (case k33 => k_is)
    (case a34 => k_is)
    (case l34 => k_is)
    (case c34 => k_is)
    (case k34 => k_is)
    (case a35 => k_is)
    (case l35 => k_is)
    (case c35 => k_is)
    (case k35 => k_is)
    (case a36 => k_is)
    (case l36 => k_is)
    (case c36 => k_is)
    (case k36 => k_is)
    (case a37 => k_is)
    (case l37 => k_is)
    (case c37 => k_is)
    (case k37 => k_is)
    (case a38 => k_is)
    (case l38 => k_is)
    (case c38 => k_is)
    (case k38 => k_is)
    (case a39 => k_is)
    (case l39 => k_is)
    (case c39 => k_is)
    (case k39 => k_is)
    (case a40 => k_is)
    (case l40 => k_is)
    (case c40 => k_is)
    (case k40 => k_is)
    (case a41 => k_is)
    (case l41 => k_is)
    (case c41 => k_is)
    (case k41 => k_is)
    (case a42 => k_is)
    (case i42 => k_is)
    (case l42 => k_is)
    (case c42 => k_is)
    (case k42 => k_is)
    (case a43 => k_is)
    (case l43 => k_is)
    (case c43 => k_is)
    (case k43 => k_is)
    (case a44 => k_is)
    (case l44 => k_is)
    (case c44 => k_is)
    (case k44 => k_is)
    (case a45 => k_is)
    (case l45 => k_is)
    (case c45 => k_is)
    (case k45 => k_is)
    (case a46 => k_is)
    (case l46 => k_is)
    (case c46 => k_is)
    (case k46 => k_is)
    (case a47 => k_is)
    (case l47 => k_is)
    (case c47 => k_is)
    (case k47 => k_is)
    (case a48 => k_is)
    (case l48 => k_is)
    (case c48 => k_is)
    (case k48 => k_is)
    (case a49 => k_is)
    (case l49 => k_is)
    (case c49 => k_is)
    (case k49 => k_is)
    (case a50 => k_is)
    (case l50 => k_is)
    (case c50 => k_is)
    (case k50 => k_is)
    (case a51 => k_is)
    (case l51 => k_is)
    (case c51 => k_is)
    (case k51 => k_is)
    (case a52 => k_is)
    (case l52 => k_is)
    (case c52 => k_is)
    (case k52 => k_is)
    (case a53 => k_is)
    (case l53 => k_is)
    (case c53 => k_is)
    (case k53 => k_is)
    (case a54 => k_is)
    (case l54 => k_is)
    (case c54 => k_is)
    (case k54 => k_is)
    (case a55 => k_is)
    (case l55 => k_is)
    (case c55 => k_is)
    (case k55 => k_is)
    (case a56 => k_is)
    (case l56 => k_is)
    (case c56 => k_is)
    (case k56 => k_is)
    (case a57 => k_is)
    (case l57 => k_is)
    (case c57 => k_is)
    (case k57 => k_is)
    (case a58 => k_is)
    (case l58 => k_is)
    (case c58 => k_is)
    (case k58 => k_is)
    (case a59 => k_is)
    (case l59 => k_is)
    (case c59 => k_is)
    (case k59 => k_is)
    (case a60 => k_is)
    (case l60 => k_is)
    (case c60 => k_is)
    (case k60 => k_is)
    (case a61 => k_is)
    (case l61 => k_is)
    (case c61 => k_is)
    (case k61 => k_is)
    (case a62 => k_is)
    (case l62 => k_is)
    (case c62 => k_is)
    (case k62 => k_is)
    (case a63 => k_is)
    (case l63 => k_is)
    (case c63 => k_is)
    (case k63 => k_is)
    (case z_bool => k_is)
    (case z_len => k_is)
    (case z_range => k_is)
    (case z_int => k_is)
    (case z_abs => k_is)
    (case z_str => k_is)
    (case z_min => k_is)
    (case z_max => k_is)
    (case z_list => k_is)
    (case z_tuple => k_is)
    (case z_repr => k_is)
    (case z_dict => k_is)
    (case z_isinstance => k_is)
    (case z_reversed => k_is)
    (case z_sum => k_is)
    (case aLE => k_is)
    (case aDI => k_is)
    (case aLO => k_is)
    (case kP => k_keys)
    (case kB => k_keys)
    (case p_own => k_is)
    (case q_own => k_is)
    (case lb_own => k_is)
    (case p_take => k_is)
    (case q_take => k_is)
    (case lb_take => k_is)
    (case p_offer => k_is)
    (case q_offer => k_is)
    (case lb_offer => k_is)
    (case p_pick => k_is)
    (case q_pick => k_is)
    (case lb_pick => k_is)
    (case p_pay => k_is)
    (case q_pay => k_is)
    (case lb_pay => k_is)
    (case p_cut => k_is)
    (case q_cut => k_is)
    (case lb_cut => k_is)
    (case pgC => k_is)
    (case hdC => k_is)
    (case poC => k_is)
    (case saC => k_is)
    (case mkC => k_is)
    (case kcC => k_is)
    (case pgL => k_is)
    (case hdL => k_is)
    (case poL => k_is)
    (case saL => k_is)
    (case mkL => k_is)
    (case kcL => k_is)
    (case sfC => k_is)
    (case nCleast => k_is)
    (case nCmost => k_is)
    (case nCdays => k_is)
    (case nLchanges => k_is)
    (case nLwords => k_is)
    (case nLmeetings => k_is)
    (case nLentries => k_is)
#print axioms PySem.Challenge.cw_heldanswers_k81_seam_large_expansions_holds
