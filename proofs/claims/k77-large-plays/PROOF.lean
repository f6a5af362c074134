import PyProof.Rows.All
import Wide.All
import OpenK.AllK
import Wide.FinOn
import HandS.ForMost
import HandS.Exc
import HandS.ExcOwn
import HandS.ExcInit
import HandS.ExcField
import HandS.WordsExc
import HandS.DictComp
import HandS.Flow
import PyProof.ReprRoads
import PyProof.ReprLen
import HandS.RaiseMore
import HandS.IterVal
import KE.KOwnIter
import KE.KDictIter
import KE.KDictOf
import KE.KDictCopyH
import KE.KDictDisplayH
import HandS.Dict
import HandS.DictTup
import HandS.DictEq
import HandS.More
import HandS.Wide
import PySem.Challenge.RW_heldanswers_k77_seam_large_plays
import HandS.IsInst
import HandS.Zip
import HandS.Finally
import HandS.WordsDict
import PyProof.ReprText
import PyProof.StrLawsIn
set_option Elab.async false
set_option linter.all false
set_option maxRecDepth 100000
set_option maxHeartbeats 4000000
namespace HX
open PySem PySem.Spec PyProof.Rows L2
/-! ### B.__init__(self, ..) where B is an own class that has its __init__ from ValueError -/
section
variable {X : Cx} {CB : Addr} {x : Str} {e : Expr} {es : List Expr} {ta : TA} {p1 p2 pos : Pos}
theorem pe_baseInit {pl : Sem Bool} (gl : Gl X x) (mx : X.mg x = some (.ref CB)) (rd : PySem.W.readsIn X.K CB (.type "type") = true)
    (sp : PySem.W.specialIn X.K (.ref CB) "__getattribute__" = some (some (.builtin "type.__getattribute__")))
    (fc : PySem.W.findCls X.K (.ref CB) (.type "type") "__init__" = some (.val (.builtin "ValueError.__init__"))) (args : PA X (e :: es) ta)
    (ndb : (x == ("__debug__" : Str)) = false := by decide)
    (how : eval (.Call (.Attribute (.Name x p1) "__init__" p2) (e :: es) [] pos) X.env = (do
      let ov ← eval (.Name x p1) X.env
      standAt p2.atName
      let (f, first) ← holding [ov] (getMethod ov "__init__" pl)
      callWith pos f first (backTo pos (starEach (e :: es) X.env)) (backToKw pos (keywordEach [] X.env))) := by rfl)
    (hst : starEach (e :: es) X.env = (false, eval e X.env) :: starEach es X.env := by rfl) (hno : (backTo pos (starEach es X.env)).any (·.1) = false := by rfl) :
    PE X (.Call (.Attribute (.Name x p1) "__init__" p2) (e :: es) [] pos) (tVeI X.K ta) := by
  constructor
  intro pins s σ H Q I want
  refine PySem.W.methodCall_KW (ld_glob I gl mx ?_ ndb) how
  refine PySem.W.method_cls I.kIn sp (PySem.W.cls_value I.kIn rd fc (by decide) ?_)
  show wpAny _ _ (callWith pos (Value.builtin "ValueError.__init__") [] (backTo pos (starEach (e :: es) X.env)) []) _ _ _
  refine PyProof.Rows.callWith_method1 (thn (args.run pos pins _ σ H _ (I.tok _) want) fun us s1 got => ?_) hst hno
  obtain ⟨vs, H1, I1, r1, a, C, ws, ev, hl, T, ea, q⟩ := got
  subst ev
  cases r1 with
  | @cons _ u0 _ ur ra rest =>
    obtain rfl : u0 = Value.ref a := ra
    have len : ur.length ≤ sizeLine := by
      have e1 := Paired.length rest
      have e2 := sizeLine_eq
      omega
    exact oinit_ok T I1 ea len fun s' J => ⟨V.non, H1, J, rfl, q⟩
end
/-! ### len(o), o an instance of an own class with __len__ -/
section
variable {X : Cx} {CX : CXT} {k : Nat} {C g : Addr} {fd : FuncData} {sp : Sp} {E : XK}
theorem call_lenOwn (hs : PySem.W.findIn X.K (.ref C) "__len__" = some (some (.ref g))) (hf : PySem.W.isFn X.K (.ref g) = true)
    (F : FnOk X.prog X.w X.K X.mg X.base CX k g fd ["self"] sp) (hr : Room (k + 1) X.A) (hb : Binds X.K fd ["self"] []) (hx : Passes CX X E) :
    CallR X (.builtin "len") (fun vs H Q => ∃ (a dx : Addr) (fs : List (Str × V)), vs = [.ref a] ∧ H a = some (.ins C dx fs) ∧
      sp [.ref a] H (fun v H' => ∃ n : Int, v = .int n ∧ 0 ≤ n ∧ n < 2 ^ 63 ∧ Q (.int n) H') E) := by
  intro pins s σ H xs us Q I r h
  obtain ⟨a, dx, fs, rfl, ha, q⟩ := h
  obtain ⟨u, rfl, ru⟩ := vals1 r
  obtain rfl : u = Value.ref a := ru
  obtain ⟨mA, O, _, _, _, _⟩ := ins_get I.hok ha
  obtain ⟨od, J, _⟩ := O.look
  obtain ⟨m, fr⟩ := I.fr
  refine PySem.W.len_K fr I.ok.mod.kin J hs hf ?_
  refine wpAny_call (codeAny_mono (F.run X.A.in1 X.stack s H ⟨[.ref a], []⟩ [.ref a] [.ref a] _ E hr.in1 I.env0.in1 (by simpa using hb s [.ref a] I.kIn rfl) (.cons rfl .nil) q) fun r s' hq => ?_)
  cases r with
  | error er => exact hx pins σ H s er s' I hq
  | ok fl =>
    cases fl with
    | ret u =>
      obtain ⟨v, H', I3, rv, n, rfl, h0, h1, q3⟩ := I.after hq
      obtain ⟨t, rfl⟩ := rv
      exact ⟨⟨h0, h1⟩, .int n, H', I3.tok _, ⟨_, rfl⟩, q3⟩
    | next => exact False.elim hq
    | brk => exact False.elim hq
    | cont => exact False.elim hq
end
end HX
namespace HX
open PySem PySem.Spec PyProof.Rows L2
/-! ### a def's promise where it is known that no repr is under way around it -/
/-- as FnOk, asked only where the guards are known to be none -/
structure FnOkG (P : Program) (w : World) (K : PySem.W.Frag) (mg : Str → Option Value) (base : Heap) (CX : CXT) (k : Nat) (f : Addr) (fd : FuncData) (ps : List Str) (sp : Sp) : Prop where
  len : ∀ vs H Q E, sp vs H Q E → vs.length = ps.length
  go : ∀ (A : Around) (outer : List Env) (s : Shared) (H : Hp) (args : Args) (us : List Value) (vs : List V) (Q : VK) (E : XK), A.guards = some [] → Room k A →
    Env0 P w K mg base A outer s H → BindsTo s fd args (ps.zip us) → Vals vs us → sp vs H Q E → codeAny (model P w) A (.call (.ref f) args) (CR CX outer P w H s Q E) s
section
variable {P : Program} {w : World} {K : PySem.W.Frag} {mg : Str → Option Value} {base : Heap} {CX : CXT}
theorem FnOkG.of {k : Nat} {f : Addr} {fd : FuncData} {ps : List Str} {sp : Sp} (F : FnOk P w K mg base CX k f fd ps sp) : FnOkG P w K mg base CX k f fd ps sp :=
  ⟨F.len, fun A outer s H args us vs Q E _ hr he hb hv h => F.run A outer s H args us vs Q E hr he hb hv h⟩
theorem FnOkG.mono {j k : Nat} {f : Addr} {fd : FuncData} {ps : List Str} {sp : Sp} (F : FnOkG P w K mg base CX j f fd ps sp) (h : j ≤ k) : FnOkG P w K mg base CX k f fd ps sp :=
  ⟨F.len, fun A outer s H args us vs Q E hg hr => F.go A outer s H args us vs Q E hg (hr.mono h)⟩
/-- the rule for a def's body, with the guards told -/
theorem Fun.okG {x qual : Str} {st : Stmt} {f : Addr} {fd : FuncData} {N ps : List Str} {k : Nat} {sp : Sp} (F : Fun K x qual st f fd) (S : FnScope N ps (defScope st)) (len : ∀ vs H Q E, sp vs H Q E → vs.length = ps.length)
    (body : ∀ (cdv : Value) (A : Around) (outer : List Env) (s : Shared) (H : Hp) (vs : List V) (Q : VK) (E : XK), A.guards = some [] → Room k (A.deeper (envOfC qual (defScope st) s.heap.objs.size f cdv)) → sp vs H Q E →
      ∃ t, PSs (cxOf CX P w K mg base N qual (defScope st) f cdv A outer s H E) (defBody st) t ∧ t { nx := fun _ H' => Q .non H', rt := Q } (start N vs) H) : FnOkG P w K mg base CX (k + 1) f fd ps sp := by
  obtain ⟨oc, od, kV, doc, pm, an, cdv, ct, osl, rfl, lk, code⟩ := F.ex
  refine ⟨len, ?_⟩
  intro A outer s H args us vs Q E hg hr e0 hb r want
  have keeps : ∀ b o, base.get? b = some o → s.heap.get? b = some o := fun b o e => (e0.bs b o e).1
  have inK : K.In s.heap := e0.mod.kin.keeps keeps
  have many := len _ _ _ _ want
  have kinds : ∀ y ∈ ps.zip us, (defScope st).names.lookup y.1 = some .local ∨ ((defScope st).names.lookup y.1 = some .cell ∧ ((cellsFrom (s.heap.objs.size + 1) (defScope st).names []).lookup y.1).isSome = true) := by
    rintro ⟨n, v⟩ hy
    have hn : n ∈ ps := (List.of_mem_zip hy).1
    rcases S.par n hn with q | q
    · exact Or.inl q
    · exact Or.inr ⟨q, PySem.W.cellsFrom_some _ _ _ (Or.inl q)⟩
  refine codeAny_call_function hr.depth (inK _ _ lk) rfl S.co S.gen rfl (PySem.W.codeRec_of inK code) (hb _ _ _ _ ?_)
  refine wpAny_newFunctionEnv_cells S.kind kinds fun env he s1 x => ?_
  subst he
  refine ⟨(e0.mod.nolimit.keeps keeps).keeps x.toInCall.keep, codeAny_func ?_⟩
  obtain ⟨t, ht, hq⟩ := body cdv A outer s H vs Q E hg (hr.deeper _) want
  have I := inv_start (P := P) (CX := CX) (E := E) (qual := qual) S hr.hd e0 many r x
  refine wpAny_mono (ht.run [] s1 (start N vs) H _ I hq) (fun fl s' hs => ?_) fun e s' hs => hs
  cases fl with
  | next =>
    obtain ⟨σ', H', J, q⟩ := hs
    exact ⟨V.non, H', J.os, J.bare, J.base, J.hok, rfl, q⟩
  | ret u =>
    obtain ⟨v, σ', H', J, rv, q⟩ := hs
    exact ⟨v, H', J.os, J.bare, J.base, J.hok, rv, q⟩
  | brk =>
    obtain ⟨_, _, _, q⟩ := hs
    exact q.elim
  | cont =>
    obtain ⟨_, _, _, q⟩ := hs
    exact q.elim
end
section
variable {X : Cx} {CX : CXT} {k : Nat} {f : Addr} {fd : FuncData} {ps : List Str} {sp : Sp} {E : XK} {x : Str} {p pos : Pos} {e : Expr} {es : List Expr} {t : TA}
/-- f(e, ..), f's promise wanting that no repr is under way -/
theorem pe_callG (gd : X.A.guards = some []) (F : FnOkG X.prog X.w X.K X.mg X.base CX k f fd ps sp) (hr : Room k X.A) (gl : Gl X x) (mx : X.mg x = some (.ref f)) (kp : PySem.W.keepIn X.K (.ref f) = true) (hb : Binds X.K fd ps []) (hx : Passes CX X E)
    (args : PA X (e :: es) t) (ndb : (x == ("__debug__" : Str)) = false := by decide) (hst : starEach (e :: es) X.env = (false, eval e X.env) :: starEach es X.env := by rfl) (hno : (backTo pos (starEach es X.env)).any (·.1) = false := by rfl) :
    PE X (.Call (.Name x p) (e :: es) [] pos) (tCall sp [] E t) := by
  constructor
  intro pins s σ H Q I want
  refine wpAny_Call_Name_kw (ld_glob I gl mx ?_ ndb)
  refine PySem.W.callWith_K (h₀ := X.base) I.ok.mod.kin kp (thn (args.run pos pins s σ H _ I want) fun us s1 got => ?_) hst hno
  obtain ⟨vs, H1, I1, r, q⟩ := got
  rw [List.append_nil] at q
  refine ⟨I1.kIn, ?_⟩
  have many : us.length = ps.length := r.length.symm.trans (F.len _ _ _ _ q)
  have bd : BindsTo s1 fd ⟨us, []⟩ (ps.zip us) := by
    have b := hb s1 us I1.kIn (by rw [List.append_nil]; exact many)
    rwa [List.append_nil] at b
  refine wpAny_call (codeAny_mono (F.go X.A X.stack s1 H1 ⟨us, []⟩ us vs Q E gd hr I1.env0 bd r q) fun r' s' hq => ?_)
  cases r' with
  | error er => exact hx pins σ H1 s1 er s' I1 hq
  | ok fl =>
    cases fl with
    | ret u => exact I1.after hq
    | next => exact hq.elim
    | brk => exact hq.elim
    | cont => exact hq.elim
end
/-! ### the law's call from the caller of the claim -/
/-- the heap that tracks the script alone -/
def onlyAt (a : Addr) (o : Obj) (xs : List V) : Hp := fun b => if b = a then some (.frz o (.lst xs)) else none
theorem onlyAt_self {a : Addr} {o : Obj} {xs : List V} : onlyAt a o xs a = some (.frz o (.lst xs)) := if_pos rfl
theorem onlyAt_ne {a b : Addr} {o : Obj} {xs : List V} (h : b ≠ a) : onlyAt a o xs b = none := if_neg h
section
variable {P : Program} {w : World} {K : PySem.W.Frag} {mg mb : Str → Option Value} {CX : CXT} {k : Nat} {fa a : Addr} {fd : FuncData} {x : Str} {sp : Sp} {s : Shared} {vs : List Value} {ns : List Int}
/-- from an abstract heap H that fits the state -/
theorem law_from (H : Hp) (inK : K.In s.heap) (gm : s.heap.Ns mainGlobals mg) (gb : s.heap.Ns builtinsNs mb) (bb : ∀ x : Str, x ≠ "__name__" → mb x = bootBuiltins x) (lim : s.heap.NoLimit) (gens : s.gens = #[])
    (obj : s.heap.get? a = some { cls := .type "list", data := .seq vs.toArray }) (room : Room k callerA) (F : ∀ base : Heap, K.In base → base.Ns mainGlobals mg → FnOkG P w K mg base CX k fa fd [x] sp)
    (bind : ∀ (s : Shared) (u : Value), BindsTo s fd ⟨[u], []⟩ [(x, u)]) (want : sp [.ref a] H (fun v _ => v = .bl true) fun _ _ _ => False) (noX : ∀ e s', CX [] H s (fun _ _ _ => False) e s' → False)
    (hok : HOk P w H s.heap) (only : Only H) (atA : ∀ b, H b ≠ none → b = a) (notK : H a ≠ none → K.lookup a = none) :
    codeAny (model P w) callerA (.call (.ref fa) ⟨[.ref a], []⟩) (fun r s' => r = .ok (.ret (.bool true)) ∧ OldK s.heap s'.heap ∧ s'.os = s.os ∧ AllBare s'.gens) s := by
  -- a dict of the state is not tracked
  have dicts : ∀ {b : Addr} {m : Str → Option Value}, s.heap.Ns b m → (hidT s.heap H).Ns b m := by
    rintro b m ⟨o, es, ep, e, d, r⟩
    refine ⟨o, es, ep, hidT_get e ?_, d, r⟩
    cases q : H b with
    | none => rfl
    | some u =>
      have e1 : b = a := atA b (by rw [q]; exact fun z => nomatch z)
      subst e1
      rw [obj] at e
      cases e
      cases d
  have kin : K.In (hidT s.heap H) := by
    intro b o e
    refine hidT_get (inK b o e) ?_
    cases q : H b with
    | none => rfl
    | some u =>
      have e1 : b = a := atA b (by rw [q]; exact fun z => nomatch z)
      subst e1
      rw [notK (by rw [q]; exact fun z => nomatch z)] at e
      cases e
  have md : Mod K mg (hidT s.heap H) := ⟨kin, dicts gm, ⟨mb, dicts gb, bb⟩, (by obtain ⟨mc, h1, h2⟩ := lim; exact ⟨mc, dicts h1, h2⟩)⟩
  have env : Env0 P w K mg (hidT s.heap H) callerA [] s H :=
    { frames := rfl, mod := md, bs := fun b o e => of_hidT e, bsz := Nat.le_of_eq (hidT_size _ _), funs := trivial, frf := fun b hb => absurd hb List.not_mem_nil, hok := hok, bare := .of_eq gens }
  have run := (F _ kin (dicts gm)).go callerA [] s H ⟨[.ref a], []⟩ [.ref a] [.ref a] _ _ rfl room env (bind s (.ref a)) (.cons rfl .nil) want
  refine codeAny_mono run fun r s' h => ?_
  cases r with
  | error e => exact (noX e s' h).elim
  | ok fl =>
    cases fl with
    | next => exact h.elim
    | brk => exact h.elim
    | cont => exact h.elim
    | ret u =>
      obtain ⟨v, H', os, bare, un, hok', rv, q⟩ := h
      have e1 : v = .bl true := q
      subst e1
      obtain rfl : u = Value.bool true := rv
      refine ⟨rfl, OldK.of_keep fun b o e => ?_, os, bare⟩
      rcases only b with z | ⟨ob, xs, z⟩
      · exact un.keep b o e z List.not_mem_nil List.not_mem_nil
      · obtain ⟨e2, _⟩ := hok b _ z
        obtain ⟨e3, _⟩ := hok' b _ (un.frzs b ob _ z)
        rw [e] at e2
        cases e2
        exact e3
theorem law_callG (inK : K.In s.heap) (gm : s.heap.Ns mainGlobals mg) (gb : s.heap.Ns builtinsNs mb) (bb : ∀ x : Str, x ≠ "__name__" → mb x = bootBuiltins x) (lim : s.heap.NoLimit) (gens : s.gens = #[])
    (obj : s.heap.get? a = some { cls := .type "list", data := .seq vs.toArray }) (are : IntsAre vs ns) (short : ns.length ≤ sizeLine) (room : Room k callerA) (F : ∀ base : Heap, K.In base → base.Ns mainGlobals mg → FnOkG P w K mg base CX k fa fd [x] sp)
    (bind : ∀ (s : Shared) (u : Value), BindsTo s fd ⟨[u], []⟩ [(x, u)]) (want : ∀ H : Hp, Only H → SqL K H a (ns.map V.int) → sp [.ref a] H (fun v _ => v = .bl true) fun _ _ _ => False) (noX : ∀ H e s', CX [] H s (fun _ _ _ => False) e s' → False) :
    codeAny (model P w) callerA (.call (.ref fa) ⟨[.ref a], []⟩) (fun r s' => r = .ok (.ret (.bool true)) ∧ OldK s.heap s'.heap ∧ s'.os = s.os ∧ AllBare s'.gens) s := by
  have items : Vals (ns.map V.int) vs := vals_ints are
  have short' : (ns.map V.int).length ≤ sizeLine := by rw [List.length_map]; exact short
  cases hk : K.lookup a with
  | some o =>
    obtain rfl : { cls := .type "list", data := .seq vs.toArray } = o := Option.some.inj (obj.symm.trans (inK a o hk))
    have none0 : ∀ b, (fun _ => none : Hp) b = none := fun _ => rfl
    have sq : SqL K (fun _ => none) a (ns.map V.int) := Or.inr ⟨_, vs.toArray, _, hk, rfl, rfl, rfl, (by rw [List.size_toArray, ← items.length]; exact short'), by simpa using items⟩
    refine law_from (fun _ => none) inK gm gb bb lim gens obj room F bind (want _ (fun b => Or.inl rfl) sq) (fun e s' => noX _ e s') (fun b u z => nomatch z) (fun b => Or.inl rfl) (fun b z => absurd rfl z) fun z => absurd rfl z
  | none =>
    have sq : SqL K (onlyAt a { cls := .type "list", data := .seq vs.toArray } (ns.map V.int)) a (ns.map V.int) := Or.inl (Or.inr ⟨_, onlyAt_self⟩)
    have only : Only (onlyAt a { cls := .type "list", data := .seq vs.toArray } (ns.map V.int)) := fun b => by
      by_cases hb : b = a
      · subst hb
        exact Or.inr ⟨_, _, onlyAt_self⟩
      · exact Or.inl (onlyAt_ne hb)
    refine law_from _ inK gm gb bb lim gens obj room F bind (want _ only sq) (fun e s' => noX _ e s') (fun b u z => ?_) only (fun b z => ?_) fun _ => hk
    · by_cases hb : b = a
      · subst hb
        rw [onlyAt_self] at z
        cases z
        exact ⟨obj, short', vs, _, items, obj⟩
      · rw [onlyAt_ne hb] at z
        cases z
    · by_cases hb : b = a
      · exact hb
      · exact absurd (onlyAt_ne hb) z
end
/-- the goal that k_head leaves -/
theorem walk_ofG {l : PySem.W.OpenLaw} {n k : Nat} {q : Program} {loose : List Str} {XP : (Str → Option Value) → Heap → Prop} {YP : World → Heap → Prop} {d : DefRec} {K : Params → PySem.W.Frag} {CX : World → CXT} {sp : World → Sp} {x : Str}
    (hn : l.most = some n) (hn2 : n ≤ sizeLine) (hdf : d.params.defaults = []) (room : Room k callerA) (hY : ∀ (w : World) (h : Heap), YP w h → (K w.params).In h)
    (F : ∀ (w : World) (mg : Str → Option Value) (fa : Addr) (h : Heap), (K w.params).In h → h.Ns mainGlobals mg → mg d.name = some (.ref fa) →
      ∃ fd : FuncData, (∀ (s : Shared) (u : Value), BindsTo s fd ⟨[u], []⟩ [(x, u)]) ∧ ∀ base : Heap, (K w.params).In base → base.Ns mainGlobals mg → FnOkG l.prog w (K w.params) mg base (CX w) k fa fd [x] (sp w))
    (want : ∀ (w : World) (H : Hp) (a : Addr) (ns : List Int), ns.length ≤ n → Only H → SqL (K w.params) H a (ns.map V.int) → sp w [.ref a] H (fun v _ => v = .bl true) fun _ _ _ => False)
    (noX : ∀ (w : World) (H : Hp) (s : Shared) (e : Value) (s' : Shared), CX w [] H s (fun _ _ _ => False) e s' → False) :
    PySem.W.WalkO q loose XP YP l.row.toRowW d [] (fun f vs => PySem.call f vs) := by
  refine Att.attach_call hn hdf ?_
  intro w s₀ s₁ mg mb fa o pm cd doc a vs ns G Y ho hd hcd hmg hobj hints hlen hg
  have inK := hY w _ Y
  obtain ⟨fd, bind, ok⟩ := F w mg fa _ inK G.T.g hmg
  exact law_callG inK G.T.g G.T.b G.T.builtins G.T.nolimit hg hobj hints (Nat.le_trans hlen hn2) room ok bind (fun H h1 h2 => want w H a ns hlen h1 h2) fun H e s' => noX w H s₁ e s'
end HX
namespace HX
open PySem PySem.Spec PyProof.Rows L2
/-! ### repr -/
def keyD : Key → PyData
  | .inl i => .int i
  | .inr x => .str x
/-- the data of a dict's pairs -/
def pairsD : List (Key × V) → List PyData → List (PyData × PyData)
  | (k, _) :: r, d :: ds => (keyD k, d) :: pairsD r ds
  | _, _ => []
section
variable {X : Cx} {pins : List (Addr × Obj)} {σ : L2.St} {H : Hp} {s : Shared}
theorem keyD_reads {k : Key} {u : Value} {h : Heap} (e : keyIs k u = true) : Reads h u (keyD k) [] := by
  rcases keyIs_shape e with ⟨i, t, rfl, rfl⟩ | ⟨x, t, rfl, rfl⟩
  · exact Reads.int i t
  · exact Reads.str x t
theorem reads_keys {w : World} {P : Program} {h : Heap} : ∀ {kvs : List (Key × V)} {ds : List PyData} {vs : List (Key × Value)} {es : List DictEntry}, KV kvs vs → Pairs (mixKind P w) es vs → kvs.length = ds.length →
    ReadsAll h (es.map (·.key)) ((pairsD kvs ds).map (·.1)) []
  | [], [], _, _, .nil, .nil, _ => .nil
  | (k, v) :: r, d :: ds, _, _, .cons (a := _) (b := c) a b, .cons (e := en) p q t, hl => by
    have e : keyIs k en.key = true := by
      have e1 : k = c.1 := a.1
      rw [e1]
      exact p
    exact ReadsAll.cons (as := []) (bs := []) (keyD_reads e) (reads_keys b t (by simpa using hl))
  | [], _ :: _, _, _, _, _, hl => by simp at hl
  | _ :: _, [], _, _, _, _, hl => by simp at hl
theorem vals_of_pairs {w : World} {P : Program} : ∀ {kvs : List (Key × V)} {vs : List (Key × Value)} {es : List DictEntry}, KV kvs vs → Pairs (mixKind P w) es vs → Vals (kvs.map (·.2)) (es.map (·.val))
  | [], _, _, .nil, .nil => .nil
  | (k, v) :: r, _, _, .cons a b, .cons (e := en) p q t => .cons (by
      show RelV v en.val
      rw [q]
      exact a.2) (vals_of_pairs b t)
theorem pairsD_snd : ∀ {kvs : List (Key × V)} {ds : List PyData}, kvs.length = ds.length → (pairsD kvs ds).map (·.2) = ds
  | [], [], _ => rfl
  | (k, v) :: r, d :: ds, h => by
    show d :: (pairsD r ds).map (·.2) = d :: ds
    rw [pairsD_snd (by simpa using h)]
  | [], _ :: _, h => by simp at h
  | _ :: _, [], h => by simp at h
theorem DpAll.length {K : PySem.W.Frag} : ∀ {vs : List V} {ds : List PyData}, DpAll K H vs ds → vs.length = ds.length
  | _, _, .nil => rfl
  | _, _, .cons _ t => by rw [List.length_cons, List.length_cons, DpAll.length t]
theorem Dp.noDict {K : PySem.W.Frag} : ∀ {d : PyData} {v : V}, Dp K H v d → d.hasDict = false := fun {d} {v} h => by
  have all : ∀ d v, Dp K H v d → d.hasDict = false := by
    intro d v h
    induction h using Dp.rec (motive_2 := fun vs ds _ => PyData.hasDictAll ds = false) with
    | non => simp only [PyData.hasDict]
    | bl b => simp only [PyData.hasDict]
    | int i => simp only [PyData.hasDict]
    | str x => simp only [PyData.hasDict]
    | lst _ _ ih => simpa only [PyData.hasDict] using ih
    | tup _ _ ih => simpa only [PyData.hasDict] using ih
    | nil => simp only [PyData.hasDictAll]
    | cons _ _ i1 i2 => simp only [PyData.hasDictAll, i1, i2, Bool.or_self]
  exact all d v h
theorem DpAll.noDict {K : PySem.W.Frag} : ∀ {ds : List PyData} {vs : List V}, DpAll K H vs ds → PyData.hasDictAll ds = false
  | _, _, .nil => by simp only [PyData.hasDictAll]
  | _, _, .cons a t => by simp only [PyData.hasDictAll, Dp.noDict a, DpAll.noDict t, Bool.or_self]
/-- repr of a list or a tuple of data -/
theorem call_reprD (gd : X.A.guards = some []) {n : Nat} (hu : X.A.units + (n + 1) < cLine) :
    CallR X (.builtin "repr") (fun vs H Q => ∃ (a : Addr) (d : PyData), vs = [.ref a] ∧ Dp X.K H (.ref a) d ∧ d.showable = true ∧ d.depth ≤ n ∧ d.shown.length ≤ sizeLine ∧ Q (.str d.shown) H) := by
  intro pins s σ H xs us Q I r h
  obtain ⟨a, d, rfl, hd, hs, hn, hz, q⟩ := h
  obtain ⟨u, rfl, ru⟩ := vals1 r
  obtain rfl : u = Value.ref a := ru
  obtain ⟨as, rd⟩ := Dp.reads I d _ _ hd rfl
  exact repr_of_reads' rd hs (fun z => by rw [Dp.noDict hd] at z; cases z) gd (by omega) (fun _ _ e => e) (fun h' u tk k => ⟨.str d.shown, H, I.kept (t' := tk) k, ⟨u, rfl⟩, q⟩) hz
/-- repr of a dict whose values are data -/
theorem call_reprK (gd : X.A.guards = some []) {n : Nat} (hu : X.A.units + (n + 1) < cLine) :
    CallR X (.builtin "repr") (fun vs H Q => ∃ (a : Addr) (kvs : List (Key × V)) (ds : List PyData), vs = [.ref a] ∧ H a = some (.dK kvs) ∧ DpAll X.K H (kvs.map (·.2)) ds ∧
      PyData.showable (.dict (pairsD kvs ds)) = true ∧ PyData.depth (.dict (pairsD kvs ds)) ≤ n ∧ (PyData.shown (.dict (pairsD kvs ds))).length ≤ sizeLine ∧ Q (.str (PyData.shown (.dict (pairsD kvs ds)))) H) := by
  intro pins s σ H xs us Q I r h
  obtain ⟨a, kvs, ds, rfl, ha, hds, hs, hn, hz, q⟩ := h
  obtain ⟨u, rfl, ru⟩ := vals1 r
  obtain rfl : u = Value.ref a := ru
  obtain ⟨_, hsm, vs, rel, o, es, ep, ho, hx, hdat, _, prs, _⟩ := dk_of I.hok ha
  have hl : kvs.length = ds.length := by
    have e := DpAll.length hds
    rwa [List.length_map] at e
  obtain ⟨as, rv⟩ := Dp.readsAll I ds _ _ hds (vals_of_pairs rel prs)
  have rk : ReadsAll s.heap (es.toList.map (·.key)) ((pairsD kvs ds).map (·.1)) [] := reads_keys rel prs hl
  rw [← pairsD_snd hl] at rv
  have hc : o.cls = .type "dict" := hx.1
  have z' : (dictText (PyData.shownKv (pairsD kvs ds))).length ≤ sizeLine := by simpa only [PyData.shown] using hz
  obtain ⟨s1, s2⟩ := PyData.showableKv_split _ (by simpa [PyData.showable] using hs)
  have n1 : PyData.hasDictAll ((pairsD kvs ds).map (·.1)) = false := by
    have all : ∀ (kvs : List (Key × V)) (ds : List PyData), PyData.hasDictAll ((pairsD kvs ds).map (·.1)) = false := by
      intro kvs
      induction kvs with
      | nil => intro ds; simp only [pairsD, List.map_nil, PyData.hasDictAll]
      | cons p r ih =>
        intro ds
        cases ds with
        | nil => simp only [pairsD, List.map_nil, PyData.hasDictAll]
        | cons d ds =>
          obtain ⟨k, v⟩ := p
          show PyData.hasDictAll (keyD k :: (pairsD r ds).map (·.1)) = false
          have e : (keyD k).hasDict = false := by cases k <;> simp only [keyD, PyData.hasDict]
          simp only [PyData.hasDictAll, e, ih ds, Bool.or_self]
    exact all kvs ds
  have n2 : PyData.hasDictAll ((pairsD kvs ds).map (·.2)) = false := by
    rw [pairsD_snd hl]
    exact DpAll.noDict hds
  obtain ⟨b1, hb1, k1⟩ := ReprAllK.of_readsAll (prog := X.prog) (w := X.w) rk s1 (fun z => by rw [n1] at z; cases z) (fun t ht => let ⟨p, hp, hl⟩ := PyData.shownKv_key_le _ t ht; Nat.le_trans hl (Nat.le_trans (dictText_mem_le hp) z'))
  obtain ⟨b2, hb2, k2⟩ := ReprAllK.of_readsAll (prog := X.prog) (w := X.w) rv s2 (fun z => by rw [n2] at z; cases z) (fun t ht => let ⟨p, hp, hl⟩ := PyData.shownKv_val_le _ t ht; Nat.le_trans hl (Nat.le_trans (dictText_mem_le hp) z'))
  have hb : ReadAtMost s.heap (PyData.depthKv (pairsD kvs ds)) (b1 ++ b2) := (hb1.mono (PyData.depthAll_keys_le _)).append (hb2.mono (PyData.depthAll_vals_le _))
  have whole : Reads s.heap (.ref a) (.dict (pairsD kvs ds)) _ := Reads.dict ho hc hdat rk rv
  have na : a ∉ b1 ++ b2 := not_mem_of_deeper whole (by simp only [PyData.depth]; omega) hb
  have dep : PyData.depthKv (pairsD kvs ds) + 1 ≤ n := by simpa only [PyData.depth] using hn
  refine call_repr_slot (by omega) ⟨o, ho, hc⟩ F.slot_dict_repr ?_
  refine call_dict_reprK (d := PyData.depthKv (pairsD kvs ds)) ho hc hdat hsm na (ReprEntriesK.of_two es.toList _ _
      (k1.more_le (fun b hb => List.mem_append_left _ hb) (PyData.depthAll_keys_le _)) (k2.more_le (fun b hb => List.mem_append_right _ hb) (PyData.depthAll_vals_le _)))
    gd (fun b _ => Clear.nil b) (by show X.A.units + 1 + (PyData.depthKv (pairsD kvs ds) + 1) < cLine; omega) (fun _ _ e => e) (fun h' u tk k => ?_) (by rw [← PyData.shownKv_eq]; exact z')
  refine ⟨_, u, rfl, .str _, H, I.kept (t' := tk) k, ⟨u, rfl⟩, ?_⟩
  simpa only [PyData.shown, PyData.shownKv_eq] using q
/-- repr of a bool -/
theorem call_reprB : CallR X (.builtin "repr") (fun vs H Q => ∃ b : Bool, vs = [.bl b] ∧ Q (.str (if b = true then ("True" : Str) else ("False" : Str))) H) := by
  intro pins s σ H xs us Q I r h
  obtain ⟨b, rfl, q⟩ := h
  obtain ⟨u, rfl, ru⟩ := vals1 r
  obtain rfl : u = Value.bool b := ru
  exact PySem.P.repr_of_bool ⟨.str _, H, I.tok _, ⟨_, rfl⟩, q⟩
end
end HX
/-! The plain laws of tables, in plain Lean. -/
namespace W76
/-- the three products -/
def pr (form n a b : Nat) : Nat := if form = 0 then min (a + b) (n - 1) else if form = 1 then (a + b) % n else max a b
theorem pr_lt {form n a b : Nat} (hn : 0 < n) (ha : a < n) (hb : b < n) : pr form n a b < n := by
  unfold pr
  split
  · omega
  · split
    · exact Nat.mod_lt _ hn
    · omega
theorem pr_unit {form n b : Nat} (hb : b < n) : pr form n 0 b = b := by
  unfold pr
  split
  · omega
  · split
    · rw [Nat.zero_add, Nat.mod_eq_of_lt hb]
    · omega
theorem pr_comm {form n a b : Nat} : pr form n a b = pr form n b a := by
  unfold pr
  rw [Nat.add_comm a b, Nat.max_comm a b]
theorem pr_assoc {form n a b c : Nat} (ha : a < n) (hb : b < n) (hc : c < n) : pr form n (pr form n a b) c = pr form n a (pr form n b c) := by
  unfold pr
  split
  · omega
  · split
    · rw [Nat.mod_add_mod, Nat.add_mod_mod, Nat.add_assoc]
    · omega
/-! ### tables as lists of rows -/
abbrev Rows := List (List Nat)
def tab (n : Nat) (f : Nat → Nat → Nat) : Rows := (List.range n).map fun a => (List.range n).map (f a)
def at1 (r : List Nat) (j : Nat) : Nat := r[j]?.getD 0
def rowAt (rows : Rows) (i : Nat) : List Nat := rows[i]?.getD []
def at2 (rows : Rows) (i j : Nat) : Nat := at1 (rowAt rows i) j
def rowOk (n : Nat) (r : List Nat) : Bool := decide (r.length = n) && r.all fun k => decide (k < n)
def shapeB (rows : Rows) : Bool := rows.all (rowOk rows.length) && decide (0 < rows.length)
def unitB (rows : Rows) : Bool := decide (rowAt rows 0 = List.range rows.length)
def orderB (rows : Rows) : Bool := (List.range rows.length).all fun i => (List.range i).all fun j => decide (at2 rows i j = at2 rows j i)
def groupB (rows : Rows) : Bool := rows.all fun row => (List.range rows.length).all fun j => decide (rowAt rows (at1 row j) = (rowAt rows j).map (at1 row))
theorem tab_len (n : Nat) (f : Nat → Nat → Nat) : (tab n f).length = n := by simp [tab]
theorem tab_get {n : Nat} {f : Nat → Nat → Nat} {i : Nat} (h : i < n) : (tab n f)[i]? = some ((List.range n).map (f i)) := by
  simp [tab, List.getElem?_map, List.getElem?_range h]
theorem rowAt_tab {n : Nat} {f : Nat → Nat → Nat} {i : Nat} (h : i < n) : rowAt (tab n f) i = (List.range n).map (f i) := by
  unfold rowAt
  rw [tab_get h]
  rfl
theorem at1_map {n : Nat} {g : Nat → Nat} {j : Nat} (h : j < n) : at1 ((List.range n).map g) j = g j := by
  simp [at1, List.getElem?_map, List.getElem?_range h]
theorem at2_tab {n : Nat} {f : Nat → Nat → Nat} {i j : Nat} (h : i < n) (hj : j < n) : at2 (tab n f) i j = f i j := by
  unfold at2
  rw [rowAt_tab h, at1_map hj]
theorem mem_tab {n : Nat} {f : Nat → Nat → Nat} {r : List Nat} (h : r ∈ tab n f) : ∃ i, i < n ∧ r = (List.range n).map (f i) := by
  unfold tab at h
  obtain ⟨i, hi, e⟩ := List.mem_map.mp h
  exact ⟨i, List.mem_range.mp hi, e.symm⟩
/-- closed, with unit, commutative, associative on the first n numbers -/
structure Good (n : Nat) (f : Nat → Nat → Nat) : Prop where
  pos : 0 < n
  lt : ∀ a b, a < n → b < n → f a b < n
  unit : ∀ b, b < n → f 0 b = b
  comm : ∀ a b, a < n → b < n → f a b = f b a
  assoc : ∀ a b c, a < n → b < n → c < n → f (f a b) c = f a (f b c)
theorem pr_good {form n : Nat} (hn : 0 < n) : Good n (pr form n) :=
  ⟨hn, fun _ _ => pr_lt hn, fun _ => pr_unit, fun _ _ _ _ => pr_comm, fun _ _ _ => pr_assoc⟩
theorem shape_tab {n : Nat} {f : Nat → Nat → Nat} (hn : 0 < n) (hl : ∀ a b, a < n → b < n → f a b < n) : shapeB (tab n f) = true := by
  unfold shapeB
  rw [tab_len, decide_eq_true hn, Bool.and_true, List.all_eq_true]
  intro r hr
  obtain ⟨i, hi, rfl⟩ := mem_tab hr
  simp [rowOk]
  intro j hj
  exact hl i j hi hj
theorem unit_tab {n : Nat} {f : Nat → Nat → Nat} (hn : 0 < n) (hu : ∀ b, b < n → f 0 b = b) : unitB (tab n f) = true := by
  unfold unitB
  rw [tab_len, rowAt_tab hn, decide_eq_true_eq]
  apply List.ext_getElem
  · simp
  · intro i h1 h2
    simp at h1
    simp [hu i h1]
theorem order_tab {n : Nat} {f : Nat → Nat → Nat} (hc : ∀ a b, a < n → b < n → f a b = f b a) : orderB (tab n f) = true := by
  unfold orderB
  rw [tab_len]
  simp only [List.all_eq_true, List.mem_range, decide_eq_true_eq]
  intro i hi j hj
  have h2 : j < n := by omega
  rw [at2_tab hi h2, at2_tab h2 hi]
  exact hc i j hi h2
theorem group_tab {n : Nat} {f : Nat → Nat → Nat} (hl : ∀ a b, a < n → b < n → f a b < n) (ha : ∀ a b c, a < n → b < n → c < n → f (f a b) c = f a (f b c)) : groupB (tab n f) = true := by
  unfold groupB
  rw [tab_len]
  simp only [List.all_eq_true, List.mem_range, decide_eq_true_eq]
  intro r hr j hj
  obtain ⟨i, hi, rfl⟩ := mem_tab hr
  rw [at1_map hj, rowAt_tab (hl i j hi hj), rowAt_tab hj, List.map_map]
  apply List.map_congr_left
  intro c hc
  have hc := List.mem_range.mp hc
  show f (f i j) c = at1 _ (f j c)
  rw [at1_map (hl j c hj hc)]
  exact ha i j c hi hj hc
/-! ### spoilt tables -/
/-- another last row -/
theorem shape_badRow {rows : Rows} {r : List Nat} (hr : r ∈ rows) (hb : rowOk rows.length r = false) : shapeB rows = false := by
  unfold shapeB
  have : rows.all (rowOk rows.length) = false := by
    rw [List.all_eq_false]
    exact ⟨r, hr, by rw [hb]; exact Bool.false_ne_true⟩
  rw [this, Bool.false_and]
def upd2 (f : Nat → Nat → Nat) (i j v : Nat) : Nat → Nat → Nat := fun a b => if a = i ∧ b = j then v else f a b
theorem range_map_set {n j v : Nat} {g : Nat → Nat} : ((List.range n).map g).set j v = (List.range n).map fun b => if b = j then v else g b := by
  apply List.ext_getElem
  · simp
  · intro k h1 h2
    simp at h1
    by_cases hk : k = j
    · subst hk
      simp
    · have hk' : ¬ j = k := fun e => hk e.symm
      simp [List.getElem_set, hk, hk']
theorem tab_set {n i j v : Nat} {f : Nat → Nat → Nat} (hi : i < n) : (tab n f).set i (((List.range n).map (f i)).set j v) = tab n (upd2 f i j v) := by
  apply List.ext_getElem
  · simp [tab]
  · intro k h1 h2
    simp [tab] at h1
    rw [List.getElem_set]
    by_cases hk : i = k
    · subst hk
      rw [if_pos rfl, range_map_set]
      simp only [tab, List.getElem_map, List.getElem_range]
      apply List.map_congr_left
      intro b _
      simp [upd2]
    · rw [if_neg hk]
      simp only [tab, List.getElem_map, List.getElem_range]
      apply List.map_congr_left
      intro b _
      have hk' : ¬ k = i := fun e => hk e.symm
      simp [upd2, hk']
theorem unit_bad {n d : Nat} {f : Nat → Nat → Nat} (h1 : 1 < n) (hd : d < n - 1) : unitB (tab n (upd2 f 0 (n - 1) d)) = false := by
  unfold unitB
  rw [tab_len, rowAt_tab (by omega), decide_eq_false_iff_not]
  intro e
  have e1 := congrArg (fun l => l[n - 1]?) e
  simp only [List.getElem?_map, List.getElem?_range (show n - 1 < n by omega), Option.map_some, Option.some.injEq] at e1
  simp [upd2] at e1
  omega
theorem shape_upd {n i j v : Nat} {f : Nat → Nat → Nat} (hn : 0 < n) (hl : ∀ a b, a < n → b < n → f a b < n) (hv : v < n) : ∀ a b, a < n → b < n → upd2 f i j v a b < n := by
  intro a b ha hb
  unfold upd2
  split
  · exact hv
  · exact hl a b ha hb
theorem order_bad {n : Nat} {f : Nat → Nat → Nat} (h2 : 2 < n) (hc : f (n - 1) (n - 2) = f (n - 2) (n - 1)) (hl : f (n - 1) (n - 2) < n) : orderB (tab n (upd2 f (n - 1) (n - 2) ((f (n - 1) (n - 2) + 1) % n))) = false := by
  unfold orderB
  rw [tab_len]
  rw [List.all_eq_false]
  refine ⟨n - 1, List.mem_range.mpr (by omega), ?_⟩
  rw [Bool.not_eq_true, List.all_eq_false]
  refine ⟨n - 2, List.mem_range.mpr (by omega), ?_⟩
  rw [at2_tab (by omega) (by omega), at2_tab (by omega) (by omega)]
  have e1 : upd2 f (n - 1) (n - 2) ((f (n - 1) (n - 2) + 1) % n) (n - 1) (n - 2) = (f (n - 1) (n - 2) + 1) % n := by simp [upd2]
  have e2 : upd2 f (n - 1) (n - 2) ((f (n - 1) (n - 2) + 1) % n) (n - 2) (n - 1) = f (n - 1) (n - 2) := by
    have : ¬ (n - 2 = n - 1 ∧ n - 1 = n - 2) := by omega
    unfold upd2
    rw [if_neg this, hc]
  rw [e1, e2, decide_eq_true_eq]
  intro e
  by_cases h : f (n - 1) (n - 2) + 1 < n
  · rw [Nat.mod_eq_of_lt h] at e
    omega
  · have : f (n - 1) (n - 2) + 1 = n := by omega
    rw [this, Nat.mod_self] at e
    omega
/-- the product of the last two elements is 1 on both sides, where the product is the greater of two -/
def bent (n : Nat) : Nat → Nat → Nat := upd2 (upd2 (pr 2 n) (n - 1) (n - 2) 1) (n - 2) (n - 1) 1
theorem bent_at {n a b : Nat} : bent n a b = if a = n - 2 ∧ b = n - 1 then 1 else if a = n - 1 ∧ b = n - 2 then 1 else max a b := by
  simp [bent, upd2, pr]
theorem bent_unit {n b : Nat} (h : 4 < n) (hb : b < n) : bent n 0 b = b := by
  rw [bent_at, if_neg (by omega), if_neg (by omega)]
  omega
theorem bent_comm {n a b : Nat} : bent n a b = bent n b a := by
  rw [bent_at, bent_at]
  by_cases h1 : a = n - 2 ∧ b = n - 1
  · rw [if_pos h1]
    by_cases h2 : b = n - 2 ∧ a = n - 1
    · rw [if_pos h2]
    · rw [if_neg h2, if_pos ⟨h1.2, h1.1⟩]
  · rw [if_neg h1]
    by_cases h3 : a = n - 1 ∧ b = n - 2
    · rw [if_pos h3, if_pos ⟨h3.2, h3.1⟩]
    · rw [if_neg h3, if_neg (fun z => h3 ⟨z.2, z.1⟩), if_neg (fun z => h1 ⟨z.2, z.1⟩), Nat.max_comm]
theorem bent_lt {n a b : Nat} (h : 4 < n) (ha : a < n) (hb : b < n) : bent n a b < n := by
  rw [bent_at]
  split
  · omega
  · split
    · omega
    · omega
theorem group_bad {n : Nat} (h : 4 < n) : groupB (tab n (bent n)) = false := by
  unfold groupB
  rw [tab_len, List.all_eq_false]
  refine ⟨(List.range n).map (bent n (n - 1)), ?_, ?_⟩
  · exact List.mem_map.mpr ⟨n - 1, List.mem_range.mpr (by omega), rfl⟩
  · rw [Bool.not_eq_true, List.all_eq_false]
    refine ⟨n - 2, List.mem_range.mpr (by omega), ?_⟩
    rw [at1_map (by omega)]
    have e1 : bent n (n - 1) (n - 2) = 1 := by
      rw [bent_at, if_neg (by omega), if_pos ⟨rfl, rfl⟩]
    rw [e1, rowAt_tab (by omega), rowAt_tab (by omega), decide_eq_true_eq]
    intro e
    have e2 := congrArg (fun l => l[2]?) e
    simp only [List.getElem?_map, List.getElem?_range (show 2 < n by omega), Option.map_some, Option.some.injEq] at e2
    have e3 : bent n 1 2 = 2 := by
      rw [bent_at, if_neg (by omega), if_neg (by omega)]
      omega
    have e4 : bent n (n - 2) 2 = n - 2 := by
      rw [bent_at, if_neg (by omega), if_neg (by omega)]
      omega
    rw [e3, e4, at1_map (by omega), e1] at e2
    omega
end W76
namespace HX
open PySem PySem.Spec PyProof.Rows L2
/-! ### frozen data: a part G of the heap that never changes any more -/
theorem Same.tup {K : PySem.W.Frag} {H H' : Hp} {a : Addr} {xs : List V} (e : Same H H') (h : SqT K H a xs) : SqT K H' a xs := by
  rcases h with (h | ⟨o, h⟩) | h
  · exact .inl (.inl (e _ _ h))
  · exact .inl (.inr ⟨o, e _ _ h⟩)
  · exact .inr h
theorem Same.new {H : Hp} {a : Addr} {o : HO} (h : H a = none) : Same H (upd H a o) := fun b u e => by
  rw [upd_ne (ne_of_none e h)]
  exact e
theorem Same.put {G H : Hp} {a : Addr} {o : HO} (e : Same G H) (h : G a = none) : Same G (upd H a o) := fun b u q => by
  rw [upd_ne (ne_of_none q h)]
  exact e b u q
theorem Same.both {G H : Hp} {a : Addr} {o : HO} (e : Same G H) : Same (upd G a o) (upd H a o) := fun b u q => by
  by_cases hb : b = a
  · subst hb
    rw [upd_same] at q ⊢
    exact q
  · rw [upd_ne hb] at q ⊢
    exact e b u q
theorem Same.none {G H : Hp} {a : Addr} (e : Same G H) (h : H a = Option.none) : G a = Option.none := e.free h
/-- what a piece of code does: from the frozen part G and the heap H to G' and H'; m: what it may change -/
structure Stp (m : Addr → Prop) (G H G' H' : Hp) : Prop where
  gg : Same G G'
  gh : Same G' H'
  nw : ∀ a, G a = none → H a ≠ none → G' a = none
  un : ∀ a o, ¬ m a → H a = some o → H' a = some o
  th : ∀ a, H a ≠ none → H' a ≠ none
abbrev nom : Addr → Prop := fun _ => False
section
variable {m m' : Addr → Prop} {G H G1 H1 G2 H2 : Hp} {a : Addr} {o u : HO}
theorem Stp.refl (e : Same G H) : Stp m G H G H := ⟨Same.refl G, e, fun _ h _ => h, fun _ _ _ h => h, fun _ h => h⟩
theorem Stp.trans (s : Stp m G H G1 H1) (t : Stp m' G1 H1 G2 H2) (hm : ∀ a, m' a → m a ∨ H a = none) : Stp m G H G2 H2 := by
  refine ⟨s.gg.trans t.gg, t.gh, fun a h1 h2 => t.nw a (s.nw a h1 h2) (s.th a h2), fun a o h1 h2 => t.un a o (fun z => ?_) (s.un a o h1 h2), fun a h => t.th a (s.th a h)⟩
  rcases hm a z with q | q
  · exact h1 q
  · rw [h2] at q
    cases q
theorem Stp.tr0 (s : Stp m G H G1 H1) (t : Stp nom G1 H1 G2 H2) : Stp m G H G2 H2 := s.trans t fun _ z => z.elim
theorem Stp.tr (s : Stp m G H G1 H1) (t : Stp m G1 H1 G2 H2) : Stp m G H G2 H2 := s.trans t fun _ z => Or.inl z
theorem Stp.wide (s : Stp m G H G1 H1) (h : ∀ a, m a → m' a) : Stp m' G H G1 H1 := ⟨s.gg, s.gh, s.nw, fun a o z => s.un a o fun q => z (h a q), s.th⟩
/-- a new object that will not change -/
theorem Stp.newF (s : Stp m G H G1 H1) (h : H1 a = none) : Stp m G H (upd G1 a o) (upd H1 a o) := by
  have hH : H a = none := by
    cases q : H a with
    | none => rfl
    | some z => exact absurd h (s.th a (by rw [q]; exact fun z => nomatch z))
  refine ⟨s.gg.trans (Same.new (Same.none s.gh h)), Same.both s.gh, fun b h1 h2 => ?_, fun b u h1 h2 => ?_, fun b h2 => ?_⟩
  · have hb : b ≠ a := fun z => h2 (by rw [z]; exact hH)
    rw [upd_ne hb]
    exact s.nw b h1 h2
  · rw [upd_ne (ne_of_none h2 hH)]
    exact s.un b u h1 h2
  · have hb : b ≠ a := fun z => h2 (by rw [z]; exact hH)
    rw [upd_ne hb]
    exact s.th b h2
/-- a new object that may change yet -/
theorem Stp.newM (s : Stp m G H G1 H1) (h : H1 a = none) : Stp m G H G1 (upd H1 a o) := by
  have hH : H a = none := by
    cases q : H a with
    | none => rfl
    | some z => exact absurd h (s.th a (by rw [q]; exact fun z => nomatch z))
  refine ⟨s.gg, Same.put s.gh (Same.none s.gh h), s.nw, fun b u h1 h2 => ?_, fun b h2 => ?_⟩
  · rw [upd_ne (ne_of_none h2 hH)]
    exact s.un b u h1 h2
  · have hb : b ≠ a := fun z => h2 (by rw [z]; exact hH)
    rw [upd_ne hb]
    exact s.th b h2
/-- an object is changed -/
theorem Stp.put (s : Stp m G H G1 H1) (h : m a ∨ H a = none) (hg : G1 a = none) : Stp m G H G1 (upd H1 a o) := by
  refine ⟨s.gg, Same.put s.gh hg, s.nw, fun b u h1 h2 => ?_, fun b h2 => ?_⟩
  · have hb : b ≠ a := fun z => by
      subst z
      rcases h with h | h
      · exact h1 h
      · rw [h2] at h
        cases h
    rw [upd_ne hb]
    exact s.un b u h1 h2
  · by_cases hb : b = a
    · subst hb
      rw [upd_same]
      exact fun z => nomatch z
    · rw [upd_ne hb]
      exact s.th b h2
/-- an object of one's own will not change any more -/
theorem Stp.freeze (s : Stp m G H G1 H1) (h : H a = none) (hg : G1 a = none) (e : H1 a = some o) : Stp m G H (upd G1 a o) H1 := by
  refine ⟨s.gg.trans (Same.new hg), fun b u q => ?_, fun b h1 h2 => ?_, s.un, s.th⟩
  · by_cases hb : b = a
    · subst hb
      rw [upd_same] at q
      rw [e, ← q]
    · rw [upd_ne hb] at q
      exact s.gh b u q
  · have hb : b ≠ a := fun z => h2 (by rw [z]; exact h)
    rw [upd_ne hb]
    exact s.nw b h1 h2
theorem Stp.g0 (s : Stp m G H G1 H1) (h : G a = none) (e : H a = some o) : G1 a = none := s.nw a h (by rw [e]; exact fun z => nomatch z)
/-- what is new behind the step was not there -/
theorem Stp.was (s : Stp m G H G1 H1) (h : H1 a = none) : H a = none := by
  cases q : H a with
  | none => rfl
  | some z => exact absurd h (s.th a (by rw [q]; exact fun z => nomatch z))
end
/-! ### data in the frozen part -/
section
variable (K : PySem.W.Frag)
abbrev iv (k : Nat) : V := .int (k : Int)
def Nats (G : Hp) (v : V) (ns : List Nat) : Prop := ∃ a, v = .ref a ∧ SqL K G a (ns.map iv)
def Bools (G : Hp) (v : V) (bs : List Bool) : Prop := ∃ a, v = .ref a ∧ SqL K G a (bs.map V.bl)
def Strs (G : Hp) (v : V) (ss : List Str) : Prop := ∃ a, v = .ref a ∧ SqL K G a (ss.map V.str)
/-- a list of things, each known by a predicate -/
def Each {α : Type} (P : Hp → V → α → Prop) (G : Hp) (v : V) (ds : List α) : Prop := ∃ a xs, v = .ref a ∧ SqL K G a xs ∧ Paired (P G) xs ds
abbrev Table (G : Hp) (v : V) (rows : List (List Nat)) : Prop := Each K (Nats K) G v rows
end
section
variable {K : PySem.W.Frag} {G G' : Hp} {v : V}
theorem Nats.mono {ns : List Nat} (e : Same G G') (h : Nats K G v ns) : Nats K G' v ns := let ⟨a, h1, h2⟩ := h; ⟨a, h1, e.seq h2⟩
theorem Bools.mono {bs : List Bool} (e : Same G G') (h : Bools K G v bs) : Bools K G' v bs := let ⟨a, h1, h2⟩ := h; ⟨a, h1, e.seq h2⟩
theorem Strs.mono {ss : List Str} (e : Same G G') (h : Strs K G v ss) : Strs K G' v ss := let ⟨a, h1, h2⟩ := h; ⟨a, h1, e.seq h2⟩
theorem Each.mono {α : Type} {P : Hp → V → α → Prop} {ds : List α} (hP : ∀ v d, P G v d → P G' v d) (e : Same G G') (h : Each K P G v ds) : Each K P G' v ds :=
  let ⟨a, xs, h1, h2, h3⟩ := h; ⟨a, xs, h1, e.seq h2, Paired.mapP h3 hP⟩
theorem Table.mono {rows : List (List Nat)} (e : Same G G') (h : Table K G v rows) : Table K G' v rows := Each.mono (fun _ _ => Nats.mono e) e h
theorem Paired.get {α β : Type} {F : α → β → Prop} : ∀ {xs : List α} {ds : List β} {i : Nat} {d : β}, Paired F xs ds → ds[i]? = some d → ∃ x, xs[i]? = some x ∧ F x d
  | _, _, _, _, .nil, h => by simp at h
  | _, _, 0, d, .cons r _, h => by
    simp at h
    subst h
    exact ⟨_, rfl, r⟩
  | _, _, i + 1, d, .cons _ t, h => by
    obtain ⟨x, h1, h2⟩ := Paired.get (i := i) t (by simpa using h)
    exact ⟨x, by simpa using h1, h2⟩
theorem Paired.getL {α β : Type} {F : α → β → Prop} : ∀ {xs : List α} {ds : List β} {i : Nat} {x : α}, Paired F xs ds → xs[i]? = some x → ∃ d, ds[i]? = some d ∧ F x d
  | _, _, _, _, .nil, h => by simp at h
  | _, _, 0, d, .cons r _, h => by
    simp at h
    subst h
    exact ⟨_, rfl, r⟩
  | _, _, i + 1, d, .cons _ t, h => by
    obtain ⟨x, h1, h2⟩ := Paired.getL (i := i) t (by simpa using h)
    exact ⟨x, by simpa using h1, h2⟩
theorem Paired.len {α β : Type} {F : α → β → Prop} : ∀ {xs : List α} {ds : List β}, Paired F xs ds → xs.length = ds.length
  | _, _, .nil => rfl
  | _, _, .cons _ t => by rw [List.length_cons, List.length_cons, Paired.len t]
theorem Paired.snoc {α β : Type} {F : α → β → Prop} {x : α} {d : β} (h : F x d) : ∀ {xs : List α} {ds : List β}, Paired F xs ds → Paired F (xs ++ [x]) (ds ++ [d])
  | _, _, .nil => .cons h .nil
  | _, _, .cons r t => .cons r (Paired.snoc h t)
theorem nats_at {ns : List Nat} {i k : Nat} (h : ns[i]? = some k) : (ns.map iv)[i]? = some (iv k) := by
  rw [List.getElem?_map, h]
  rfl
theorem bools_at {bs : List Bool} {i : Nat} {b : Bool} (h : bs[i]? = some b) : (bs.map V.bl)[i]? = some (V.bl b) := by
  rw [List.getElem?_map, h]
  rfl
theorem strs_at {ss : List Str} {i : Nat} {x : Str} (h : ss[i]? = some x) : (ss.map V.str)[i]? = some (V.str x) := by
  rw [List.getElem?_map, h]
  rfl
theorem atN {xs : List V} {j : Nat} {v : V} (h : xs[j]? = some v) : atI xs (j : Int) = some v := atI_nat h
theorem range_at {α : Type} {n i : Nat} {f : Nat → α} (h : i < n) : ((List.range n).map f)[i]? = some (f i) := by
  rw [List.getElem?_map, List.getElem?_range h]
  rfl
theorem range_snoc {α : Type} {n : Nat} {f : Nat → α} : (List.range (n + 1)).map f = (List.range n).map f ++ [f n] := by
  rw [List.range_succ, List.map_append]
  rfl
end
theorem sz1 {n : Nat} (h : n ≤ 100000) : n ≤ sizeLine := Nat.le_trans h (by decide)
theorem sz2 {n : Nat} (h : n < 100000) : n < sizeLine := Nat.lt_of_lt_of_le h (by decide)
end HX
namespace HX
open PySem PySem.Spec PyProof.Rows L2
/-! ### lists of numbers as data -/
abbrev natD (k : Nat) : PyData := .int (k : Int)
abbrev natsD (ns : List Nat) : PyData := .list (ns.map natD)
theorem canLay_nats : ∀ ns : List Nat, PyData.canLayAll0 (ns.map natD) = true
  | [] => by simp only [List.map_nil, PyData.canLayAll0]
  | n :: ns => by simp only [List.map_cons, PyData.canLayAll0, PyData.canLay0, canLay_nats ns, Bool.and_self]
theorem depth_nats : ∀ ns : List Nat, PyData.depthAll (ns.map natD) = 0
  | [] => by simp only [List.map_nil, PyData.depthAll]
  | n :: ns => by simp only [List.map_cons, PyData.depthAll, PyData.depth, depth_nats ns, Nat.max_self]
theorem shaped_nats (ns : List Nat) : SeqAt.shaped (natsD ns) = true := by
  unfold SeqAt.shaped
  rw [Bool.and_eq_true]
  refine ⟨?_, ?_⟩
  · show PyData.canLay0 (.list (ns.map natD)) = true
    simp only [PyData.canLay0, canLay_nats]
  · rw [decide_eq_true_eq]
    simp only [PyData.depth, depth_nats]
    decide
theorem eqvAll_nats : ∀ (a b : List Nat), PyData.eqvAll (a.map natD) (b.map natD) = decide (a = b)
  | [], [] => by simp [PyData.eqvAll]
  | [], y :: b => by simp [PyData.eqvAll]
  | x :: a, [] => by simp [PyData.eqvAll]
  | x :: a, y :: b => by
    simp only [List.map_cons, PyData.eqvAll, PyData.eqv, eqvAll_nats a b]
    by_cases h : x = y
    · subst h
      by_cases h2 : a = b
      · simp [h2]
      · simp [h2]
    · have h' : ((x : Int) == (y : Int)) = false := by
        rw [beq_eq_false_iff_ne]
        omega
      simp [h, h']
theorem eqv_nats (a b : List Nat) : PyData.eqv (natsD a) (natsD b) = decide (a = b) := by
  show PyData.eqv (.list (a.map natD)) (.list (b.map natD)) = _
  simp only [PyData.eqv, eqvAll_nats]
section
variable {K : PySem.W.Frag} {H : Hp} {v : V}
theorem dpAll_nats : ∀ ns : List Nat, DpAll K H (ns.map iv) (ns.map natD)
  | [] => .nil
  | n :: ns => .cons (.int _) (dpAll_nats ns)
theorem dp_sq {a : Addr} {ns : List Nat} (h : SqL K H a (ns.map iv)) : Dp K H (.ref a) (natsD ns) := .lst h (dpAll_nats ns)
theorem dp_nats {ns : List Nat} (h : Nats K H v ns) : Dp K H v (natsD ns) := by
  obtain ⟨a, rfl, h⟩ := h
  exact dp_sq h
end
end HX
namespace HX
open PySem PySem.Spec PyProof.Rows L2
/-! ### the rules with the written part named, for use within a comprehension -/
section
variable {X : Cx} (K : PySem.W.Frag)
theorem ixL (h : X.K = K := by rfl) : IxR X (rIxL K) := by
  subst h
  exact ix_list
theorem ixT (h : X.K = K := by rfl) : IxR X (rIxT K) := by
  subst h
  exact ix_tup
theorem lenS (h : X.K = K := by rfl) : CallR X (.builtin "len") (fun vs H Q => ∃ p ys, vs = [.ref p] ∧ (SqL K H p ys ∨ SqT K H p ys) ∧ Q (.int ys.length) H) := by
  subst h
  exact call_len_seq
theorem listS (h : X.K = K := by rfl) : CallR X (.type "list") (fun vs H Q => ∃ p ys, vs = [.ref p] ∧ (SqL K H p ys ∨ SqT K H p ys) ∧ ∀ l, H l = none → Q (.ref l) (upd H l (.lst ys))) := by
  subst h
  exact call_list_of
theorem tupleS (h : X.K = K := by rfl) : CallR X (.type "tuple") (fun vs H Q => ∃ p ys, vs = [.ref p] ∧ ((SqL K H p ys ∧ ∀ l, H l = none → Q (.ref l) (upd H l (.tup ys))) ∨ (SqT K H p ys ∧ Q (.ref p) H))) := by
  subst h
  exact call_tuple_of
theorem inS (h : X.K = K := by rfl) : OpR X (compareOp .In) (rIn K false) := by
  subst h
  exact op_in_seq
theorem ninS (h : X.K = K := by rfl) : OpR X (compareOp .NotIn) (rIn K true) := by
  subst h
  exact op_notIn_seq
theorem eqD (hu : X.A.units + 64 < cLine) (h : X.K = K := by rfl) : OpR X (compareOp .Eq) (rEqD K) := by
  subst h
  exact op_eqD hu
theorem neD (hu : X.A.units + 64 < cLine) (h : X.K = K := by rfl) : OpR X (compareOp .NotEq) (rNeD K) := by
  subst h
  exact op_neD hu
theorem slL (h : X.K = K := by rfl) : SlR X (rSlL K) := by
  subst h
  exact sl_list
theorem slT (h : X.K = K := by rfl) : SlR X (rSlT K) := by
  subst h
  exact sl_tup
theorem piL {tg l : Expr} {tl : TE} (hl : PE X l tl) (h : X.K = K := by rfl) : PI X tg l (iList K tl) := by
  subst h
  exact pi_list hl
theorem piT {tg l : Expr} {tl : TE} (hl : PE X l tl) (h : X.K = K := by rfl) : PI X tg l (iTup K tl) := by
  subst h
  exact pi_tup hl
theorem pe_fldK {e : Expr} {f : Str} {ta : TE} {pos : Pos} (he : PE X e ta) (hb : attributeBase e f X.env (eval e X.env) = eval e X.env) (h : X.K = K := by rfl) : PE X (.Attribute e f pos) (tFld K ta f) := by
  subst h
  exact pe_fld he hb
theorem pt_truthK {a : Expr} {ta : TE} (ha : PE X a ta) (he : ∀ whole, isTrue a X.env whole = (do let v ← whole; standAt a.pos; holding [v] (truthy v))) (h : X.K = K := by rfl) :
    PT X a (fun σ H Q => ta σ H fun x H' => ∃ k, TruV K x H' k ∧ Q k H') := by
  subst h
  exact pt_truth ha he
end
end HX
namespace HX
open PySem PySem.Spec PyProof.Rows L2
section
variable {X : Cx}
/-- name = {..} by a comprehension on one line, the name a local -/
theorem ps_setDc {i : Nat} {y : Str} {py : Pos} {kx vx tg iter : Expr} {ifs : List Expr} {scope : Scope} {own : List (Str × Nat)} {pos spos : Pos} {wi : TI} {g : TG} {tt : TT} {tk tv : TE} (calm : X.calm = true) (nd : X.N.Nodup) (at_ : X.N[i]? = some y)
    (loc : X.env.scope.names.lookup y = some .local) (sw : swapsWith (.DictComp kx vx [⟨tg, iter, ifs, 0⟩] scope pos) (some (.Name y py)) spos.line X.env = pure true) (walk : PI X tg iter wi) (ok : BlkOk X.N X.env.scope scope own)
    (hg : ∀ (s : Shared) (H : Hp) (C : Addr) (cl : List (Str × Addr)) (fp : List Addr), PG (X.blk s H scope (compEnvC scope cl C X.env) fp) tg g)
    (ht : ∀ (s : Shared) (H : Hp) (C : Addr) (cl : List (Str × Addr)) (fp : List Addr), PTs (X.blk s H scope (compEnvC scope cl C X.env) fp) ifs tt)
    (hk : ∀ (s : Shared) (H : Hp) (C : Addr) (cl : List (Str × Addr)) (fp : List Addr), PE (X.blk s H scope (compEnvC scope cl C X.env) fp) kx tk)
    (hv : ∀ (s : Shared) (H : Hp) (C : Addr) (cl : List (Str × Addr)) (fp : List Addr), PE (X.blk s H scope (compEnvC scope cl C X.env) fp) vx tv) (hs : ∀ x, foldedSetIterable iter X.env x = pure x := by intro _; rfl) :
    PS X (.Assign [.Name y py] (.DictComp kx vx [⟨tg, iter, ifs, 0⟩] scope pos) spos) (tAsg (tDc wi g tt tk tv (own.map (·.2))) (gName i)) := by
  constructor
  intro pins s σ H D I want
  rw [exec_Assign_Name_used _ _ _ _ sw]
  refine wpAny_bind (wpAny_standAt (wpAny_bind ?_))
  show wpAny _ X.A (do let _ ← comprehension (.DictComp kx vx [⟨tg, iter, ifs, 0⟩] scope pos) scope X.env (firstIterPos [⟨tg, iter, ifs, 0⟩] pos) newDict false (eval iter X.env) (some (assign (.Name y py) X.env))) _ _ s
  have want' : tDc wi g tt tk tv (own.map (·.2)) σ H (fun x H1 => gName i x σ H1 D.nx) := want
  refine wpAny_bind (thn (Q := fun _ s' => SP X pins D .next s') (dc_core calm nd I walk ok hg ht hk hv hs want' ?_) fun _ s' hq => wpAny_pure (wpAny_pure hq))
  intro L C s' m H' I' q hn f
  show wpAny _ _ (assign (.Name y py) X.env (.ref L)) _ _ _
  refine wpAny_assign_Name (store_ok2 (v := V.ref L) I' nd at_ (.inl loc) rfl (fun s2 I2 got => ?_) (.inr loc))
  obtain ⟨a, sb, ha⟩ := got
  obtain ⟨f0, f1, f2, f3, f4, f5⟩ := f
  have other : C ≠ a := by
    rcases ha with z | z
    · rw [z]
      exact f1
    · exact fun e => f4 y a z e.symm
  refine ⟨m, hn.sameBut sb other, fun h3 sb3 => ⟨_, H', ?_, q⟩⟩
  exact I2.turned (t' := s2.toks) (fun b o hb e => (sb3.2 b hb).trans e) f0 f1 f3 f4 f5
theorem sw_trueD {kx vx : Expr} {gs : List Comprehension} {scope : Scope} {pos py : Pos} {y : Str} {l : Nat} {env : Env} (hk : env.scope.kind = .function) (hy : env.scope.names.lookup y = some .local) (hl : (py.line == pos.line) = true)
    (ha : (scope.names.any fun (n, k) => n == y && (k == .local || k == .cell)) = false) : swapsWith (.DictComp kx vx gs scope pos) (some (.Name y py)) l env = pure true := by
  have e1 : env.kindOf y = some .local := hy
  have e2 : env.blockKind = .function := by
    unfold Env.blockKind
    rw [hk] <;> rfl
  unfold swapsWith
  simp only [e2, e1, ha, Expr.pos, hl] <;> rfl
end
end HX
namespace HX
open PySem PySem.Spec PyProof.Rows L2
/-- a predicate that keeps in a greater frozen part -/
def Mono {α : Type} (P : Hp → V → α → Prop) : Prop := ∀ G G' v d, Same G G' → P G v d → P G' v d
theorem mono_nats {K : PySem.W.Frag} : Mono (Nats K) := fun _ _ _ _ e h => Nats.mono e h
theorem mono_bools {K : PySem.W.Frag} : Mono (Bools K) := fun _ _ _ _ e h => Bools.mono e h
theorem mono_each {α : Type} {K : PySem.W.Frag} {P : Hp → V → α → Prop} (h : Mono P) : Mono (Each K P) := fun _ _ _ _ e q => Each.mono (fun v d => h _ _ v d e) e q
/-- a list that is being built at D, not frozen yet: its items are known -/
structure Build {α : Type} (P : Hp → V → α → Prop) (m : Addr → Prop) (G H : Hp) (D : Addr) (ds : List α) (G' H' : Hp) : Prop where
  stp : Stp m G H G' H'
  new : H D = none
  nog : G' D = none
  lst : ∃ ys, H' D = some (.lst ys) ∧ Paired (P G') ys ds
section
variable {α : Type} {P : Hp → V → α → Prop} {m m' : Addr → Prop} {G H G1 H1 G2 H2 : Hp} {D : Addr} {ds : List α}
theorem Build.start (s : Stp m G H G1 H1) (h : H1 D = none) : Build P m G H D [] G1 (upd H1 D (.lst [])) :=
  ⟨s.newM h, s.was h, Same.none s.gh h, [], upd_same, .nil⟩
theorem Build.step (b : Build P m G H D ds G1 H1) (mono : Mono P) (s : Stp m' G1 H1 G2 H2) (hm : ∀ a, m' a → m a ∨ H a = none) (nD : ¬ m' D) : Build P m G H D ds G2 H2 := by
  obtain ⟨ys, e, hp⟩ := b.lst
  refine ⟨b.stp.trans s hm, b.new, s.g0 b.nog e, ys, s.un D _ nD e, Paired.mapP hp fun v d => mono _ _ v d s.gg⟩
theorem Build.step0 (b : Build P m G H D ds G1 H1) (mono : Mono P) (s : Stp nom G1 H1 G2 H2) : Build P m G H D ds G2 H2 := b.step mono s (fun _ z => z.elim) fun z => z
/-- a new item -/
theorem Build.snoc (b : Build P m G H D ds G1 H1) {y : V} {d : α} (h : P G1 y d) : ∃ ys, H1 D = some (.lst ys) ∧ ys.length = ds.length ∧ Build P m G H D (ds ++ [d]) G1 (upd H1 D (.lst (ys ++ [y]))) := by
  obtain ⟨ys, e, hp⟩ := b.lst
  exact ⟨ys, e, Paired.len hp, b.stp.put (Or.inr b.new) b.nog, b.new, b.nog, ys ++ [y], upd_same, Paired.snoc h hp⟩
/-- it is frozen -/
theorem Build.done {K : PySem.W.Frag} (b : Build P m G H D ds G1 H1) (mono : Mono P) : ∃ G2, Stp m G H G2 H1 ∧ Same G1 G2 ∧ Each K P G2 (.ref D) ds := by
  obtain ⟨ys, e, hp⟩ := b.lst
  have s := b.stp.freeze b.new b.nog e
  exact ⟨upd G1 D (.lst ys), s, Same.new b.nog, D, ys, rfl, SqL.of upd_same, Paired.mapP hp fun v d => mono _ _ v d (Same.new b.nog)⟩
/-- .. and the address is told to be new -/
theorem Build.done' {K : PySem.W.Frag} (b : Build P m G H D ds G1 H1) (mono : Mono P) : ∃ G2, Stp m G H G2 H1 ∧ Same G1 G2 ∧ Each K P G2 (.ref D) ds ∧ ∀ a, a ≠ D → G2 a = G1 a := by
  obtain ⟨ys, e, hp⟩ := b.lst
  have s := b.stp.freeze b.new b.nog e
  exact ⟨upd G1 D (.lst ys), s, Same.new b.nog, ⟨D, ys, rfl, SqL.of upd_same, Paired.mapP hp fun v d => mono _ _ v d (Same.new b.nog)⟩, fun a h => upd_ne h⟩
end
/-- a new object beside -/
theorem stp_newF {m : Addr → Prop} {G H : Hp} {a : Addr} {o : HO} (e : Same G H) (h : H a = none) : Stp m G H (upd G a o) (upd H a o) := (Stp.refl e).newF h
theorem stp_newM {m : Addr → Prop} {G H : Hp} {a : Addr} {o : HO} (e : Same G H) (h : H a = none) : Stp m G H G (upd H a o) := (Stp.refl e).newM h
theorem nats_new {K : PySem.W.Frag} {G : Hp} {a : Addr} {ns : List Nat} : Nats K (upd G a (.lst (ns.map iv))) (.ref a) ns := ⟨a, rfl, SqL.of upd_same⟩
/-- scalars as items -/
def IsV (_ : Hp) (v : V) (d : V) : Prop := v = d
theorem mono_isV : Mono IsV := fun _ _ _ _ _ h => h
theorem isV_all {G : Hp} : ∀ {xs ds : List V}, Paired (IsV G) xs ds → xs = ds
  | _, _, .nil => rfl
  | _, _, .cons h t => by rw [show _ = _ from h, isV_all t]
theorem Build.vals {m : Addr → Prop} {G H G1 H1 : Hp} {D : Addr} {ds : List V} (b : Build IsV m G H D ds G1 H1) : H1 D = some (.lst ds) := by
  obtain ⟨ys, e, hp⟩ := b.lst
  rw [e, isV_all hp]
end HX
namespace HX
open PySem PySem.Spec PyProof.Rows L2
/-! ### x op y, both instances of an own class that has the operator's own method -/
section
variable {X : Cx} {CX : CXT} {k : Nat} {C g : Addr} {fd : FuncData} {ps : List Str} {sp : Sp} {E : XK} {op : Operator} {nm : Str}
theorem op_own (hnm : PySem.dunder op.info.2 = nm) (hs : PySem.W.findIn X.K (.ref C) nm = some (some (.ref g))) (hf : PySem.W.isFn X.K (.ref g) = true) (hc : PySem.W.selfFirst X.K C = true)
    (F : FnOk X.prog X.w X.K X.mg X.base CX k g fd ps sp) (hr : Room k X.A) (hb : Binds X.K fd ps []) (hx : Passes CX X E) :
    OpR X (binaryOp op) (fun x y H Q => ∃ (a b dx dy : Addr) (fs gs : List (Str × V)), x = .ref a ∧ y = .ref b ∧ H a = some (.ins C dx fs) ∧ H b = some (.ins C dy gs) ∧
      sp [.ref a, .ref b] H (fun v H' => ∃ c : Addr, v = .ref c ∧ Q (.ref c) H') E) := by
  subst hnm
  intro pins s σ H x y v u Q I rx ry h
  obtain ⟨a, b, dx, dy, fs, gs, rfl, rfl, ha, hb', q⟩ := h
  obtain rfl : v = Value.ref a := rx
  obtain rfl : u = Value.ref b := ry
  obtain ⟨_, O1, _, _, _, _⟩ := ins_get I.hok ha
  obtain ⟨_, J1, _⟩ := O1.look
  obtain ⟨_, O2, _, _, _, _⟩ := ins_get I.hok hb'
  obtain ⟨_, J2, _⟩ := O2.look
  obtain ⟨m, fr⟩ := I.fr
  have many : ([.ref a, .ref b] : List V).length = ps.length := F.len _ _ _ _ q
  have bd : BindsTo s fd ⟨[.ref a, .ref b], []⟩ (ps.zip [.ref a, .ref b]) := by
    have z := hb s [.ref a, .ref b] I.kIn (by rw [List.append_nil]; exact many)
    rwa [List.append_nil] at z
  refine PySem.W.binop_K fr I.ok.mod.kin J1 J2.type hc hs hf ?_
  refine wpAny_call (codeAny_mono (F.run X.A X.stack s H ⟨[.ref a, .ref b], []⟩ [.ref a, .ref b] [.ref a, .ref b] _ E hr I.env0 bd (.cons rfl (.cons rfl .nil)) q) fun r s' hq => ?_)
  cases r with
  | error er => exact hx pins σ H s er s' I hq
  | ok fl =>
    cases fl with
    | ret w2 =>
      obtain ⟨v2, H', I3, rv, c, rfl, q3⟩ := I.after hq
      obtain rfl : w2 = Value.ref c := rv
      exact ⟨.ref c, H', I3, rfl, q3⟩
    | next => exact hq.elim
    | brk => exact hq.elim
    | cont => exact hq.elim
end
/-! ### a def's promise that may tell of what is young -/
structure FnOkN (P : Program) (w : World) (K : PySem.W.Frag) (mg : Str → Option Value) (base : Heap) (CX : CXT) (k : Nat) (f : Addr) (fd : FuncData) (ps : List Str) (sp : Nat → Sp) : Prop where
  len : ∀ n vs H Q E, sp n vs H Q E → vs.length = ps.length
  go : ∀ (A : Around) (outer : List Env) (s : Shared) (H : Hp) (args : Args) (us : List Value) (vs : List V) (Q : VK) (E : XK), Room k A → Env0 P w K mg base A outer s H → BindsTo s fd args (ps.zip us) →
    Vals vs us → sp s.heap.objs.size vs H Q E → codeAny (model P w) A (.call (.ref f) args) (CR CX outer P w H s Q E) s
section
variable {P : Program} {w : World} {K : PySem.W.Frag} {mg : Str → Option Value} {base : Heap} {CX : CXT}
theorem FnOkN.mono {j k : Nat} {f : Addr} {fd : FuncData} {ps : List Str} {sp : Nat → Sp} (F : FnOkN P w K mg base CX j f fd ps sp) (h : j ≤ k) : FnOkN P w K mg base CX k f fd ps sp :=
  ⟨F.len, fun A outer s H args us vs Q E hr => F.go A outer s H args us vs Q E (hr.mono h)⟩
theorem Fun.okN {x qual : Str} {st : Stmt} {f : Addr} {fd : FuncData} {N ps : List Str} {k : Nat} {sp : Nat → Sp} (F : Fun K x qual st f fd) (S : FnScope N ps (defScope st)) (len : ∀ n vs H Q E, sp n vs H Q E → vs.length = ps.length)
    (body : ∀ (cdv : Value) (A : Around) (outer : List Env) (s : Shared) (H : Hp) (vs : List V) (Q : VK) (E : XK), Room k (A.deeper (envOfC qual (defScope st) s.heap.objs.size f cdv)) → sp s.heap.objs.size vs H Q E →
      ∃ t, PSs (cxOf CX P w K mg base N qual (defScope st) f cdv A outer s H E) (defBody st) t ∧ t { nx := fun _ H' => Q .non H', rt := Q } (start N vs) H) : FnOkN P w K mg base CX (k + 1) f fd ps sp := by
  obtain ⟨oc, od, kV, doc, pm, an, cdv, ct, osl, rfl, lk, code⟩ := F.ex
  refine ⟨len, ?_⟩
  intro A outer s H args us vs Q E hr e0 hb r want
  have keeps : ∀ b o, base.get? b = some o → s.heap.get? b = some o := fun b o e => (e0.bs b o e).1
  have inK : K.In s.heap := e0.mod.kin.keeps keeps
  have many := len _ _ _ _ _ want
  have kinds : ∀ y ∈ ps.zip us, (defScope st).names.lookup y.1 = some .local ∨ ((defScope st).names.lookup y.1 = some .cell ∧ ((cellsFrom (s.heap.objs.size + 1) (defScope st).names []).lookup y.1).isSome = true) := by
    rintro ⟨n, v⟩ hy
    have hn : n ∈ ps := (List.of_mem_zip hy).1
    rcases S.par n hn with q | q
    · exact Or.inl q
    · exact Or.inr ⟨q, PySem.W.cellsFrom_some _ _ _ (Or.inl q)⟩
  refine codeAny_call_function hr.depth (inK _ _ lk) rfl S.co S.gen rfl (PySem.W.codeRec_of inK code) (hb _ _ _ _ ?_)
  refine wpAny_newFunctionEnv_cells S.kind kinds fun env he s1 x => ?_
  subst he
  refine ⟨(e0.mod.nolimit.keeps keeps).keeps x.toInCall.keep, codeAny_func ?_⟩
  obtain ⟨t, ht, hq⟩ := body cdv A outer s H vs Q E (hr.deeper _) want
  have I := inv_start (P := P) (CX := CX) (E := E) (qual := qual) S hr.hd e0 many r x
  refine wpAny_mono (ht.run [] s1 (start N vs) H _ I hq) (fun fl s' hs => ?_) fun e s' hs => hs
  cases fl with
  | next =>
    obtain ⟨σ', H', J, q⟩ := hs
    exact ⟨V.non, H', J.os, J.bare, J.base, J.hok, rfl, q⟩
  | ret u =>
    obtain ⟨v, σ', H', J, rv, q⟩ := hs
    exact ⟨v, H', J.os, J.bare, J.base, J.hok, rv, q⟩
  | brk =>
    obtain ⟨_, _, _, q⟩ := hs
    exact q.elim
  | cont =>
    obtain ⟨_, _, _, q⟩ := hs
    exact q.elim
end
/-! ### iter(d), d a locked dict, and walks over an own class that gives such an iterator -/
/-- an iterator over the keys of d, at its start -/
def KitO (d : Addr) (o : Obj) (kvs : List (Key × V)) (it : Addr) : HO := .ext fun h => ∃ es ep, o.data = .dict es ep ∧ h.IsKeyIter it d 0 kvs.length ep
theorem kitO_ok {P : Program} {w : World} {H : Hp} {h : Heap} {d it : Addr} {o : Obj} {kvs : List (Key × V)} {es : Array DictEntry} {ep : Nat} (hd : o.data = .dict es ep) (e : h.IsKeyIter it d 0 kvs.length ep) : ObjOk P w H h it (KitO d o kvs it) := by
  obtain ⟨oi, e1, c⟩ := id e
  exact ⟨⟨es, ep, hd, e⟩, ⟨oi, e1⟩, fun h1 h2 p st => let ⟨es, ep, a, b⟩ := p; ⟨es, ep, a, b.at st⟩⟩
def rIterK (n : Nat) : List V → Hp → VK → Prop := fun xs H Q => ∃ (d : Addr) (o : Obj) (kvs : List (Key × V)), xs = [.ref d] ∧ H d = some (.frz o (.dK kvs)) ∧ ∀ it, H it = none → n ≤ it → Q (.ref it) (upd H it (KitO d o kvs it))
section
variable {X : Cx}
theorem call_iterK : CallR X (.builtin "iter") (rIterK X.s_0.heap.objs.size) := by
  intro pins s σ H xs us Q I r h
  obtain ⟨d, o, kvs, rfl, hd, q⟩ := h
  obtain ⟨u, rfl, ru⟩ := vals1 r
  obtain rfl : u = Value.ref d := ru
  obtain ⟨hs, hgd, hx, es, ep, vs, hdt, hsz, kv, hm⟩ := I.frzK hd
  refine Calls.call_function_entry (by decide +kernel) (by decide +kernel) PySem.W.kdk_entry_iter (PySem.W.kdk_args_iter _) ?_
  unfold Builtin.«iter»
  refine wpAny_bind (m := someArgs "iter" 1 2 _) (wpAny_of_eq (a := [Value.ref d]) (by first | rfl | kernel_rfl!) (show wpAny _ _ (pyIter (.ref d) >>= _) _ _ _ from wpAny_bind (iter_keys hs hgd hx hdt ?_)))
  refine wpAny_pure ⟨_, rfl, ?_⟩
  have st : (s.heap.push { cls := .type "dict_keyiterator", data := .fields #[.ref d, .int 0 0, .int es.size 0, .int ep 0] }).IsKeyIter s.heap.objs.size d 0 kvs.length ep := ⟨_, Heap.get?_push_size _ rfl, rfl, by rw [hsz] <;> rfl⟩
  exact ⟨.ref s.heap.objs.size, _, I.laid (t' := s.toks) (fun b u e => Heap.get?_push_of_some _ e) (Nat.le_refl _) (kitO_ok hdt st), rfl, q _ (I.hok.fresh (Nat.le_refl _)) I.sz⟩
end
section
variable {X : Cx} {CX : CXT} {k : Nat} {C g : Addr} {fd : FuncData} {sp : Nat → Sp} {E : XK} {tg e : Expr} {te : TE}
/-- for .. in o, o an instance of an own class whose __iter__ gives an iterator over a locked dict's keys -/
theorem pi_own (he : PE X e te) (hs : PySem.W.findIn X.K (.ref C) "__iter__" = some (some (.ref g))) (hf : PySem.W.isFn X.K (.ref g) = true) (F : FnOkN X.prog X.w X.K X.mg X.base CX k g fd ["self"] sp) (hr : Room k X.A)
    (hb : Binds X.K fd ["self"] []) (hx : Passes CX X E) :
    PI X tg e (fun σ H R => te σ H fun v H1 => ∃ (a dx : Addr) (fs : List (Str × V)), v = .ref a ∧ H1 a = some (.ins C dx fs) ∧ ∀ n, sp n [.ref a] H1 (fun v H2 => ∃ (it d : Addr) (o : Obj) (kvs : List (Key × V)), v = .ref it ∧ n ≤ it ∧
      H2 it = some (KitO d o kvs it) ∧ H2 d = some (.frz o (.dK kvs)) ∧ R (Itk d o kvs) (ItX.dropH H2 it)) E) := by
  refine ⟨fun pins s σ H R I h => ?_⟩
  refine thn (he.run pins s σ H _ I h) fun u s1 got => ?_
  obtain ⟨x, H1, I1, rx, a, dx, fs, rfl, ha, q⟩ := got
  obtain rfl : u = Value.ref a := rx
  obtain ⟨_, O, _, _, _, _⟩ := ins_get I1.hok ha
  obtain ⟨_, J, _⟩ := O.look
  obtain ⟨m, fr⟩ := I1.fr
  have want := q s1.heap.objs.size
  refine PySem.W.owit_iter fr I1.ok.mod.kin J hs hf ?_
  refine wpAny_call (codeAny_mono (F.go X.A X.stack s1 H1 ⟨[.ref a], []⟩ [.ref a] [.ref a] _ E hr I1.env0 (by simpa using hb s1 [.ref a] I1.kIn rfl) (.cons rfl .nil) want) fun r s' hq => ?_)
  cases r with
  | error er => exact hx pins σ H1 s1 er s' I1 hq
  | ok fl =>
    cases fl with
    | ret w2 =>
      obtain ⟨v2, H2, I3, rv, it, d, o, kvs, rfl, hn, hit, hd, q3⟩ := I1.after hq
      obtain rfl : w2 = Value.ref it := rv
      obtain ⟨⟨es, ep, hdt, st⟩, _, _⟩ := (show ObjOk X.prog X.w H2 s'.heap it (KitO d o kvs it) from I3.hok it _ hit)
      have young : X.s_0.heap.objs.size ≤ it := Nat.le_trans I1.sz hn
      unfold PySem.W.OwitIt
      refine wpAny_specialOf (name := Str.ofString "__next__") st.typeIs PySem.F.slot_dict_keyiterator_next.lookup ?_
      refine ⟨it, [it], _, Itk d o kvs, ItX.dropH H2 it, rfl, ItX.inv_drop I3 hit, turn_keys it hdt, st, fun b hb2 => ?_, q3⟩
      have e2 : b = it := by simpa using hb2
      rw [e2]
      exact ItX.inv_fp I3 hit young
    | next => exact hq.elim
    | brk => exact hq.elim
    | cont => exact hq.elim
end
end HX
namespace HX
open PySem PySem.Spec PyProof.Rows L2
/-! ### dicts whose keys are tuples: dict(d) -/
/-- how such a key is hashed -/
def hashT (w : World) (k : List Key) : Int := tupleKeyHash (mixKind default w) k
section
variable {prog : Program} {w : World} {K : Type} [DecidableEq K] {knd : HeapKind prog w K} {A : Around} {E : Value → Shared → Prop} {s : Shared}
theorem call_dictH {o : Addr} {more : List (K × Addr × Value)} {Q : Value → Shared → Prop} (hu : ∀ B : Around, B.units = A.units + 1 + 1 → knd.room B) (low : (o == sysModules) = false) (ho : s.heap.DictOfH knd o more) (hsz : more.length ≤ sizeLine)
    (hst : (s.heap.push { cls := .type "dict", data := .dict #[] }).DictOfH knd o more) (hty : ∀ x ∈ more, s.TypeIs (.ref x.2.1) "tuple") (hap : (more.map fun x => knd.hash x.1).Nodup)
    (h : ∀ h', h'.DictOfH knd s.heap.objs.size more → Heap.SameBut s.heap.objs.size (s.heap.push { cls := .type "dict", data := .dict #[] }) h' → Q (.ref s.heap.objs.size) { s with heap := h' }) : wpAny (model prog w) A (call (.type "dict") [.ref o]) Q E s := by
  have ne : s.heap.objs.size ≠ o := by
    obtain ⟨_, _, _, hg, _⟩ := ho
    exact fun e => absurd (Heap.lt_size hg) (by rw [e]; exact Nat.lt_irrefl _)
  refine callType_codes (Q₁ := fun obj s₁ => obj = .ref s.heap.objs.size ∧ s₁ = { s with heap := s.heap.push { cls := .type "dict", data := .dict #[] } }) F.kt_called_dict (F.kt_typeCall_dict_1 _) F.entry_dict_init (kt_code_dict_new _ ⟨rfl, rfl⟩) (fun obj s₁ got => ?_)
  obtain ⟨rfl, rfl⟩ := got
  have new : (s.heap.push { cls := .type "dict", data := .dict #[] }).DictOfH knd s.heap.objs.size [] := Heap.DictOfH.new s.heap
  refine ⟨new.typeIs, F.args_dict_init_2 _ _, ?_⟩
  unfold Builtin.«dict.__init__» Builtin.Dict.selfAndRest
  refine wpAny_bind (wpAny_bind (wpAny_notOrdered_dict new.typeIs (show wpAny _ _ (pure (s.heap.objs.size, [Value.ref o])) _ _ _ from wpAny_pure ?_)))
  have hty' : ∀ x ∈ more, ({ s with heap := s.heap.push { cls := .type "dict", data := .dict #[] } } : Shared).TypeIs (.ref x.2.1) "tuple" := fun x hx => by
    obtain ⟨ob, e, c⟩ := hty x hx
    exact ⟨ob, Heap.get?_push_of_some _ e, c⟩
  refine updateFrom_dictH (knd := knd) .none (hu _ rfl) ne low new hst (.inr ⟨hty', hap⟩) (by simpa using hsz) fun h' hd _ hs => ?_
  rw [storedAllH_nil_of_nodup more ho.nodup] at hd
  exact ⟨rfl, h h' hd hs⟩
end
section
variable {X : Cx}
/-- the hash of a key in this world -/
abbrev keyHash (X : Cx) (k : List Key) : Int := (tupleKind (mixKind X.prog X.w)).hash k
theorem tupD_laid {pins : List (Addr × Obj)} {σ : L2.St} {H : Hp} {s : Shared} {p : Addr} {kvs : List (List Key × V)} {xs : List (List Key × Addr × Value)} {h' : Heap} (I : Inv X pins σ H s) (hz : kvs.length ≤ sizeLine) (big : (p == sysModules) = false) (kt : KT H kvs xs) (hp : H p = none)
    (hd : h'.DictOfH (tupleKind (mixKind X.prog X.w)) p xs) : ObjOk X.prog X.w (upd H p (.dT kvs)) h' p (.dT kvs) := by
  obtain ⟨o, es, ep, h1, h2, h3, h4, _, h5⟩ := hd
  exact ⟨hz, big, xs, Paired.mapP kt fun a b z => ⟨z.1, by rw [upd_ne (ne_of_none z.2.1 hp)]; exact z.2.1, z.2.2⟩, o, es, ep, h1, h2, h3, h4, h5⟩
theorem kt_keys {H : Hp} : ∀ {kvs : List (List Key × V)} {ys : List (List Key × Addr × Value)}, KT H kvs ys → ys.map (·.1) = kvs.map (·.1)
  | _, _, .nil => rfl
  | _, _, .cons h t => by rw [List.map_cons, List.map_cons, kt_keys t, h.1]
theorem call_dictT (hu : X.A.units + 2 < cLine) : CallR X (.type "dict") (fun xs H Q => ∃ (a : Addr) (kvs : List (List Key × V)), xs = [.ref a] ∧ Rd H a (.dT kvs) ∧ (kvs.map fun p => keyHash X p.1).Nodup ∧ ∀ p, H p = none → Q (.ref p) (upd H p (.dT kvs))) := by
  intro pins s σ H xs us Q I r q
  obtain ⟨a, kvs, rfl, hd, hn, q⟩ := q
  obtain ⟨u, rfl, rx⟩ := vals1 r
  obtain rfl : u = Value.ref a := rx
  obtain ⟨z, lo, ys, kt, dd⟩ := dt_rd I.hok hd
  have I1 : Inv X pins σ H { s with heap := s.heap.push { cls := .type "dict", data := .dict #[] } } := I.kept (t' := s.toks) fun b ob e => Heap.get?_push_of_some _ e
  have keys := kt_keys kt
  have hl : ys.length ≤ sizeLine := by rw [← Paired.length kt]; exact z
  have hst : (s.heap.push { cls := .type "dict", data := .dict #[] }).DictOfH (tupleKind (mixKind X.prog X.w)) a ys := by
    obtain ⟨o, es, ep, h1, h2, h3, h4, h5, h6⟩ := id dd
    exact ⟨o, es, ep, Heap.get?_push_of_some _ h1, h2, h3, h4, fun x hx => let ⟨o, its, n, e, c⟩ := h5 x hx; ⟨o, its, n, Heap.get?_push_of_some _ e, c⟩, h6⟩
  have hty : ∀ x ∈ ys, s.TypeIs (.ref x.2.1) "tuple" := fun x hx => by
    obtain ⟨_, _, _, _, _, _, _, h5, _⟩ := id dd
    exact IsTupleKey.typeIs (knd := mixKind X.prog X.w) (h5 x hx)
  have hn2 : (ys.map fun x => (tupleKind (mixKind X.prog X.w)).hash x.1).Nodup := by
    have e : ys.map (fun x => (tupleKind (mixKind X.prog X.w)).hash x.1) = kvs.map fun p => keyHash X p.1 := by
      have e2 := congrArg (List.map (tupleKind (mixKind X.prog X.w)).hash) keys
      rw [List.map_map, List.map_map] at e2
      exact e2
    rw [e]
    exact hn
  refine call_dictH (knd := tupleKind (mixKind X.prog X.w)) (fun B e => by show B.units < cLine; omega) lo dd hl hst hty hn2 fun h' hd' hs => ?_
  have big : (s.heap.objs.size == sysModules) = false := beq_eq_false_iff_ne.mpr (Nat.ne_of_gt I.big)
  have np := I.hok.fresh (Nat.le_refl s.heap.objs.size)
  exact ⟨.ref s.heap.objs.size, _, I.laid (t' := s.toks) (fun b ob e => (hs.2 b (Nat.ne_of_lt (Heap.lt_size e))).trans (Heap.get?_push_of_some _ e)) (Nat.le_refl _) (tupD_laid I z big kt np hd'), rfl, q _ np⟩
end
end HX
namespace HX
open PySem PySem.Spec PyProof.Rows L2
/-! ### {k: v}, k a tuple -/
def tDisp1T (tk tv : TE) : TE := fun σ H Q => ∀ p, H p = none → tPairs [(tk, tv)] σ (upd H p (.dT [])) fun ps H2 => ∃ (k : List Key) (b : Addr) (y : V), ps = [(.ref b, y)] ∧ H2 p = some (.dT []) ∧ H2 b = some (.tup (k.map kV)) ∧ Q (.ref p) (upd H2 p (.dT [(k, y)]))
section
variable {X : Cx} {ke ve : Expr} {tk tv : TE} {pos : Pos}
theorem pe_disp1T (hu : X.A.units < cLine) (hk : PE X ke tk) (hv : PE X ve tv) : PE X (.Dict [some ke] [ve] pos) (tDisp1T tk tv) := by
  have pp : PPs X pos [some ke] [ve] [(tk, tv)] := pps_cons hk hv pps_nil
  refine ⟨fun pins s σ H Q I q => ?_⟩
  have np := I.hok.fresh (Nat.le_refl s.heap.objs.size)
  have I1 := I.laid (a := s.heap.objs.size) (o := .dT []) (h' := s.heap.push { cls := .type "dict", data := .dict #[] }) (t' := s.toks) (fun _ _ q => Heap.get?_push_of_some _ q) (Nat.le_refl _) (dt_empty s.heap I.big)
  have hz := zip_pairTrees [some ke] [ve] X.env pos rfl rfl
  rw [arm_eval_Dict, hz, dictDisplay_pairs (pairTrees [some ke] [ve] X.env pos) (fun z => nomatch z) (by show (1 : Nat) < 17; decide)]
  refine wpAny_bind (wpAny_standAt (wpAny_bind (wpAny_subDictH (knd := tupleKind (mixKind X.prog X.w)) hu (by show (1 : Nat) ≤ 15; decide) (thn (pp.run pins _ σ _ _ I1 (q _ np)) fun vs s2 got => ?_))))
  obtain ⟨ps, H2, I2, rel, k, b, y, rfl, e, hb, q2⟩ := got
  obtain ⟨z, big, xs, kt, dd⟩ := dt_rd I2.hok (.inl e)
  cases kt
  have hkey := key_of I2.hok hb
  cases rel with
  | cons r rr =>
    rename_i pr prs
    cases rr
    obtain ⟨r1, r2⟩ := r
    obtain ⟨u1, u2⟩ := pr
    obtain rfl : u1 = Value.ref b := r1
    refine ⟨[(k, b, u2)], ⟨rfl, rfl, hkey, True.intro⟩, dd, fun h' tk hd hs => ?_⟩
    have hne : b ≠ s.heap.objs.size := ne_of hb e (by intro z; cases z)
    have hd1 : h'.DictOfH (tupleKind (mixKind X.prog X.w)) s.heap.objs.size [(k, b, u2)] := hd
    obtain ⟨o, es, ep, h1, h2, h3, h4, _, h5⟩ := id hd1
    have new : ObjOk X.prog X.w (upd H2 s.heap.objs.size (.dT [(k, y)])) h' s.heap.objs.size (.dT [(k, y)]) :=
      ⟨by show 1 ≤ sizeLine; decide, big, [(k, b, u2)], .cons ⟨rfl, by rw [upd_ne hne]; exact hb, r2⟩ .nil, o, es, ep, h1, h2, h3, h4, h5⟩
    refine wpAny_pure ⟨.ref s.heap.objs.size, _, ?_, rfl, q2⟩
    exact d_write I2 (by rw [e]; exact True.intro) hs ⟨o, h1⟩ new
end
end HX
namespace HX
open PySem PySem.Spec PyProof.Rows L2
/-! ### d == e, dicts whose keys are tuples, alike -/
section
variable {prog : Program} {w : World} {K : Type} [DecidableEq K] {knd : HeapKind prog w K} {A : Around} {E : Value → Shared → Prop} {s : Shared}
theorem sameH {nm : String} {a b : Addr} {xs ys : List (K × Addr × Value)} {Q : Bool → Shared → Prop} (hu : knd.room A) (ha : (a == sysModules) = false) (hb : (b == sysModules) = false) (da : s.heap.DictOfH knd a xs) (db : s.heap.DictOfH knd b ys) (hl : xs.length = ys.length)
    (hits : ∀ x ∈ xs, ∃ (j : Nat) (p : Addr × Value), ys[j]? = some (x.1, p) ∧ SeqAt.EqAt A s x.2.2 p.2 true) (h : Q true s) : wpAny (model prog w) A (Builtin.Dict.samePairs nm a b) Q E s := by
  obtain ⟨oa, es, ep, ea, _, ta, ka, ia, na⟩ := id da
  obtain ⟨ob, fs, fp, eb, _, tb, kb, ib, nb⟩ := id db
  have la : es.size = xs.length := size_of_entries ka
  have lb : fs.size = ys.length := size_of_entries kb
  unfold Builtin.Dict.samePairs Builtin.Dict.showsAll
  rw [if_neg (by rw [ha]; exact Bool.false_ne_true), if_neg (by rw [hb]; exact Bool.false_ne_true)]
  refine wpAny_bind (wpAny_pure (wpAny_bind (wpAny_pure (wpAny_bind (wpAny_dictEntries ea ta ?_)))))
  dsimp only
  refine wpAny_bind (wpAny_dictEntries eb tb ?_)
  rw [if_neg (by rw [la, lb, hl]; simp)]
  refine wpAny_bind (wpAny_dictEpoch ea ta (wpAny_bind ?_))
  rw [Std.Legacy.Range.forIn_eq_forIn_range']
  simp only [Std.Legacy.Range.size, Nat.sub_zero, Nat.add_sub_cancel, Nat.div_one]
  refine wpAny_forIn_list _ (fun rest q s' => s' = s ∧ q = (none, ()) ∧ ∃ i, rest = List.range' i (es.size - i) ∧ i ≤ es.size) _ ?_ ?_ _ _ ⟨rfl, rfl, 0, by simp, Nat.zero_le _⟩
  · rintro x rest q s' ⟨rfl, rfl, i, hr, hi⟩
    have hlt : i < es.size := by
      rcases Nat.lt_or_ge i es.size with h | h
      · exact h
      · rw [Nat.sub_eq_zero_of_le h] at hr
        simp at hr
    have hcut : es.size - i = (es.size - (i + 1)) + 1 := by omega
    rw [hcut, List.range'_succ] at hr
    injection hr with e1 e2
    subst e1
    refine wpAny_bind (wpAny_dictEntries ea ta ?_)
    rw [Array.getElem?_eq_getElem hlt]
    have hx : x < xs.length := by omega
    have hent : es[x] = entryOfKey knd xs[x] := by
      have z := entry_at ka x
      rw [Array.getElem?_eq_getElem hlt, List.getElem?_eq_getElem hx] at z
      exact Option.some.inj z
    obtain ⟨j, p, hj, he⟩ := hits xs[x] (List.getElem_mem hx)
    have hjl : j < fs.size := by
      rw [lb]
      exact (List.getElem?_eq_some_iff.mp hj).1
    have hfj : fs[j]'hjl = entryOfKey knd (xs[x].1, p) := by
      have z := entry_at kb j
      rw [Array.getElem?_eq_getElem hjl, hj] at z
      exact Option.some.inj z
    show wpAny _ _ (holding [es[x].key, es[x].val] _ >>= _) _ _ _
    rw [hent]
    refine wpAny_bind (wpAny_holding (wpAny_bind (wpAny_dictFind_heap (knd := knd) hu (ia _ (List.getElem_mem hx)) eb tb kb ib nb (fun none_ => absurd hj (none_ j p)) fun j2 p2 hj2 => ?_)))
    have ej : j2 = j := idxH_unique nb hj2 hj
    subst ej
    refine wpAny_bind (wpAny_dictEntries eb tb ?_)
    rw [Array.getElem?_eq_getElem hjl]
    show wpAny _ _ (holding [(fs[j2]'hjl).val] _) _ _ _
    rw [hfj]
    refine wpAny_holding (he.eqP _ _ (show wpAny _ _ (if (!true) = true then _ else _) _ _ _ from ?_))
    rw [if_neg (show ¬ ((!true) = true) by decide)]
    exact wpAny_bind (wpAny_dictEpoch ea ta (by rw [if_neg (by simp)]; exact wpAny_pure ⟨rfl, rfl, x + 1, e2, hlt⟩))
  · rintro q s' ⟨rfl, rfl, i, hr, hi⟩
    exact wpAny_pure h
theorem eqH {a b : Addr} {xs ys : List (K × Addr × Value)} {Q : Value → Shared → Prop} (hu : ∀ B : Around, B.units ≤ A.units + 1 → knd.room B) (hu2 : A.units < cLine) (ha : (a == sysModules) = false) (hb : (b == sysModules) = false) (da : s.heap.DictOfH knd a xs) (db : s.heap.DictOfH knd b ys)
    (hl : xs.length = ys.length) (hits : ∀ (B : Around), ∀ x ∈ xs, ∃ (j : Nat) (p : Addr × Value), ys[j]? = some (x.1, p) ∧ SeqAt.EqAt B s x.2.2 p.2 true) (h : Q (.bool true) s) : wpAny (model prog w) A (richCompare .Eq (.ref a) (.ref b)) Q E s := by
  refine wpAny_richCompare_same_room (op := .Eq) da.typeIs db.typeIs PySem.F.slot_dict_eq (wpAny_call_entry PySem.F.slot_dict_eq da.typeIs PySem.F.entry_dict_eq (show wpAny _ _ (Builtin.Dict.dictSlotArgs "__eq__" ⟨[.ref a, .ref b], []⟩ >>= _) _ _ s from ?_) (PySem.F.args_dict_eq_2 _ _)) hu2
  unfold Builtin.Dict.dictSlotArgs
  refine wpAny_bind (wpAny_bind (wpAny_notOrdered_dict da.typeIs (show wpAny _ _ (pure (Value.ref a, Value.ref b)) _ _ s from wpAny_pure (wpAny_bind (wpAny_isInstance (T := "dict") db.typeIs PySem.F.sub_dict_dict ?_)))))
  simp only [Bool.not_true, Bool.false_eq_true, if_false]
  refine wpAny_bind (wpAny_pure (wpAny_bind (wpAny_pure (wpAny_bind (sameH (knd := knd) (hu _ (Nat.le_refl _)) ha hb da db hl (hits _) ?_)))))
  exact wpAny_pure ⟨_, rfl, (fun z => nomatch z), by simpa using h⟩
end
section
variable {X : Cx}
/-- two dicts that hold the same at the same keys -/
def rEqT : R2 := fun x y H Q => ∃ (a b : Addr) (ks ls : List (List Key × V)), x = .ref a ∧ y = .ref b ∧ H a = some (.dT ks) ∧ H b = some (.dT ls) ∧ ks.length = ls.length ∧ (∀ p ∈ ks, p ∈ ls ∧ flatB p.2 = true) ∧ Q (.bl true) H
theorem op_eqT (hu : X.A.units + 2 < cLine) : OpR X (compareOp .Eq) rEqT := by
  intro pins s σ H x y v u Q I rx ry h
  obtain ⟨a, b, ks, ls, rfl, rfl, ea, eb, hl, hp, q⟩ := h
  obtain rfl : v = Value.ref a := rx
  obtain rfl : u = Value.ref b := ry
  obtain ⟨_, ya, xs, ra, da⟩ := dt_rd I.hok (.inl ea)
  obtain ⟨_, yb, ys, rb, db⟩ := dt_rd I.hok (.inl eb)
  show wpAny (model X.prog X.w) X.A (richCompare .Eq (.ref a) (.ref b)) (EP X pins σ Q) X.xe s
  refine eqH (knd := tupleKind (mixKind X.prog X.w)) (fun B hB => by show B.units < cLine; omega) (by omega) ya yb da db (by rw [← Paired.length ra, ← Paired.length rb]; exact hl) (fun B z hz => ?_) ⟨.bl true, H, I, rfl, q⟩
  obtain ⟨i, hi⟩ := List.mem_iff_getElem?.mp hz
  obtain ⟨p, hpi, e1, e2, e3⟩ := HX.Paired.get ra hi
  obtain ⟨hpl, hf⟩ := hp p (List.mem_of_getElem? hpi)
  obtain ⟨j, hj⟩ := List.mem_iff_getElem?.mp hpl
  obtain ⟨q2, hq2, g1, g2, g3⟩ := HX.Paired.getL rb hj
  refine ⟨j, q2.2, ?_, eqAt_same e3 g3 hf⟩
  rw [hq2, ← e1, g1]
end
end HX
namespace W77
open PySem PySem.Spec PyProof.Rows L2 HX
/-! ### the hash of a pair of small numbers tells the pair -/
abbrev q1 : Nat := 11400714785074694791
abbrev q2 : Nat := 14029467366897019727
abbrev q5 : Nat := 2870177450012600261
def cc : Nat := 2870177450013471924
theorem cc_eq : cc = 2870177450013471924 := rfl
def zc : Nat := 15746002411462551884
theorem zc_eq : zc = 15746002411462551884 := rfl
/-- one round -/
def rot (a : Nat) : Nat := (a * 2147483648) % 18446744073709551616 + a / 8589934592
def rnd (a h : Nat) : Nat := (rot ((a + h * q2) % 18446744073709551616) * q1) % 18446744073709551616
/-- the inverses of the two primes -/
abbrev r1 : Nat := 614540362697595703
abbrev r2 : Nat := 839798700976720815
theorem inv1 : (q1 * r1) % 18446744073709551616 = 1 := by decide +kernel
theorem inv2 : (q2 * r2) % 18446744073709551616 = 1 := by decide +kernel
theorem rot_eq (a : Nat) : rot a = (a % 8589934592) * 2147483648 + a / 8589934592 := by
  unfold rot
  have e : a * 2147483648 % 18446744073709551616 = a % 8589934592 * 2147483648 := Nat.mul_mod_mul_right 2147483648 a 8589934592
  rw [e]
theorem rot_inj {a b : Nat} (ha : a < 18446744073709551616) (hb : b < 18446744073709551616) (h : rot a = rot b) : a = b := by
  rw [rot_eq, rot_eq] at h
  have h1 : a / 8589934592 < 2147483648 := by omega
  have h2 : b / 8589934592 < 2147483648 := by omega
  omega
theorem rot_lt {a : Nat} (ha : a < 18446744073709551616) : rot a < 18446744073709551616 := by
  unfold rot
  omega
theorem mul_inj {p r a b : Nat} (hp : (p * r) % 18446744073709551616 = 1) (ha : a < 18446744073709551616) (hb : b < 18446744073709551616) (h : (a * p) % 18446744073709551616 = (b * p) % 18446744073709551616) : a = b := by
  have z : ∀ c : Nat, c < 18446744073709551616 → ((c * p) % 18446744073709551616 * r) % 18446744073709551616 = c := fun c hc => by
    rw [Nat.mod_mul_mod, Nat.mul_assoc, Nat.mul_mod, hp, Nat.mul_one, Nat.mod_mod, Nat.mod_eq_of_lt hc]
  rw [← z a ha, ← z b hb, h]
def gx (x : Nat) : Nat := (rnd q5 x * r2) % 18446744073709551616
theorem shift {a b y y' : Nat} (h : (a + y * q2) % 18446744073709551616 = (b + y' * q2) % 18446744073709551616) : ((a * r2) % 18446744073709551616 + y) % 18446744073709551616 = ((b * r2) % 18446744073709551616 + y') % 18446744073709551616 := by
  have z : ∀ a y : Nat, ((a * r2) % 18446744073709551616 + y) % 18446744073709551616 = ((a + y * q2) % 18446744073709551616 * r2) % 18446744073709551616 := fun a y => by
    rw [Nat.mod_mul_mod, Nat.add_mul, Nat.mod_add_mod, Nat.mul_assoc, Nat.add_mod (a * r2) (y * (q2 * r2)), Nat.mul_mod y, inv2, Nat.mul_one, Nat.mod_mod, ← Nat.add_mod]
  rw [z, z, h]
/-! #### the first rounds stand far apart: checked one by one, by their buckets -/
abbrev zz : Nat := 6461105757133087104
def bk (x : Nat) : Nat := gx x / 8796093022208
def chk : Nat → Nat → Bool
  | 0, _ => true
  | n + 1, S => ((S >>> bk n) &&& 7 == 0) && decide (1073741824 ≤ gx n) && chk n (S ||| (1 <<< (bk n + 1)))
theorem chk_ok : chk 9001 0 = true := by decide +kernel
theorem rnd_lt (a h : Nat) : rnd a h < 18446744073709551616 := Nat.mod_lt _ (by decide)
theorem gx_lt (x : Nat) : gx x < 18446744073709551616 := Nat.mod_lt _ (by decide)
/-- nothing of S stands about bucket b -/
def Free (S b : Nat) : Prop := S.testBit b = false ∧ S.testBit (b + 1) = false ∧ S.testBit (b + 2) = false
theorem free_of {S b : Nat} (h : ((S >>> b) &&& 7 == 0) = true) : Free S b := by
  have z : (S >>> b) &&& 7 = 0 := eq_of_beq h
  have bit : ∀ i, i < 3 → S.testBit (b + i) = false := fun i hi => by
    have e := congrArg (fun n => n.testBit i) z
    simp only [Nat.testBit_and, Nat.testBit_shiftRight, Nat.zero_testBit] at e
    have e7 : (7 : Nat).testBit i = true := by
      have : i = 0 ∨ i = 1 ∨ i = 2 := by omega
      rcases this with h | h | h <;> subst h <;> decide
    rw [e7, Bool.and_true] at e
    exact e
  exact ⟨bit 0 (by decide), bit 1 (by decide), bit 2 (by decide)⟩
def Far (x y : Nat) : Prop := bk x ≠ bk y ∧ bk x + 1 ≠ bk y ∧ bk y + 1 ≠ bk x
theorem chk_far : ∀ (n S : Nat), chk n S = true → (∀ x, x < n → Free S (bk x) ∧ 1073741824 ≤ gx x) ∧ ∀ x y, x < n → y < n → x ≠ y → Far x y
  | 0, _, _ => ⟨fun x h => absurd h (Nat.not_lt_zero _), fun x y h => absurd h (Nat.not_lt_zero _)⟩
  | n + 1, S, h => by
    have h : (((S >>> bk n) &&& 7 == 0) && decide (1073741824 ≤ gx n) && chk n (S ||| (1 <<< (bk n + 1)))) = true := h
    rw [Bool.and_eq_true, Bool.and_eq_true, decide_eq_true_eq] at h
    obtain ⟨⟨h1, h2⟩, h3⟩ := h
    obtain ⟨i1, i2⟩ := chk_far n _ h3
    have key : ∀ x, x < n → Free S (bk x) ∧ Far x n := fun x hx => by
      obtain ⟨⟨f0, f1, f2⟩, _⟩ := i1 x hx
      simp only [Nat.testBit_or, Bool.or_eq_false_iff, Nat.one_shiftLeft, Nat.testBit_two_pow, decide_eq_false_iff_not] at f0 f1 f2
      exact ⟨⟨f0.1, f1.1, f2.1⟩, by omega, by omega, by omega⟩
    refine ⟨fun x hx => ?_, fun x y hx hy ne => ?_⟩
    · by_cases e : x = n
      · subst e
        exact ⟨free_of h1, h2⟩
      · exact ⟨(key x (by omega)).1, (i1 x (by omega)).2⟩
    · by_cases e : x = n
      · subst e
        obtain ⟨a, b, c⟩ := (key y (by omega)).2
        exact ⟨Ne.symm a, c, b⟩
      · by_cases e2 : y = n
        · subst e2
          exact (key x (by omega)).2
        · exact i2 x y (by omega) (by omega) ne
theorem two_rounds {x y x' y' : Nat} (hx : x ≤ 9000) (hx' : x' ≤ 9000) (hy : y < 1073741824) (hy' : y' < 1073741824) (h : rnd (rnd q5 x) y = rnd (rnd q5 x') y') : x = x' ∧ y = y' := by
  have e1 : (rnd q5 x + y * q2) % 18446744073709551616 = (rnd q5 x' + y' * q2) % 18446744073709551616 := by
    have lt1 := Nat.mod_lt (rnd q5 x + y * q2) (show 0 < 18446744073709551616 by decide)
    have lt2 := Nat.mod_lt (rnd q5 x' + y' * q2) (show 0 < 18446744073709551616 by decide)
    exact rot_inj lt1 lt2 (mul_inj inv1 (rot_lt lt1) (rot_lt lt2) h)
  have e2 := shift e1
  have e3 : (gx x + y) % 18446744073709551616 = (gx x' + y') % 18446744073709551616 := e2
  obtain ⟨c1, c2⟩ := chk_far 9001 0 chk_ok
  have g1 := gx_lt x
  have g2 := gx_lt x'
  have m1 := (c1 x (by omega)).2
  have m2 := (c1 x' (by omega)).2
  by_cases e : x = x'
  · subst e
    exact ⟨rfl, by omega⟩
  · obtain ⟨f1, f2, f3⟩ := c2 x x' (by omega) (by omega) e
    unfold bk at f1 f2 f3
    omega
/-! #### the end of the hash -/
def chk2 : Nat → Bool
  | 0 => true
  | n + 1 => (decide (zc < gx n) || decide (gx n + 1073741824 ≤ zc)) && chk2 n
theorem chk2_ok : chk2 9001 = true := by decide +kernel
theorem chk2_far : ∀ (n : Nat), chk2 n = true → ∀ x, x < n → zc < gx x ∨ gx x + 1073741824 ≤ zc
  | 0, _, x, h => absurd h (Nat.not_lt_zero _)
  | n + 1, h, x, hx => by
    have h : ((decide (zc < gx n) || decide (gx n + 1073741824 ≤ zc)) && chk2 n) = true := h
    rw [Bool.and_eq_true, Bool.or_eq_true, decide_eq_true_eq, decide_eq_true_eq] at h
    by_cases e : x = n
    · subst e
      exact h.1
    · exact chk2_far n h.2 x (by omega)
theorem last0 {a : Nat} (ha : a < 18446744073709551616) (h : (a + cc) % 18446744073709551616 = 18446744073709551615) : a = 15576566623696079691 := by
  have hcc := cc_eq
  omega
theorem last1 {g y : Nat} (hg : g < 18446744073709551616) (hy : y < 1073741824) (e : (g + y) % 18446744073709551616 = zc) (h : zc < g ∨ g + 1073741824 ≤ zc) : False := by
  have hzc := zc_eq
  omega
theorem un_t : 15576566623696079691 = (rot 9148689060682678900 * q1) % 18446744073709551616 := by decide +kernel
theorem un_z : (9148689060682678900 * r2) % 18446744073709551616 = zc := by decide +kernel
theorem un_s {a y z : Nat} (hz : z < 18446744073709551616) (h : (a + y * q2) % 18446744073709551616 = z) : ((a * r2) % 18446744073709551616 + y) % 18446744073709551616 = (z * r2) % 18446744073709551616 := by
  have e : (a + y * q2) % 18446744073709551616 = (z + 0 * q2) % 18446744073709551616 := by
    rw [h, Nat.zero_mul, Nat.add_zero, Nat.mod_eq_of_lt hz]
  have := shift e
  rw [Nat.add_zero, Nat.mod_mod] at this
  exact this
theorem no_ones {x y : Nat} (hx : x ≤ 9000) (hy : y < 1073741824) : (rnd (rnd q5 x) y + cc) % 18446744073709551616 ≠ 18446744073709551615 := by
  intro h
  have e0 := (last0 (rnd_lt (rnd q5 x) y) h).trans un_t
  have lt1 := Nat.mod_lt (rnd q5 x + y * q2) (show 0 < 18446744073709551616 by decide)
  have lt2 : 9148689060682678900 < 18446744073709551616 := by decide
  have e1 := rot_inj lt1 lt2 (mul_inj inv1 (rot_lt lt1) (rot_lt lt2) e0)
  have e3 := un_s lt2 e1
  rw [un_z] at e3
  exact last1 (gx_lt x) hy e3 (chk2_far 9001 chk2_ok x (by omega))
def sg (a : Nat) : Int := if a < 9223372036854775808 then (a : Int) else (a : Int) - 18446744073709551616
theorem sg_inj {a b : Nat} (ha : a < 18446744073709551616) (hb : b < 18446744073709551616) (h : sg a = sg b) : a = b := by
  unfold sg at h
  split at h <;> split at h <;> omega
end W77
namespace W77
open PySem PySem.Spec PyProof.Rows L2 HX
theorem p64 : (2 : Nat) ^ 64 = 18446744073709551616 := by decide +kernel
theorem p31 : (2 : Nat) ^ 31 = 2147483648 := by decide +kernel
theorem p33 : (2 : Nat) ^ 33 = 8589934592 := by decide +kernel
theorem pcc : ((2 : Nat) ^^^ (2870177450012600261 ^^^ 3527539)) = cc := by decide +kernel
/-- the end of the hash, of any constants -/
def endH (m e a : Nat) : Int := if (a == m - 1) = true then 1546275796 else if a < e then (a : Int) else (a : Int) - (m : Int)
theorem end_is {a : Nat} (no : a ≠ 18446744073709551615) : endH 18446744073709551616 9223372036854775808 a = sg a := by
  unfold endH sg
  rw [if_neg (by simpa using no)]
  rfl
theorem round_is {m p1 p2 e31 e33 : Nat} (hm : m = 18446744073709551616) (h1 : p1 = q1) (h2 : p2 = q2) (h3 : e31 = 2147483648) (h4 : e33 = 8589934592) (a h : Nat) : ((a + h * p2) % m * e31 % m + (a + h * p2) % m / e33) * p1 % m = rnd a h := by
  subst hm h1 h2 h3 h4
  unfold rnd rot
  rfl
/-- a round as the model writes it, and what stands behind the rounds -/
def stepK (a : Nat) (h : Int) : Nat := ((a + (h % ((2 ^ 64 : Nat) : Int)).toNat * 14029467366897019727) % 2 ^ 64 * 2 ^ 31 % 2 ^ 64 + (a + (h % ((2 ^ 64 : Nat) : Int)).toNat * 14029467366897019727) % 2 ^ 64 / 2 ^ 33) * 11400714785074694791 % 2 ^ 64
def lastK (n a : Nat) : Int := endH (2 ^ 64) (2 ^ 63) ((a + (n ^^^ (2870177450012600261 ^^^ 3527539))) % 2 ^ 64)
theorem th_is (hs : List Int) : Builtin.Tuple.tupleHashOf hs = lastK hs.length (hs.foldl stepK 2870177450012600261) := rfl
theorem stepK_is {n a : Nat} (hn : n < 18446744073709551616) : stepK a (n : Int) = rnd a n := by
  unfold stepK
  have ex : ((n : Int) % ((2 ^ 64 : Nat) : Int)).toNat = n := by
    rw [p64]
    omega
  rw [ex]
  exact round_is p64 rfl rfl p31 p33 a n
theorem lastK_is (a : Nat) : lastK 2 a = endH 18446744073709551616 9223372036854775808 ((a + cc) % 18446744073709551616) := by
  unfold lastK
  rw [pcc, p64, show (2 : Nat) ^ 63 = 9223372036854775808 by decide +kernel]
theorem tup2 {x y : Nat} (hx : x < 18446744073709551616) (hy : y < 18446744073709551616) (no : (rnd (rnd q5 x) y + cc) % 18446744073709551616 ≠ 18446744073709551615) : Builtin.Tuple.tupleHashOf [(x : Int), (y : Int)] = sg ((rnd (rnd q5 x) y + cc) % 18446744073709551616) := by
  rw [← end_is no, th_is]
  have e1 : [(x : Int), (y : Int)].foldl stepK 2870177450012600261 = stepK (stepK 2870177450012600261 (x : Int)) (y : Int) := by rw [List.foldl_cons, List.foldl_cons, List.foldl_nil]
  have e2 : [(x : Int), (y : Int)].length = 2 := rfl
  have hq : (2870177450012600261 : Nat) = q5 := rfl
  rw [e1, e2, stepK_is hx, stepK_is hy, hq]
  exact lastK_is _
theorem hashInt_small {n : Nat} (hn : n < 1073741824) : hashInt (n : Int) = (n : Int) := by
  have e : rawHash (n : Int) = (n : Int) := by
    unfold rawHash
    have e2 : ((n : Int).natAbs : Int) % ((2 ^ 61 - 1 : Nat) : Int) = (n : Int) := by
      rw [Int.natAbs_natCast]
      exact Int.emod_eq_of_lt (by omega) (by omega)
    simp only [e2]
    rw [if_neg (show ¬ (n : Int) < 0 by omega), if_neg]
    intro z
    have := eq_of_beq z
    omega
  unfold hashInt
  rw [e, if_neg]
  intro z
  have := eq_of_beq z
  omega
theorem reduce_sg {a : Nat} (ha : a < 18446744073709551616) (no : a ≠ 18446744073709551615) : reduceHash (sg a) = sg a := by
  have b1 : -9223372036854775808 ≤ sg a ∧ sg a < 9223372036854775808 ∧ sg a ≠ -1 := by
    unfold sg
    split <;> omega
  have p : (2 : Int) ^ 63 = 9223372036854775808 := by decide +kernel
  unfold reduceHash
  rw [p, if_pos (by simp only [Bool.and_eq_true, decide_eq_true_eq]; omega), if_neg (by simpa using b1.2.2)]
def hsh (x y : Nat) : Int := sg ((rnd (rnd q5 x) y + cc) % 18446744073709551616)
theorem hash_is {prog : Program} {w : World} {x y : Nat} (hx : x ≤ 9000) (hy : y < 1073741824) : tupleKeyHash (mixKind prog w) [Sum.inl (x : Int), Sum.inl (y : Int)] = hsh x y := by
  have no := no_ones hx hy
  have e : [(Sum.inl (x : Int) : Key), Sum.inl (y : Int)].map (mixKind prog w).hash = [hashInt (x : Int), hashInt (y : Int)] := rfl
  unfold tupleKeyHash
  rw [e, hashInt_small (by omega), hashInt_small hy, tup2 (by omega) (by omega) no]
  exact reduce_sg (Nat.mod_lt _ (by decide)) no
theorem add_inj {a b : Nat} (ha : a < 18446744073709551616) (hb : b < 18446744073709551616) (h : (a + cc) % 18446744073709551616 = (b + cc) % 18446744073709551616) : a = b := by
  have := cc_eq
  omega
theorem hsh_inj {x y x' y' : Nat} (hx : x ≤ 9000) (hx' : x' ≤ 9000) (hy : y < 1073741824) (hy' : y' < 1073741824) (h : hsh x y = hsh x' y') : x = x' ∧ y = y' := by
  unfold hsh at h
  have e := sg_inj (Nat.mod_lt _ (by decide)) (Nat.mod_lt _ (by decide)) h
  exact two_rounds hx hx' hy hy' (add_inj (rnd_lt _ _) (rnd_lt _ _) e)
end W77
namespace HX
open PySem PySem.Spec PyProof.Rows L2
/-! ### what is kept: all objects but those that m names -/
def Kp (m : Addr → Prop) (H H' : Hp) : Prop := ∀ b o, ¬ m b → H b = some o → H' b = some o
abbrev only1 (a : Addr) : Addr → Prop := fun b => b = a
section
variable {m m' : Addr → Prop} {H H1 H2 : Hp} {a b : Addr} {o : HO} {xs : List V} {K : PySem.W.Frag}
theorem Kp.refl : Kp m H H := fun _ _ _ h => h
theorem Kp.trans (h1 : Kp m H H1) (h2 : Kp m H1 H2) : Kp m H H2 := fun b o n e => h2 b o n (h1 b o n e)
theorem Kp.of (h : Same H H1) : Kp m H H1 := fun b o _ e => h b o e
theorem Kp.wide (h : Kp m H H1) (w : ∀ b, m b → m' b) : Kp m' H H1 := fun b o n e => h b o (fun z => n (w b z)) e
theorem Kp.same (h : Kp nom H H1) : Same H H1 := fun b o e => h b o (fun z => z) e
theorem Kp.new (h : Kp m H H1) (na : H1 a = none) : Kp m H (upd H1 a o) := fun b u n e => by
  have := h b u n e
  rw [upd_ne (ne_of_none this na)]
  exact this
theorem Kp.put (h : Kp m H H1) (ma : m a) : Kp m H (upd H1 a o) := fun b u n e => by
  have ne : b ≠ a := fun z => by
    subst z
    exact n ma
  rw [upd_ne ne]
  exact h b u n e
/-- an object that was not there at the start is changed -/
theorem Kp.own (h : Kp m H H1) (na : H a = none) : Kp m H (upd H1 a o) := fun b u n e => by
  rw [upd_ne (ne_of_none e na)]
  exact h b u n e
theorem Kp.tup1 (h : Kp m H H1) (hm : ∀ b, m b → ∃ o, H b = some o ∧ ∀ xs f, o ≠ .tup xs ∧ o ≠ .frz f (.tup xs)) (q : SqT K H a xs) : SqT K H1 a xs := by
  have no : ∀ o, H a = some o → (∃ f, o = .tup xs ∨ o = .frz f (.tup xs)) → ¬ m a := fun o e z n => by
    obtain ⟨u, e2, d⟩ := hm a n
    rw [e] at e2
    cases e2
    obtain ⟨f, z | z⟩ := z
    · exact (d xs f).1 z
    · exact (d xs f).2 z
  rcases q with (q | ⟨f, q⟩) | q
  · exact .inl (.inl (h _ _ (no _ q ⟨default, .inl rfl⟩) q))
  · exact .inl (.inr ⟨f, h _ _ (no _ q ⟨f, .inr rfl⟩) q⟩)
  · exact .inr q
end
end HX
namespace W77
open PySem PySem.Spec PyProof.Rows L2 HX
/-! ### derivations, as the law draws them -/
inductive Mode where
  | once
  | box (n days : Nat)
def Mode.n : Mode → Nat
  | .once => 1
  | .box n _ => n
inductive Dv where
  | own (x : V)
  | pick (x : V) (side : Str) (b : Dv)
  | offer (a b : Dv)
  | cut (m : Mode) (menu : Bool) (a b : Dv)
  | pay (nm : Str) (m : Mode) (a b : Dv)
def Leaf (x : V) : Prop := x = .str "s" ∨ x = .str "m" ∨ ∃ n : Nat, n < 64 ∧ x = .int n
section
variable (K : PySem.W.Frag)
def WordAt (H : Hp) (v : V) : Prop := ∃ a, v = .ref a ∧ SqT K H a [.str "word", .str "p"]
def SentAt (H : Hp) (v : V) : Bool → Prop
  | false => WordAt K H v
  | true => ∃ a y z, v = .ref a ∧ SqT K H a [.str "menu", y, z] ∧ WordAt K H y ∧ WordAt K H z
def ModeAt (H : Hp) (v : V) : Mode → Prop
  | .once => v = .str "once"
  | .box n d => ∃ a, v = .ref a ∧ SqT K H a [.int (n : Int), .int (d : Int)]
def DvAt (H : Hp) : V → Dv → Prop
  | v, .own x => ∃ a, v = .ref a ∧ SqT K H a [.str "own", x]
  | v, .pick x s b => ∃ a y, v = .ref a ∧ SqT K H a [.str "pick", x, .str s, y] ∧ DvAt H y b
  | v, .offer c b => ∃ a y z, v = .ref a ∧ SqT K H a [.str "offer", y, z] ∧ DvAt H y c ∧ DvAt H z b
  | v, .cut m mn c b => ∃ a mv sv y z, v = .ref a ∧ SqT K H a [.str "cut", mv, sv, y, z] ∧ ModeAt K H mv m ∧ SentAt K H sv mn ∧ DvAt H y c ∧ DvAt H z b
  | v, .pay nm m c b => ∃ a mv y z, v = .ref a ∧ SqT K H a [.str "pay", .str nm, mv, y, z] ∧ ModeAt K H mv m ∧ DvAt H y c ∧ DvAt H z b
end
/-- a step that keeps tuples -/
def KpT (m : Addr → Prop) (H H' : Hp) : Prop := Kp m H H' ∧ ∀ b, m b → ∃ o, H b = some o ∧ ∀ xs f, o ≠ .tup xs ∧ o ≠ .frz f (.tup xs)
section
variable {K : PySem.W.Frag} {m : Addr → Prop} {H H' : Hp} {v : V}
theorem KpT.tup {a : Addr} {xs : List V} (h : KpT m H H') (q : SqT K H a xs) : SqT K H' a xs := h.1.tup1 h.2 q
theorem WordAt.kp (h : KpT m H H') (q : WordAt K H v) : WordAt K H' v := let ⟨a, e, q⟩ := q; ⟨a, e, h.tup q⟩
theorem SentAt.kp (h : KpT m H H') : ∀ {b : Bool}, SentAt K H v b → SentAt K H' v b
  | false, q => WordAt.kp h q
  | true, q => let ⟨a, y, z, e, q, h1, h2⟩ := q; ⟨a, y, z, e, h.tup q, WordAt.kp h h1, WordAt.kp h h2⟩
theorem ModeAt.kp (h : KpT m H H') : ∀ {c : Mode}, ModeAt K H v c → ModeAt K H' v c
  | .once, q => q
  | .box n d, q => let ⟨a, e, q⟩ := q; ⟨a, e, h.tup q⟩
theorem DvAt.kp (h : KpT m H H') : ∀ {t : Dv} {v : V}, DvAt K H v t → DvAt K H' v t
  | .own x, _, q => let ⟨a, e, q⟩ := q; ⟨a, e, h.tup q⟩
  | .pick x s b, _, q => let ⟨a, y, e, q, k1⟩ := q; ⟨a, y, e, h.tup q, DvAt.kp h k1⟩
  | .offer c b, _, q => let ⟨a, y, z, e, q, k1, k2⟩ := q; ⟨a, y, z, e, h.tup q, DvAt.kp h k1, DvAt.kp h k2⟩
  | .cut c mn x b, _, q => let ⟨a, mv, sv, y, z, e, q, k1, k2, k3, k4⟩ := q; ⟨a, mv, sv, y, z, e, h.tup q, ModeAt.kp h k1, SentAt.kp h k2, DvAt.kp h k3, DvAt.kp h k4⟩
  | .pay nm c x b, _, q => let ⟨a, mv, y, z, e, q, k1, k3, k4⟩ := q; ⟨a, mv, y, z, e, h.tup q, ModeAt.kp h k1, DvAt.kp h k3, DvAt.kp h k4⟩
theorem kpT_same (h : Same H H') : KpT nom H H' := ⟨Kp.of h, fun _ z => z.elim⟩
end
def Dv.kids : Dv → List Dv
  | .own _ => []
  | .pick _ _ b => [b]
  | .offer a b => [a, b]
  | .cut _ _ a b => [a, b]
  | .pay _ _ a b => [a, b]
/-- how deep -/
def Dv.dp : Dv → Nat
  | .own _ => 0
  | .pick _ _ b => b.dp + 1
  | .offer a b => max a.dp b.dp + 1
  | .cut _ _ a b => max a.dp b.dp + 1
  | .pay _ _ a b => max a.dp b.dp + 1
/-- how many rows -/
def Dv.sz : Dv → Nat
  | .own _ => 1
  | .pick _ _ b => b.sz + 1
  | .offer a b => a.sz + b.sz + 1
  | .cut _ _ a b => a.sz + b.sz + 1
  | .pay _ _ a b => a.sz + b.sz + 1
/-- the greatest play -/
def Dv.gp : Dv → Nat
  | .own _ => 1
  | .pick _ _ b => b.gp + 1
  | .offer a b => max a.gp b.gp + 1
  | .cut .once _ a b => a.gp + b.gp
  | .cut (.box n _) _ a b => n * (a.gp + 1) + b.gp
  | .pay _ .once a b => a.gp + b.gp + 1
  | .pay _ (.box n _) a b => n * (a.gp + 1) + b.gp + 1
end W77
namespace HX
open PySem PySem.Spec PyProof.Rows L2
/-- what is never reached -/
def tNev : TE := fun _ _ _ => False
def tNevT : TT := fun _ _ _ => False
theorem pe_never {X : Cx} {e : Expr} : PE X e tNev := ⟨fun _ _ _ _ _ _ h => h.elim⟩
theorem pt_never {X : Cx} {e : Expr} : PT X e tNevT := ⟨fun _ _ _ _ _ _ h => h.elim⟩
end HX
namespace W77
open PySem PySem.Spec PyProof.Rows L2 HX
/-! ### the text -/
def topS (i : Nat) : Stmt := PySem.Challenge.pw_heldanswers_k77_seam_large_plays.main.body.getD i (.Pass ⟨0, 0, 0, 0⟩)
abbrev s_copies : Stmt := (topS 5)
theorem sc_copies : FnScope ["kind"] ["kind"] (defScope s_copies) := ⟨rfl, rfl, rfl, by decide +kernel, rfl, by decide +kernel, by decide +kernel⟩
abbrev s_rank_within : Stmt := (topS 7)
theorem sc_rank_within : FnScope ["library", "sentence", "known", "left", "price"] ["library", "sentence", "known"] (defScope s_rank_within) := ⟨rfl, rfl, rfl, by decide +kernel, rfl, by decide +kernel, by decide +kernel⟩
abbrev s_word_rank : Stmt := (topS 8)
theorem sc_word_rank : FnScope ["library", "name", "known", "made", "opened"] ["library", "name", "known"] (defScope s_word_rank) := ⟨rfl, rfl, rfl, by decide +kernel, rfl, by decide +kernel, by decide +kernel⟩
abbrev s_greatest_rank : Stmt := (topS 9)
theorem sc_greatest_rank : FnScope ["library", "sentences", "known", "greatest", "sentence", "found"] ["library", "sentences", "known"] (defScope s_greatest_rank) := ⟨rfl, rfl, rfl, by decide +kernel, rfl, by decide +kernel, by decide +kernel⟩
abbrev s_premises : Stmt := (topS 12)
theorem sc_premises : FnScope ["derivation", "count"] ["derivation"] (defScope s_premises) := ⟨rfl, rfl, rfl, by decide +kernel, rfl, by decide +kernel, by decide +kernel⟩
abbrev s_Tally__init : Stmt := (inClass (topS 14) 0)
theorem sc_Tally__init : FnScope ["self", "plays", "rows", "load"] ["self", "plays", "rows", "load"] (defScope s_Tally__init) := ⟨rfl, rfl, rfl, by decide +kernel, rfl, by decide +kernel, by decide +kernel⟩
abbrev s_Tally__add : Stmt := (inClass (topS 14) 1)
theorem sc_Tally__add : FnScope ["self", "other"] ["self", "other"] (defScope s_Tally__add) := ⟨rfl, rfl, rfl, by decide +kernel, rfl, by decide +kernel, by decide +kernel⟩
abbrev s_Tally__mul : Stmt := (inClass (topS 14) 2)
theorem sc_Tally__mul : FnScope ["self", "other", "rows"] ["self", "other"] (defScope s_Tally__mul) := ⟨rfl, rfl, rfl, by decide +kernel, rfl, by decide +kernel, by decide +kernel⟩
abbrev s_Tally_copied : Stmt := (inClass (topS 14) 3)
theorem sc_Tally_copied : FnScope ["self", "n", "total", "_"] ["self", "n"] (defScope s_Tally_copied) := ⟨rfl, rfl, rfl, by decide +kernel, rfl, by decide +kernel, by decide +kernel⟩
abbrev s_Tally_taller : Stmt := (inClass (topS 14) 4)
theorem sc_Tally_taller : FnScope ["self", "k"] ["self", "k"] (defScope s_Tally_taller) := ⟨rfl, rfl, rfl, by decide +kernel, rfl, by decide +kernel, by decide +kernel⟩
abbrev s_Tally_cut : Stmt := (inClass (topS 14) 6)
theorem sc_Tally_cut : FnScope ["self", "factor"] ["self", "factor"] (defScope s_Tally_cut) := ⟨rfl, rfl, rfl, by decide +kernel, rfl, by decide +kernel, by decide +kernel⟩
abbrev s_Tally_triple : Stmt := (inClass (topS 14) 7)
theorem sc_Tally_triple : FnScope ["self"] ["self"] (defScope s_Tally_triple) := ⟨rfl, rfl, rfl, by decide +kernel, rfl, by decide +kernel, by decide +kernel⟩
abbrev s_riders_of : Stmt := (topS 18)
theorem sc_riders_of : FnScope ["library", "row"] ["library", "row"] (defScope s_riders_of) := ⟨rfl, rfl, rfl, by decide +kernel, rfl, by decide +kernel, by decide +kernel⟩
abbrev s_rider_keys : Stmt := (topS 19)
theorem sc_rider_keys : FnScope ["library", "keys", "name", "make_index", "open_index"] ["library"] (defScope s_rider_keys) := ⟨rfl, rfl, rfl, by decide +kernel, rfl, by decide +kernel, by decide +kernel⟩
abbrev s_riders : Stmt := (topS 20)
theorem sc_riders : FnScope ["library", "derivation", "found", "waiting", "row", "key", "other"] ["library", "derivation"] (defScope s_riders) := ⟨rfl, rfl, rfl, by decide +kernel, rfl, by decide +kernel, by decide +kernel⟩
abbrev s_boxed_tally : Stmt := (topS 21)
theorem sc_boxed_tally : FnScope ["found", "kind"] ["found", "kind"] (defScope s_boxed_tally) := ⟨rfl, rfl, rfl, by decide +kernel, rfl, by decide +kernel, by decide +kernel⟩
abbrev s_tally : Stmt := (topS 22)
theorem sc_tally : FnScope ["library", "derivation", "known", "ranks", "key", "rider"] ["library", "derivation"] (defScope s_tally) := ⟨rfl, rfl, rfl, by decide +kernel, rfl, by decide +kernel, by decide +kernel⟩
abbrev s_tally_within : Stmt := (topS 23)
theorem sc_tally_within : FnScope ["library", "derivation", "known", "ranks", "name", "found", "factor", "total", "key", "_", "premise"] ["library", "derivation", "known", "ranks"] (defScope s_tally_within) := ⟨rfl, rfl, rfl, by decide +kernel, rfl, by decide +kernel, by decide +kernel⟩
abbrev s_boxed_rows : Stmt := (topS 24)
theorem sc_boxed_rows : FnScope ["rows", "kind"] ["rows", "kind"] (defScope s_boxed_rows) := ⟨rfl, rfl, rfl, by decide +kernel, rfl, by decide +kernel, by decide +kernel⟩
abbrev s_greatest_play : Stmt := (topS 25)
theorem sc_greatest_play : FnScope ["library", "derivation", "known", "key", "rider"] ["library", "derivation"] (defScope s_greatest_play) := ⟨rfl, rfl, rfl, by decide +kernel, rfl, by decide +kernel, by decide +kernel⟩
abbrev s_greatest_within : Stmt := (topS 26)
theorem sc_greatest_within : FnScope ["library", "derivation", "known", "name", "found", "total", "key", "_", "premise"] ["library", "derivation", "known"] (defScope s_greatest_within) := ⟨rfl, rfl, rfl, by decide +kernel, rfl, by decide +kernel, by decide +kernel⟩
abbrev s_plays : Stmt := (topS 28)
theorem sc_plays : FnScope ["library", "derivation", "known", "ranks", "key", "rider"] ["library", "derivation"] (defScope s_plays) := ⟨rfl, rfl, rfl, by decide +kernel, rfl, by decide +kernel, by decide +kernel⟩
abbrev s_longer : Stmt := (topS 29)
theorem sc_longer : FnScope ["found", "rows", "load", "one"] ["found", "rows", "load"] (defScope s_longer) := ⟨rfl, rfl, rfl, by decide +kernel, rfl, by decide +kernel, by decide +kernel⟩
abbrev s_joined : Stmt := (topS 30)
theorem sc_joined : FnScope ["first", "second", "one", "two"] ["first", "second"] (defScope s_joined) := ⟨rfl, rfl, rfl, by decide +kernel, rfl, by decide +kernel, by decide +kernel⟩
abbrev s_boxed_plays : Stmt := (topS 31)
theorem sc_boxed_plays : FnScope ["found", "kind", "wrapped", "total", "_"] ["found", "kind"] (defScope s_boxed_plays) := ⟨rfl, rfl, rfl, by decide +kernel, rfl, by decide +kernel, by decide +kernel⟩
abbrev s_plays_within : Stmt := (topS 32)
theorem sc_plays_within : FnScope ["library", "derivation", "known", "ranks", "name", "found", "factor", "both", "total", "key", "_", "premise", "one"] ["library", "derivation", "known", "ranks"] (defScope s_plays_within) := ⟨rfl, rfl, rfl, by decide +kernel, rfl, by decide +kernel, by decide +kernel⟩
abbrev s_Library__init : Stmt := (inClass (topS 34) 0)
theorem sc_Library__init : FnScope ["self"] ["self"] (defScope s_Library__init) := ⟨rfl, rfl, rfl, by decide +kernel, rfl, by decide +kernel, by decide +kernel⟩
abbrev s_Library__iter : Stmt := (inClass (topS 34) 3)
theorem sc_Library__iter : FnScope ["self"] ["self"] (defScope s_Library__iter) := ⟨rfl, rfl, rfl, by decide +kernel, rfl, by decide +kernel, by decide +kernel⟩
abbrev s_Library_makes_of : Stmt := (inClass (topS 34) 4)
theorem sc_Library_makes_of : FnScope ["self", "name"] ["self", "name"] (defScope s_Library_makes_of) := ⟨rfl, rfl, rfl, by decide +kernel, rfl, by decide +kernel, by decide +kernel⟩
abbrev s_Library_opens_of : Stmt := (inClass (topS 34) 5)
theorem sc_Library_opens_of : FnScope ["self", "name"] ["self", "name"] (defScope s_Library_opens_of) := ⟨rfl, rfl, rfl, by decide +kernel, rfl, by decide +kernel, by decide +kernel⟩
abbrev s_Library_entry_names : Stmt := (inClass (topS 34) 7)
theorem sc_Library_entry_names : FnScope ["self"] ["self"] (defScope s_Library_entry_names) := ⟨rfl, rfl, rfl, by decide +kernel, rfl, by decide +kernel, by decide +kernel⟩
abbrev s_law_cell : Stmt := (topS 36)
theorem sc_law_cell : FnScope ["script", "k"] ["script", "k"] (defScope s_law_cell) := ⟨rfl, rfl, rfl, by decide +kernel, rfl, by decide +kernel, by decide +kernel⟩
abbrev s_law_pool : Stmt := (topS 37)
theorem sc_law_pool : FnScope ["script", "k", "cell"] ["script", "k"] (defScope s_law_pool) := ⟨rfl, rfl, rfl, by decide +kernel, rfl, by decide +kernel, by decide +kernel⟩
abbrev s_law_next : Stmt := (topS 38)
theorem sc_law_next : FnScope ["pool", "many", "digit", "mixed"] ["pool", "many"] (defScope s_law_next) := ⟨rfl, rfl, rfl, by decide +kernel, rfl, by decide +kernel, by decide +kernel⟩
abbrev s_law_mode : Stmt := (topS 39)
theorem sc_law_mode : FnScope ["pool", "room"] ["pool", "room"] (defScope s_law_mode) := ⟨rfl, rfl, rfl, by decide +kernel, rfl, by decide +kernel, by decide +kernel⟩
abbrev s_law_part : Stmt := (topS 40)
theorem sc_law_part : FnScope ["pool", "level", "depth", "room", "p", "pick", "one", "two", "body", "mode", "paid", "name"] ["pool", "level", "depth", "room"] (defScope s_law_part) := ⟨rfl, rfl, rfl, by decide +kernel, rfl, by decide +kernel, by decide +kernel⟩
abbrev s_law_boxed : Stmt := (topS 41)
theorem sc_law_boxed : FnScope ["one", "mode"] ["one", "mode"] (defScope s_law_boxed) := ⟨rfl, rfl, rfl, by decide +kernel, rfl, by decide +kernel, by decide +kernel⟩
abbrev s_law_numbers : Stmt := (topS 42)
theorem sc_law_numbers : FnScope ["tree", "body", "one", "mode", "copies_v", "k", "rows"] ["tree"] (defScope s_law_numbers) := ⟨rfl, rfl, rfl, by decide +kernel, rfl, by decide +kernel, by decide +kernel⟩
abbrev s_law_put : Stmt := (topS 43)
theorem sc_law_put : FnScope ["total", "play", "many"] ["total", "play", "many"] (defScope s_law_put) := ⟨rfl, rfl, rfl, by decide +kernel, rfl, by decide +kernel, by decide +kernel⟩
abbrev s_law_listed : Stmt := (topS 44)
theorem sc_law_listed : FnScope ["tree", "total", "body", "one", "play", "mode", "copies_v", "k", "more", "other", "rows"] ["tree"] (defScope s_law_listed) := ⟨rfl, rfl, rfl, by decide +kernel, rfl, by decide +kernel, by decide +kernel⟩
abbrev s_law_plays : Stmt := (topS 45)
theorem sc_law_plays : FnScope ["tree", "found", "told", "seen", "play"] ["tree", "found"] (defScope s_law_plays) := ⟨rfl, rfl, rfl, by decide +kernel, rfl, by decide +kernel, by decide +kernel⟩
abbrev s_law_drawn : Stmt := (topS 46)
theorem sc_law_drawn : FnScope ["pool", "room", "depth", "tree", "k"] ["pool"] (defScope s_law_drawn) := ⟨rfl, rfl, rfl, by decide +kernel, rfl, by decide +kernel, by decide +kernel⟩
abbrev s_law : Stmt := (topS 47)
theorem sc_law : FnScope ["script", "pool", "k", "tree", "numbers", "told", "found"] ["script"] (defScope s_law) := ⟨rfl, rfl, rfl, by decide +kernel, rfl, by decide +kernel, by decide +kernel⟩
/-- what the top has written -/
structure Tx (K : PySem.W.Frag) (mg : Str → Option Value) (w : World) where
  a_copies : Addr
  d_copies : FuncData
  F_copies : Fun K "copies" "copies" s_copies a_copies d_copies
  b_copies : Binds K d_copies ["kind"] []
  m_copies : mg "copies" = some (.ref a_copies)
  a_rank_within : Addr
  d_rank_within : FuncData
  F_rank_within : Fun K "rank_within" "rank_within" s_rank_within a_rank_within d_rank_within
  b_rank_within : Binds K d_rank_within ["library", "sentence", "known"] []
  m_rank_within : mg "rank_within" = some (.ref a_rank_within)
  a_word_rank : Addr
  d_word_rank : FuncData
  F_word_rank : Fun K "word_rank" "word_rank" s_word_rank a_word_rank d_word_rank
  b_word_rank : Binds K d_word_rank ["library", "name", "known"] []
  m_word_rank : mg "word_rank" = some (.ref a_word_rank)
  a_greatest_rank : Addr
  d_greatest_rank : FuncData
  F_greatest_rank : Fun K "greatest_rank" "greatest_rank" s_greatest_rank a_greatest_rank d_greatest_rank
  b_greatest_rank : Binds K d_greatest_rank ["library", "sentences", "known"] []
  m_greatest_rank : mg "greatest_rank" = some (.ref a_greatest_rank)
  a_premises : Addr
  d_premises : FuncData
  F_premises : Fun K "premises" "premises" s_premises a_premises d_premises
  b_premises : Binds K d_premises ["derivation"] []
  m_premises : mg "premises" = some (.ref a_premises)
  a_Tally__init : Addr
  d_Tally__init : FuncData
  F_Tally__init : Fun K "__init__" "Tally.__init__" s_Tally__init a_Tally__init d_Tally__init
  b_Tally__init : Binds K d_Tally__init ["self", "plays", "rows", "load"] []
  a_Tally__add : Addr
  d_Tally__add : FuncData
  F_Tally__add : Fun K "__add__" "Tally.__add__" s_Tally__add a_Tally__add d_Tally__add
  b_Tally__add : Binds K d_Tally__add ["self", "other"] []
  a_Tally__mul : Addr
  d_Tally__mul : FuncData
  F_Tally__mul : Fun K "__mul__" "Tally.__mul__" s_Tally__mul a_Tally__mul d_Tally__mul
  b_Tally__mul : Binds K d_Tally__mul ["self", "other"] []
  a_Tally_copied : Addr
  d_Tally_copied : FuncData
  F_Tally_copied : Fun K "copied" "Tally.copied" s_Tally_copied a_Tally_copied d_Tally_copied
  b_Tally_copied : Binds K d_Tally_copied ["self", "n"] []
  a_Tally_taller : Addr
  d_Tally_taller : FuncData
  F_Tally_taller : Fun K "taller" "Tally.taller" s_Tally_taller a_Tally_taller d_Tally_taller
  b_Tally_taller : Binds K d_Tally_taller ["self", "k"] []
  a_Tally_cut : Addr
  d_Tally_cut : FuncData
  F_Tally_cut : Fun K "cut" "Tally.cut" s_Tally_cut a_Tally_cut d_Tally_cut
  b_Tally_cut : Binds K d_Tally_cut ["self", "factor"] []
  a_Tally_triple : Addr
  d_Tally_triple : FuncData
  F_Tally_triple : Fun K "triple" "Tally.triple" s_Tally_triple a_Tally_triple d_Tally_triple
  b_Tally_triple : Binds K d_Tally_triple ["self"] []
  a_riders_of : Addr
  d_riders_of : FuncData
  F_riders_of : Fun K "riders_of" "riders_of" s_riders_of a_riders_of d_riders_of
  b_riders_of : Binds K d_riders_of ["library", "row"] []
  m_riders_of : mg "riders_of" = some (.ref a_riders_of)
  a_rider_keys : Addr
  d_rider_keys : FuncData
  F_rider_keys : Fun K "rider_keys" "rider_keys" s_rider_keys a_rider_keys d_rider_keys
  b_rider_keys : Binds K d_rider_keys ["library"] []
  m_rider_keys : mg "rider_keys" = some (.ref a_rider_keys)
  a_riders : Addr
  d_riders : FuncData
  F_riders : Fun K "riders" "riders" s_riders a_riders d_riders
  b_riders : Binds K d_riders ["library", "derivation"] []
  m_riders : mg "riders" = some (.ref a_riders)
  a_boxed_tally : Addr
  d_boxed_tally : FuncData
  F_boxed_tally : Fun K "boxed_tally" "boxed_tally" s_boxed_tally a_boxed_tally d_boxed_tally
  b_boxed_tally : Binds K d_boxed_tally ["found", "kind"] []
  m_boxed_tally : mg "boxed_tally" = some (.ref a_boxed_tally)
  a_tally : Addr
  d_tally : FuncData
  F_tally : Fun K "tally" "tally" s_tally a_tally d_tally
  b_tally : Binds K d_tally ["library", "derivation"] []
  m_tally : mg "tally" = some (.ref a_tally)
  a_tally_within : Addr
  d_tally_within : FuncData
  F_tally_within : Fun K "tally_within" "tally_within" s_tally_within a_tally_within d_tally_within
  b_tally_within : Binds K d_tally_within ["library", "derivation", "known", "ranks"] []
  m_tally_within : mg "tally_within" = some (.ref a_tally_within)
  a_boxed_rows : Addr
  d_boxed_rows : FuncData
  F_boxed_rows : Fun K "boxed_rows" "boxed_rows" s_boxed_rows a_boxed_rows d_boxed_rows
  b_boxed_rows : Binds K d_boxed_rows ["rows", "kind"] []
  m_boxed_rows : mg "boxed_rows" = some (.ref a_boxed_rows)
  a_greatest_play : Addr
  d_greatest_play : FuncData
  F_greatest_play : Fun K "greatest_play" "greatest_play" s_greatest_play a_greatest_play d_greatest_play
  b_greatest_play : Binds K d_greatest_play ["library", "derivation"] []
  m_greatest_play : mg "greatest_play" = some (.ref a_greatest_play)
  a_greatest_within : Addr
  d_greatest_within : FuncData
  F_greatest_within : Fun K "greatest_within" "greatest_within" s_greatest_within a_greatest_within d_greatest_within
  b_greatest_within : Binds K d_greatest_within ["library", "derivation", "known"] []
  m_greatest_within : mg "greatest_within" = some (.ref a_greatest_within)
  a_plays : Addr
  d_plays : FuncData
  F_plays : Fun K "plays" "plays" s_plays a_plays d_plays
  b_plays : Binds K d_plays ["library", "derivation"] []
  m_plays : mg "plays" = some (.ref a_plays)
  a_longer : Addr
  d_longer : FuncData
  F_longer : Fun K "longer" "longer" s_longer a_longer d_longer
  b_longer : Binds K d_longer ["found", "rows", "load"] []
  m_longer : mg "longer" = some (.ref a_longer)
  a_joined : Addr
  d_joined : FuncData
  F_joined : Fun K "joined" "joined" s_joined a_joined d_joined
  b_joined : Binds K d_joined ["first", "second"] []
  m_joined : mg "joined" = some (.ref a_joined)
  a_boxed_plays : Addr
  d_boxed_plays : FuncData
  F_boxed_plays : Fun K "boxed_plays" "boxed_plays" s_boxed_plays a_boxed_plays d_boxed_plays
  b_boxed_plays : Binds K d_boxed_plays ["found", "kind"] []
  m_boxed_plays : mg "boxed_plays" = some (.ref a_boxed_plays)
  a_plays_within : Addr
  d_plays_within : FuncData
  F_plays_within : Fun K "plays_within" "plays_within" s_plays_within a_plays_within d_plays_within
  b_plays_within : Binds K d_plays_within ["library", "derivation", "known", "ranks"] []
  m_plays_within : mg "plays_within" = some (.ref a_plays_within)
  a_Library__init : Addr
  d_Library__init : FuncData
  F_Library__init : Fun K "__init__" "Library.__init__" s_Library__init a_Library__init d_Library__init
  b_Library__init : Binds K d_Library__init ["self"] []
  a_Library__iter : Addr
  d_Library__iter : FuncData
  F_Library__iter : Fun K "__iter__" "Library.__iter__" s_Library__iter a_Library__iter d_Library__iter
  b_Library__iter : Binds K d_Library__iter ["self"] []
  a_Library_makes_of : Addr
  d_Library_makes_of : FuncData
  F_Library_makes_of : Fun K "makes_of" "Library.makes_of" s_Library_makes_of a_Library_makes_of d_Library_makes_of
  b_Library_makes_of : Binds K d_Library_makes_of ["self", "name"] []
  a_Library_opens_of : Addr
  d_Library_opens_of : FuncData
  F_Library_opens_of : Fun K "opens_of" "Library.opens_of" s_Library_opens_of a_Library_opens_of d_Library_opens_of
  b_Library_opens_of : Binds K d_Library_opens_of ["self", "name"] []
  a_Library_entry_names : Addr
  d_Library_entry_names : FuncData
  F_Library_entry_names : Fun K "entry_names" "Library.entry_names" s_Library_entry_names a_Library_entry_names d_Library_entry_names
  b_Library_entry_names : Binds K d_Library_entry_names ["self"] []
  a_law_cell : Addr
  d_law_cell : FuncData
  F_law_cell : Fun K "_law_cell" "_law_cell" s_law_cell a_law_cell d_law_cell
  b_law_cell : Binds K d_law_cell ["script", "k"] []
  m_law_cell : mg "_law_cell" = some (.ref a_law_cell)
  a_law_pool : Addr
  d_law_pool : FuncData
  F_law_pool : Fun K "_law_pool" "_law_pool" s_law_pool a_law_pool d_law_pool
  b_law_pool : Binds K d_law_pool ["script", "k"] []
  m_law_pool : mg "_law_pool" = some (.ref a_law_pool)
  a_law_next : Addr
  d_law_next : FuncData
  F_law_next : Fun K "_law_next" "_law_next" s_law_next a_law_next d_law_next
  b_law_next : Binds K d_law_next ["pool", "many"] []
  m_law_next : mg "_law_next" = some (.ref a_law_next)
  a_law_mode : Addr
  d_law_mode : FuncData
  F_law_mode : Fun K "_law_mode" "_law_mode" s_law_mode a_law_mode d_law_mode
  b_law_mode : Binds K d_law_mode ["pool", "room"] []
  m_law_mode : mg "_law_mode" = some (.ref a_law_mode)
  a_law_part : Addr
  d_law_part : FuncData
  F_law_part : Fun K "_law_part" "_law_part" s_law_part a_law_part d_law_part
  b_law_part : Binds K d_law_part ["pool", "level", "depth", "room"] []
  m_law_part : mg "_law_part" = some (.ref a_law_part)
  a_law_boxed : Addr
  d_law_boxed : FuncData
  F_law_boxed : Fun K "_law_boxed" "_law_boxed" s_law_boxed a_law_boxed d_law_boxed
  b_law_boxed : Binds K d_law_boxed ["one", "mode"] []
  m_law_boxed : mg "_law_boxed" = some (.ref a_law_boxed)
  a_law_numbers : Addr
  d_law_numbers : FuncData
  F_law_numbers : Fun K "_law_numbers" "_law_numbers" s_law_numbers a_law_numbers d_law_numbers
  b_law_numbers : Binds K d_law_numbers ["tree"] []
  m_law_numbers : mg "_law_numbers" = some (.ref a_law_numbers)
  a_law_put : Addr
  d_law_put : FuncData
  F_law_put : Fun K "_law_put" "_law_put" s_law_put a_law_put d_law_put
  b_law_put : Binds K d_law_put ["total", "play", "many"] []
  m_law_put : mg "_law_put" = some (.ref a_law_put)
  a_law_listed : Addr
  d_law_listed : FuncData
  F_law_listed : Fun K "_law_listed" "_law_listed" s_law_listed a_law_listed d_law_listed
  b_law_listed : Binds K d_law_listed ["tree"] []
  m_law_listed : mg "_law_listed" = some (.ref a_law_listed)
  a_law_plays : Addr
  d_law_plays : FuncData
  F_law_plays : Fun K "_law_plays" "_law_plays" s_law_plays a_law_plays d_law_plays
  b_law_plays : Binds K d_law_plays ["tree", "found"] []
  m_law_plays : mg "_law_plays" = some (.ref a_law_plays)
  a_law_drawn : Addr
  d_law_drawn : FuncData
  F_law_drawn : Fun K "_law_drawn" "_law_drawn" s_law_drawn a_law_drawn d_law_drawn
  b_law_drawn : Binds K d_law_drawn ["pool"] []
  m_law_drawn : mg "_law_drawn" = some (.ref a_law_drawn)
  a_law : Addr
  d_law : FuncData
  F_law : Fun K "law" "law" s_law a_law d_law
  b_law : Binds K d_law ["script"] []
  m_law : mg "law" = some (.ref a_law)
  z_len : mg "len" = none
  z_range : mg "range" = none
  z_int : mg "int" = none
  z_abs : mg "abs" = none
  z_str : mg "str" = none
  z_min : mg "min" = none
  z_max : mg "max" = none
  z_list : mg "list" = none
  z_tuple : mg "tuple" = none
  z_repr : mg "repr" = none
  z_dict : mg "dict" = none
  z_iter : mg "iter" = none
  z_isinstance : mg "isinstance" = none
  C_Tally : Addr
  cl_Tally : Cls K C_Tally
  c_Tally : mg "Tally" = some (.ref C_Tally)
  k_Tally : Mk K C_Tally a_Tally__init
  sf_Tally : PySem.W.selfFirst K C_Tally = true
  n_plays : NoAttr K C_Tally "plays"
  n_rows : NoAttr K C_Tally "rows"
  n_load : NoAttr K C_Tally "load"
  mt_Tally_copied : Meth K C_Tally "copied" a_Tally_copied
  mt_Tally_taller : Meth K C_Tally "taller" a_Tally_taller
  mt_Tally_cut : Meth K C_Tally "cut" a_Tally_cut
  mt_Tally_triple : Meth K C_Tally "triple" a_Tally_triple
  of_Tally__add : PySem.W.findIn K (.ref C_Tally) "__add__" = some (some (.ref a_Tally__add))
  oi_Tally__add : PySem.W.isFn K (.ref a_Tally__add) = true
  of_Tally__mul : PySem.W.findIn K (.ref C_Tally) "__mul__" = some (some (.ref a_Tally__mul))
  oi_Tally__mul : PySem.W.isFn K (.ref a_Tally__mul) = true
  C_Library : Addr
  cl_Library : Cls K C_Library
  c_Library : mg "Library" = some (.ref C_Library)
  k_Library : Mk K C_Library a_Library__init
  ii_Library : PySem.W.findIn K (.ref C_Library) "__iter__" = some (some (.ref a_Library__iter))
  if_Library : PySem.W.isFn K (.ref a_Library__iter) = true
  n_changes : NoAttr K C_Library "changes"
  n_words : NoAttr K C_Library "_words"
  n_meetings : NoAttr K C_Library "_meetings"
  n_entries : NoAttr K C_Library "_entries"
  mt_Library_makes_of : Meth K C_Library "makes_of" a_Library_makes_of
  mt_Library_opens_of : Meth K C_Library "opens_of" a_Library_opens_of
  mt_Library_entry_names : Meth K C_Library "entry_names" a_Library_entry_names
  a_PREMISES : Addr
  m_PREMISES : mg "PREMISES" = some (.ref a_PREMISES)
  pr_own : KDct K w a_PREMISES "own" (.int 0)
  pr_offer : KDct K w a_PREMISES "offer" (.int 2)
  pr_pick : KDct K w a_PREMISES "pick" (.int 1)
  pr_pay : KDct K w a_PREMISES "pay" (.int 2)
  pr_cut : KDct K w a_PREMISES "cut" (.int 2)
end W77
namespace W77
open PySem PySem.Spec PyProof.Rows L2 HX
section
variable {P : Program} {w : World} {K : PySem.W.Frag} {mg : Str → Option Value} {base : Heap}
/-! ### the pool of draws: only its form matters -/
def Pool (l : List V) : Prop := ∃ a b c : Int, l = [.int a, .int b, .int c] ∧ 0 ≤ a
def spCell (K : PySem.W.Frag) : Sp := fun vs H Q _ => ∃ (a : Addr) (ns : List Int) (k : Int), vs = [.ref a, .int k] ∧ SqL K H a (ns.map V.int) ∧ ns.length ≤ 63 ∧ 0 ≤ k ∧ ∀ c : Int, 0 ≤ c → Q (.int c) H
theorem ok_law_cell {k : Nat} (T : Tx K mg w) : FnOk P w K mg base CX0 (k + 1) T.a_law_cell T.d_law_cell ["script", "k"] (spCell K) := by
  refine T.F_law_cell.ok sc_law_cell (fun vs H Q E h => ?_) (fun cdv A outer s H vs Q E hr h => ?_)
  · obtain ⟨a, ns, k, rfl, _⟩ := h
    rfl
  obtain ⟨a, ns, i, rfl, hS, h63, h0, q⟩ := h
  refine ⟨_, (pss_cons (ps_if (pt_cmpR op_lt (pv 1) (pe_callB (lenS K) (by rfl) T.z_len PySem.boot_len (pa_cons (pv 0) pa_nil)) (nomark _)) (pss_one (ps_ret (pe_callB call_abs (by rfl) T.z_abs (by decide +kernel) (pa_cons (pe_ix (ixL K) (pv 0) (pv 1) (fun _ _ => rfl)) pa_nil)))) pss_nil)
      (pss_one (ps_ret pe_int))), ?_⟩
  refine ⟨_, rfl, _, rfl, a, _, rfl, .inl hS, _, _, rfl, rfl, _, rfl, ?_⟩
  refine ite2 (fun c => ?_) (fun c => ?_)
  · have c' := of_decide_eq_true c
    rw [List.length_map] at c'
    have hi : i.toNat < ns.length := by omega
    have e : i = ((i.toNat : Nat) : Int) := by omega
    have g : atI (ns.map V.int) i = some (.int ns[i.toNat]) := by
      refine at_of e ?_
      rw [List.getElem?_map, List.getElem?_eq_getElem hi]
      rfl
    refine ⟨_, rfl, _, rfl, a, _, _, _, rfl, rfl, hS, g, _, rfl, ?_⟩
    exact q _ (by split <;> omega)
  · exact q 0 (Int.le_refl 0)
def spPool (K : PySem.W.Frag) : Sp := fun vs H Q _ => ∃ (a : Addr) (ns : List Int) (k : Int), vs = [.ref a, .int k] ∧ SqL K H a (ns.map V.int) ∧ ns.length ≤ 63 ∧ 0 ≤ k ∧ ∀ p l, H p = none → Pool l → Q (.ref p) (upd H p (.lst l))
theorem ok_law_pool {k : Nat} (T : Tx K mg w) (G_law_cell : FnOk P w K mg base CX0 k T.a_law_cell T.d_law_cell ["script", "k"] (spCell K)) : FnOk P w K mg base CX0 (k + 1) T.a_law_pool T.d_law_pool ["script", "k"] (spPool K) := by
  refine T.F_law_pool.ok sc_law_pool (fun vs H Q E h => ?_) (fun cdv A outer s H vs Q E hr h => ?_)
  · obtain ⟨a, ns, k, rfl, _⟩ := h
    rfl
  obtain ⟨a, ns, i, rfl, hS, h63, h0, q⟩ := h
  refine ⟨_, (pss_cons (ps_set (i := 2) sc_law_pool.nd rfl (Or.inl rfl) (pe_call G_law_cell hr (by rfl) T.m_law_cell T.F_law_cell.kp T.b_law_cell .nil pass0 (pa_cons (pv 0) (pa_cons (pv 1) pa_nil))))
      (pss_cons (ps_if (pt_cmpR op_ge (pv 2) (pe_op op_pow pe_int pe_int) (nomark _)) (pss_one (ps_ret (pe_lst (pa_cons (pv 2) (pa_cons pe_int (pa_cons (pe_op op_mod (pe_callTy call_int1 (by rfl) T.z_int (by decide +kernel) (pa_cons (pv 2) pa_nil)) pe_int) pa_nil)))))) pss_nil)
      (pss_one (ps_ret (pe_lst (pa_cons pe_int (pa_cons pe_int (pa_cons (pv 2) pa_nil)))))))), ?_⟩
  refine ⟨_, rfl, _, rfl, a, ns, i, rfl, hS, h63, h0, fun c hc => ?_⟩
  refine ⟨_, rfl, 10, 18, rfl, rfl, ⟨by decide, by decide, by decide⟩, _, _, rfl, rfl, _, rfl, ?_⟩
  refine ite2 (fun _ => ?_) (fun _ => ?_)
  · refine ⟨_, rfl, _, rfl, .inl ⟨c, rfl, c, 1000003, rfl, rfl, (by show (0 : Int) < 1000003; decide), (by show 3 ≤ sizeLine; decide), fun p hp => ?_⟩⟩
    exact q p _ hp ⟨_, _, _, rfl, hc⟩
  · refine ⟨_, rfl, (by show 3 ≤ sizeLine; decide), fun p hp => ?_⟩
    exact q p _ hp ⟨_, _, _, rfl, Int.le_refl 0⟩
theorem small_mod {x m : Int} (h : 0 < m) (h2 : m < 2 ^ 64) : -(2 ^ 64) < x % m ∧ x % m < 2 ^ 64 := by
  have e1 := Int.emod_nonneg x (show m ≠ 0 by omega)
  have e2 := Int.emod_lt_of_pos x h
  omega
def spNext : Sp := fun vs H Q _ => ∃ (p : Addr) (l : List V) (n : Int), vs = [.ref p, .int n] ∧ H p = some (.lst l) ∧ Pool l ∧ 0 < n ∧ n < 1000000 ∧ ∀ (d : Nat) l', Pool l' → (d : Int) < n → Q (.int d) (upd H p (.lst l'))
theorem ok_law_next {k : Nat} (T : Tx K mg w) : FnOk P w K mg base CX0 (k + 1) T.a_law_next T.d_law_next ["pool", "many"] spNext := by
  refine T.F_law_next.ok sc_law_next (fun vs H Q E h => ?_) (fun cdv A outer s H vs Q E hr h => ?_)
  · obtain ⟨p, l, n, rfl, _⟩ := h
    rfl
  obtain ⟨p, l, n, rfl, hp, ⟨a, b, c, rfl, ha⟩, h0, h1, q⟩ := h
  refine ⟨_, (pss_cons (ps_if (pt_cmpR op_gt (pe_ix (ixL K) (pv 0) pe_int (fun _ _ => rfl)) pe_int (nomark _)) (pss_cons (ps_set (i := 2) sc_law_next.nd rfl (Or.inl rfl) (pe_op op_modN (pe_callTy call_int1 (by rfl) T.z_int (by decide +kernel) (pa_cons (pe_ix (ixL K) (pv 0) pe_int (fun _ _ => rfl)) pa_nil)) (pv 1)))
      (pss_cons (ps_asg (pe_op op_fdivN (pe_ix (ixL K) (pv 0) pe_int (fun _ _ => rfl)) (pv 1)) (pg_sub (pv 0) pe_int set_list))
      (pss_one (ps_ret (pv 2))))) pss_nil)
      (pss_cons (ps_asg (pe_op op_add (pe_ix (ixL K) (pv 0) pe_int (fun _ _ => rfl)) pe_int) (pg_sub (pv 0) pe_int set_list))
      (pss_cons (ps_set (i := 3) sc_law_next.nd rfl (Or.inl rfl) (pe_op op_mod (pe_callTy call_int1 (by rfl) T.z_int (by decide +kernel) (pa_cons (pe_op op_add (pe_op op_add (pe_ix (ixL K) (pv 0) pe_int (fun _ _ => rfl)) (pe_op op_mul pe_int (pe_ix (ixL K) (pv 0) pe_int (fun _ _ => rfl)))) pe_int) pa_nil)) pe_int))
      (pss_cons (ps_set (i := 3) sc_law_next.nd rfl (Or.inl rfl) (pe_op op_mod (pe_callTy call_int1 (by rfl) T.z_int (by decide +kernel) (pa_cons (pe_op op_mul (pv 3) (pe_op op_add (pv 3) pe_int)) pa_nil)) pe_int))
      (pss_cons (ps_set (i := 3) sc_law_next.nd rfl (Or.inl rfl) (pe_op op_mod (pe_callTy call_int1 (by rfl) T.z_int (by decide +kernel) (pa_cons (pe_op op_add (pe_op op_mul (pv 3) (pe_op op_add (pv 3) pe_int)) (pe_op op_mul pe_int (pe_ix (ixL K) (pv 0) pe_int (fun _ _ => rfl)))) pa_nil)) pe_int))
      (pss_one (ps_ret (pe_op op_modN (pe_callTy call_int1 (by rfl) T.z_int (by decide +kernel) (pa_cons (pe_op op_fdiv (pv 3) pe_int) pa_nil)) (pv 1))))))))), ?_⟩
  have fin : ∀ (m : Int) (l' : List V), Pool l' → Q (.int (m.fmod n)) (upd H p (.lst l')) := fun m l' hl => by
    have e1 : 0 ≤ m.fmod n := Int.fmod_nonneg_of_pos _ h0
    have e2 : m.fmod n < n := Int.fmod_lt_of_pos _ h0
    have e3 : m.fmod n = (((m.fmod n).toNat : Nat) : Int) := by omega
    rw [e3]
    exact q _ l' hl (by omega)
  have sq : SqL K H p [.int a, .int b, .int c] := SqL.of hp
  refine ⟨_, rfl, p, _, 0, _, rfl, rfl, sq, rfl, _, _, rfl, rfl, _, rfl, ?_⟩
  refine ite2 (fun _ => ?_) (fun _ => ?_)
  · refine ⟨_, rfl, p, _, 0, _, rfl, rfl, sq, rfl, .inl ⟨a, rfl, _, rfl, a, n, rfl, rfl, by omega, ?_⟩⟩
    refine ⟨_, rfl, p, _, 0, _, rfl, rfl, sq, rfl, _, rfl, a, n, rfl, rfl, ⟨by omega, by omega⟩, _, rfl, p, _, 0, 0, rfl, rfl, hp, rfl, ?_⟩
    refine ⟨_, rfl, fin a _ ⟨_, _, _, rfl, ?_⟩⟩
    rw [Int.fdiv_eq_ediv_of_nonneg _ (by omega)]
    exact Int.ediv_nonneg ha (by omega)
  · refine ⟨_, rfl, p, _, 1, _, rfl, rfl, sq, rfl, _, _, rfl, rfl, _, rfl, p, _, 1, 1, rfl, rfl, hp, rfl, ?_⟩
    have sq2 : SqL K (upd H p (.lst [.int a, .int (b + 1), .int c])) p [.int a, .int (b + 1), .int c] := SqL.of upd_same
    refine ⟨_, rfl, p, _, 2, _, rfl, rfl, sq2, rfl, _, rfl, p, _, 1, _, rfl, rfl, sq2, rfl, _, _, rfl, rfl, .inl ⟨by decide, by decide⟩, _, _, rfl, rfl, _, _, rfl, rfl, .inl ⟨_, rfl, _, _, rfl, rfl, (by show (0 : Int) < 2147483647; decide), ?_⟩⟩
    refine ⟨_, rfl, _, rfl, _, _, rfl, rfl, _, _, rfl, rfl, .inl (small_mod (by decide) (by decide)), .inl ⟨_, rfl, _, _, rfl, rfl, (by show (0 : Int) < 2147483629; decide), ?_⟩⟩
    refine ⟨_, rfl, _, rfl, _, _, rfl, rfl, _, _, rfl, rfl, .inl (small_mod (by decide) (by decide)), _, rfl, p, _, 1, _, rfl, rfl, sq2, rfl, _, _, rfl, rfl, .inl ⟨by decide, by decide⟩, _, _, rfl, rfl, .inl ⟨_, rfl, _, _, rfl, rfl, (by show (0 : Int) < 2147483647; decide), ?_⟩⟩
    refine ⟨_, rfl, _, _, rfl, rfl, ⟨by decide, by decide⟩, .inl ⟨_, rfl, _, rfl, _, _, rfl, rfl, by omega, ?_⟩⟩
    exact fin _ _ ⟨_, _, _, rfl, ha⟩
end
end W77
namespace W77
open PySem PySem.Spec PyProof.Rows L2 HX
/-! ### tallies -/
structure T3 where
  p : Nat
  r : Nat
  l : Nat
def T3.add (a b : T3) : T3 := ⟨a.p + b.p, a.r + b.r, a.l + b.l⟩
def T3.mul (a b : T3) : T3 := ⟨a.p * b.p, a.r * b.p + b.r * a.p, a.l * b.p + b.l * a.p⟩
def T3.tall (a : T3) (k : Nat) : T3 := ⟨a.p, a.r + k * a.p, a.l⟩
def T3.cut (a : T3) (f : Nat) : T3 := ⟨a.p, a.r, a.l + f * (a.r - a.p)⟩
def T3.one : T3 := ⟨1, 0, 0⟩
def T3.pow (a : T3) : Nat → T3
  | 0 => T3.one
  | n + 1 => (a.pow n).mul a
/-- small enough to be multiplied -/
def T3.Sm (a : T3) : Prop := a.p < 2 ^ 400000 ∧ a.r < 2 ^ 400000 ∧ a.l < 2 ^ 400000
theorem log_lt {a : Nat} (h : a < 2 ^ 400000) : ((a : Int)).natAbs.log2 < 400000 := by
  rw [Int.natAbs_natCast]
  by_cases h0 : a = 0
  · subst h0
    decide
  · exact (Nat.log2_lt h0).mpr h
theorem mulW {a b : Nat} (ha : a < 2 ^ 400000) (hb : b < 2 ^ 400000) : CMulW (a : Int) (b : Int) := by
  have h1 := log_lt ha
  have h2 := log_lt hb
  unfold CMulW
  omega
def tf (t : T3) : List (Str × V) := [("plays", iv t.p), ("rows", iv t.r), ("load", iv t.l)]
theorem tf_p {t : T3} : (tf t).lookup ("plays" : Str) = some (iv t.p) := rfl
theorem tf_r {t : T3} : (tf t).lookup ("rows" : Str) = some (iv t.r) := by
  have e : (("rows" : Str) == ("plays" : Str)) = false := by decide +kernel
  unfold tf
  rw [List.lookup_cons, e, List.lookup_cons, beq_self_eq_true]
theorem tf_l {t : T3} : (tf t).lookup ("load" : Str) = some (iv t.l) := by
  have e : (("load" : Str) == ("plays" : Str)) = false := by decide +kernel
  have e2 : (("load" : Str) == ("rows" : Str)) = false := by decide +kernel
  unfold tf
  rw [List.lookup_cons, e, List.lookup_cons, e2, List.lookup_cons, beq_self_eq_true]
theorem tf_no {t : T3} {m : Str} (h1 : (m == ("plays" : Str)) = false) (h2 : (m == ("rows" : Str)) = false) (h3 : (m == ("load" : Str)) = false) : (tf t).lookup m = none := by
  unfold tf
  rw [List.lookup_cons, h1, List.lookup_cons, h2, List.lookup_cons, h3]
  rfl
def TalAt (C : Addr) (H : Hp) (v : V) (t : T3) : Prop := ∃ x dx, v = .ref x ∧ H x = some (.ins C dx (tf t))
theorem TalAt.same {C : Addr} {H H' : Hp} {v : V} {t : T3} (h : TalAt C H v t) (s : Same H H') : TalAt C H' v t := let ⟨x, dx, e, q⟩ := h; ⟨x, dx, e, s _ _ q⟩
section
variable {P : Program} {w : World} {K : PySem.W.Frag} {mg : Str → Option Value} {base : Heap}
def spTInit (C : Addr) : Sp := fun vs H Q _ => ∃ (x dx : Addr) (t : T3), vs = [.ref x, iv t.p, iv t.r, iv t.l] ∧ H x = some (.ins C dx []) ∧ Q .non (upd H x (.ins C dx (tf t)))
theorem ok_Tally__init {k : Nat} (T : Tx K mg w) : FnOk P w K mg base CX0 (k + 1) T.a_Tally__init T.d_Tally__init ["self", "plays", "rows", "load"] (spTInit T.C_Tally) := by
  refine T.F_Tally__init.ok sc_Tally__init (fun vs H Q E h => ?_) (fun cdv A outer s H vs Q E hr h => ?_)
  · obtain ⟨_, _, _, rfl, _⟩ := h
    rfl
  obtain ⟨x, dx, t, rfl, hx, q⟩ := h
  refine ⟨_, (pss_cons (ps_fld (pv 0) (pv 1) rfl)
      (pss_cons (ps_fld (pv 0) (pv 2) rfl)
      (pss_one (ps_fld (pv 0) (pv 3) rfl)))), ?_⟩
  refine ⟨_, rfl, _, rfl, x, T.C_Tally, dx, _, rfl, hx, T.cl_Tally, T.n_plays, (by decide), ?_⟩
  refine ⟨_, rfl, _, rfl, x, T.C_Tally, dx, _, rfl, upd_same, T.cl_Tally, T.n_rows, (by show 1 < 1000; decide), ?_⟩
  refine ⟨_, rfl, _, rfl, x, T.C_Tally, dx, _, rfl, upd_same, T.cl_Tally, T.n_load, (by show 2 < 1000; decide), ?_⟩
  rw [upd_upd, upd_upd]
  exact q
/-- a promise that gives a new tally -/
def Gives (C : Addr) (H : Hp) (Q : VK) (t : T3) : Prop := ∀ H' v, Same H H' → TalAt C H' v t → Q v H'
theorem make_tal {C : Addr} {H : Hp} {Q : VK} {t : T3} {x dx : Addr} (q : Gives C H Q t) (nx : H x = none) (ndx : H dx = none) (ne : dx ≠ x) : spTInit C [.ref x, iv t.p, iv t.r, iv t.l] (upd (upd H dx (.own x)) x (.ins C dx [])) (fun v H2 => v = .non ∧ Q (.ref x) H2) E0 := by
  have s1 : Same H (upd (upd H dx (.own x)) x (.ins C dx [])) := (Same.new ndx).trans (Same.new (by rw [upd_ne (Ne.symm ne)]; exact nx))
  refine ⟨x, dx, t, rfl, upd_same, rfl, q _ _ (fun b o hb => ?_) ⟨x, dx, rfl, upd_same⟩⟩
  rw [upd_ne (ne_of_none hb nx)]
  exact s1 b o hb
def spTAdd (C : Addr) : Sp := fun vs H Q _ => ∃ (v u : V) (a b : T3), vs = [v, u] ∧ TalAt C H v a ∧ TalAt C H u b ∧ Gives C H Q (a.add b)
theorem ok_Tally__add {k : Nat} (T : Tx K mg w) (G_Tally__init : FnOk P w K mg base CX0 k T.a_Tally__init T.d_Tally__init ["self", "plays", "rows", "load"] (spTInit T.C_Tally)) : FnOk P w K mg base CX0 (k + 2) T.a_Tally__add T.d_Tally__add ["self", "other"] (spTAdd T.C_Tally) := by
  refine T.F_Tally__add.ok sc_Tally__add (fun vs H Q E h => ?_) (fun cdv A outer s H vs Q E hr h => ?_)
  · obtain ⟨_, _, _, _, rfl, _⟩ := h
    rfl
  obtain ⟨v, u, a, b, rfl, ⟨x, dx, rfl, hx⟩, ⟨y, dy, rfl, hy⟩, q⟩ := h
  refine ⟨_, (pss_one (ps_ret (pe_make T.k_Tally G_Tally__init hr (by rfl) T.c_Tally T.b_Tally__init .nil pass0 (pa_cons (pe_op op_add (pe_fldK K (pv 0) rfl) (pe_fldK K (pv 1) rfl)) (pa_cons (pe_op op_add (pe_fldK K (pv 0) rfl) (pe_fldK K (pv 1) rfl)) (pa_cons (pe_op op_add (pe_fldK K (pv 0) rfl) (pe_fldK K (pv 1) rfl)) pa_nil)))))), ?_⟩
  refine ⟨_, rfl, x, T.C_Tally, dx, _, _, rfl, hx, T.cl_Tally, T.n_plays, tf_p, _, rfl, y, T.C_Tally, dy, _, _, rfl, hy, T.cl_Tally, T.n_plays, tf_p, _, _, rfl, rfl, ?_⟩
  refine ⟨_, rfl, x, T.C_Tally, dx, _, _, rfl, hx, T.cl_Tally, T.n_rows, tf_r, _, rfl, y, T.C_Tally, dy, _, _, rfl, hy, T.cl_Tally, T.n_rows, tf_r, _, _, rfl, rfl, ?_⟩
  refine ⟨_, rfl, x, T.C_Tally, dx, _, _, rfl, hx, T.cl_Tally, T.n_load, tf_l, _, rfl, y, T.C_Tally, dy, _, _, rfl, hy, T.cl_Tally, T.n_load, tf_l, _, _, rfl, rfl, ?_⟩
  exact fun z dz nz ndz ne => make_tal (t := a.add b) q nz ndz ne
def spTMul (C : Addr) : Sp := fun vs H Q _ => ∃ (v u : V) (a b : T3), vs = [v, u] ∧ TalAt C H v a ∧ TalAt C H u b ∧ a.Sm ∧ b.Sm ∧ Gives C H Q (a.mul b)
theorem ok_Tally__mul {k : Nat} (T : Tx K mg w) (G_Tally__init : FnOk P w K mg base CX0 k T.a_Tally__init T.d_Tally__init ["self", "plays", "rows", "load"] (spTInit T.C_Tally)) : FnOk P w K mg base CX0 (k + 2) T.a_Tally__mul T.d_Tally__mul ["self", "other"] (spTMul T.C_Tally) := by
  refine T.F_Tally__mul.ok sc_Tally__mul (fun vs H Q E h => ?_) (fun cdv A outer s H vs Q E hr h => ?_)
  · obtain ⟨_, _, _, _, rfl, _⟩ := h
    rfl
  obtain ⟨v, u, a, b, rfl, ⟨x, dx, rfl, hx⟩, ⟨y, dy, rfl, hy⟩, sa, sb, q⟩ := h
  refine ⟨_, (pss_cons (ps_set (i := 2) sc_Tally__mul.nd rfl (Or.inl rfl) (pe_op op_add (pe_op op_mulW (pe_fldK K (pv 0) rfl) (pe_fldK K (pv 1) rfl)) (pe_op op_mulW (pe_fldK K (pv 1) rfl) (pe_fldK K (pv 0) rfl))))
      (pss_one (ps_ret (pe_make T.k_Tally G_Tally__init hr (by rfl) T.c_Tally T.b_Tally__init .nil pass0 (pa_cons (pe_op op_mulW (pe_fldK K (pv 0) rfl) (pe_fldK K (pv 1) rfl)) (pa_cons (pv 2) (pa_cons (pe_op op_add (pe_op op_mulW (pe_fldK K (pv 0) rfl) (pe_fldK K (pv 1) rfl)) (pe_op op_mulW (pe_fldK K (pv 1) rfl) (pe_fldK K (pv 0) rfl))) pa_nil))))))), ?_⟩
  refine ⟨_, rfl, x, T.C_Tally, dx, _, _, rfl, hx, T.cl_Tally, T.n_rows, tf_r, _, rfl, y, T.C_Tally, dy, _, _, rfl, hy, T.cl_Tally, T.n_plays, tf_p, _, _, rfl, rfl, mulW sa.2.1 sb.1, ?_⟩
  refine ⟨_, rfl, y, T.C_Tally, dy, _, _, rfl, hy, T.cl_Tally, T.n_rows, tf_r, _, rfl, x, T.C_Tally, dx, _, _, rfl, hx, T.cl_Tally, T.n_plays, tf_p, _, _, rfl, rfl, mulW sb.2.1 sa.1, _, _, rfl, rfl, ?_⟩
  refine ⟨_, rfl, x, T.C_Tally, dx, _, _, rfl, hx, T.cl_Tally, T.n_plays, tf_p, _, rfl, y, T.C_Tally, dy, _, _, rfl, hy, T.cl_Tally, T.n_plays, tf_p, _, _, rfl, rfl, mulW sa.1 sb.1, ?_⟩
  refine ⟨_, rfl, ?_⟩
  refine ⟨_, rfl, x, T.C_Tally, dx, _, _, rfl, hx, T.cl_Tally, T.n_load, tf_l, _, rfl, y, T.C_Tally, dy, _, _, rfl, hy, T.cl_Tally, T.n_plays, tf_p, _, _, rfl, rfl, mulW sa.2.2 sb.1, ?_⟩
  refine ⟨_, rfl, y, T.C_Tally, dy, _, _, rfl, hy, T.cl_Tally, T.n_load, tf_l, _, rfl, x, T.C_Tally, dx, _, _, rfl, hx, T.cl_Tally, T.n_plays, tf_p, _, _, rfl, rfl, mulW sb.2.2 sa.1, _, _, rfl, rfl, ?_⟩
  exact fun z dz nz ndz ne => make_tal (t := a.mul b) q nz ndz ne
end
end W77
namespace W77
open PySem PySem.Spec PyProof.Rows L2 HX
section
variable {P : Program} {w : World} {K : PySem.W.Frag} {mg : Str → Option Value} {base : Heap}
def spTTall (C : Addr) : Sp := fun vs H Q _ => ∃ (v : V) (k : Nat) (a : T3), vs = [v, iv k] ∧ TalAt C H v a ∧ a.Sm ∧ k < 1000 ∧ Gives C H Q (a.tall k)
theorem small_nat {k : Nat} (h : k < 2 ^ 30) : k < 2 ^ 400000 := Nat.lt_of_lt_of_le h (Nat.pow_le_pow_right (show 0 < 2 by decide) (show 30 ≤ 400000 by decide))
theorem ok_Tally_taller {k : Nat} (T : Tx K mg w) (G_Tally__init : FnOk P w K mg base CX0 k T.a_Tally__init T.d_Tally__init ["self", "plays", "rows", "load"] (spTInit T.C_Tally)) : FnOk P w K mg base CX0 (k + 2) T.a_Tally_taller T.d_Tally_taller ["self", "k"] (spTTall T.C_Tally) := by
  refine T.F_Tally_taller.ok sc_Tally_taller (fun vs H Q E h => ?_) (fun cdv A outer s H vs Q E hr h => ?_)
  · obtain ⟨_, _, _, rfl, _⟩ := h
    rfl
  obtain ⟨v, n, a, rfl, ⟨x, dx, rfl, hx⟩, sa, hn, q⟩ := h
  refine ⟨_, (pss_one (ps_ret (pe_make T.k_Tally G_Tally__init hr (by rfl) T.c_Tally T.b_Tally__init .nil pass0 (pa_cons (pe_fldK K (pv 0) rfl) (pa_cons (pe_op op_add (pe_fldK K (pv 0) rfl) (pe_op op_mulW (pv 1) (pe_fldK K (pv 0) rfl))) (pa_cons (pe_fldK K (pv 0) rfl) pa_nil)))))), ?_⟩
  refine ⟨_, rfl, x, T.C_Tally, dx, _, _, rfl, hx, T.cl_Tally, T.n_plays, tf_p, ?_⟩
  refine ⟨_, rfl, x, T.C_Tally, dx, _, _, rfl, hx, T.cl_Tally, T.n_rows, tf_r, _, rfl, _, rfl, x, T.C_Tally, dx, _, _, rfl, hx, T.cl_Tally, T.n_plays, tf_p, _, _, rfl, rfl, mulW (small_nat (by omega)) sa.1, _, _, rfl, rfl, ?_⟩
  refine ⟨_, rfl, x, T.C_Tally, dx, _, _, rfl, hx, T.cl_Tally, T.n_load, tf_l, ?_⟩
  exact fun z dz nz ndz ne => make_tal (t := a.tall n) q nz ndz ne
def spTCut (C : Addr) : Sp := fun vs H Q _ => ∃ (v : V) (f : Nat) (a : T3), vs = [v, iv f] ∧ TalAt C H v a ∧ a.Sm ∧ f < 2 ^ 30 ∧ a.p ≤ a.r ∧ Gives C H Q (a.cut f)
theorem ok_Tally_cut {k : Nat} (T : Tx K mg w) (G_Tally__init : FnOk P w K mg base CX0 k T.a_Tally__init T.d_Tally__init ["self", "plays", "rows", "load"] (spTInit T.C_Tally)) : FnOk P w K mg base CX0 (k + 2) T.a_Tally_cut T.d_Tally_cut ["self", "factor"] (spTCut T.C_Tally) := by
  refine T.F_Tally_cut.ok sc_Tally_cut (fun vs H Q E h => ?_) (fun cdv A outer s H vs Q E hr h => ?_)
  · obtain ⟨_, _, _, rfl, _⟩ := h
    rfl
  obtain ⟨v, n, a, rfl, ⟨x, dx, rfl, hx⟩, sa, hn, hpr, q⟩ := h
  refine ⟨_, (pss_one (ps_ret (pe_make T.k_Tally G_Tally__init hr (by rfl) T.c_Tally T.b_Tally__init .nil pass0 (pa_cons (pe_fldK K (pv 0) rfl) (pa_cons (pe_fldK K (pv 0) rfl) (pa_cons (pe_op op_add (pe_fldK K (pv 0) rfl) (pe_op op_mulW (pv 1) (pe_op op_sub (pe_fldK K (pv 0) rfl) (pe_fldK K (pv 0) rfl)))) pa_nil)))))), ?_⟩
  refine ⟨_, rfl, x, T.C_Tally, dx, _, _, rfl, hx, T.cl_Tally, T.n_plays, tf_p, ?_⟩
  refine ⟨_, rfl, x, T.C_Tally, dx, _, _, rfl, hx, T.cl_Tally, T.n_rows, tf_r, ?_⟩
  have e : ((a.r : Int) - (a.p : Int)) = ((a.r - a.p : Nat) : Int) := by omega
  refine ⟨_, rfl, x, T.C_Tally, dx, _, _, rfl, hx, T.cl_Tally, T.n_load, tf_l, _, rfl, _, rfl, x, T.C_Tally, dx, _, _, rfl, hx, T.cl_Tally, T.n_rows, tf_r, _, rfl, x, T.C_Tally, dx, _, _, rfl, hx, T.cl_Tally, T.n_plays, tf_p, _, _, rfl, rfl, ?_⟩
  refine ⟨_, _, rfl, rfl, by rw [e]; exact mulW (small_nat hn) (Nat.lt_of_le_of_lt (Nat.sub_le _ _) sa.2.1), _, _, rfl, rfl, ?_⟩
  intro z dz nz ndz ne
  have m := make_tal (t := a.cut n) q nz ndz ne
  have e2 : iv (a.cut n).l = V.int ((a.l : Int) + (n : Int) * ((a.r : Int) - (a.p : Int))) := by
    rw [e]
    rfl
  rw [e2] at m
  exact m
def spTTriple (C : Addr) : Sp := fun vs H Q _ => ∃ (v : V) (a : T3), vs = [v] ∧ TalAt C H v a ∧ ∀ b, H b = none → Q (.ref b) (upd H b (.tup [iv a.p, iv a.r, iv a.l]))
theorem ok_Tally_triple {k : Nat} (T : Tx K mg w) : FnOk P w K mg base CX0 (k + 1) T.a_Tally_triple T.d_Tally_triple ["self"] (spTTriple T.C_Tally) := by
  refine T.F_Tally_triple.ok sc_Tally_triple (fun vs H Q E h => ?_) (fun cdv A outer s H vs Q E hr h => ?_)
  · obtain ⟨_, _, rfl, _⟩ := h
    rfl
  obtain ⟨v, a, rfl, ⟨x, dx, rfl, hx⟩, q⟩ := h
  refine ⟨_, (pss_one (ps_ret (pe_tup (pa_cons (pe_fldK K (pv 0) rfl) (pa_cons (pe_fldK K (pv 0) rfl) (pa_cons (pe_fldK K (pv 0) rfl) pa_nil)))))), ?_⟩
  exact ⟨_, rfl, x, T.C_Tally, dx, _, _, rfl, hx, T.cl_Tally, T.n_plays, tf_p, _, rfl, x, T.C_Tally, dx, _, _, rfl, hx, T.cl_Tally, T.n_rows, tf_r, _, rfl, x, T.C_Tally, dx, _, _, rfl, hx, T.cl_Tally, T.n_load, tf_l, (by show 3 ≤ sizeLine; decide), q⟩
theorem make_tal1 {C : Addr} {H : Hp} {R : VK} {t : T3} {x dx : Addr} {vs : List V} (hv : vs = [.ref x, iv t.p, iv t.r, iv t.l]) (nx : H x = none) (ndx : H dx = none) (ne : dx ≠ x) (q : ∀ H', Same H H' → TalAt C H' (.ref x) t → R .non H') :
    spTInit C vs (upd (upd H dx (.own x)) x (.ins C dx [])) R E0 := by
  subst hv
  exact make_tal (Q := fun v H' => v = .ref x → R .non H') (fun H' v s h e => by subst e; exact q H' s h) nx ndx ne |> fun ⟨a, b, c, e1, e2, h1, h2⟩ => ⟨a, b, c, e1, e2, h2 rfl⟩
def spTCopied (C : Addr) : Sp := fun vs H Q _ => ∃ (v : V) (n : Nat) (a : T3), vs = [v, iv n] ∧ TalAt C H v a ∧ a.Sm ∧ n ≤ 100000 ∧ (∀ i, i ≤ n → (a.pow i).Sm) ∧ Gives C H Q (a.pow n)
theorem ok_Tally_copied {k : Nat} (T : Tx K mg w) (G_Tally__init : FnOk P w K mg base CX0 k T.a_Tally__init T.d_Tally__init ["self", "plays", "rows", "load"] (spTInit T.C_Tally)) (G_Tally__mul : FnOk P w K mg base CX0 (k + 1) T.a_Tally__mul T.d_Tally__mul ["self", "other"] (spTMul T.C_Tally)) :
    FnOk P w K mg base CX0 (k + 2) T.a_Tally_copied T.d_Tally_copied ["self", "n"] (spTCopied T.C_Tally) := by
  refine T.F_Tally_copied.ok sc_Tally_copied (fun vs H Q E h => ?_) (fun cdv A outer s H vs Q E hr h => ?_)
  · obtain ⟨_, _, _, rfl, _⟩ := h
    rfl
  obtain ⟨v, n, a, rfl, ha, sa, hn, hp, q⟩ := h
  refine ⟨_, (pss_cons (ps_set (i := 2) sc_Tally_copied.nd rfl (Or.inl rfl) (pe_make T.k_Tally G_Tally__init hr (by rfl) T.c_Tally T.b_Tally__init .nil pass0 (pa_cons pe_int (pa_cons pe_int (pa_cons pe_int pa_nil)))))
      (pss_cons (ps_for PassesOwn.never rfl (pi_range1 (by rfl) T.z_range (pa_cons (pv 1) pa_nil)) (pg_name (i := 3) sc_Tally_copied.nd rfl (Or.inl rfl)) (pss_one (ps_set (i := 2) sc_Tally_copied.nd rfl (Or.inl rfl) (pe_op (op_own rfl T.of_Tally__mul T.oi_Tally__mul T.sf_Tally G_Tally__mul hr T.b_Tally__mul pass0) (pv 2) (pv 0)))))
      (pss_one (ps_ret (pv 2))))), ?_⟩
  intro z dz nz ndz ne
  refine make_tal1 (t := T3.one) (x := z) rfl nz ndz ne (fun H1 s1 h1 => ⟨rfl, ?_⟩)
  refine ⟨_, rfl, _, rfl, by omega, by omega, ?_⟩
  refine for_range (lo := 0) (n := n) (fun i σ' H' => Same H H' ∧ ∃ t y, TalAt T.C_Tally H' t (a.pow i) ∧ σ' = [some v, some (iv n), some t, y]) ⟨s1, .ref z, none, h1, rfl⟩ ?_ ?_
  · rintro i σ' H' hi ⟨sm, t, y, ht, rfl⟩
    rw [Int.zero_add]
    obtain ⟨x1, d1, rfl, e1⟩ := ht
    obtain ⟨x2, d2, rfl, e2⟩ := ha.same sm
    refine ⟨_, rfl, _, rfl, x1, x2, d1, d2, _, _, rfl, rfl, e1, e2, .ref x1, .ref x2, a.pow i, a, rfl, ⟨x1, d1, rfl, e1⟩, ⟨x2, d2, rfl, e2⟩, hp i (by omega), sa, fun H2 u s2 h2 => ?_⟩
    obtain ⟨x3, d3, rfl, e3⟩ := h2
    exact ⟨x3, rfl, sm.trans s2, .ref x3, _, ⟨x3, d3, rfl, e3⟩, rfl⟩
  · rintro σ' H' ⟨sm, t, y, ht, rfl⟩
    exact ⟨_, rfl, q H' t sm ht⟩
end
end W77
namespace W77
open PySem PySem.Spec PyProof.Rows L2 HX
/-! ### kinds -/
def modeD : Mode → PyData
  | .once => .str "once"
  | .box n d => .tuple [.int n, .int d]
theorem mode_dp {K : PySem.W.Frag} {H : Hp} {v : V} {m : Mode} (h : ModeAt K H v m) : Dp K H v (modeD m) := by
  cases m with
  | once =>
    have h : v = .str "once" := h
    subst h
    exact .str _
  | box n d =>
    obtain ⟨a, rfl, q⟩ := h
    exact .tup q (.cons (.int _) (.cons (.int _) .nil))
theorem once_shaped : SeqAt.shaped (.str "once") = true := by decide +kernel
theorem mode_shaped (m : Mode) : SeqAt.shaped (modeD m) = true := by
  cases m with
  | once => exact once_shaped
  | box n d =>
    unfold SeqAt.shaped modeD
    simp only [PyData.canLay0, PyData.canLayAll0, PyData.depth, PyData.depthAll, Bool.and_self]
    rfl
def Mode.isOnce : Mode → Bool
  | .once => true
  | .box _ _ => false
theorem mode_eqv (m : Mode) : PyData.eqv (modeD m) (.str "once") = m.isOnce := by
  cases m with
  | once => simp [modeD, PyData.eqv, Mode.isOnce]
  | box n d => simp [modeD, PyData.eqv, Mode.isOnce]
section
variable {P : Program} {w : World} {K : PySem.W.Frag} {mg : Str → Option Value} {base : Heap}
def spCopies (K : PySem.W.Frag) : Sp := fun vs H Q _ => ∃ (v : V) (m : Mode), vs = [v] ∧ ModeAt K H v m ∧ Q (iv m.n) H
theorem ok_copies {k : Nat} (T : Tx K mg w) : FnOk P w K mg base CX0 (k + 1) T.a_copies T.d_copies ["kind"] (spCopies K) := by
  refine T.F_copies.ok sc_copies (fun vs H Q E h => ?_) (fun cdv A outer s H vs Q E hr h => ?_)
  · obtain ⟨_, _, rfl, _⟩ := h
    rfl
  obtain ⟨v, m, rfl, hm, q⟩ := h
  refine ⟨_, (pss_cons (ps_if (pt_cmpR (eqD K hr.units) (pv 0) pe_str (nomark _)) (pss_one (ps_ret pe_int)) pss_nil)
      (pss_one (ps_ret (pe_ix (ixT K) (pv 0) pe_int (fun _ _ => rfl))))), ?_⟩
  refine ⟨_, rfl, _, _, mode_dp hm, .str _, mode_shaped m, once_shaped, _, rfl, ?_⟩
  rw [mode_eqv]
  cases m with
  | once => exact iteT q
  | box n d =>
    obtain ⟨a, rfl, ha⟩ := hm
    exact iteF ⟨_, rfl, a, _, 0, _, rfl, rfl, ha, rfl, q⟩
def boxT (a : T3) : Mode → T3
  | .once => a
  | .box n _ => (a.tall 1).pow n
def spBoxed (K : PySem.W.Frag) (C : Addr) : Sp := fun vs H Q _ => ∃ (v u : V) (a : T3) (m : Mode), vs = [v, u] ∧ TalAt C H v a ∧ ModeAt K H u m ∧ a.Sm ∧ (a.tall 1).Sm ∧ m.n ≤ 100000 ∧ (∀ i, i ≤ m.n → ((a.tall 1).pow i).Sm) ∧ Gives C H Q (boxT a m)
theorem ok_boxed_tally {k : Nat} (T : Tx K mg w) (G_Tally_taller : FnOk P w K mg base CX0 k T.a_Tally_taller T.d_Tally_taller ["self", "k"] (spTTall T.C_Tally)) (G_Tally_copied : FnOk P w K mg base CX0 k T.a_Tally_copied T.d_Tally_copied ["self", "n"] (spTCopied T.C_Tally)) :
    FnOk P w K mg base CX0 (k + 1) T.a_boxed_tally T.d_boxed_tally ["found", "kind"] (spBoxed K T.C_Tally) := by
  refine T.F_boxed_tally.ok sc_boxed_tally (fun vs H Q E h => ?_) (fun cdv A outer s H vs Q E hr h => ?_)
  · obtain ⟨_, _, _, _, rfl, _⟩ := h
    rfl
  obtain ⟨v, u, a, m, rfl, ha, hm, sa, s1, hn, hp, q⟩ := h
  refine ⟨_, (pss_cons (ps_if (pt_cmpR (eqD K hr.units) (pv 1) pe_str (nomark _)) (pss_one (ps_ret (pv 0))) pss_nil)
      (pss_one (ps_ret (pe_meth (pe_meth (pv 0) T.cl_Tally T.mt_Tally_taller G_Tally_taller hr T.b_Tally_taller .nil pass0 (pa_cons pe_int pa_nil)) T.cl_Tally T.mt_Tally_copied G_Tally_copied hr T.b_Tally_copied .nil pass0 (pa_cons (pe_ix (ixT K) (pv 1) pe_int (fun _ _ => rfl)) pa_nil))))), ?_⟩
  refine ⟨_, rfl, _, _, mode_dp hm, .str _, mode_shaped m, once_shaped, _, rfl, ?_⟩
  rw [mode_eqv]
  cases m with
  | once => exact iteT ⟨_, rfl, q H v (Same.refl H) ha⟩
  | box n d =>
    refine iteF ?_
    obtain ⟨c, rfl, hc⟩ := hm
    obtain ⟨x, dx, rfl, hx⟩ := id ha
    refine ⟨_, rfl, x, dx, _, rfl, hx, tf_no (by decide +kernel) (by decide +kernel) (by decide +kernel), .ref x, 1, a, rfl, ha, sa, by decide, fun H1 v1 sm1 h1 => ?_⟩
    obtain ⟨y, dy, rfl, hy⟩ := id h1
    refine ⟨y, dy, _, rfl, hy, tf_no (by decide +kernel) (by decide +kernel) (by decide +kernel), _, rfl, c, _, 0, _, rfl, rfl, (kpT_same sm1).tup hc, rfl, .ref y, n, a.tall 1, rfl, h1, s1, hn, hp, fun H2 v2 sm2 h2 => q H2 v2 (sm1.trans sm2) h2⟩
end
end W77
namespace W77
/-! ### plays, in plain Lean -/
abbrev Pl := Nat × Nat
def pad (a b : Pl) : Pl := (a.1 + b.1, a.2 + b.2)
def jn (A B : List Pl) : List Pl := A.flatMap fun a => B.map (pad a)
def lg (A : List Pl) (r l : Nat) : List Pl := A.map fun a => (a.1 + r, a.2 + l)
def pw (W : List Pl) : Nat → List Pl
  | 0 => [(0, 0)]
  | n + 1 => jn (pw W n) W
def it (B W : List Pl) : Nat → List Pl
  | 0 => B
  | n + 1 => jn (it B W n) W
theorem pad_comm (a b : Pl) : pad a b = pad b a := by
  unfold pad
  rw [Nat.add_comm a.1, Nat.add_comm a.2]
theorem pad_assoc (a b c : Pl) : pad (pad a b) c = pad a (pad b c) := by
  unfold pad
  simp only [Nat.add_assoc]
theorem flat_cons {α β : Type} (f : α → β) (g : α → List β) : ∀ B : List α, (B.flatMap fun b => f b :: g b).Perm (B.map f ++ B.flatMap g)
  | [] => .nil
  | b :: B => by
    rw [List.flatMap_cons, List.flatMap_cons, List.map_cons, List.cons_append, List.cons_append]
    refine .cons _ ?_
    refine (List.Perm.append_left (g b) (flat_cons f g B)).trans ?_
    rw [← List.append_assoc, ← List.append_assoc]
    exact List.Perm.append_right _ List.perm_append_comm
theorem jn_nil (A : List Pl) : jn A [] = [] := by
  unfold jn
  induction A with
  | nil => rfl
  | cons a A ih => rw [List.flatMap_cons, ih]; rfl
theorem jn_comm : ∀ A B : List Pl, (jn A B).Perm (jn B A)
  | [], B => by rw [jn_nil]; exact .nil
  | a :: A, B => by
    have h : jn B (a :: A) = B.flatMap fun b => pad b a :: A.map (pad b) := rfl
    rw [h]
    refine List.Perm.trans ?_ (flat_cons (fun b => pad b a) (fun b => A.map (pad b)) B).symm
    have e : B.map (pad a) = B.map fun b => pad b a := by
      refine List.map_congr_left fun b _ => pad_comm a b
    show (B.map (pad a) ++ jn A B).Perm _
    rw [e]
    exact List.Perm.append_left _ (jn_comm A B)
theorem jn_left {A A' : List Pl} (B : List Pl) (h : A.Perm A') : (jn A B).Perm (jn A' B) := List.Perm.flatMap_right _ h
theorem jn_right (A : List Pl) {B B' : List Pl} (h : B.Perm B') : (jn A B).Perm (jn A B') := (jn_comm A B).trans ((jn_left A h).trans (jn_comm B' A))
theorem jn_app (A A' B : List Pl) : jn (A ++ A') B = jn A B ++ jn A' B := List.flatMap_append
theorem jn_map (a : Pl) (B C : List Pl) : jn (B.map (pad a)) C = (jn B C).map (pad a) := by
  unfold jn
  rw [List.flatMap_map, List.map_flatMap]
  congr 1
  funext b
  rw [List.map_map]
  refine List.map_congr_left fun c _ => pad_assoc a b c
theorem jn_assoc (A B C : List Pl) : jn (jn A B) C = jn A (jn B C) := by
  induction A with
  | nil => rfl
  | cons a A ih =>
    show jn (B.map (pad a) ++ jn A B) C = (jn B C).map (pad a) ++ jn A (jn B C)
    rw [jn_app, ih, jn_map]
theorem jn_zero (B : List Pl) : jn [(0, 0)] B = B := by
  show B.map (pad (0, 0)) ++ [] = B
  rw [List.append_nil]
  conv => rhs; rw [← List.map_id B]
  refine List.map_congr_left fun b _ => ?_
  show ((0 + b.1, 0 + b.2) : Pl) = b
  rw [Nat.zero_add, Nat.zero_add]
theorem pw_it (B W : List Pl) : ∀ n, (jn (pw W n) B).Perm (it B W n)
  | 0 => by rw [pw, jn_zero]; exact .refl _
  | n + 1 => by
    rw [pw, it, jn_assoc]
    refine (jn_right _ (jn_comm W B)).trans ?_
    rw [← jn_assoc]
    exact jn_left W (pw_it B W n)
/-! ### counts -/
def lookP (k : Pl) : List (Pl × Nat) → Nat
  | [] => 0
  | p :: D => if p.1 = k then p.2 else lookP k D
def addP (k : Pl) (m : Nat) : List (Pl × Nat) → List (Pl × Nat)
  | [] => [(k, m)]
  | p :: D => if p.1 = k then (p.1, p.2 + m) :: D else p :: addP k m D
def expd (D : List (Pl × Nat)) : List Pl := D.flatMap fun p => List.replicate p.2 p.1
theorem expd_cons (p : Pl × Nat) (D : List (Pl × Nat)) : expd (p :: D) = List.replicate p.2 p.1 ++ expd D := rfl
theorem expd_add (k : Pl) (m : Nat) : ∀ D, (expd (addP k m D)).Perm (expd D ++ List.replicate m k)
  | [] => by
    show (List.replicate m k ++ []).Perm ([] ++ List.replicate m k)
    rw [List.append_nil, List.nil_append]
  | p :: D => by
    unfold addP
    by_cases h : p.1 = k
    · rw [if_pos h, expd_cons, expd_cons, List.append_assoc]
      rw [show (p.1, p.2 + m).2 = p.2 + m from rfl, show (p.1, p.2 + m).1 = p.1 from rfl, ← List.replicate_append_replicate, List.append_assoc, ← h]
      exact List.Perm.append_left _ List.perm_append_comm
    · rw [if_neg h, expd_cons, expd_cons, List.append_assoc]
      exact List.Perm.append_left _ (expd_add k m D)
theorem keys_add (k : Pl) (m : Nat) : ∀ D, (addP k m D).map (·.1) = if k ∈ D.map (·.1) then D.map (·.1) else D.map (·.1) ++ [k]
  | [] => rfl
  | p :: D => by
    unfold addP
    by_cases h : p.1 = k
    · rw [if_pos h, if_pos (by rw [List.map_cons, h]; exact List.mem_cons_self)]
      rfl
    · rw [if_neg h, List.map_cons, List.map_cons, keys_add k m D]
      by_cases h2 : k ∈ D.map (·.1)
      · rw [if_pos h2, if_pos (List.mem_cons_of_mem _ h2)]
      · rw [if_neg h2, if_neg (fun z => ?_)]
        · rfl
        · rcases List.mem_cons.mp z with e | e
          · exact h e.symm
          · exact h2 e
theorem nd_add {k : Pl} {m : Nat} {D : List (Pl × Nat)} (h : (D.map (·.1)).Nodup) : ((addP k m D).map (·.1)).Nodup := by
  rw [keys_add]
  split
  · exact h
  · rename_i hk
    rw [List.nodup_append]
    refine ⟨h, List.nodup_cons.mpr ⟨List.not_mem_nil, List.nodup_nil⟩, fun a ha b hb => ?_⟩
    rw [List.mem_singleton] at hb
    subst hb
    exact fun e => hk (e ▸ ha)
theorem pos_add {k : Pl} {m : Nat} (hm : 0 < m) : ∀ {D : List (Pl × Nat)}, (∀ p ∈ D, 0 < p.2) → ∀ p ∈ addP k m D, 0 < p.2
  | [], _, p, hp => by
    rw [addP, List.mem_singleton] at hp
    subst hp
    exact hm
  | q :: D, h, p, hp => by
    unfold addP at hp
    split at hp
    · rcases List.mem_cons.mp hp with e | e
      · subst e
        exact Nat.add_pos_right _ hm
      · exact h p (List.mem_cons_of_mem _ e)
    · rcases List.mem_cons.mp hp with e | e
      · subst e
        exact h _ List.mem_cons_self
      · exact pos_add hm (fun p hp => h p (List.mem_cons_of_mem _ hp)) p e
/-- a table of how often each play stands in a list -/
structure Rep (D : List (Pl × Nat)) (L : List Pl) : Prop where
  nd : (D.map (·.1)).Nodup
  ps : ∀ p ∈ D, 0 < p.2
  pm : (expd D).Perm L
theorem Rep.nil : Rep [] [] := ⟨List.nodup_nil, fun p hp => absurd hp List.not_mem_nil, .nil⟩
theorem Rep.perm {D : List (Pl × Nat)} {L M : List Pl} (h : Rep D L) (e : L.Perm M) : Rep D M := ⟨h.nd, h.ps, h.pm.trans e⟩
theorem Rep.add {D : List (Pl × Nat)} {L : List Pl} (h : Rep D L) (k : Pl) {m : Nat} (hm : 0 < m) : Rep (addP k m D) (L ++ List.replicate m k) :=
  ⟨nd_add h.nd, pos_add hm h.ps, (expd_add k m D).trans (List.Perm.append_right _ h.pm)⟩
theorem look_mem {k : Pl} {n : Nat} : ∀ {D : List (Pl × Nat)}, (D.map (·.1)).Nodup → (k, n) ∈ D → lookP k D = n
  | [], _, h => absurd h List.not_mem_nil
  | p :: D, nd, h => by
    rw [List.map_cons, List.nodup_cons] at nd
    unfold lookP
    rcases List.mem_cons.mp h with e | e
    · subst e
      exact if_pos rfl
    · have ne : ¬ p.1 = k := fun z => nd.1 (z ▸ List.mem_map_of_mem (f := (·.1)) e)
      rw [if_neg ne]
      exact look_mem nd.2 e
theorem count_expd (k : Pl) : ∀ {D : List (Pl × Nat)}, (D.map (·.1)).Nodup → (expd D).count k = lookP k D
  | [], _ => rfl
  | p :: D, nd => by
    rw [List.map_cons, List.nodup_cons] at nd
    rw [expd_cons, List.count_append, List.count_replicate, count_expd k nd.2]
    rw [show lookP k (p :: D) = if p.1 = k then p.2 else lookP k D from rfl]
    by_cases h : p.1 = k
    · rw [if_pos h, if_pos (by rw [h]; exact beq_self_eq_true k)]
      have : lookP k D = 0 := by
        subst h
        have z := nd.1
        clear nd
        induction D with
        | nil => rfl
        | cons q D ih =>
          rw [List.map_cons, List.mem_cons, not_or] at z
          unfold lookP
          rw [if_neg (fun e => z.1 e.symm)]
          exact ih z.2
      omega
    · rw [if_neg h, if_neg (by simpa using h), Nat.zero_add]
theorem look_pos {k : Pl} : ∀ {D : List (Pl × Nat)}, 0 < lookP k D → (k, lookP k D) ∈ D
  | [], h => absurd h (Nat.lt_irrefl 0)
  | p :: D, h => by
    unfold lookP at h ⊢
    by_cases e : p.1 = k
    · rw [if_pos e]
      rw [← e]
      exact List.mem_cons_self
    · rw [if_neg e] at h ⊢
      exact List.mem_cons_of_mem _ (look_pos h)
theorem Rep.mem {D : List (Pl × Nat)} {L : List Pl} (h : Rep D L) {k : Pl} {n : Nat} : (k, n) ∈ D ↔ L.count k = n ∧ 0 < n := by
  have c : L.count k = lookP k D := by rw [← count_expd k h.nd, h.pm.count_eq]
  constructor
  · intro m
    exact ⟨by rw [c, look_mem h.nd m], h.ps _ m⟩
  · rintro ⟨e, p⟩
    rw [c] at e
    subst e
    exact look_pos p
theorem Rep.same {D E : List (Pl × Nat)} {L M : List Pl} (h : Rep D L) (g : Rep E M) (e : L.Perm M) : ∀ p, p ∈ D ↔ p ∈ E := by
  rintro ⟨k, n⟩
  rw [h.mem, g.mem, e.count_eq]
theorem nd_of {D : List (Pl × Nat)} (h : (D.map (·.1)).Nodup) : D.Nodup := by
  rw [List.Nodup, List.pairwise_map] at h
  exact h.imp fun z e => z (by rw [e])
theorem Rep.len {D E : List (Pl × Nat)} {L M : List Pl} (h : Rep D L) (g : Rep E M) (e : L.Perm M) : D.length = E.length := by
  have p : D.Perm E := by
    rw [List.perm_ext_iff_of_nodup (nd_of h.nd) (nd_of g.nd)]
    exact h.same g e
  exact p.length_eq
theorem len_expd : ∀ {D : List (Pl × Nat)}, (∀ p ∈ D, 0 < p.2) → D.length ≤ (expd D).length
  | [], _ => Nat.le_refl _
  | p :: D, h => by
    rw [expd_cons, List.length_append, List.length_replicate, List.length_cons]
    have h1 := h p List.mem_cons_self
    have h2 := len_expd (D := D) fun q hq => h q (List.mem_cons_of_mem _ hq)
    omega
theorem Rep.le {D : List (Pl × Nat)} {L : List Pl} (h : Rep D L) : D.length ≤ L.length := by
  rw [← h.pm.length_eq]
  exact len_expd h.ps
theorem Rep.key {D : List (Pl × Nat)} {L : List Pl} (h : Rep D L) {p : Pl × Nat} (hp : p ∈ D) : p.1 ∈ L := by
  obtain ⟨k, n⟩ := p
  obtain ⟨e, z⟩ := h.mem.mp hp
  have z2 : 0 < L.count k := by rw [e]; exact z
  exact List.count_pos_iff.mp z2
/-- all of a table, moved -/
theorem expd_map (f : Pl → Pl) (D : List (Pl × Nat)) : (expd D).map f = D.flatMap fun p => List.replicate p.2 (f p.1) := by
  unfold expd
  rw [List.map_flatMap]
  congr 1
  funext p
  rw [List.map_replicate]
theorem rep_flat (a : Nat) (m : Nat) (k : Pl) : (List.replicate a k).flatMap (fun _ => List.replicate m k) = List.replicate (a * m) k := by
  induction a with
  | zero => simp
  | succ a ih => rw [List.replicate_succ, List.flatMap_cons, ih, List.replicate_append_replicate, Nat.succ_mul, Nat.add_comm]
theorem jn_rep (n m : Nat) (a b : Pl) : jn (List.replicate n a) (List.replicate m b) = List.replicate (n * m) (pad a b) := by
  unfold jn
  induction n with
  | zero => simp
  | succ n ih => rw [List.replicate_succ, List.flatMap_cons, ih, List.map_replicate, List.replicate_append_replicate, Nat.succ_mul, Nat.add_comm]
theorem jn_app_right (A B C : List Pl) : (jn A (B ++ C)).Perm (jn A B ++ jn A C) := by
  refine (jn_comm A (B ++ C)).trans ?_
  rw [jn_app]
  exact (jn_comm B A).append (jn_comm C A)
/-- one row of a product -/
theorem jn_row (n : Nat) (a : Pl) : ∀ E : List (Pl × Nat), (jn (List.replicate n a) (expd E)).Perm (E.flatMap fun q => List.replicate (n * q.2) (pad a q.1))
  | [] => by rw [show expd [] = [] from rfl, jn_nil]; exact .nil
  | q :: E => by
    rw [expd_cons, List.flatMap_cons]
    refine (jn_app_right _ _ _).trans ?_
    rw [jn_rep]
    exact List.Perm.append_left _ (jn_row n a E)
theorem jn_len (A B : List Pl) : (jn A B).length = A.length * B.length := by
  unfold jn
  induction A with
  | nil => simp
  | cons a A ih => rw [List.flatMap_cons, List.length_append, ih, List.length_map, List.length_cons, Nat.succ_mul, Nat.add_comm]
theorem mem_jn {A B : List Pl} {x : Pl} : x ∈ jn A B ↔ ∃ a ∈ A, ∃ b ∈ B, x = pad a b := by
  unfold jn
  rw [List.mem_flatMap]
  constructor
  · rintro ⟨a, ha, h⟩
    obtain ⟨b, hb, e⟩ := List.mem_map.mp h
    exact ⟨a, ha, b, hb, e.symm⟩
  · rintro ⟨a, ha, b, hb, e⟩
    exact ⟨a, ha, List.mem_map.mpr ⟨b, hb, e.symm⟩⟩
end W77
namespace W77
/-! ### what a derivation's tally is, and its plays -/
theorem T3.mul_comm (a b : T3) : a.mul b = b.mul a := by
  unfold T3.mul
  rw [Nat.mul_comm a.p, Nat.add_comm (a.r * b.p), Nat.add_comm (a.l * b.p)]
theorem T3.mul_assoc (a b c : T3) : (a.mul b).mul c = a.mul (b.mul c) := by
  obtain ⟨a1, a2, a3⟩ := a
  obtain ⟨b1, b2, b3⟩ := b
  obtain ⟨c1, c2, c3⟩ := c
  unfold T3.mul
  dsimp only
  congr 1 <;> grind
theorem T3.one_mul (a : T3) : T3.one.mul a = a := by
  obtain ⟨a1, a2, a3⟩ := a
  unfold T3.mul T3.one
  dsimp only
  congr 1 <;> omega
def T3.it (b a : T3) : Nat → T3
  | 0 => b
  | n + 1 => (T3.it b a n).mul a
theorem T3.pow_it (a b : T3) : ∀ n, (a.pow n).mul b = T3.it b a n
  | 0 => T3.one_mul b
  | n + 1 => by
    show ((a.pow n).mul a).mul b = (T3.it b a n).mul a
    rw [T3.mul_assoc, T3.mul_comm a b, ← T3.mul_assoc, T3.pow_it a b n]
def Dv.tal : Dv → T3
  | .own _ => ⟨1, 1, 0⟩
  | .pick _ _ b => b.tal.tall 1
  | .offer a b => (a.tal.add b.tal).tall 1
  | .cut m _ a b => ((boxT a.tal m).mul b.tal).cut m.n
  | .pay _ m a b => ((boxT a.tal m).mul b.tal).tall 1
def boxL (A : List Pl) : Mode → List Pl
  | .once => A
  | .box n _ => pw (lg A 1 0) n
def cutL (A : List Pl) (n : Nat) : List Pl := A.map fun x => (x.1, x.2 + n * (x.1 - 1))
def Dv.pl : Dv → List Pl
  | .own _ => [(1, 0)]
  | .pick _ _ b => lg b.pl 1 0
  | .offer a b => lg (a.pl ++ b.pl) 1 0
  | .cut m _ a b => cutL (jn (boxL a.pl m) b.pl) m.n
  | .pay _ m a b => lg (jn (boxL a.pl m) b.pl) 1 0
/-- the greatest part that is paid or cut: of its copies -/
def boxG (g : Nat) : Mode → Nat
  | .once => g
  | .box n _ => n * (g + 1)
theorem Dv.gp_cut (m : Mode) (mn : Bool) (a b : Dv) : (Dv.cut m mn a b).gp = boxG a.gp m + b.gp := by
  cases m <;> rfl
theorem Dv.gp_pay (nm : PySem.Str) (m : Mode) (a b : Dv) : (Dv.pay nm m a b).gp = boxG a.gp m + b.gp + 1 := by
  cases m <;> rfl
/-- no play has a greater load -/
def Dv.ml : Dv → Nat
  | .own _ => 0
  | .pick _ _ b => b.ml
  | .offer a b => max a.ml b.ml
  | .cut m mn a b => m.n * a.ml + b.ml + m.n * (boxG a.gp m + b.gp)
  | .pay _ m a b => m.n * a.ml + b.ml
theorem lg_len (A : List Pl) (r l : Nat) : (lg A r l).length = A.length := List.length_map _
theorem cutL_len (A : List Pl) (n : Nat) : (cutL A n).length = A.length := List.length_map _
theorem pw_len (W : List Pl) (a : T3) (h : W.length = a.p) : ∀ n, (pw W n).length = (a.pow n).p
  | 0 => rfl
  | n + 1 => by
    show (jn (pw W n) W).length = (a.pow n).p * a.p
    rw [jn_len, pw_len W a h n, h]
theorem box_len (A : List Pl) (a : T3) (h : A.length = a.p) (m : Mode) : (boxL A m).length = (boxT a m).p := by
  cases m with
  | once => exact h
  | box n d => exact pw_len _ (a.tall 1) (by rw [lg_len]; exact h) n
theorem Dv.pl_len : ∀ t : Dv, t.pl.length = t.tal.p
  | .own _ => rfl
  | .pick _ _ b => by rw [Dv.pl, lg_len, Dv.pl_len b]; rfl
  | .offer a b => by
    rw [Dv.pl, lg_len, List.length_append, Dv.pl_len a, Dv.pl_len b]
    rfl
  | .cut m _ a b => by
    rw [Dv.pl, cutL_len, jn_len, box_len _ _ (Dv.pl_len a), Dv.pl_len b]
    rfl
  | .pay _ m a b => by
    rw [Dv.pl, lg_len, jn_len, box_len _ _ (Dv.pl_len a), Dv.pl_len b]
    rfl
/-- within bounds -/
def In (A : List Pl) (lo g l : Nat) : Prop := ∀ x ∈ A, lo ≤ x.1 ∧ x.1 ≤ g ∧ x.2 ≤ l
theorem In.jn {A B : List Pl} {o o' g g' l l' : Nat} (h : In A o g l) (k : In B o' g' l') : In (jn A B) (o + o') (g + g') (l + l') := fun x hx => by
  obtain ⟨a, ha, b, hb, rfl⟩ := mem_jn.mp hx
  have h1 := h a ha
  have h2 := k b hb
  unfold pad
  dsimp only
  omega
theorem In.lg {A : List Pl} {o g l : Nat} (h : In A o g l) (k : Nat) : In (lg A k 0) (o + k) (g + k) l := fun x hx => by
  obtain ⟨a, ha, rfl⟩ := List.mem_map.mp hx
  have h1 := h a ha
  dsimp only
  omega
theorem In.mono {A : List Pl} {o o' g g' l l' : Nat} (h : In A o g l) (h1 : o' ≤ o) (h2 : g ≤ g') (h3 : l ≤ l') : In A o' g' l' := fun x hx => by
  have := h x hx
  omega
theorem In.app {A B : List Pl} {o g l : Nat} (h : In A o g l) (k : In B o g l) : In (A ++ B) o g l := fun x hx => (List.mem_append.mp hx).elim (h x) (k x)
theorem In.pw {W : List Pl} {o g l : Nat} (h : In W o g l) : ∀ n, In (pw W n) 0 (n * g) (n * l)
  | 0 => fun x hx => by
    have : x = (0, 0) := List.mem_singleton.mp hx
    subst this
    simp
  | n + 1 => by
    rw [Nat.succ_mul, Nat.succ_mul]
    exact (In.jn (In.pw h n) h).mono (Nat.zero_le _) (Nat.le_refl _) (Nat.le_refl _)
theorem In.it {B W : List Pl} {o g l o' g' l' : Nat} (k : In B o' g' l') (h : In W o g l) : ∀ n, In (it B W n) o' (g' + n * g) (l' + n * l)
  | 0 => by
    rw [Nat.zero_mul, Nat.zero_mul]
    exact k
  | n + 1 => by
    rw [Nat.succ_mul, Nat.succ_mul, ← Nat.add_assoc, ← Nat.add_assoc]
    exact (In.jn (In.it k h n) h).mono (Nat.le_add_right _ _) (Nat.le_refl _) (Nat.le_refl _)
theorem In.box {A : List Pl} {o g l : Nat} (h : In A o g l) (m : Mode) : In (boxL A m) 0 (boxG g m) (m.n * l) := by
  cases m with
  | once =>
    show In A 0 g (1 * l)
    rw [Nat.one_mul]
    exact h.mono (Nat.zero_le _) (Nat.le_refl _) (Nat.le_refl _)
  | box n d => exact In.pw (h.lg 1) n
theorem Dv.pl_in : ∀ t : Dv, In t.pl 1 t.gp t.ml
  | .own _ => fun x hx => by
    have : x = (1, 0) := List.mem_singleton.mp hx
    subst this
    exact ⟨Nat.le_refl _, Nat.le_refl _, Nat.le_refl _⟩
  | .pick _ _ b => ((Dv.pl_in b).lg 1).mono (by omega) (Nat.le_refl _) (Nat.le_refl _)
  | .offer a b => by
    refine (In.lg (((Dv.pl_in a).mono (Nat.le_refl _) (Nat.le_max_left _ b.gp) (Nat.le_max_left _ b.ml)).app ((Dv.pl_in b).mono (Nat.le_refl _) (Nat.le_max_right a.gp _) (Nat.le_max_right a.ml _))) 1).mono (by omega) ?_ ?_
    · exact Nat.le_refl _
    · exact Nat.le_refl _
  | .cut m mn a b => fun x hx => by
    obtain ⟨y, hy, rfl⟩ := List.mem_map.mp hx
    have h := (((Dv.pl_in a).box m).jn (Dv.pl_in b)) y hy
    rw [Dv.gp_cut, Dv.ml]
    dsimp only
    have h2 : m.n * (y.1 - 1) ≤ m.n * (boxG a.gp m + b.gp) := Nat.mul_le_mul_left _ (by omega)
    omega
  | .pay nm m a b => by
    rw [Dv.gp_pay, Dv.ml]
    exact (In.lg (((Dv.pl_in a).box m).jn (Dv.pl_in b)) 1).mono (by omega) (Nat.le_refl _) (Nat.le_refl _)
/-! ### how great the numbers become -/
structure Bd (t : T3) (g l : Nat) : Prop where
  p : t.p ≤ 2 ^ g
  r : t.r ≤ g * 2 ^ g
  l : t.l ≤ l * 2 ^ g
theorem two_pos (g : Nat) : 0 < 2 ^ g := Nat.pow_pos (by decide)
theorem Bd.mono {t : T3} {g g' l l' : Nat} (h : Bd t g l) (h1 : g ≤ g') (h2 : l ≤ l') : Bd t g' l' := by
  have e : 2 ^ g ≤ 2 ^ g' := Nat.pow_le_pow_right (by decide) h1
  exact ⟨Nat.le_trans h.p e, Nat.le_trans h.r (Nat.mul_le_mul h1 e), Nat.le_trans h.l (Nat.mul_le_mul h2 e)⟩
theorem Bd.mul {a b : T3} {g g' l l' : Nat} (h : Bd a g l) (k : Bd b g' l') : Bd (a.mul b) (g + g') (l + l') := by
  have e : 2 ^ (g + g') = 2 ^ g * 2 ^ g' := Nat.pow_add ..
  refine ⟨?_, ?_, ?_⟩
  · rw [e]
    exact Nat.mul_le_mul h.p k.p
  · rw [e, Nat.add_mul]
    refine Nat.add_le_add ?_ ?_
    · rw [← Nat.mul_assoc]
      exact Nat.mul_le_mul h.r k.p
    · rw [Nat.mul_comm (2 ^ g), ← Nat.mul_assoc]
      exact Nat.mul_le_mul k.r h.p
  · rw [e, Nat.add_mul]
    refine Nat.add_le_add ?_ ?_
    · rw [← Nat.mul_assoc]
      exact Nat.mul_le_mul h.l k.p
    · rw [Nat.mul_comm (2 ^ g), ← Nat.mul_assoc]
      exact Nat.mul_le_mul k.l h.p
theorem Bd.tall {a : T3} {g l : Nat} (h : Bd a g l) : Bd (a.tall 1) (g + 1) l := by
  have m := h.mono (Nat.le_succ g) (Nat.le_refl l)
  have e : 2 ^ g ≤ 2 ^ (g + 1) := Nat.pow_le_pow_right (by decide) (Nat.le_succ g)
  refine ⟨m.p, ?_, m.l⟩
  show a.r + 1 * a.p ≤ (g + 1) * 2 ^ (g + 1)
  rw [Nat.one_mul, Nat.succ_mul]
  exact Nat.add_le_add (Nat.le_trans h.r (Nat.mul_le_mul_left _ e)) (Nat.le_trans h.p e)
theorem Bd.add {a b : T3} {g l : Nat} (h : Bd a g l) (k : Bd b g l) : Bd (a.add b) (g + 1) l := by
  have e : 2 ^ (g + 1) = 2 ^ g + 2 ^ g := by rw [Nat.pow_succ]; omega
  refine ⟨?_, ?_, ?_⟩
  · rw [e]
    exact Nat.add_le_add h.p k.p
  · rw [e, Nat.mul_add]
    exact Nat.add_le_add (Nat.le_trans h.r (Nat.mul_le_mul_right _ (Nat.le_succ g))) (Nat.le_trans k.r (Nat.mul_le_mul_right _ (Nat.le_succ g)))
  · rw [e, Nat.mul_add]
    exact Nat.add_le_add h.l k.l
/-- the row above a sum -/
theorem Bd.offer {a b : T3} {g l : Nat} (h : Bd a g l) (k : Bd b g l) : Bd ((a.add b).tall 1) (g + 1) l := by
  have m := h.add k
  have e : 2 ^ (g + 1) = 2 ^ g + 2 ^ g := by rw [Nat.pow_succ]; omega
  refine ⟨m.p, ?_, m.l⟩
  show a.r + b.r + 1 * (a.p + b.p) ≤ (g + 1) * 2 ^ (g + 1)
  have e2 : (g + 1) * 2 ^ (g + 1) = (g * 2 ^ g + 2 ^ g) + (g * 2 ^ g + 2 ^ g) := by rw [e, Nat.mul_add, Nat.succ_mul]
  rw [e2]
  have h1 := h.p
  have h2 := k.p
  have h3 := h.r
  have h4 := k.r
  omega
theorem Bd.cut {a : T3} {g l : Nat} (h : Bd a g l) (f : Nat) : Bd (a.cut f) g (l + f * g) := by
  refine ⟨h.p, h.r, ?_⟩
  show a.l + f * (a.r - a.p) ≤ (l + f * g) * 2 ^ g
  rw [Nat.add_mul, Nat.mul_assoc]
  exact Nat.add_le_add h.l (Nat.mul_le_mul_left _ (Nat.le_trans (Nat.sub_le _ _) h.r))
theorem Bd.pow {a : T3} {g l : Nat} (h : Bd a g l) : ∀ n, Bd (a.pow n) (n * g) (n * l)
  | 0 => by
    rw [Nat.zero_mul, Nat.zero_mul]
    exact ⟨Nat.le_refl _, Nat.zero_le _, Nat.zero_le _⟩
  | n + 1 => by
    rw [Nat.succ_mul, Nat.succ_mul]
    exact (Bd.pow h n).mul h
theorem Bd.it {a b : T3} {g l g' l' : Nat} (k : Bd b g' l') (h : Bd a g l) : ∀ n, Bd (T3.it b a n) (g' + n * g) (l' + n * l)
  | 0 => by
    rw [Nat.zero_mul, Nat.zero_mul]
    exact k
  | n + 1 => by
    rw [Nat.succ_mul, Nat.succ_mul, ← Nat.add_assoc, ← Nat.add_assoc]
    exact (Bd.it k h n).mul h
theorem Bd.box {a : T3} {g l : Nat} (h : Bd a g l) (m : Mode) : Bd (boxT a m) (boxG g m) (m.n * l) := by
  cases m with
  | once =>
    show Bd a g (1 * l)
    rw [Nat.one_mul]
    exact h
  | box n d => exact Bd.pow h.tall n
theorem Dv.bd : ∀ t : Dv, Bd t.tal t.gp t.ml
  | .own _ => ⟨by show 1 ≤ 2; decide, by show 1 ≤ 1 * 2; decide, Nat.zero_le _⟩
  | .pick _ _ b => (Dv.bd b).tall
  | .offer a b => ((Dv.bd a).mono (Nat.le_max_left _ b.gp) (Nat.le_max_left _ b.ml)).offer ((Dv.bd b).mono (Nat.le_max_right a.gp _) (Nat.le_max_right a.ml _))
  | .cut m mn a b => by
    rw [Dv.gp_cut, Dv.ml]
    exact (((Dv.bd a).box m).mul (Dv.bd b)).cut m.n
  | .pay nm m a b => by
    rw [Dv.gp_pay, Dv.ml]
    exact (((Dv.bd a).box m).mul (Dv.bd b)).tall
theorem two_lin (g : Nat) : g ≤ 2 ^ g := Nat.le_of_lt Nat.lt_two_pow_self
theorem Bd.sm {t : T3} {g l : Nat} (h : Bd t g l) (hg : g ≤ 100000) (hl : l ≤ 2 ^ 100000) : t.Sm := by
  have e1 : 2 ^ g ≤ 2 ^ 100000 := Nat.pow_le_pow_right (by decide) hg
  have e2 : g ≤ 2 ^ 100000 := Nat.le_trans (two_lin g) e1
  have e3 : 2 ^ 100000 * 2 ^ 100000 < 2 ^ 400000 := by
    rw [← Nat.pow_add]
    exact Nat.pow_lt_pow_right (by decide) (by decide)
  have e4 : 2 ^ 100000 ≤ 2 ^ 100000 * 2 ^ 100000 := Nat.le_mul_of_pos_right _ (two_pos _)
  refine ⟨?_, ?_, ?_⟩
  · exact Nat.lt_of_le_of_lt h.p (Nat.lt_of_le_of_lt e1 (Nat.lt_of_le_of_lt e4 e3))
  · exact Nat.lt_of_le_of_lt h.r (Nat.lt_of_le_of_lt (Nat.mul_le_mul e2 e1) e3)
  · exact Nat.lt_of_le_of_lt h.l (Nat.lt_of_le_of_lt (Nat.mul_le_mul hl e1) e3)
/-! ### each play has a row -/
structure Ge (t : T3) : Prop where
  p : 1 ≤ t.p
  r : t.p ≤ t.r
theorem Ge.mul {a b : T3} (ha : 1 ≤ a.p) (h : Ge b) : Ge (a.mul b) := by
  refine ⟨Nat.mul_pos ha h.p, ?_⟩
  show a.p * b.p ≤ a.r * b.p + b.r * a.p
  have : a.p * b.p ≤ b.r * a.p := by
    rw [Nat.mul_comm]
    exact Nat.mul_le_mul_right _ h.r
  omega
theorem pow_p {a : T3} (h : 1 ≤ a.p) : ∀ n, 1 ≤ (a.pow n).p
  | 0 => Nat.le_refl _
  | n + 1 => Nat.mul_pos (pow_p h n) h
theorem box_p {a : T3} (h : 1 ≤ a.p) (m : Mode) : 1 ≤ (boxT a m).p := by
  cases m with
  | once => exact h
  | box n d => exact pow_p (a := a.tall 1) h n
theorem Ge.tall {a : T3} (h : Ge a) (k : Nat) : Ge (a.tall k) := ⟨h.p, Nat.le_trans h.r (Nat.le_add_right _ _)⟩
theorem Dv.ge : ∀ t : Dv, Ge t.tal
  | .own _ => ⟨Nat.le_refl _, Nat.le_refl _⟩
  | .pick _ _ b => (Dv.ge b).tall 1
  | .offer a b => Ge.tall ⟨Nat.le_trans (Dv.ge a).p (Nat.le_add_right _ _), Nat.add_le_add (Dv.ge a).r (Dv.ge b).r⟩ 1
  | .cut m _ a b => by
    have z := Ge.mul (box_p (Dv.ge a).p m) (Dv.ge b)
    exact ⟨z.p, z.r⟩
  | .pay _ m a b => (Ge.mul (box_p (Dv.ge a).p m) (Dv.ge b)).tall 1
/-! ### the load is 0 without cuts alone -/
def Dv.cuts : Dv → Bool
  | .own _ => false
  | .pick _ _ b => b.cuts
  | .offer a b => a.cuts || b.cuts
  | .cut _ _ _ _ => true
  | .pay _ _ a b => a.cuts || b.cuts
def Dv.Pos : Dv → Prop
  | .own _ => True
  | .pick _ _ b => b.Pos
  | .offer a b => a.Pos ∧ b.Pos
  | .cut m _ a b => 1 ≤ m.n ∧ a.Pos ∧ b.Pos
  | .pay _ m a b => 1 ≤ m.n ∧ a.Pos ∧ b.Pos
theorem pow_l0 {a : T3} (h : a.l = 0) : ∀ n, (a.pow n).l = 0
  | 0 => rfl
  | n + 1 => by
    show (a.pow n).l * a.p + a.l * (a.pow n).p = 0
    rw [pow_l0 h n, h, Nat.zero_mul, Nat.zero_mul]
theorem box_l0 {a : T3} (h : a.l = 0) (m : Mode) : (boxT a m).l = 0 := by
  cases m with
  | once => exact h
  | box n d => exact pow_l0 (a := a.tall 1) h n
theorem box_l1 {a : T3} (h : 0 < a.l) (hp : 1 ≤ a.p) : ∀ m : Mode, 1 ≤ m.n → 0 < (boxT a m).l
  | .once, _ => h
  | .box 0 d, hn => absurd hn (by show ¬ 1 ≤ 0; omega)
  | .box (n + 1) d, _ => by
    show 0 < ((a.tall 1).pow n).l * a.p + a.l * ((a.tall 1).pow n).p
    have := Nat.mul_pos h (pow_p (a := a.tall 1) hp n)
    omega
theorem box_r {a : T3} (h : Ge a) : ∀ m : Mode, 1 ≤ m.n → 1 ≤ (boxT a m).r
  | .once, _ => Nat.le_trans h.p h.r
  | .box 0 d, hn => absurd hn (by show ¬ 1 ≤ 0; omega)
  | .box (n + 1) d, _ => by
    show 1 ≤ ((a.tall 1).pow n).r * a.p + (a.r + 1 * a.p) * ((a.tall 1).pow n).p
    have h1 := h.p
    have := Nat.mul_pos (show 0 < a.r + 1 * a.p by omega) (pow_p (a := a.tall 1) h.p n)
    omega
theorem mul_l0 {a b : T3} (h : a.l = 0) (k : b.l = 0) : (a.mul b).l = 0 := by
  show a.l * b.p + b.l * a.p = 0
  rw [h, k, Nat.zero_mul, Nat.zero_mul]
theorem mul_l1 {a b : T3} (ha : 1 ≤ a.p) (hb : 1 ≤ b.p) (h : 0 < a.l ∨ 0 < b.l) : 0 < (a.mul b).l := by
  show 0 < a.l * b.p + b.l * a.p
  rcases h with h | h
  · have := Nat.mul_pos h hb
    omega
  · have := Nat.mul_pos h ha
    omega
theorem Dv.load : ∀ t : Dv, t.Pos → (0 < t.tal.l ↔ t.cuts = true)
  | .own _, _ => ⟨fun h => absurd h (Nat.lt_irrefl 0), fun h => by cases h⟩
  | .pick _ _ b, h => Dv.load b h
  | .offer a b, h => by
    have h1 := Dv.load a h.1
    have h2 := Dv.load b h.2
    show 0 < a.tal.l + b.tal.l ↔ (a.cuts || b.cuts) = true
    rw [Bool.or_eq_true, ← h1, ← h2]
    omega
  | .cut m _ a b, h => by
    refine ⟨fun _ => rfl, fun _ => ?_⟩
    show 0 < ((boxT a.tal m).mul b.tal).l + m.n * (((boxT a.tal m).mul b.tal).r - ((boxT a.tal m).mul b.tal).p)
    have z : ((boxT a.tal m).mul b.tal).p < ((boxT a.tal m).mul b.tal).r := by
      show (boxT a.tal m).p * b.tal.p < (boxT a.tal m).r * b.tal.p + b.tal.r * (boxT a.tal m).p
      have h1 := Nat.mul_pos (box_r (Dv.ge a) m h.1) (Dv.ge b).p
      have h2 : (boxT a.tal m).p * b.tal.p ≤ b.tal.r * (boxT a.tal m).p := by
        rw [Nat.mul_comm]
        exact Nat.mul_le_mul_right _ (Dv.ge b).r
      omega
    have := Nat.mul_pos h.1 (show 0 < ((boxT a.tal m).mul b.tal).r - ((boxT a.tal m).mul b.tal).p by omega)
    omega
  | .pay _ m a b, h => by
    have h1 := Dv.load a h.2.1
    have h2 := Dv.load b h.2.2
    show 0 < ((boxT a.tal m).mul b.tal).l ↔ (a.cuts || b.cuts) = true
    rw [Bool.or_eq_true, ← h1, ← h2]
    constructor
    · intro z
      by_cases ha : 0 < a.tal.l
      · exact .inl ha
      · refine .inr ?_
        by_cases hb : 0 < b.tal.l
        · exact hb
        · rw [mul_l0 (box_l0 (by omega) m) (by omega)] at z
          exact absurd z (Nat.lt_irrefl 0)
    · intro z
      refine mul_l1 (box_p (Dv.ge a).p m) (Dv.ge b).p ?_
      rcases z with z | z
      · exact .inl (box_l1 z (Dv.ge a).p m h.1)
      · exact .inr z
end W77
namespace W77
open PySem PySem.Spec PyProof.Rows L2 HX
/-! ### the library, always empty -/
def lf (a m e : Addr) : List (Str × V) := [("changes", .int 0), ("_words", .ref a), ("_meetings", .ref m), ("_entries", .ref e)]
theorem lf_w {a m e : Addr} : (lf a m e).lookup ("_words" : Str) = some (.ref a) := by
  have h1 : (("_words" : Str) == ("changes" : Str)) = false := by decide +kernel
  unfold lf
  rw [List.lookup_cons, h1, List.lookup_cons, beq_self_eq_true]
theorem lf_e {a m e : Addr} : (lf a m e).lookup ("_entries" : Str) = some (.ref e) := by
  have h1 : (("_entries" : Str) == ("changes" : Str)) = false := by decide +kernel
  have h2 : (("_entries" : Str) == ("_words" : Str)) = false := by decide +kernel
  have h3 : (("_entries" : Str) == ("_meetings" : Str)) = false := by decide +kernel
  unfold lf
  rw [List.lookup_cons, h1, List.lookup_cons, h2, List.lookup_cons, h3, List.lookup_cons, beq_self_eq_true]
theorem lf_no {a m e : Addr} {n : Str} (h1 : (n == ("changes" : Str)) = false) (h2 : (n == ("_words" : Str)) = false) (h3 : (n == ("_meetings" : Str)) = false) (h4 : (n == ("_entries" : Str)) = false) : (lf a m e).lookup n = none := by
  unfold lf
  rw [List.lookup_cons, h1, List.lookup_cons, h2, List.lookup_cons, h3, List.lookup_cons, h4]
  rfl
structure LibAt (C : Addr) (H : Hp) (v : V) (a e : Addr) : Prop where
  at_ : ∃ x dx m, v = .ref x ∧ H x = some (.ins C dx (lf a m e))
  wd : H a = some (.dK [])
  en : H e = some (.dK [])
theorem LibAt.same {C : Addr} {H H' : Hp} {v : V} {a e : Addr} (h : LibAt C H v a e) (s : Same H H') : LibAt C H' v a e := by
  obtain ⟨x, dx, m, e1, e2⟩ := h.at_
  exact ⟨⟨x, dx, m, e1, s _ _ e2⟩, s _ _ h.wd, s _ _ h.en⟩
/-- .. where the dict at r may change, which is not the library's -/
theorem LibAt.kp {C r : Addr} {H H' : Hp} {v : V} {a e : Addr} {ks : List (Key × V)} (h : LibAt C H v a e) (s : Kp (only1 r) H H') (hr : H r = some (.dK ks)) (ha : r ≠ a) (he : r ≠ e) : LibAt C H' v a e := by
  obtain ⟨x, dx, m, e1, e2⟩ := h.at_
  exact ⟨⟨x, dx, m, e1, s _ _ (ne_of e2 hr (by intro z; cases z)) e2⟩, s _ _ (Ne.symm ha) h.wd, s _ _ (Ne.symm he) h.en⟩
section
variable {P : Program} {w : World} {K : PySem.W.Frag} {mg : Str → Option Value} {base : Heap}
def spLInit (C : Addr) : Sp := fun vs H Q _ => ∃ (x dx : Addr), vs = [.ref x] ∧ H x = some (.ins C dx []) ∧ ∀ H' a m e, Kp (only1 x) H H' → H' x = some (.ins C dx (lf a m e)) → H' a = some (.dK []) → H' e = some (.dK []) → Q .non H'
theorem ok_Library__init {k : Nat} (T : Tx K mg w) : FnOk P w K mg base CX0 (k + 1) T.a_Library__init T.d_Library__init ["self"] (spLInit T.C_Library) := by
  refine T.F_Library__init.ok sc_Library__init (fun vs H Q E h => ?_) (fun cdv A outer s H vs Q E hr h => ?_)
  · obtain ⟨_, _, rfl, _⟩ := h
    rfl
  obtain ⟨x, dx, rfl, hx, q⟩ := h
  refine ⟨_, (pss_cons (ps_fld (pv 0) pe_int rfl)
      (pss_cons (ps_fld (pv 0) pe_dnewK rfl)
      (pss_cons (ps_fld (pv 0) pe_dnewK rfl)
      (pss_one (ps_fld (pv 0) pe_dnewK rfl))))), ?_⟩
  refine ⟨_, rfl, x, T.C_Library, dx, _, rfl, hx, T.cl_Library, T.n_changes, (by decide), ?_⟩
  refine fun a na => ?_
  have nxa : x ≠ a := ne_of_none upd_same na
  refine ⟨_, rfl, x, T.C_Library, dx, _, rfl, by rw [upd_ne nxa, upd_same], T.cl_Library, T.n_words, (by show 1 < 1000; decide), ?_⟩
  refine fun m nm => ?_
  have nxm : x ≠ m := ne_of_none upd_same nm
  refine ⟨_, rfl, x, T.C_Library, dx, _, rfl, by rw [upd_ne nxm, upd_same], T.cl_Library, T.n_meetings, (by show 2 < 1000; decide), ?_⟩
  refine fun e ne => ?_
  have nxe : x ≠ e := ne_of_none upd_same ne
  refine ⟨_, rfl, x, T.C_Library, dx, _, rfl, by rw [upd_ne nxe, upd_same], T.cl_Library, T.n_entries, (by show 3 < 1000; decide), ?_⟩
  have k1 : Kp (only1 x) H (upd H x _) := Kp.refl.put (o := .ins T.C_Library dx [("changes", .int 0)]) rfl
  refine q _ a m e ((((((k1.new na).put rfl).new nm).put rfl).new ne).put rfl) upd_same ?_ ?_
  · rw [upd_ne (Ne.symm nxa), upd_ne (ne_of_none (by rw [upd_ne (Ne.symm nxa), upd_ne (ne_of_none (by rw [upd_ne (Ne.symm nxa), upd_same]) nm), upd_ne (Ne.symm nxa), upd_same]) ne), upd_ne (Ne.symm nxa), upd_ne (ne_of_none (by rw [upd_ne (Ne.symm nxa), upd_same]) nm), upd_ne (Ne.symm nxa), upd_same]
  · rw [upd_ne (Ne.symm nxe), upd_same]
def spMakes (C : Addr) : Sp := fun vs H Q _ => ∃ (v : V) (nm : Str) (a e : Addr), vs = [v, .str nm] ∧ LibAt C H v a e ∧ ∀ p, H p = none → Q (.ref p) (upd H p (.lst []))
theorem ok_Library_makes_of {k : Nat} (T : Tx K mg w) : FnOk P w K mg base CX0 (k + 1) T.a_Library_makes_of T.d_Library_makes_of ["self", "name"] (spMakes T.C_Library) := by
  refine T.F_Library_makes_of.ok sc_Library_makes_of (fun vs H Q E h => ?_) (fun cdv A outer s H vs Q E hr h => ?_)
  · obtain ⟨_, _, _, _, rfl, _⟩ := h
    rfl
  obtain ⟨v, nm, a, e, rfl, hL, q⟩ := h
  have hu := hu_of hr
  refine ⟨_, (pss_cons (ps_if (pt_cmp (pc_dnotin hu (pv 1) (pe_fldK K (pv 0) rfl))) (pss_one (ps_ret (pe_lst pa_nil))) pss_nil)
      (pss_one (ps_ret (pe_callTy (listS K) (by rfl) T.z_list (by decide +kernel) (pa_cons (pe_ix (ixL K) (pe_dget hu (pe_fldK K (pv 0) rfl) (pv 1) (fun _ _ => rfl)) pe_int (fun _ _ => rfl)) pa_nil))))), ?_⟩
  obtain ⟨x, dx, m, rfl, hx⟩ := hL.at_
  refine ⟨_, rfl, _, rfl, x, T.C_Library, dx, _, _, rfl, hx, T.cl_Library, T.n_words, lf_w, a, _, rfl, DGet.k (k := Sum.inr nm) hL.wd, _, rfl, iteT ?_⟩
  exact ⟨Nat.zero_le _, q⟩
theorem ok_Library_opens_of {k : Nat} (T : Tx K mg w) : FnOk P w K mg base CX0 (k + 1) T.a_Library_opens_of T.d_Library_opens_of ["self", "name"] (spMakes T.C_Library) := by
  refine T.F_Library_opens_of.ok sc_Library_opens_of (fun vs H Q E h => ?_) (fun cdv A outer s H vs Q E hr h => ?_)
  · obtain ⟨_, _, _, _, rfl, _⟩ := h
    rfl
  obtain ⟨v, nm, a, e, rfl, hL, q⟩ := h
  have hu := hu_of hr
  refine ⟨_, (pss_cons (ps_if (pt_cmp (pc_dnotin hu (pv 1) (pe_fldK K (pv 0) rfl))) (pss_one (ps_ret (pe_lst pa_nil))) pss_nil)
      (pss_one (ps_ret (pe_callTy (listS K) (by rfl) T.z_list (by decide +kernel) (pa_cons (pe_ix (ixL K) (pe_dget hu (pe_fldK K (pv 0) rfl) (pv 1) (fun _ _ => rfl)) pe_int (fun _ _ => rfl)) pa_nil))))), ?_⟩
  obtain ⟨x, dx, m, rfl, hx⟩ := hL.at_
  refine ⟨_, rfl, _, rfl, x, T.C_Library, dx, _, _, rfl, hx, T.cl_Library, T.n_words, lf_w, a, _, rfl, DGet.k (k := Sum.inr nm) hL.wd, _, rfl, iteT ?_⟩
  exact ⟨Nat.zero_le _, q⟩
def spNames (C : Addr) : Sp := fun vs H Q _ => ∃ (v : V) (a e : Addr), vs = [v] ∧ LibAt C H v a e ∧ ∀ p, H p = none → Q (.ref p) (upd H p (.lst []))
theorem ok_Library_entry_names {k : Nat} (T : Tx K mg w) : FnOk P w K mg base CX0 (k + 1) T.a_Library_entry_names T.d_Library_entry_names ["self"] (spNames T.C_Library) := by
  refine T.F_Library_entry_names.ok sc_Library_entry_names (fun vs H Q E h => ?_) (fun cdv A outer s H vs Q E hr h => ?_)
  · obtain ⟨_, _, _, rfl, _⟩ := h
    rfl
  obtain ⟨v, a, e, rfl, hL, q⟩ := h
  refine ⟨_, (pss_one (ps_ret (pe_callTy (call_listD rfl) (by rfl) T.z_list (by decide +kernel) (pa_cons (pe_fldK K (pv 0) rfl) pa_nil)))), ?_⟩
  obtain ⟨x, dx, m, rfl, hx⟩ := hL.at_
  exact ⟨_, rfl, x, T.C_Library, dx, _, _, rfl, hx, T.cl_Library, T.n_entries, lf_e, e, [], rfl, .inl hL.en, q⟩
end
end W77
namespace W77
open PySem PySem.Spec PyProof.Rows L2 HX
section
variable {P : Program} {w : World} {K : PySem.W.Frag} {mg : Str → Option Value} {base : Heap}
/-! ### ranks: of the word p, and of menus of it -/
def spGreatest (K : PySem.W.Frag) : Sp := fun vs H Q _ => ∃ (v u : V) (l : Addr), vs = [v, .ref l, u] ∧ SqL K H l [] ∧ Q (.int 0) H
theorem ok_greatest_rank {k : Nat} (T : Tx K mg w) : FnOk P w K mg base CX0 (k + 1) T.a_greatest_rank T.d_greatest_rank ["library", "sentences", "known"] (spGreatest K) := by
  refine T.F_greatest_rank.ok sc_greatest_rank (fun vs H Q E h => ?_) (fun cdv A outer s H vs Q E hr h => ?_)
  · obtain ⟨_, _, _, rfl, _⟩ := h
    rfl
  obtain ⟨v, u, l, rfl, hl, q⟩ := h
  refine ⟨_, (pss_cons (ps_set (i := 3) sc_greatest_rank.nd rfl (Or.inl rfl) pe_int)
      (pss_cons (ps_for PassesOwn.never rfl (piL K (pv 1)) (pg_name (i := 4) sc_greatest_rank.nd rfl (Or.inl rfl)) (pss_cons ps_never
      (pss_one ps_never)))
      (pss_one (ps_ret (pv 3))))), ?_⟩
  refine ⟨_, rfl, l, rfl, ⟨[], hl⟩, for_list (K := K) (a := l) (xs := []) (fun i σ' H' => H' = H ∧ ∃ z, σ' = [some v, some (.ref l), some u, some (.int 0), z, none]) ⟨rfl, none, rfl⟩ (fun i σ' H' _ h => by rw [h.1]; exact hl) ?_ ?_⟩
  · intro i x σ' H' hx
    simp at hx
  · rintro σ' H' ⟨rfl, z, rfl⟩
    exact ⟨_, rfl, q⟩
/-- the ranks that are known -/
def RkAt (H : Hp) (r : Addr) : Prop := H r = some (.dK []) ∨ H r = some (.dK [(Sum.inr "p", .int 1)])
def spWord (K : PySem.W.Frag) (C : Addr) : Sp := fun vs H Q _ => ∃ (v : V) (r a e : Addr), vs = [v, .str "p", .ref r] ∧ LibAt C H v a e ∧ RkAt H r ∧ r ≠ a ∧ r ≠ e ∧ ∀ H', Kp (only1 r) H H' → RkAt H' r → Q (.int 1) H'
theorem ok_word_rank {k : Nat} (T : Tx K mg w) (G_greatest_rank : FnOk P w K mg base CX0 k T.a_greatest_rank T.d_greatest_rank ["library", "sentences", "known"] (spGreatest K))
    (G_Library_makes_of : FnOk P w K mg base CX0 k T.a_Library_makes_of T.d_Library_makes_of ["self", "name"] (spMakes T.C_Library)) (G_Library_opens_of : FnOk P w K mg base CX0 k T.a_Library_opens_of T.d_Library_opens_of ["self", "name"] (spMakes T.C_Library)) :
    FnOk P w K mg base CX0 (k + 1) T.a_word_rank T.d_word_rank ["library", "name", "known"] (spWord K T.C_Library) := by
  refine T.F_word_rank.ok sc_word_rank (fun vs H Q E h => ?_) (fun cdv A outer s H vs Q E hr h => ?_)
  · obtain ⟨_, _, _, _, rfl, _⟩ := h
    rfl
  obtain ⟨v, r, a, e, rfl, hL, hR, nra, nre, q⟩ := h
  have hu := hu_of hr
  refine ⟨_, (pss_cons (ps_if (pt_cmp (pc_dnotin hu (pv 1) (pv 2))) (pss_cons (ps_set (i := 3) sc_word_rank.nd rfl (Or.inl rfl) (pe_call G_greatest_rank hr (by rfl) T.m_greatest_rank T.F_greatest_rank.kp T.b_greatest_rank .nil pass0 (pa_cons (pv 0) (pa_cons (pe_meth (pv 0) T.cl_Library T.mt_Library_makes_of G_Library_makes_of hr T.b_Library_makes_of .nil pass0 (pa_cons (pv 1) pa_nil)) (pa_cons (pv 2) pa_nil)))))
      (pss_cons (ps_set (i := 4) sc_word_rank.nd rfl (Or.inl rfl) (pe_call G_greatest_rank hr (by rfl) T.m_greatest_rank T.F_greatest_rank.kp T.b_greatest_rank .nil pass0 (pa_cons (pv 0) (pa_cons (pe_meth (pv 0) T.cl_Library T.mt_Library_opens_of G_Library_opens_of hr T.b_Library_opens_of .nil pass0 (pa_cons (pv 1) pa_nil)) (pa_cons (pv 2) pa_nil)))))
      (pss_one (ps_dput hu (pv 2) (pv 1) (pe_op op_add (pe_op op_add pe_int (pv 3)) (pv 4)) rfl)))) pss_nil)
      (pss_one (ps_ret (pe_dget hu (pv 2) (pv 1) (fun _ _ => rfl))))), ?_⟩
  rcases hR with h0 | h1
  · refine ⟨_, rfl, _, rfl, r, _, rfl, DGet.k (k := Sum.inr "p") h0, _, rfl, iteT ?_⟩
    obtain ⟨x, dx, m, rfl, hx⟩ := id hL.at_
    have no : ∀ n : Str, (n == ("changes" : Str)) = false → (n == ("_words" : Str)) = false → (n == ("_meetings" : Str)) = false → (n == ("_entries" : Str)) = false → (lf a m e).lookup n = none := fun n => lf_no
    refine ⟨_, rfl, _, rfl, x, dx, _, rfl, hx, no _ (by decide +kernel) (by decide +kernel) (by decide +kernel) (by decide +kernel), _, rfl, .ref x, "p", a, e, rfl, hL, fun l nl => ?_⟩
    have s1 : Same H (upd H l (.lst [])) := Same.new nl
    have hL1 := hL.same s1
    refine ⟨_, rfl, .ref x, .ref r, l, rfl, SqL.of upd_same, ?_⟩
    refine ⟨_, rfl, _, rfl, x, dx, _, rfl, s1 _ _ hx, no _ (by decide +kernel) (by decide +kernel) (by decide +kernel) (by decide +kernel), _, rfl, .ref x, "p", a, e, rfl, hL1, fun l2 nl2 => ?_⟩
    have s2 : Same (upd H l (.lst [])) (upd (upd H l (.lst [])) l2 (.lst [])) := Same.new nl2
    refine ⟨_, rfl, .ref x, .ref r, l2, rfl, SqL.of upd_same, ?_⟩
    have hr2 := (s1.trans s2) _ _ h0
    generalize upd (upd H l (.lst [])) l2 (.lst []) = H2 at s2 hr2
    refine ⟨_, rfl, _, _, rfl, rfl, _, rfl, _, _, rfl, rfl, _, rfl, _, rfl, r, _, rfl, .inl ⟨[], Sum.inr "p", hr2, rfl, by decide, rfl⟩, ?_⟩
    refine ⟨_, rfl, _, rfl, r, _, rfl, DGet.k (k := Sum.inr "p") upd_same, q _ ((Kp.of (s1.trans s2)).put rfl) (.inr upd_same)⟩
  · refine ⟨_, rfl, _, rfl, r, _, rfl, DGet.k (k := Sum.inr "p") h1, _, rfl, iteF ?_⟩
    exact ⟨_, rfl, _, rfl, r, _, rfl, DGet.k (k := Sum.inr "p") h1, q H Kp.refl (.inr h1)⟩
def spRank (K : PySem.W.Frag) (C : Addr) (b : Bool) : Sp := fun vs H Q _ => ∃ (v u : V) (r a e : Addr), vs = [v, u, .ref r] ∧ LibAt C H v a e ∧ SentAt K H u b ∧ RkAt H r ∧ r ≠ a ∧ r ≠ e ∧ ∀ H', Kp (only1 r) H H' → RkAt H' r → Q (.int 1) H'
theorem rk_tup {H H' : Hp} {r : Addr} (h : Kp (only1 r) H H') (hr : RkAt H r) : KpT (only1 r) H H' := by
  refine ⟨h, fun b hb => ?_⟩
  have hb : b = r := hb
  subst hb
  rcases hr with e | e
  · exact ⟨_, e, fun xs f => ⟨(by intro z; cases z), (by intro z; cases z)⟩⟩
  · exact ⟨_, e, fun xs f => ⟨(by intro z; cases z), (by intro z; cases z)⟩⟩
theorem LibAt.rk {C r : Addr} {H H' : Hp} {v : V} {a e : Addr} (h : LibAt C H v a e) (s : Kp (only1 r) H H') (hr : RkAt H r) (ha : r ≠ a) (he : r ≠ e) : LibAt C H' v a e := by
  rcases hr with z | z
  · exact h.kp s z ha he
  · exact h.kp s z ha he
theorem rank_false {k : Nat} (T : Tx K mg w) (G_word_rank : FnOk P w K mg base CX0 k T.a_word_rank T.d_word_rank ["library", "name", "known"] (spWord K T.C_Library)) (G_rank_within : FnOk P w K mg base CX0 k T.a_rank_within T.d_rank_within ["library", "sentence", "known"] (fun _ _ _ _ => False)) :
    FnOk P w K mg base CX0 (k + 1) T.a_rank_within T.d_rank_within ["library", "sentence", "known"] (spRank K T.C_Library false) := by
  refine T.F_rank_within.ok sc_rank_within (fun vs H Q E h => ?_) (fun cdv A outer s H vs Q E hr h => ?_)
  · obtain ⟨_, _, _, _, _, rfl, _⟩ := h
    rfl
  obtain ⟨v, u, r, a, e, rfl, hL, ⟨c, rfl, hc⟩, hR, nra, nre, q⟩ := h
  refine ⟨_, (pss_cons (ps_if (pt_cmpR op_eq (pe_ix (ixT K) (pv 1) pe_int (fun _ _ => rfl)) pe_str (nomark _)) (pss_one (ps_ret (pe_call G_word_rank hr (by rfl) T.m_word_rank T.F_word_rank.kp T.b_word_rank .nil pass0 (pa_cons (pv 0) (pa_cons (pe_ix (ixT K) (pv 1) pe_int (fun _ _ => rfl)) (pa_cons (pv 2) pa_nil)))))) pss_nil)
      (pss_cons (ps_if (pt_cmpR op_eq (pe_ix (ixT K) (pv 1) pe_int (fun _ _ => rfl)) pe_str (nomark _)) (pss_cons (ps_set (i := 3) sc_rank_within.nd rfl (Or.inl rfl) (pe_call G_rank_within hr (by rfl) T.m_rank_within T.F_rank_within.kp T.b_rank_within .nil pass0 (pa_cons (pv 0) (pa_cons (pe_ix (ixT K) (pv 1) pe_int (fun _ _ => rfl)) (pa_cons (pv 2) pa_nil)))))
      (pss_one (ps_ret (pe_callB (call_max2 rfl) (by rfl) T.z_max (by decide +kernel) (pa_cons (pv 3) (pa_cons (pe_call G_rank_within hr (by rfl) T.m_rank_within T.F_rank_within.kp T.b_rank_within .nil pass0 (pa_cons (pv 0) (pa_cons (pe_ix (ixT K) (pv 1) pe_int (fun _ _ => rfl)) (pa_cons (pv 2) pa_nil)))) pa_nil)))))) pss_nil)
      (pss_cons ps_never
      (pss_one ps_never)))), ?_⟩
  refine ⟨_, rfl, c, _, 0, _, rfl, rfl, hc, rfl, rfl, _, rfl, iteT ?_⟩
  exact ⟨_, rfl, _, rfl, c, _, 1, _, rfl, rfl, hc, rfl, _, rfl, v, r, a, e, rfl, hL, hR, nra, nre, q⟩
theorem rank_true {k : Nat} (T : Tx K mg w) (G_word_rank : FnOk P w K mg base CX0 k T.a_word_rank T.d_word_rank ["library", "name", "known"] (spWord K T.C_Library)) (G_rank_within : FnOk P w K mg base CX0 k T.a_rank_within T.d_rank_within ["library", "sentence", "known"] (spRank K T.C_Library false)) :
    FnOk P w K mg base CX0 (k + 1) T.a_rank_within T.d_rank_within ["library", "sentence", "known"] (spRank K T.C_Library true) := by
  refine T.F_rank_within.ok sc_rank_within (fun vs H Q E h => ?_) (fun cdv A outer s H vs Q E hr h => ?_)
  · obtain ⟨_, _, _, _, _, rfl, _⟩ := h
    rfl
  obtain ⟨v, u, r, a, e, rfl, hL, ⟨c, y, z, rfl, hc, hy, hz⟩, hR, nra, nre, q⟩ := h
  refine ⟨_, (pss_cons (ps_if (pt_cmpR op_eq (pe_ix (ixT K) (pv 1) pe_int (fun _ _ => rfl)) pe_str (nomark _)) (pss_one (ps_ret (pe_call G_word_rank hr (by rfl) T.m_word_rank T.F_word_rank.kp T.b_word_rank .nil pass0 (pa_cons (pv 0) (pa_cons (pe_ix (ixT K) (pv 1) pe_int (fun _ _ => rfl)) (pa_cons (pv 2) pa_nil)))))) pss_nil)
      (pss_cons (ps_if (pt_cmpR op_eq (pe_ix (ixT K) (pv 1) pe_int (fun _ _ => rfl)) pe_str (nomark _)) (pss_cons (ps_set (i := 3) sc_rank_within.nd rfl (Or.inl rfl) (pe_call G_rank_within hr (by rfl) T.m_rank_within T.F_rank_within.kp T.b_rank_within .nil pass0 (pa_cons (pv 0) (pa_cons (pe_ix (ixT K) (pv 1) pe_int (fun _ _ => rfl)) (pa_cons (pv 2) pa_nil)))))
      (pss_one (ps_ret (pe_callB (call_max2 rfl) (by rfl) T.z_max (by decide +kernel) (pa_cons (pv 3) (pa_cons (pe_call G_rank_within hr (by rfl) T.m_rank_within T.F_rank_within.kp T.b_rank_within .nil pass0 (pa_cons (pv 0) (pa_cons (pe_ix (ixT K) (pv 1) pe_int (fun _ _ => rfl)) (pa_cons (pv 2) pa_nil)))) pa_nil)))))) pss_nil)
      (pss_cons ps_never
      (pss_one ps_never)))), ?_⟩
  refine ⟨_, rfl, c, _, 0, _, rfl, rfl, hc, rfl, rfl, _, rfl, iteF ?_⟩
  refine ⟨_, rfl, c, _, 0, _, rfl, rfl, hc, rfl, rfl, _, rfl, iteT ?_⟩
  refine ⟨_, rfl, _, rfl, c, _, 1, _, rfl, rfl, hc, rfl, _, rfl, v, y, r, a, e, rfl, hL, hy, hR, nra, nre, fun H1 k1 hR1 => ?_⟩
  have t1 := rk_tup k1 hR
  refine ⟨_, rfl, _, rfl, _, rfl, c, _, 2, _, rfl, rfl, t1.tup hc, rfl, _, rfl, v, z, r, a, e, rfl, hL.rk k1 hR nra nre, WordAt.kp t1 hz, hR1, nra, nre, fun H2 k2 hR2 => ?_⟩
  exact ⟨_, _, rfl, q H2 (k1.trans k2) hR2⟩
def spRankB (K : PySem.W.Frag) (C : Addr) : Sp := fun vs H Q E => ∃ b, spRank K C b vs H Q E
end
end W77
namespace W77
open PySem PySem.Spec PyProof.Rows L2 HX
section
variable {P : Program} {w : World} {K : PySem.W.Frag} {mg : Str → Option Value} {base : Heap}
theorem fn_false {k : Nat} {f : Addr} {fd : FuncData} {ps : List Str} : FnOk P w K mg base CX0 k f fd ps (fun _ _ _ _ => False) := ⟨fun _ _ _ _ h => h.elim, fun _ _ _ _ _ _ _ _ _ _ _ _ _ h => h.elim⟩
theorem ok_rank (T : Tx K mg w) : FnOk P w K mg base CX0 4 T.a_rank_within T.d_rank_within ["library", "sentence", "known"] (spRankB K T.C_Library) := by
  have g1 := ok_greatest_rank (P := P) (w := w) (base := base) (k := 0) T
  have m1 := ok_Library_makes_of (P := P) (base := base) (k := 0) T
  have o1 := ok_Library_opens_of (P := P) (base := base) (k := 0) T
  have w2 := ok_word_rank (k := 1) T g1 m1 o1
  have r3 := rank_false (k := 2) T w2 fn_false
  have r4 := rank_true (k := 3) T (w2.mono (by decide)) r3
  refine ⟨fun vs H Q E h => ?_, fun A outer s H args us vs Q E hr he hb hv h => ?_⟩
  · obtain ⟨b, h⟩ := h
    cases b with
    | false => exact r3.len vs H Q E h
    | true => exact r4.len vs H Q E h
  · obtain ⟨b, h⟩ := h
    cases b with
    | false => exact (r3.mono (by decide)).run A outer s H args us vs Q E hr he hb hv h
    | true => exact r4.run A outer s H args us vs Q E hr he hb hv h
/-! ### the premises -/
theorem nz {xs : List V} {n : Nat} {c : Int} (hn : xs.length = n) (h : ¬ HT.sIx n 0 (some ((n : Int) - c)) = 0) : ¬ HT.sIx xs.length 0 (some ((xs.length : Int) - c)) = 0 := by
  rw [hn]
  exact h
def spPremises (K : PySem.W.Frag) : Sp := fun vs H Q _ => ∃ (v : V) (t : Dv), vs = [v] ∧ DvAt K H v t ∧ ∀ H' p ys, Same H H' → H' p = some (.lst ys) → Paired (DvAt K H') ys t.kids → Q (.ref p) H'
theorem ok_premises {k : Nat} (T : Tx K mg w) : FnOk P w K mg base CX0 (k + 1) T.a_premises T.d_premises ["derivation"] (spPremises K) := by
  refine T.F_premises.ok sc_premises (fun vs H Q E h => ?_) (fun cdv A outer s H vs Q E hr h => ?_)
  · obtain ⟨_, _, rfl, _⟩ := h
    rfl
  obtain ⟨v, t, rfl, hv, q⟩ := h
  refine ⟨_, (pss_cons (ps_set (i := 1) sc_premises.nd rfl (Or.inl rfl) (pe_ix ix_kdict (pe_glob (v := .ref T.a_PREMISES) (by rfl) T.m_PREMISES rfl) (pe_ix (ixT K) (pv 0) pe_int (fun _ _ => rfl)) (fun _ _ => rfl)))
      (pss_one (ps_ret (pe_callTy (listS K) (by rfl) T.z_list (by decide +kernel) (pa_cons (pe_slice (slT K) (pv 0) (po_some (pe_op op_sub (pe_callB (lenS K) (by rfl) T.z_len PySem.boot_len (pa_cons (pv 0) pa_nil)) (pv 1))) po_none) pa_nil))))), ?_⟩
  cases t with
  | own x =>
    obtain ⟨a, rfl, ha⟩ := hv
    refine ⟨_, rfl, a, _, 0, _, rfl, rfl, ha, rfl, _, _, _, rfl, rfl, T.pr_own, ?_⟩
    refine ⟨_, rfl, _, rfl, a, _, rfl, .inr ha, _, rfl, _, _, rfl, rfl, _, rfl, a, _, rfl, ha, (fun z => nz (n := 2) (c := 0) rfl (by decide) z.1), fun p np => ?_⟩
    refine ⟨p, _, rfl, .inr (.inl (.inl upd_same)), fun l nl => ?_⟩
    have sm : Same H _ := (Same.new (o := .tup []) np).trans (Same.new (o := .lst []) nl)
    have kp := kpT_same sm
    exact q _ l _ sm upd_same (.nil)
  | pick x sd b =>
    obtain ⟨a, y, rfl, ha, hb⟩ := hv
    refine ⟨_, rfl, a, _, 0, _, rfl, rfl, ha, rfl, _, _, _, rfl, rfl, T.pr_pick, ?_⟩
    refine ⟨_, rfl, _, rfl, a, _, rfl, .inr ha, _, rfl, _, _, rfl, rfl, _, rfl, a, _, rfl, ha, (fun z => nz (n := 4) (c := 1) rfl (by decide) z.1), fun p np => ?_⟩
    refine ⟨p, _, rfl, .inr (.inl (.inl upd_same)), fun l nl => ?_⟩
    have sm : Same H _ := (Same.new (o := .tup [y]) np).trans (Same.new (o := .lst [y]) nl)
    have kp := kpT_same sm
    exact q _ l _ sm upd_same (.cons (DvAt.kp kp hb) .nil)
  | offer c b =>
    obtain ⟨a, y, z, rfl, ha, hc, hb⟩ := hv
    refine ⟨_, rfl, a, _, 0, _, rfl, rfl, ha, rfl, _, _, _, rfl, rfl, T.pr_offer, ?_⟩
    refine ⟨_, rfl, _, rfl, a, _, rfl, .inr ha, _, rfl, _, _, rfl, rfl, _, rfl, a, _, rfl, ha, (fun z => nz (n := 3) (c := 2) rfl (by decide) z.1), fun p np => ?_⟩
    refine ⟨p, _, rfl, .inr (.inl (.inl upd_same)), fun l nl => ?_⟩
    have sm : Same H _ := (Same.new (o := .tup [y, z]) np).trans (Same.new (o := .lst [y, z]) nl)
    have kp := kpT_same sm
    exact q _ l _ sm upd_same (.cons (DvAt.kp kp hc) (.cons (DvAt.kp kp hb) .nil))
  | cut m mn c b =>
    obtain ⟨a, mv, sv, y, z, rfl, ha, _, _, hc, hb⟩ := hv
    refine ⟨_, rfl, a, _, 0, _, rfl, rfl, ha, rfl, _, _, _, rfl, rfl, T.pr_cut, ?_⟩
    refine ⟨_, rfl, _, rfl, a, _, rfl, .inr ha, _, rfl, _, _, rfl, rfl, _, rfl, a, _, rfl, ha, (fun z => nz (n := 5) (c := 2) rfl (by decide) z.1), fun p np => ?_⟩
    refine ⟨p, _, rfl, .inr (.inl (.inl upd_same)), fun l nl => ?_⟩
    have sm : Same H _ := (Same.new (o := .tup [y, z]) np).trans (Same.new (o := .lst [y, z]) nl)
    have kp := kpT_same sm
    exact q _ l _ sm upd_same (.cons (DvAt.kp kp hc) (.cons (DvAt.kp kp hb) .nil))
  | pay nm m c b =>
    obtain ⟨a, mv, y, z, rfl, ha, _, hc, hb⟩ := hv
    refine ⟨_, rfl, a, _, 0, _, rfl, rfl, ha, rfl, _, _, _, rfl, rfl, T.pr_pay, ?_⟩
    refine ⟨_, rfl, _, rfl, a, _, rfl, .inr ha, _, rfl, _, _, rfl, rfl, _, rfl, a, _, rfl, ha, (fun z => nz (n := 5) (c := 2) rfl (by decide) z.1), fun p np => ?_⟩
    refine ⟨p, _, rfl, .inr (.inl (.inl upd_same)), fun l nl => ?_⟩
    have sm : Same H _ := (Same.new (o := .tup [y, z]) np).trans (Same.new (o := .lst [y, z]) nl)
    have kp := kpT_same sm
    exact q _ l _ sm upd_same (.cons (DvAt.kp kp hc) (.cons (DvAt.kp kp hb) .nil))
end
end W77
namespace W77
open PySem PySem.Spec PyProof.Rows L2 HX
section
variable {P : Program} {w : World} {K : PySem.W.Frag} {mg : Str → Option Value} {base : Heap}
/-! ### riders: there are none -/
def spRidersOf (K : PySem.W.Frag) : Sp := fun vs H Q _ => ∃ (v u : V) (t : Dv), vs = [v, u] ∧ DvAt K H u t ∧ ∀ p, H p = none → Q (.ref p) (upd H p (.lst []))
theorem ok_riders_of {k : Nat} (T : Tx K mg w) : FnOk P w K mg base CX0 (k + 1) T.a_riders_of T.d_riders_of ["library", "row"] (spRidersOf K) := by
  refine T.F_riders_of.ok sc_riders_of (fun vs H Q E h => ?_) (fun cdv A outer s H vs Q E hr h => ?_)
  · obtain ⟨_, _, _, rfl, _⟩ := h
    rfl
  obtain ⟨v, u, t, rfl, hu, q⟩ := h
  refine ⟨_, (pss_cons (ps_if (pt_cmpR op_eq (pe_ix (ixT K) (pv 1) pe_int (fun _ _ => rfl)) pe_str (nomark _)) (pss_one ps_never) pss_nil)
      (pss_cons (ps_if (pt_cmpR op_eq (pe_ix (ixT K) (pv 1) pe_int (fun _ _ => rfl)) pe_str (nomark _)) (pss_one ps_never) pss_nil)
      (pss_one (ps_ret (pe_lst pa_nil))))), ?_⟩
  cases t with
  | own x =>
    obtain ⟨a, rfl, ha⟩ := hu
    exact ⟨_, rfl, a, _, 0, _, rfl, rfl, ha, rfl, rfl, _, rfl, iteF ⟨_, rfl, a, _, 0, _, rfl, rfl, ha, rfl, rfl, _, rfl, iteF ⟨Nat.zero_le _, q⟩⟩⟩
  | pick x sd b =>
    obtain ⟨a, y, rfl, ha, _⟩ := hu
    exact ⟨_, rfl, a, _, 0, _, rfl, rfl, ha, rfl, rfl, _, rfl, iteF ⟨_, rfl, a, _, 0, _, rfl, rfl, ha, rfl, rfl, _, rfl, iteF ⟨Nat.zero_le _, q⟩⟩⟩
  | offer c b =>
    obtain ⟨a, y, z, rfl, ha, _⟩ := hu
    exact ⟨_, rfl, a, _, 0, _, rfl, rfl, ha, rfl, rfl, _, rfl, iteF ⟨_, rfl, a, _, 0, _, rfl, rfl, ha, rfl, rfl, _, rfl, iteF ⟨Nat.zero_le _, q⟩⟩⟩
  | cut m mn c b =>
    obtain ⟨a, mv, sv, y, z, rfl, ha, _⟩ := hu
    exact ⟨_, rfl, a, _, 0, _, rfl, rfl, ha, rfl, rfl, _, rfl, iteF ⟨_, rfl, a, _, 0, _, rfl, rfl, ha, rfl, rfl, _, rfl, iteF ⟨Nat.zero_le _, q⟩⟩⟩
  | pay nm m c b =>
    obtain ⟨a, mv, y, z, rfl, ha, _⟩ := hu
    exact ⟨_, rfl, a, _, 0, _, rfl, rfl, ha, rfl, rfl, _, rfl, iteF ⟨_, rfl, a, _, 0, _, rfl, rfl, ha, rfl, rfl, _, rfl, iteF ⟨Nat.zero_le _, q⟩⟩⟩
/-! ### the library's own iteration -/
def spIter (C : Addr) (n : Nat) : Sp := fun vs H Q _ => ∃ (x dx a m e : Addr) (o : Obj) (kvs : List (Key × V)), vs = [.ref x] ∧ H x = some (.ins C dx (lf a m e)) ∧ H a = some (.frz o (.dK kvs)) ∧ ∀ it, H it = none → n ≤ it → Q (.ref it) (upd H it (KitO a o kvs it))
theorem ok_Library__iter {k : Nat} (T : Tx K mg w) : FnOkN P w K mg base CX0 (k + 1) T.a_Library__iter T.d_Library__iter ["self"] (spIter T.C_Library) := by
  refine HX.Fun.okN T.F_Library__iter sc_Library__iter (fun n vs H Q E h => ?_) (fun cdv A outer s H vs Q E hr h => ?_)
  · obtain ⟨_, _, _, _, _, _, _, rfl, _⟩ := h
    rfl
  obtain ⟨x, dx, a, m, e, o, kvs, rfl, hx, ha, q⟩ := h
  refine ⟨_, PSs.nox (pss_one (ps_ret (pe_callB call_iterK (by rfl) T.z_iter (by decide +kernel) (pa_cons (pe_fldK K (pv 0) rfl) pa_nil)))), ?_⟩
  exact ⟨_, rfl, x, T.C_Library, dx, _, _, rfl, hx, T.cl_Library, T.n_words, lf_w, a, o, kvs, rfl, ha, q⟩
end
end W77
namespace HX
open PySem PySem.Spec PyProof.Rows L2
/-- a walk that has no turn -/
theorem for_stop {J : It} {g : TG} {tb : TS} {D : Ends} {σ : L2.St} {H : Hp} (h : J.stop 0 H) (q : D.nx σ H) : ∃ W : Nat → Nat → L2.St → Hp → Prop, (∃ m, W 0 m σ H) ∧ ∀ i m σ H, W i m σ H →
    (J.stop i H ∧ D.nx σ H) ∨ (J.go i H ∧ ∃ N : L2.St → Hp → Prop, (∀ σ' H', N σ' H' → ∃ m', m' < m ∧ W (i + 1) m' σ' H') ∧ ∀ x H', J.yld i H x H' → g x σ H' fun σ2 H2 => tb { D with nx := N, ct := N, bk := D.nx } σ2 H2) := by
  refine ⟨fun i m σ' H' => i = 0 ∧ σ' = σ ∧ H' = H, ⟨0, rfl, rfl, rfl⟩, ?_⟩
  rintro i m σ' H' ⟨rfl, rfl, rfl⟩
  exact .inl ⟨h, q⟩
end HX
namespace W77
open PySem PySem.Spec PyProof.Rows L2 HX
section
variable {P : Program} {w : World} {K : PySem.W.Frag} {mg : Str → Option Value} {base : Heap}
theorem upd_self1 {H : Hp} {a : Addr} {o : HO} (h : H a = some o) : upd H a o = H := by
  funext b
  by_cases hb : b = a
  · subst hb
    rw [upd_same, h]
  · rw [upd_ne hb]
theorem upd_back {H H' : Hp} {a : Addr} {o u : HO} (h : H a = some u) (s : Same (upd H a o) H') : Same H (upd H' a u) := fun b x e => by
  by_cases hb : b = a
  · subst hb
    rw [h] at e
    cases e
    exact upd_same
  · rw [upd_ne hb]
    exact s _ _ (by rw [upd_ne hb]; exact e)
def spKeys (C : Addr) : Sp := fun vs H Q _ => ∃ (v : V) (a e : Addr), vs = [v] ∧ LibAt C H v a e ∧ ∀ p H', Same H H' → H' p = some (.lst []) → Q (.ref p) H'
theorem ok_rider_keys {k : Nat} (T : Tx K mg w) (G_Library__iter : FnOkN P w K mg base CX0 k T.a_Library__iter T.d_Library__iter ["self"] (spIter T.C_Library))
    (G_Library_entry_names : FnOk P w K mg base CX0 k T.a_Library_entry_names T.d_Library_entry_names ["self"] (spNames T.C_Library)) :
    FnOk P w K mg base CX0 (k + 1) T.a_rider_keys T.d_rider_keys ["library"] (spKeys T.C_Library) := by
  refine T.F_rider_keys.ok sc_rider_keys (fun vs H Q E h => ?_) (fun cdv A outer s H vs Q E hr h => ?_)
  · obtain ⟨_, _, _, rfl, _⟩ := h
    rfl
  obtain ⟨v, a, e, rfl, hL, q⟩ := h
  refine ⟨_, (pss_cons (ps_set (i := 1) sc_rider_keys.nd rfl (Or.inl rfl) (pe_lst pa_nil))
      (pss_cons (ps_lock (ps_for PassesOwn.never rfl (pi_own (pv 0) T.ii_Library T.if_Library G_Library__iter hr T.b_Library__iter pass0) (pg_name (i := 2) sc_rider_keys.nd rfl (Or.inl rfl)) (pss_one ps_never)))
      (pss_one (ps_ret (pe_op op_cat (pv 1) (pe_lc (own := [("name", 2)]) (g := gName 2) (by rfl) sc_rider_keys.nd (piL K (pe_meth0 (pv 0) T.cl_Library T.mt_Library_entry_names G_Library_entry_names hr T.b_Library_entry_names .nil pass0)) (blkOk_by (own := [("name", 2)]) (N := ["library", "keys", "name", "make_index", "open_index"]) (sc := defScope s_rider_keys) (by decide +kernel)) (fun _ _ _ _ _ => (pg_name (i := 2) sc_rider_keys.nd rfl (Or.inl rfl))) (fun _ _ _ _ _ => pts_nil) (fun _ _ _ _ _ => pe_never))))))), ?_⟩
  refine ⟨Nat.zero_le _, fun p np => ?_⟩
  have s1 : Same H (upd H p (.lst [])) := Same.new np
  have hL1 := hL.same s1
  obtain ⟨x, dx, m, rfl, hx⟩ := id hL1.at_
  refine ⟨a, .dK [], hL1.wd, trivial, fun od => ?_⟩
  have hxa : x ≠ a := ne_of hx hL1.wd (by intro z; cases z)
  refine ⟨_, rfl, x, dx, _, rfl, by rw [upd_ne hxa]; exact hx, fun n => ?_⟩
  refine ⟨x, dx, a, m, e, od, [], rfl, by rw [upd_ne hxa]; exact hx, upd_same, fun it nit hn => ?_⟩
  refine ⟨it, a, od, [], rfl, hn, upd_same, by rw [upd_ne (ne_of_none upd_same nit)]; exact upd_same, ?_⟩
  rw [ItX.dropH_upd nit]
  refine for_stop ⟨upd_same, Nat.le_refl _⟩ ⟨upd_same, ?_⟩
  rw [upd_upd, upd_self1 hL1.wd]
  have hp1 : (upd H p (.lst [])) p = some (.lst []) := upd_same
  generalize upd H p (.lst []) = H1 at s1 hL1 hx hp1
  have no := lf_no (a := a) (m := m) (e := e) (n := "entry_names") (by decide +kernel) (by decide +kernel) (by decide +kernel) (by decide +kernel)
  refine ⟨_, rfl, _, rfl, x, dx, _, rfl, hx, no, .ref x, a, e, rfl, hL1, fun l nl => ?_⟩
  refine ⟨l, rfl, ⟨[], SqL.of upd_same⟩, fun D nD => ?_⟩
  have s2 : Same H1 (upd (upd H1 l (.lst [])) D (.lst [])) := (Same.new nl).trans (Same.new nD)
  have hl2 : (upd (upd H1 l (.lst [])) D (.lst [])) l = some (.lst []) := by rw [upd_ne (ne_of_none upd_same nD), upd_same]
  have hD2 : (upd (upd H1 l (.lst [])) D (.lst [])) D = some (.lst []) := upd_same
  refine lc_list (K := K) (a := l) (xs := []) (fun i H' => H' = upd (upd H1 l (.lst [])) D (.lst [])) rfl (fun i H' _ h => by rw [h]; exact SqL.of hl2) ?_ ?_
  · intro i x H' hx
    simp at hx
  · rintro H' rfl
    exact ⟨p, D, [], [], rfl, rfl, s2 _ _ hp1, hD2, Nat.zero_le _, fun r nr => q r _ ((s1.trans s2).trans (Same.new nr)) upd_same⟩
end
end W77
namespace W77
open PySem PySem.Spec PyProof.Rows L2 HX
section
variable {P : Program} {w : World} {K : PySem.W.Frag} {mg : Str → Option Value} {base : Heap}
def szs : List Dv → Nat
  | [] => 0
  | t :: ts => t.sz + szs ts
theorem szs_app : ∀ (a b : List Dv), szs (a ++ b) = szs a + szs b
  | [], b => by rw [List.nil_append, szs, Nat.zero_add]
  | t :: a, b => by rw [List.cons_append, szs, szs, szs_app a b, Nat.add_assoc]
theorem Dv.sz_kids (t : Dv) : t.sz = szs t.kids + 1 := by
  cases t with
  | own x => rfl
  | pick x s b => rfl
  | offer a b => show a.sz + b.sz + 1 = a.sz + (b.sz + 0) + 1; omega
  | cut m mn a b => show a.sz + b.sz + 1 = a.sz + (b.sz + 0) + 1; omega
  | pay nm m a b => show a.sz + b.sz + 1 = a.sz + (b.sz + 0) + 1; omega
theorem Dv.sz_pos (t : Dv) : 0 < t.sz := by rw [Dv.sz_kids]; omega
theorem len_szs : ∀ ts : List Dv, ts.length ≤ szs ts
  | [] => Nat.le_refl _
  | t :: ts => by
    have h1 := t.sz_pos
    have h2 := len_szs ts
    show ts.length + 1 ≤ t.sz + szs ts
    omega
theorem Paired.app {α β : Type} {F : α → β → Prop} : ∀ {xs : List α} {ds : List β} {ys : List α} {es : List β}, Paired F xs ds → Paired F ys es → Paired F (xs ++ ys) (ds ++ es)
  | _, _, _, _, .nil, h => h
  | _, _, _, _, .cons r t, h => .cons r (Paired.app t h)
theorem Paired.last {α β : Type} {F : α → β → Prop} {xs : List α} {ds : List β} (h : Paired F xs ds) (hn : xs ≠ []) : ∃ x ds' d, xs[xs.length - 1]? = some x ∧ ds = ds' ++ [d] ∧ F x d ∧ Paired F xs.dropLast ds' := by
  induction h with
  | nil => exact absurd rfl hn
  | @cons x d xs ds r t ih =>
    cases t with
    | nil => exact ⟨x, [], d, rfl, rfl, r, .nil⟩
    | @cons y e ys es r2 t2 =>
      obtain ⟨z, ds', d', h1, h2, h3, h4⟩ := ih (fun z => by cases z)
      refine ⟨z, d :: ds', d', ?_, ?_, h3, ?_⟩
      · rw [List.length_cons, List.length_cons, Nat.add_sub_cancel, List.getElem?_cons_succ]
        rw [List.length_cons, Nat.add_sub_cancel] at h1
        exact h1
      · rw [h2, List.cons_append]
      · rw [List.dropLast_cons₂]
        exact .cons r h4
/-! ### all riders: none -/
def spRiders (K : PySem.W.Frag) (C : Addr) : Sp := fun vs H Q _ => ∃ (v u : V) (a e : Addr) (t : Dv), vs = [v, u] ∧ LibAt C H v a e ∧ DvAt K H u t ∧ t.sz ≤ 100000 ∧ ∀ p H', Same H H' → H' p = some (.lst []) → Q (.ref p) H'
theorem ok_riders {k : Nat} (T : Tx K mg w) (G_premises : FnOk P w K mg base CX0 k T.a_premises T.d_premises ["derivation"] (spPremises K)) (G_riders_of : FnOk P w K mg base CX0 k T.a_riders_of T.d_riders_of ["library", "row"] (spRidersOf K))
    (G_rider_keys : FnOk P w K mg base CX0 k T.a_rider_keys T.d_rider_keys ["library"] (spKeys T.C_Library)) :
    FnOk P w K mg base CX0 (k + 1) T.a_riders T.d_riders ["library", "derivation"] (spRiders K T.C_Library) := by
  refine T.F_riders.ok sc_riders (fun vs H Q E h => ?_) (fun cdv A outer s H vs Q E hr h => ?_)
  · obtain ⟨_, _, _, _, _, rfl, _⟩ := h
    rfl
  obtain ⟨v, u, a, e, t, rfl, hL, ht, hz, q⟩ := h
  refine ⟨_, (pss_cons (ps_set (i := 2) sc_riders.nd rfl (Or.inr rfl) pe_dnewK)
      (pss_cons (ps_set (i := 3) sc_riders.nd rfl (Or.inl rfl) (pe_lst (pa_cons (pv 1) pa_nil)))
      (pss_cons (ps_while PassesOwn.never (pt_truthK K (pv 3) (by intro _; rfl)) (pss_cons (ps_set (i := 4) sc_riders.nd rfl (Or.inl rfl) (pe_bm0 PySem.F.plainAttrs_list PySem.F.slot_list_pop PySem.F.type_list_pop mt_pop (pv 3)))
      (pss_cons (ps_expr (pe_bm PySem.F.plainAttrs_list PySem.F.slot_list_extend PySem.F.type_list_extend mt_extend (pv 3) (pa_cons (pe_call G_premises hr (by rfl) T.m_premises T.F_premises.kp T.b_premises .nil pass0 (pa_cons (pv 4) pa_nil)) pa_nil)))
      (pss_one (ps_for PassesOwn.never rfl (piL K (pe_call G_riders_of hr (by rfl) T.m_riders_of T.F_riders_of.kp T.b_riders_of .nil pass0 (pa_cons (pv 0) (pa_cons (pv 4) pa_nil)))) (pg_tup rfl (pgs_cons (pg_name (i := 5) sc_riders.nd rfl (Or.inl rfl)) (pgs_cons (pg_name (i := 6) sc_riders.nd rfl (Or.inl rfl)) pgs_nil))) (pss_one ps_never))))))
      (pss_one (ps_ret (pe_lc (own := [("key", 5)]) (g := gName 5) (by rfl) sc_riders.nd (piL K (pe_call G_rider_keys hr (by rfl) T.m_rider_keys T.F_rider_keys.kp T.b_rider_keys .nil pass0 (pa_cons (pv 0) pa_nil))) (blkOk_by (own := [("key", 5)]) (N := ["library", "derivation", "found", "waiting", "row", "key", "other"]) (sc := defScope s_riders) (by decide +kernel)) (fun _ _ _ _ _ => (pg_name (i := 5) sc_riders.nd rfl (Or.inl rfl))) (fun _ _ _ _ _ => (pts_one pt_never)) (fun _ _ _ _ _ => pe_never))))))), ?_⟩
  refine fun f nf => ?_
  refine ⟨_, rfl, (by show 1 ≤ sizeLine; decide), fun l nl => ?_⟩
  have s1 : Same H (upd H f (.dK [])) := Same.new nf
  have s2 : Same H (upd (upd H f (.dK [])) l (.lst [u])) := s1.trans (Same.new nl)
  have nl0 : H l = none := by
    by_cases z : l = f
    · rw [z]; exact nf
    · rw [upd_ne z] at nl; exact nl
  refine ⟨fun m σ' H' => Same H H' ∧ ∃ ys ts y1 y2 y3, σ' = [some v, some u, some (.ref f), some (.ref l), y1, y2, y3] ∧ H' l = some (.lst ys) ∧ Paired (DvAt K H') ys ts ∧ m = szs ts ∧ szs ts ≤ 100000, ⟨_, s2, [u], [t], none, none, none, rfl, upd_same, .cons (DvAt.kp (kpT_same s2) ht) .nil, rfl, by show t.sz + 0 ≤ 100000; omega⟩, ?_⟩
  rintro m σ' H' ⟨sm, ys, ts, y1, y2, y3, rfl, hl, hp, rfl, hb⟩
  refine ⟨_, rfl, _, .inl ⟨ys, SqL.of hl, rfl⟩, ?_⟩
  by_cases hy : ys = []
  · subst hy
    refine iteF ?_
    refine ⟨_, rfl, _, a, e, rfl, hL.same sm, fun p H2 sm2 hp2 => ⟨p, rfl, ⟨[], SqL.of hp2⟩, fun D nD => ?_⟩⟩
    have hpD : (upd H2 D (.lst [])) p = some (.lst []) := by rw [upd_ne (ne_of_none hp2 nD), hp2]
    refine lc_list (K := K) (a := p) (xs := []) (fun i H' => H' = upd H2 D (.lst [])) rfl (fun i H' _ h => by rw [h]; exact SqL.of hpD) ?_ ?_
    · intro i x H' hx
      simp at hx
    · rintro H' rfl
      exact q _ _ ((sm.trans sm2).trans (Same.new nD)) upd_same
  · have he : (!ys.isEmpty) = true := by
      cases ys with
      | nil => exact absurd rfl hy
      | cons _ _ => rfl
    rw [he]
    refine iteT ?_
    obtain ⟨x, ts', d, hx, rfl, hd, hp'⟩ := Paired.last hp hy
    rw [szs_app] at hb ⊢
    have es : szs [d] = szs d.kids + 1 := by show d.sz + 0 = _; rw [Nat.add_zero, Dv.sz_kids]
    refine ⟨fun σ2 H2 => Same H H2 ∧ ∃ ys2 ts2 y1 y2 y3, σ2 = [some v, some u, some (.ref f), some (.ref l), y1, y2, y3] ∧ H2 l = some (.lst ys2) ∧ Paired (DvAt K H2) ys2 ts2 ∧ szs ts2 < szs ts' + szs [d] ∧ szs ts2 ≤ 100000, ?_, ?_⟩
    · rintro σ2 H2 ⟨sm2, ys2, ts2, z1, z2, z3, e1, e2, e3, e4, e5⟩
      exact ⟨_, e4, sm2, ys2, ts2, z1, z2, z3, e1, e2, e3, rfl, e5⟩
    · refine ⟨_, rfl, .inl ⟨rfl, _, SqL.of hl⟩, l, ys, x, rfl, rfl, hl, hx, ?_⟩
      have k1 : KpT (only1 l) H' (upd H' l (.lst ys.dropLast)) := ⟨Kp.refl.put rfl, fun b hb => by
        have hb : b = l := hb
        subst hb
        exact ⟨_, hl, fun xs f => ⟨(by intro z; cases z), (by intro z; cases z)⟩⟩⟩
      have sm1 : Same H (upd H' l (.lst ys.dropLast)) := Same.put sm nl0
      have hd1 := DvAt.kp k1 hd
      have hp1 := Paired.mapP hp' fun a b z => DvAt.kp k1 z
      have hl1 : (upd H' l (.lst ys.dropLast)) l = some (.lst ys.dropLast) := upd_same
      generalize upd H' l (.lst ys.dropLast) = H1 at sm1 hd1 hp1 hl1
      have hlen := len_szs ts'
      have hlen1 := Paired.len hp1
      refine ⟨_, rfl, .inl ⟨rfl, _, SqL.of hl1⟩, _, rfl, x, d, rfl, hd1, fun H2 p zs sm2 hp2 hk => ?_⟩
      have hlen2 := len_szs d.kids
      have hlen3 := Paired.len hk
      have hl2 := sm2 _ _ hl1
      refine ⟨l, p, ys.dropLast, zs, rfl, rfl, hl2, hp2, sz1 (by omega), ?_⟩
      have k2 : KpT (only1 l) H2 (upd H2 l (.lst (ys.dropLast ++ zs))) := ⟨Kp.refl.put rfl, fun b hb => by
        have hb : b = l := hb
        subst hb
        exact ⟨_, hl2, fun xs f => ⟨(by intro z; cases z), (by intro z; cases z)⟩⟩⟩
      have sm3 : Same H (upd H2 l (.lst (ys.dropLast ++ zs))) := Same.put (sm1.trans sm2) nl0
      have hd3 := DvAt.kp k2 (DvAt.kp (kpT_same sm2) hd1)
      have hp3 := Paired.mapP (Paired.app (Paired.mapP hp1 fun a b z => DvAt.kp (kpT_same sm2) z) hk) fun a b z => DvAt.kp k2 z
      have hl3 : (upd H2 l (.lst (ys.dropLast ++ zs))) l = some (.lst (ys.dropLast ++ zs)) := upd_same
      generalize upd H2 l (.lst (ys.dropLast ++ zs)) = H3 at sm3 hd3 hp3 hl3
      refine ⟨_, rfl, _, rfl, v, x, d, rfl, hd3, fun r nr => ⟨r, rfl, ⟨[], SqL.of upd_same⟩, ?_⟩⟩
      have sm4 : Same H3 (upd H3 r (.lst [])) := Same.new nr
      refine for_stop (J := Itl K r) ⟨[], SqL.of upd_same, Nat.le_refl _⟩ ?_
      refine ⟨sm3.trans sm4, ys.dropLast ++ zs, ts' ++ d.kids, _, _, _, rfl, sm4 _ _ hl3, Paired.mapP hp3 fun a b z => DvAt.kp (kpT_same sm4) z, ?_, ?_⟩
      · rw [szs_app, es]
        omega
      · rw [szs_app]
        omega
end
end W77
namespace W77
open PySem PySem.Spec PyProof.Rows L2 HX
/-! ### derivations within bounds -/
structure Dv.Good (t : Dv) : Prop where
  pos : t.Pos
  gp : t.gp ≤ 20000
  ml : t.ml ≤ 536870912
  sz : t.sz ≤ 100000
theorem Dv.gp_pos : ∀ t : Dv, 1 ≤ t.gp
  | .own _ => Nat.le_refl _
  | .pick _ _ b => Nat.le_add_left _ _
  | .offer a b => Nat.le_add_left _ _
  | .cut m mn a b => by
    rw [Dv.gp_cut]
    have := Dv.gp_pos b
    omega
  | .pay nm m a b => by
    rw [Dv.gp_pay]
    omega
theorem boxG_ge {g : Nat} : ∀ {m : Mode}, 1 ≤ m.n → g ≤ boxG g m ∧ m.n ≤ boxG g m + 1
  | .once, _ => ⟨Nat.le_refl _, by show 1 ≤ g + 1; omega⟩
  | .box n d, h => by
    have h : 1 ≤ n := h
    have h1 : n * 1 ≤ n * (g + 1) := Nat.mul_le_mul_left _ (by omega)
    have h2 : 1 * (g + 1) ≤ n * (g + 1) := Nat.mul_le_mul_right _ h
    exact ⟨by show g ≤ n * (g + 1); omega, by show n ≤ n * (g + 1) + 1; omega⟩
theorem Dv.Good.kid {t c : Dv} (h : t.Good) (hc : c ∈ t.kids) : c.Good ∧ c.dp < t.dp := by
  obtain ⟨h1, h2, h3, h4⟩ := h
  cases t with
  | own x => exact absurd hc List.not_mem_nil
  | pick x s b =>
    have hc : c = b := List.mem_singleton.mp hc
    subst hc
    have h2 : c.gp + 1 ≤ 20000 := h2
    have h4 : c.sz + 1 ≤ 100000 := h4
    exact ⟨⟨h1, by omega, h3, by omega⟩, Nat.lt_succ_self _⟩
  | offer a b =>
    have h2 : max a.gp b.gp + 1 ≤ 20000 := h2
    have h3 : max a.ml b.ml ≤ 536870912 := h3
    have h4 : a.sz + b.sz + 1 ≤ 100000 := h4
    rcases List.mem_cons.mp hc with e | e
    · subst e
      exact ⟨⟨h1.1, by omega, by omega, by omega⟩, by show c.dp < max c.dp b.dp + 1; omega⟩
    · have e : c = b := List.mem_singleton.mp e
      subst e
      exact ⟨⟨h1.2, by omega, by omega, by omega⟩, by show c.dp < max a.dp c.dp + 1; omega⟩
  | cut m mn a b =>
    rw [Dv.gp_cut] at h2
    have h3 : m.n * a.ml + b.ml + m.n * (boxG a.gp m + b.gp) ≤ 536870912 := h3
    have h4 : a.sz + b.sz + 1 ≤ 100000 := h4
    have z := boxG_ge (g := a.gp) h1.1
    have z2 : 1 * a.ml ≤ m.n * a.ml := Nat.mul_le_mul_right _ h1.1
    rcases List.mem_cons.mp hc with e | e
    · subst e
      exact ⟨⟨h1.2.1, by omega, by omega, by omega⟩, by show c.dp < max c.dp b.dp + 1; omega⟩
    · have e : c = b := List.mem_singleton.mp e
      subst e
      exact ⟨⟨h1.2.2, by omega, by omega, by omega⟩, by show c.dp < max a.dp c.dp + 1; omega⟩
  | pay nm m a b =>
    rw [Dv.gp_pay] at h2
    have h3 : m.n * a.ml + b.ml ≤ 536870912 := h3
    have h4 : a.sz + b.sz + 1 ≤ 100000 := h4
    have z := boxG_ge (g := a.gp) h1.1
    have z2 : 1 * a.ml ≤ m.n * a.ml := Nat.mul_le_mul_right _ h1.1
    rcases List.mem_cons.mp hc with e | e
    · subst e
      exact ⟨⟨h1.2.1, by omega, by omega, by omega⟩, by show c.dp < max c.dp b.dp + 1; omega⟩
    · have e : c = b := List.mem_singleton.mp e
      subst e
      exact ⟨⟨h1.2.2, by omega, by omega, by omega⟩, by show c.dp < max a.dp c.dp + 1; omega⟩
theorem big_l {n : Nat} (h : n ≤ 35184372088832) : n ≤ 2 ^ 100000 := Nat.le_trans h (Nat.le_trans (show 35184372088832 ≤ 2 ^ 45 by decide) (Nat.pow_le_pow_right (by decide) (by decide)))
theorem Dv.Good.sm {t : Dv} (h : t.Good) : t.tal.Sm := t.bd.sm (Nat.le_trans h.gp (by decide)) (big_l (Nat.le_trans h.ml (by decide)))
theorem pow_sm {a : T3} {g l n : Nat} (h : Bd a g l) (hg : n * g ≤ 100000) (hl : n * l ≤ 35184372088832) {i : Nat} (hi : i ≤ n) : (a.pow i).Sm :=
  (h.pow i).sm (Nat.le_trans (Nat.mul_le_mul_right _ hi) hg) (big_l (Nat.le_trans (Nat.mul_le_mul_right _ hi) hl))
/-- what boxed_tally asks -/
theorem boxed_ask {a : Dv} {m : Mode} (h : a.Good) (hn : 1 ≤ m.n) (h2 : boxG a.gp m ≤ 20000) : a.tal.Sm ∧ (a.tal.tall 1).Sm ∧ m.n ≤ 100000 ∧ ∀ i, i ≤ m.n → ((a.tal.tall 1).pow i).Sm := by
  have z := boxG_ge (g := a.gp) hn
  have hb := a.bd.tall
  refine ⟨h.sm, hb.sm (by have := h.gp; omega) (big_l (Nat.le_trans h.ml (by decide))), by omega, fun i hi => pow_sm (n := m.n) hb ?_ ?_ hi⟩
  · cases m with
    | once => show 1 * (a.gp + 1) ≤ 100000; have := h.gp; omega
    | box n d =>
      have h2 : n * (a.gp + 1) ≤ 20000 := h2
      show n * (a.gp + 1) ≤ 100000
      omega
  · have z1 : m.n ≤ 20001 := by omega
    refine Nat.le_trans (Nat.mul_le_mul z1 h.ml) (by decide)
theorem boxed_sm {a b : Dv} {m : Mode} (ha : a.Good) (hb : b.Good) (hn : 1 ≤ m.n) (h2 : boxG a.gp m + b.gp ≤ 20000) : (boxT a.tal m).Sm ∧ ((boxT a.tal m).mul b.tal).Sm := by
  have z := boxG_ge (g := a.gp) hn
  have h1 := a.bd.box m
  have h3 := h1.mul b.bd
  have z1 : m.n ≤ 20001 := by omega
  have z2 : m.n * a.ml ≤ 20001 * 536870912 := Nat.mul_le_mul z1 ha.ml
  have z3 := hb.ml
  exact ⟨h1.sm (by omega) (big_l (by omega)), h3.sm (by omega) (big_l (by omega))⟩
/-! ### a comprehension over the premises -/
section
variable {K : PySem.W.Frag}
theorem kpt_dk {m : Addr → Prop} {H H' : Hp} (h : Kp m H H') (hm : ∀ b, m b → ∃ ks, H b = some (.dK ks)) : KpT m H H' := ⟨h, fun b hb => let ⟨ks, e⟩ := hm b hb; ⟨_, e, fun xs f => ⟨(by intro z; cases z), (by intro z; cases z)⟩⟩⟩
theorem kids_lc {m : Addr → Prop} {I : Hp → Prop} {F : Hp → V → Dv → Prop} {p D : Addr} {ys : List V} {kids : List Dv} {H1 : Hp} {σ : L2.St} {vs : List Nat} {i0 : Nat} {te : TE} {Qd : Hp → Prop}
    (hp : H1 p = some (.lst ys)) (hk : Paired (DvAt K H1) ys kids) (nD : H1 D = none) (hI : I H1) (mI : ∀ H, I H → ∀ b, m b → ∃ ks, H b = some (.dK ks))
    (uI : ∀ H xs, I H → (H D = none ∨ ∃ l, H D = some (.lst l)) → I (upd H D (.lst xs))) (uF : ∀ H v t l xs, H D = some (.lst l) → F H v t → F (upd H D (.lst xs)) v t) (kF : ∀ H H' v t, I H → Kp m H H' → F H v t → F H' v t)
    (small : kids.length ≤ 1000) (hw : ∀ x, wipe ((wipe σ vs).set i0 (some x)) vs = wipe σ vs)
    (step : ∀ x t H', t ∈ kids → DvAt K H' x t → Kp m H1 H' → I H' → (∃ l, H' D = some (.lst l)) → ∀ Qn : VK, (∀ v H2, Kp m H' H2 → I H2 → F H2 v t → Qn v H2) → te ((wipe σ vs).set i0 (some x)) H' Qn)
    (hd : ∀ H' acc, Kp m H1 H' → I H' → H' D = some (.lst acc) → Paired (F H') acc kids → Qd H') :
    ∃ W : Nat → Nat → Hp → Prop, (∃ n, W 0 n (upd H1 D (.lst []))) ∧ ∀ i n H, W i n H →
      ((Itl K p).stop i H ∧ Qd H) ∨ ((Itl K p).go i H ∧ ∃ Nx : Hp → Prop, (∀ H', Nx H' → ∃ n', n' < n ∧ W (i + 1) n' H') ∧ ∀ x H', (Itl K p).yld i H x H' → gName i0 x (wipe σ vs) H' fun σ2 H2 => wipe σ2 vs = wipe σ vs ∧ tYes σ2 H2 fun b H3 =>
        if b = true then te σ2 H3 fun y H4 => ∃ acc, H4 D = some (.lst acc) ∧ acc.length < sizeLine ∧ Nx (upd H4 D (.lst (acc ++ [y]))) else Nx H3) := by
  have hpm : ∀ H', Kp m H1 H' → H' p = some (.lst ys) := fun H' k => k _ _ (fun z => by
    obtain ⟨ks, e⟩ := mI _ hI p z
    rw [hp] at e
    cases e) hp
  have hDm : ∀ H l, I H → H D = some (.lst l) → ¬ m D := fun H l i e z => by
    obtain ⟨ks, e2⟩ := mI _ i D z
    rw [e] at e2
    cases e2
  refine lc_list (K := K) (a := p) (xs := ys) (g := gName i0) (tt := tYes) (te := te) (fun i H' => Kp m H1 H' ∧ I H' ∧ ∃ acc, H' D = some (.lst acc) ∧ Paired (F H') acc (kids.take i)) ⟨Kp.refl.new nD, uI _ _ hI (.inl nD), [], upd_same, .nil⟩ (fun i H' _ h => SqL.of (hpm _ h.1)) ?_ ?_
  · rintro i x H' hx ⟨k1, i1, acc, hD, hacc⟩
    obtain ⟨t, ht, hxt⟩ := HX.Paired.getL hk hx
    have len1 : acc.length ≤ 1000 := by
      rw [Paired.len hacc, List.length_take]
      omega
    refine ⟨hw x, ?_⟩
    dsimp only [tYes]
    rw [if_pos rfl]
    refine step x t H' (List.mem_of_getElem? ht) (DvAt.kp (kpt_dk k1 (mI _ hI)) hxt) k1 i1 ⟨_, hD⟩ _ fun v H2 k2 i2 hv => ?_
    have hD2 := k2 _ _ (hDm _ _ i1 hD) hD
    refine ⟨acc, hD2, sz2 (by omega), (k1.trans k2).own nD, uI _ _ i2 (.inr ⟨_, hD2⟩), _, upd_same, ?_⟩
    rw [List.take_add_one, ht]
    exact Paired.mapP (Paired.snoc hv (Paired.mapP hacc fun a b z => kF _ _ _ _ i1 k2 z)) fun a b z => uF _ _ _ _ _ hD2 z
  · rintro H' ⟨k1, i1, acc, hD, hacc⟩
    rw [Paired.len hk, List.take_length] at hacc
    exact hd H' acc k1 i1 hD hacc
end
section
variable {C r : Addr} {H H' : Hp} {v : V} {t : T3}
theorem TalAt.put (h : TalAt C H v t) {D : Addr} {l xs : List V} (e : H D = some (.lst l)) : TalAt C (upd H D (.lst xs)) v t := by
  obtain ⟨x, dx, e1, q⟩ := h
  exact ⟨x, dx, e1, by rw [upd_ne (ne_of q e (by intro z; cases z))]; exact q⟩
theorem RkAt.ne {D : Addr} {o : HO} (h : RkAt H r) (e : H D = none ∨ ∃ l, H D = some (.lst l)) : RkAt (upd H D o) r := by
  have ne : r ≠ D := fun z => by
    subst z
    rcases h with h | h <;> rcases e with e | ⟨l, e⟩ <;> rw [e] at h <;> cases h
  rcases h with h | h
  · exact .inl (by rw [upd_ne ne]; exact h)
  · exact .inr (by rw [upd_ne ne]; exact h)
theorem RkAt.same (h : RkAt H r) (s : Same H H') : RkAt H' r := h.elim (fun e => .inl (s _ _ e)) fun e => .inr (s _ _ e)
theorem RkAt.dk (h : RkAt H r) : ∀ b, only1 r b → ∃ ks, H b = some (.dK ks) := fun b hb => by
  have hb : b = r := hb
  subst hb
  exact h.elim (fun e => ⟨_, e⟩) fun e => ⟨_, e⟩
theorem TalAt.rk (h : TalAt C H v t) (k : Kp (only1 r) H H') (hR : RkAt H r) : TalAt C H' v t := by
  obtain ⟨x, dx, e1, q⟩ := h
  refine ⟨x, dx, e1, k _ _ (fun z => ?_) q⟩
  obtain ⟨ks, e⟩ := hR.dk x z
  rw [q] at e
  cases e
end
end W77
namespace W77
open PySem PySem.Spec PyProof.Rows L2 HX
section
variable {P : Program} {w : World} {K : PySem.W.Frag} {mg : Str → Option Value} {base : Heap}
theorem paired1 {α β : Type} {F : α → β → Prop} {xs : List α} {a : β} (h : Paired F xs [a]) : ∃ x, xs = [x] ∧ F x a := by
  cases h with
  | cons r t =>
    cases t
    exact ⟨_, rfl, r⟩
theorem paired2 {α β : Type} {F : α → β → Prop} {xs : List α} {a b : β} (h : Paired F xs [a, b]) : ∃ x y, xs = [x, y] ∧ F x a ∧ F y b := by
  cases h with
  | cons r t =>
    cases t with
    | cons r2 t2 =>
      cases t2
      exact ⟨_, _, rfl, r, r2⟩
def spTW (K : PySem.W.Frag) (C CL : Addr) (d : Nat) : Sp := fun vs H Q _ => ∃ (lv v kn : V) (r a e : Addr) (t : Dv), vs = [lv, v, kn, .ref r] ∧ LibAt CL H lv a e ∧ DvAt K H v t ∧ t.Good ∧ t.dp < d ∧ RkAt H r ∧ r ≠ a ∧ r ≠ e ∧
  ∀ u H', Kp (only1 r) H H' → RkAt H' r → TalAt C H' u t.tal → Q u H'
theorem kids_small (t : Dv) : t.kids.length ≤ 1000 := by
  cases t with
  | own x => exact Nat.zero_le _
  | pick x s b => show 1 ≤ 1000; decide
  | offer a b => show 2 ≤ 1000; decide
  | cut m mn a b => show 2 ≤ 1000; decide
  | pay nm m a b => show 2 ≤ 1000; decide
theorem t3_no {t : T3} {n : Str} (h1 : (n == ("plays" : Str)) = false := by decide +kernel) (h2 : (n == ("rows" : Str)) = false := by decide +kernel) (h3 : (n == ("load" : Str)) = false := by decide +kernel) : (tf t).lookup n = none := tf_no h1 h2 h3
theorem tally_step {k d : Nat} (T : Tx K mg w) (G_Tally__init : FnOk P w K mg base CX0 k T.a_Tally__init T.d_Tally__init ["self", "plays", "rows", "load"] (spTInit T.C_Tally))
    (G_premises : FnOk P w K mg base CX0 (k + 1) T.a_premises T.d_premises ["derivation"] (spPremises K)) (G_tally_within : FnOk P w K mg base CX0 (k + 1) T.a_tally_within T.d_tally_within ["library", "derivation", "known", "ranks"] (spTW K T.C_Tally T.C_Library d))
    (G_Tally__add : FnOk P w K mg base CX0 (k + 1) T.a_Tally__add T.d_Tally__add ["self", "other"] (spTAdd T.C_Tally)) (G_Tally__mul : FnOk P w K mg base CX0 (k + 1) T.a_Tally__mul T.d_Tally__mul ["self", "other"] (spTMul T.C_Tally))
    (G_Tally_taller : FnOk P w K mg base CX0 (k + 1) T.a_Tally_taller T.d_Tally_taller ["self", "k"] (spTTall T.C_Tally)) (G_Tally_cut : FnOk P w K mg base CX0 (k + 1) T.a_Tally_cut T.d_Tally_cut ["self", "factor"] (spTCut T.C_Tally))
    (G_boxed_tally : FnOk P w K mg base CX0 (k + 1) T.a_boxed_tally T.d_boxed_tally ["found", "kind"] (spBoxed K T.C_Tally)) (G_copies : FnOk P w K mg base CX0 (k + 1) T.a_copies T.d_copies ["kind"] (spCopies K))
    (G_rank_within : FnOk P w K mg base CX0 (k + 1) T.a_rank_within T.d_rank_within ["library", "sentence", "known"] (spRankB K T.C_Library)) :
    FnOk P w K mg base CX0 (k + 2) T.a_tally_within T.d_tally_within ["library", "derivation", "known", "ranks"] (spTW K T.C_Tally T.C_Library (d + 1)) := by
  refine T.F_tally_within.ok sc_tally_within (fun vs H Q E h => ?_) (fun cdv A outer s H vs Q E hr h => ?_)
  · obtain ⟨_, _, _, _, _, _, _, rfl, _⟩ := h
    rfl
  obtain ⟨lv, v, kn, r, a, e, t, rfl, hL, hv, hg, hd, hR, nra, nre, q⟩ := h
  refine ⟨_, (pss_cons (ps_set (i := 4) sc_tally_within.nd rfl (Or.inl rfl) (pe_ix (ixT K) (pv 1) pe_int (fun _ _ => rfl)))
      (pss_cons (ps_if (pt_cmpR op_eq (pv 4) pe_str (nomark _)) (pss_one (ps_ret (pe_make T.k_Tally G_Tally__init hr (by rfl) T.c_Tally T.b_Tally__init .nil pass0 (pa_cons pe_int (pa_cons pe_int (pa_cons pe_int pa_nil)))))) pss_nil)
      (pss_cons (ps_if (pt_cmpR op_eq (pv 4) pe_str (nomark _)) (pss_one ps_never) pss_nil)
      (pss_cons (ps_setLc (i := 5) (own := [("premise", 10)]) (g := gName 10) (by rfl) sc_tally_within.nd rfl rfl (sw_true rfl rfl rfl (by decide +kernel)) (piL K (pe_call G_premises hr (by rfl) T.m_premises T.F_premises.kp T.b_premises .nil pass0 (pa_cons (pv 1) pa_nil))) (blkOk_by (own := [("premise", 10)]) (N := ["library", "derivation", "known", "ranks", "name", "found", "factor", "total", "key", "_", "premise"]) (sc := defScope s_tally_within) (by decide +kernel)) (fun _ _ _ _ _ => (pg_name (i := 10) sc_tally_within.nd rfl (Or.inl rfl))) (fun _ _ _ _ _ => pts_nil) (fun _ _ _ _ _ => (pe_call G_tally_within hr (by rfl) T.m_tally_within T.F_tally_within.kp T.b_tally_within .nil pass0 (pa_cons (pv 0) (pa_cons (pv 10) (pa_cons (pv 2) (pa_cons (pv 3) pa_nil)))))))
      (pss_cons (ps_if (pt_cmpR op_eq (pv 4) pe_str (nomark _)) (pss_one (ps_ret (pe_meth (pe_op (op_own rfl T.of_Tally__add T.oi_Tally__add T.sf_Tally G_Tally__add hr T.b_Tally__add pass0) (pe_ix (ixL K) (pv 5) pe_int (fun _ _ => rfl)) (pe_ix (ixL K) (pv 5) pe_int (fun _ _ => rfl))) T.cl_Tally T.mt_Tally_taller G_Tally_taller hr T.b_Tally_taller .nil pass0 (pa_cons pe_int pa_nil)))) pss_nil)
      (pss_cons (ps_if (pt_cmpR op_eq (pv 4) pe_str (nomark _)) (pss_one (ps_ret (pe_meth (pe_op (op_own rfl T.of_Tally__mul T.oi_Tally__mul T.sf_Tally G_Tally__mul hr T.b_Tally__mul pass0) (pe_call G_boxed_tally hr (by rfl) T.m_boxed_tally T.F_boxed_tally.kp T.b_boxed_tally .nil pass0 (pa_cons (pe_ix (ixL K) (pv 5) pe_int (fun _ _ => rfl)) (pa_cons (pe_ix (ixT K) (pv 1) pe_int (fun _ _ => rfl)) pa_nil))) (pe_ix (ixL K) (pv 5) pe_int (fun _ _ => rfl))) T.cl_Tally T.mt_Tally_taller G_Tally_taller hr T.b_Tally_taller .nil pass0 (pa_cons pe_int pa_nil)))) pss_nil)
      (pss_cons (ps_if (pt_cmpR op_eq (pv 4) pe_str (nomark _)) (pss_cons (ps_set (i := 6) sc_tally_within.nd rfl (Or.inl rfl) (pe_op op_mulW (pe_call G_copies hr (by rfl) T.m_copies T.F_copies.kp T.b_copies .nil pass0 (pa_cons (pe_ix (ixT K) (pv 1) pe_int (fun _ _ => rfl)) pa_nil)) (pe_call G_rank_within hr (by rfl) T.m_rank_within T.F_rank_within.kp T.b_rank_within .nil pass0 (pa_cons (pv 0) (pa_cons (pe_ix (ixT K) (pv 1) pe_int (fun _ _ => rfl)) (pa_cons (pv 3) pa_nil))))))
      (pss_one (ps_ret (pe_meth (pe_op (op_own rfl T.of_Tally__mul T.oi_Tally__mul T.sf_Tally G_Tally__mul hr T.b_Tally__mul pass0) (pe_call G_boxed_tally hr (by rfl) T.m_boxed_tally T.F_boxed_tally.kp T.b_boxed_tally .nil pass0 (pa_cons (pe_ix (ixL K) (pv 5) pe_int (fun _ _ => rfl)) (pa_cons (pe_ix (ixT K) (pv 1) pe_int (fun _ _ => rfl)) pa_nil))) (pe_ix (ixL K) (pv 5) pe_int (fun _ _ => rfl))) T.cl_Tally T.mt_Tally_cut G_Tally_cut hr T.b_Tally_cut .nil pass0 (pa_cons (pv 6) pa_nil))))) pss_nil)
      (pss_cons (ps_set (i := 7) sc_tally_within.nd rfl (Or.inl rfl) (pe_ix (ixL K) (pv 5) pe_int (fun _ _ => rfl)))
      (pss_cons (ps_if (pt_cmpR op_eq (pv 4) pe_str (nomark _)) (pss_one ps_never) pss_nil)
      (pss_one (ps_ret (pe_meth (pv 7) T.cl_Tally T.mt_Tally_taller G_Tally_taller hr T.b_Tally_taller .nil pass0 (pa_cons pe_int pa_nil))))))))))))), ?_⟩
  have mI : ∀ H, RkAt H r → ∀ b, only1 r b → ∃ ks, H b = some (.dK ks) := fun H h => h.dk
  have stp : ∀ (D : Addr) (H1 : Hp) (σ : L2.St) (x : V) (c : Dv) (H' : Hp), Kp (only1 r) H H1 → c ∈ t.kids → DvAt K H' x c → Kp (only1 r) H1 H' → RkAt H' r → ∀ Qn : VK, (∀ v H2, Kp (only1 r) H' H2 → RkAt H2 r → TalAt T.C_Tally H2 v c.tal → Qn v H2) →
      spTW K T.C_Tally T.C_Library d [lv, x, kn, .ref r] H' Qn E0 := fun D H1 σ x c H' k0 hc hx k1 i1 Qn qn => by
    have z := hg.kid hc
    exact ⟨lv, x, kn, r, a, e, c, rfl, hL.rk (k0.trans k1) hR nra nre, hx, z.1, by omega, i1, nra, nre, qn⟩
  cases t with
  | own x =>
    obtain ⟨c, rfl, hc⟩ := hv
    refine ⟨_, rfl, c, _, 0, _, rfl, rfl, hc, rfl, ?_⟩
    refine ⟨_, rfl, rfl, _, rfl, iteT ?_⟩
    intro z dz nz ndz ne
    exact make_tal (t := ⟨1, 1, 0⟩) (fun H' v s ht => q v H' (Kp.of s) (hR.same s) ht) nz ndz ne
  | pick x sd b =>
    have hv0 := hv
    obtain ⟨c, y, rfl, hc, hb⟩ := hv
    refine ⟨_, rfl, c, _, 0, _, rfl, rfl, hc, rfl, ?_⟩
    refine ⟨_, rfl, rfl, _, rfl, iteF ?_⟩
    refine ⟨_, rfl, rfl, _, rfl, iteF ?_⟩
    refine ⟨_, rfl, .ref c, _, rfl, hv0, fun H1 p ys sm1 hp hk => ⟨p, rfl, ⟨ys, SqL.of hp⟩, fun D nD => ?_⟩⟩
    refine kids_lc (m := only1 r) (I := fun H => RkAt H r) (F := fun H v t => TalAt T.C_Tally H v t.tal) hp hk nD (hR.same sm1) mI (fun H xs i z => i.ne z) (fun H v t l xs e h => h.put e) (fun H H' v t i k h => h.rk k i) (kids_small _) (fun x => rfl) ?_ ?_
    · intro x c2 H' hc2 hx k1 i1 _ Qn qn
      exact ⟨_, rfl, _, rfl, _, rfl, _, rfl, stp D H1 [] x c2 H' (Kp.of sm1) hc2 hx k1 i1 Qn qn⟩
    · intro H2 acc k2 hR2 hD hacc
      obtain ⟨u, rfl, hu⟩ := paired1 hacc
      have zb := hg.kid (c := b) List.mem_cons_self
      refine ⟨_, rfl, rfl, _, rfl, iteF ?_⟩
      refine ⟨_, rfl, rfl, _, rfl, iteF ?_⟩
      refine ⟨_, rfl, rfl, _, rfl, iteF ?_⟩
      refine ⟨_, rfl, D, _, 0, _, rfl, rfl, SqL.of hD, rfl, ?_⟩
      refine ⟨_, rfl, rfl, _, rfl, iteF ?_⟩
      obtain ⟨x1, d1, rfl, e1⟩ := id hu
      refine ⟨_, rfl, x1, d1, _, rfl, e1, t3_no, .ref x1, 1, b.tal, rfl, hu, zb.1.sm, by decide, fun H3 u3 s3 h3 => ?_⟩
      exact q u3 H3 (((Kp.of sm1).trans k2).trans (Kp.of s3)) (hR2.same s3) h3
  | offer b1 b2 =>
    have hv0 := hv
    obtain ⟨c, y, z, rfl, hc, hb1, hb2⟩ := hv
    refine ⟨_, rfl, c, _, 0, _, rfl, rfl, hc, rfl, ?_⟩
    refine ⟨_, rfl, rfl, _, rfl, iteF ?_⟩
    refine ⟨_, rfl, rfl, _, rfl, iteF ?_⟩
    refine ⟨_, rfl, .ref c, _, rfl, hv0, fun H1 p ys sm1 hp hk => ⟨p, rfl, ⟨ys, SqL.of hp⟩, fun D nD => ?_⟩⟩
    refine kids_lc (m := only1 r) (I := fun H => RkAt H r) (F := fun H v t => TalAt T.C_Tally H v t.tal) hp hk nD (hR.same sm1) mI (fun H xs i z => i.ne z) (fun H v t l xs e h => h.put e) (fun H H' v t i k h => h.rk k i) (kids_small _) (fun x => rfl) ?_ ?_
    · intro x c2 H' hc2 hx k1 i1 _ Qn qn
      exact ⟨_, rfl, _, rfl, _, rfl, _, rfl, stp D H1 [] x c2 H' (Kp.of sm1) hc2 hx k1 i1 Qn qn⟩
    · intro H2 acc k2 hR2 hD hacc
      obtain ⟨u1, u2, rfl, hu1, hu2⟩ := paired2 hacc
      have z1 := hg.kid (c := b1) List.mem_cons_self
      have z2 := hg.kid (c := b2) (List.mem_cons_of_mem _ List.mem_cons_self)
      refine ⟨_, rfl, rfl, _, rfl, iteT ?_⟩
      obtain ⟨x1, d1, rfl, e1⟩ := id hu1
      obtain ⟨x2, d2, rfl, e2⟩ := id hu2
      refine ⟨_, rfl, D, _, 0, _, rfl, rfl, SqL.of hD, rfl, _, rfl, D, _, 1, _, rfl, rfl, SqL.of hD, rfl, x1, x2, d1, d2, _, _, rfl, rfl, e1, e2, .ref x1, .ref x2, b1.tal, b2.tal, rfl, hu1, hu2, fun H3 u3 s3 h3 => ?_⟩
      obtain ⟨x3, d3, rfl, e3⟩ := id h3
      have bd : Bd (b1.tal.add b2.tal) (max b1.gp b2.gp + 1) (max b1.ml b2.ml) := (b1.bd.mono (Nat.le_max_left _ b2.gp) (Nat.le_max_left _ b2.ml)).add (b2.bd.mono (Nat.le_max_right b1.gp _) (Nat.le_max_right b1.ml _))
      refine ⟨x3, rfl, x3, d3, _, rfl, e3, t3_no, .ref x3, 1, _, rfl, h3, bd.sm (by have := z1.1.gp; have := z2.1.gp; omega) (big_l (by have := z1.1.ml; have := z2.1.ml; omega)), by decide, fun H4 u4 s4 h4 => ?_⟩
      exact q u4 H4 ((((Kp.of sm1).trans k2).trans (Kp.of s3)).trans (Kp.of s4)) ((hR2.same s3).same s4) h4
  | pay nm m b1 b2 =>
    have hv0 := hv
    obtain ⟨c, mv, y, z, rfl, hc, hm, hb1, hb2⟩ := hv
    refine ⟨_, rfl, c, _, 0, _, rfl, rfl, hc, rfl, ?_⟩
    refine ⟨_, rfl, rfl, _, rfl, iteF ?_⟩
    refine ⟨_, rfl, rfl, _, rfl, iteF ?_⟩
    refine ⟨_, rfl, .ref c, _, rfl, hv0, fun H1 p ys sm1 hp hk => ⟨p, rfl, ⟨ys, SqL.of hp⟩, fun D nD => ?_⟩⟩
    refine kids_lc (m := only1 r) (I := fun H => RkAt H r) (F := fun H v t => TalAt T.C_Tally H v t.tal) hp hk nD (hR.same sm1) mI (fun H xs i z => i.ne z) (fun H v t l xs e h => h.put e) (fun H H' v t i k h => h.rk k i) (kids_small _) (fun x => rfl) ?_ ?_
    · intro x c2 H' hc2 hx k1 i1 _ Qn qn
      exact ⟨_, rfl, _, rfl, _, rfl, _, rfl, stp D H1 [] x c2 H' (Kp.of sm1) hc2 hx k1 i1 Qn qn⟩
    · intro H2 acc k2 hR2 hD hacc
      obtain ⟨u1, u2, rfl, hu1, hu2⟩ := paired2 hacc
      have z1 := (hg.kid (c := b1) List.mem_cons_self).1
      have z2 := (hg.kid (c := b2) (List.mem_cons_of_mem _ List.mem_cons_self)).1
      have hgp := hg.gp
      rw [Dv.gp_pay] at hgp
      have k02 := (Kp.of (m := only1 r) sm1).trans k2
      have kt := rk_tup k02 hR
      obtain ⟨a1, a2, a3, a4⟩ := boxed_ask z1 hg.pos.1 (by omega)
      obtain ⟨c1, c2⟩ := boxed_sm z1 z2 hg.pos.1 (by omega)
      refine ⟨_, rfl, rfl, _, rfl, iteF ?_⟩
      refine ⟨_, rfl, rfl, _, rfl, iteT ?_⟩
      refine ⟨_, rfl, D, _, 0, _, rfl, rfl, SqL.of hD, rfl, _, rfl, c, _, 2, _, rfl, rfl, kt.tup hc, rfl, u1, mv, b1.tal, m, rfl, hu1, hm.kp kt, a1, a2, a3, a4, fun H3 u3 s3 h3 => ?_⟩
      have hu2' := hu2.same s3
      obtain ⟨x2, d2, rfl, e2⟩ := id hu2'
      obtain ⟨x3, d3, rfl, e3⟩ := id h3
      refine ⟨_, rfl, D, _, 1, _, rfl, rfl, SqL.of (s3 _ _ hD), rfl, x3, x2, d3, d2, _, _, rfl, rfl, e3, e2, .ref x3, .ref x2, _, b2.tal, rfl, h3, hu2', c1, z2.sm, fun H4 u4 s4 h4 => ?_⟩
      obtain ⟨x4, d4, rfl, e4⟩ := id h4
      refine ⟨x4, rfl, x4, d4, _, rfl, e4, t3_no, .ref x4, 1, _, rfl, h4, c2, by decide, fun H5 u5 s5 h5 => ?_⟩
      exact q u5 H5 (k02.trans (Kp.of ((s3.trans s4).trans s5))) (hR2.same ((s3.trans s4).trans s5)) h5
  | cut m mn b1 b2 =>
    have hv0 := hv
    obtain ⟨c, mv, sv, y, z, rfl, hc, hm, hs, hb1, hb2⟩ := hv
    refine ⟨_, rfl, c, _, 0, _, rfl, rfl, hc, rfl, ?_⟩
    refine ⟨_, rfl, rfl, _, rfl, iteF ?_⟩
    refine ⟨_, rfl, rfl, _, rfl, iteF ?_⟩
    refine ⟨_, rfl, .ref c, _, rfl, hv0, fun H1 p ys sm1 hp hk => ⟨p, rfl, ⟨ys, SqL.of hp⟩, fun D nD => ?_⟩⟩
    refine kids_lc (m := only1 r) (I := fun H => RkAt H r) (F := fun H v t => TalAt T.C_Tally H v t.tal) hp hk nD (hR.same sm1) mI (fun H xs i z => i.ne z) (fun H v t l xs e h => h.put e) (fun H H' v t i k h => h.rk k i) (kids_small _) (fun x => rfl) ?_ ?_
    · intro x c2 H' hc2 hx k1 i1 _ Qn qn
      exact ⟨_, rfl, _, rfl, _, rfl, _, rfl, stp D H1 [] x c2 H' (Kp.of sm1) hc2 hx k1 i1 Qn qn⟩
    · intro H2 acc k2 hR2 hD hacc
      obtain ⟨u1, u2, rfl, hu1, hu2⟩ := paired2 hacc
      have z1 := (hg.kid (c := b1) List.mem_cons_self).1
      have z2 := (hg.kid (c := b2) (List.mem_cons_of_mem _ List.mem_cons_self)).1
      have hgp := hg.gp
      rw [Dv.gp_cut] at hgp
      have k02 := (Kp.of (m := only1 r) sm1).trans k2
      have kt := rk_tup k02 hR
      obtain ⟨a1, a2, a3, a4⟩ := boxed_ask z1 hg.pos.1 (by omega)
      obtain ⟨c1, c2⟩ := boxed_sm z1 z2 hg.pos.1 (by omega)
      have zn := boxG_ge (g := b1.gp) hg.pos.1
      refine ⟨_, rfl, rfl, _, rfl, iteF ?_⟩
      refine ⟨_, rfl, rfl, _, rfl, iteF ?_⟩
      refine ⟨_, rfl, rfl, _, rfl, iteT ?_⟩
      refine ⟨_, rfl, c, _, 1, _, rfl, rfl, kt.tup hc, rfl, mv, m, rfl, hm.kp kt, ?_⟩
      refine ⟨_, rfl, _, rfl, c, _, 2, _, rfl, rfl, kt.tup hc, rfl, _, rfl, mn, lv, sv, r, a, e, rfl, hL.rk k02 hR nra nre, hs.kp kt, hR2, nra, nre, fun H3 k3 hR3 => ?_⟩
      refine ⟨_, _, rfl, rfl, mulW (a := m.n) (b := 1) (small_nat (by omega)) (small_nat (by decide)), ?_⟩
      have k03 := k02.trans k3
      have kt3 := rk_tup k03 hR
      have hD3 : H3 D = some (.lst [u1, u2]) := k3 _ _ (fun z => by
        obtain ⟨ks, e⟩ := hR2.dk D z
        rw [hD] at e
        cases e) hD
      have hu1' := hu1.rk k3 hR2
      have hu2' := hu2.rk k3 hR2
      refine ⟨_, rfl, D, _, 0, _, rfl, rfl, SqL.of hD3, rfl, _, rfl, c, _, 1, _, rfl, rfl, kt3.tup hc, rfl, u1, mv, b1.tal, m, rfl, hu1', hm.kp kt3, a1, a2, a3, a4, fun H4 u4 s4 h4 => ?_⟩
      have hu2'' := hu2'.same s4
      obtain ⟨x2, d2, rfl, e2⟩ := id hu2''
      obtain ⟨x4, d4, rfl, e4⟩ := id h4
      refine ⟨_, rfl, D, _, 1, _, rfl, rfl, SqL.of (s4 _ _ hD3), rfl, x4, x2, d4, d2, _, _, rfl, rfl, e4, e2, .ref x4, .ref x2, _, b2.tal, rfl, h4, hu2'', c1, z2.sm, fun H5 u5 s5 h5 => ?_⟩
      obtain ⟨x5, d5, rfl, e5⟩ := id h5
      have en : V.int ((m.n : Int) * 1) = iv m.n := by rw [Int.mul_one]
      have ge := Ge.mul (box_p b1.ge.p m) b2.ge
      refine ⟨x5, rfl, x5, d5, _, rfl, e5, t3_no, _, rfl, .ref x5, m.n, _, by rw [← en]; rfl, h5, c2, by omega, ge.r, fun H6 u6 s6 h6 => ?_⟩
      exact q u6 H6 (k03.trans (Kp.of ((s4.trans s5).trans s6))) (hR3.same ((s4.trans s5).trans s6)) h6
end
end W77
namespace W77
open PySem PySem.Spec PyProof.Rows L2 HX
section
variable {P : Program} {w : World} {K : PySem.W.Frag} {mg : Str → Option Value} {base : Heap}
def spTally (K : PySem.W.Frag) (C CL : Addr) : Sp := fun vs H Q _ => ∃ (lv v : V) (a e : Addr) (t : Dv), vs = [lv, v] ∧ LibAt CL H lv a e ∧ DvAt K H v t ∧ t.Good ∧ t.dp < 40 ∧
  ∀ u H', Same H H' → TalAt C H' u t.tal → Q u H'
theorem ok_tally {k : Nat} (T : Tx K mg w) (G_riders : FnOk P w K mg base CX0 k T.a_riders T.d_riders ["library", "derivation"] (spRiders K T.C_Library))
    (G_tally_within : FnOk P w K mg base CX0 k T.a_tally_within T.d_tally_within ["library", "derivation", "known", "ranks"] (spTW K T.C_Tally T.C_Library 40)) :
    FnOk P w K mg base CX0 (k + 1) T.a_tally T.d_tally ["library", "derivation"] (spTally K T.C_Tally T.C_Library) := by
  refine T.F_tally.ok sc_tally (fun vs H Q E h => ?_) (fun cdv A outer s H vs Q E hr h => ?_)
  · obtain ⟨_, _, _, _, _, rfl, _⟩ := h
    rfl
  obtain ⟨lv, v, a, e, t, rfl, hL, hv, hg, hd, q⟩ := h
  refine ⟨_, (pss_cons (ps_set (i := 2) sc_tally.nd rfl (Or.inl rfl) pe_dnewK)
      (pss_cons (ps_set (i := 3) sc_tally.nd rfl (Or.inl rfl) pe_dnewK)
      (pss_cons (ps_for PassesOwn.never rfl (piL K (pe_call G_riders hr (by rfl) T.m_riders T.F_riders.kp T.b_riders .nil pass0 (pa_cons (pv 0) (pa_cons (pv 1) pa_nil)))) (pg_tup rfl (pgs_cons (pg_name (i := 4) sc_tally.nd rfl (Or.inl rfl)) (pgs_cons (pg_name (i := 5) sc_tally.nd rfl (Or.inl rfl)) pgs_nil))) (pss_one ps_never))
      (pss_one (ps_ret (pe_call G_tally_within hr (by rfl) T.m_tally_within T.F_tally_within.kp T.b_tally_within .nil pass0 (pa_cons (pv 0) (pa_cons (pv 1) (pa_cons (pv 2) (pa_cons (pv 3) pa_nil)))))))))), ?_⟩
  refine fun f nf r nr => ?_
  have s1 : Same H (upd H f (.dK [])) := Same.new nf
  have s2 : Same H (upd (upd H f (.dK [])) r (.dK [])) := s1.trans (Same.new nr)
  have hr2 : (upd (upd H f (.dK [])) r (.dK [])) r = some (.dK []) := upd_same
  have nr0 : H r = none := s1.free nr
  generalize upd (upd H f (.dK [])) r (.dK []) = H1 at s2 hr2
  refine ⟨_, rfl, _, rfl, lv, v, a, e, t, rfl, hL.same s2, DvAt.kp (kpT_same s2) hv, hg.sz, fun p H2 s3 hp => ⟨p, rfl, ⟨[], SqL.of hp⟩, for_stop (J := Itl K p) ⟨[], SqL.of hp, Nat.le_refl _⟩ ?_⟩⟩
  have nra : r ≠ a := fun z => by have := hL.wd; rw [← z, nr0] at this; cases this
  have nre : r ≠ e := fun z => by have := hL.en; rw [← z, nr0] at this; cases this
  have s4 := s2.trans s3
  refine ⟨_, rfl, _, rfl, _, rfl, _, rfl, lv, v, _, r, a, e, t, rfl, hL.same s4, DvAt.kp (kpT_same s4) hv, hg, hd, .inl (s3 _ _ hr2), nra, nre, fun u H3 k3 _ hu => q u H3 ?_ hu⟩
  intro b o hb
  exact k3 _ _ (fun z => by
    have z : b = r := z
    rw [z, nr0] at hb
    cases hb) (s4 _ _ hb)
/-! ### the greatest play -/
def spBoxR (K : PySem.W.Frag) : Sp := fun vs H Q _ => ∃ (g : Nat) (u : V) (m : Mode), vs = [iv g, u] ∧ ModeAt K H u m ∧ g ≤ 100000 ∧ m.n ≤ 100000 ∧ Q (iv (boxG g m)) H
theorem ok_boxed_rows {k : Nat} (T : Tx K mg w) : FnOk P w K mg base CX0 (k + 1) T.a_boxed_rows T.d_boxed_rows ["rows", "kind"] (spBoxR K) := by
  refine T.F_boxed_rows.ok sc_boxed_rows (fun vs H Q E h => ?_) (fun cdv A outer s H vs Q E hr h => ?_)
  · obtain ⟨_, _, _, rfl, _⟩ := h
    rfl
  obtain ⟨g, u, m, rfl, hm, hg, hn, q⟩ := h
  refine ⟨_, (pss_cons (ps_if (pt_cmpR (eqD K hr.units) (pv 1) pe_str (nomark _)) (pss_one (ps_ret (pv 0))) pss_nil)
      (pss_one (ps_ret (pe_op op_mulW (pe_ix (ixT K) (pv 1) pe_int (fun _ _ => rfl)) (pe_op op_add (pv 0) pe_int))))), ?_⟩
  refine ⟨_, rfl, _, _, mode_dp hm, .str _, mode_shaped m, once_shaped, _, rfl, ?_⟩
  rw [mode_eqv]
  cases m with
  | once => exact iteT ⟨_, rfl, q⟩
  | box n d =>
    refine iteF ?_
    obtain ⟨c, rfl, hc⟩ := hm
    have hn : n ≤ 100000 := hn
    refine ⟨_, rfl, c, _, 0, _, rfl, rfl, hc, rfl, _, rfl, _, _, rfl, rfl, ?_⟩
    refine ⟨_, _, rfl, rfl, mulW (a := n) (b := g + 1) (small_nat (by omega)) (small_nat (by omega)), ?_⟩
    exact q
def spGW (K : PySem.W.Frag) (d : Nat) : Sp := fun vs H Q _ => ∃ (lv v kn : V) (t : Dv), vs = [lv, v, kn] ∧ DvAt K H v t ∧ t.Good ∧ t.dp < d ∧ ∀ H', Same H H' → Q (iv t.gp) H'
theorem greatest_step {k d : Nat} (T : Tx K mg w) (G_premises : FnOk P w K mg base CX0 k T.a_premises T.d_premises ["derivation"] (spPremises K)) (G_greatest_within : FnOk P w K mg base CX0 k T.a_greatest_within T.d_greatest_within ["library", "derivation", "known"] (spGW K d))
    (G_boxed_rows : FnOk P w K mg base CX0 k T.a_boxed_rows T.d_boxed_rows ["rows", "kind"] (spBoxR K)) :
    FnOk P w K mg base CX0 (k + 1) T.a_greatest_within T.d_greatest_within ["library", "derivation", "known"] (spGW K (d + 1)) := by
  refine T.F_greatest_within.ok sc_greatest_within (fun vs H Q E h => ?_) (fun cdv A outer s H vs Q E hr h => ?_)
  · obtain ⟨_, _, _, _, rfl, _⟩ := h
    rfl
  obtain ⟨lv, v, kn, t, rfl, hv, hg, hd, q⟩ := h
  refine ⟨_, (pss_cons (ps_set (i := 3) sc_greatest_within.nd rfl (Or.inl rfl) (pe_ix (ixT K) (pv 1) pe_int (fun _ _ => rfl)))
      (pss_cons (ps_if (pt_cmpR op_eq (pv 3) pe_str (nomark _)) (pss_one (ps_ret pe_int)) pss_nil)
      (pss_cons (ps_if (pt_cmpR op_eq (pv 3) pe_str (nomark _)) (pss_one ps_never) pss_nil)
      (pss_cons (ps_setLc (i := 4) (own := [("premise", 8)]) (g := gName 8) (by rfl) sc_greatest_within.nd rfl rfl (sw_true rfl rfl rfl (by decide +kernel)) (piL K (pe_call G_premises hr (by rfl) T.m_premises T.F_premises.kp T.b_premises .nil pass0 (pa_cons (pv 1) pa_nil))) (blkOk_by (own := [("premise", 8)]) (N := ["library", "derivation", "known", "name", "found", "total", "key", "_", "premise"]) (sc := defScope s_greatest_within) (by decide +kernel)) (fun _ _ _ _ _ => (pg_name (i := 8) sc_greatest_within.nd rfl (Or.inl rfl))) (fun _ _ _ _ _ => pts_nil) (fun _ _ _ _ _ => (pe_call G_greatest_within hr (by rfl) T.m_greatest_within T.F_greatest_within.kp T.b_greatest_within .nil pass0 (pa_cons (pv 0) (pa_cons (pv 8) (pa_cons (pv 2) pa_nil))))))
      (pss_cons (ps_if (pt_cmpR op_eq (pv 3) pe_str (nomark _)) (pss_one (ps_ret (pe_op op_add (pe_callB (call_max2 rfl) (by rfl) T.z_max (by decide +kernel) (pa_cons (pe_ix (ixL K) (pv 4) pe_int (fun _ _ => rfl)) (pa_cons (pe_ix (ixL K) (pv 4) pe_int (fun _ _ => rfl)) pa_nil))) pe_int))) pss_nil)
      (pss_cons (ps_if (pt_cmpR op_eq (pv 3) pe_str (nomark _)) (pss_one (ps_ret (pe_op op_add (pe_op op_add (pe_call G_boxed_rows hr (by rfl) T.m_boxed_rows T.F_boxed_rows.kp T.b_boxed_rows .nil pass0 (pa_cons (pe_ix (ixL K) (pv 4) pe_int (fun _ _ => rfl)) (pa_cons (pe_ix (ixT K) (pv 1) pe_int (fun _ _ => rfl)) pa_nil))) (pe_ix (ixL K) (pv 4) pe_int (fun _ _ => rfl))) pe_int))) pss_nil)
      (pss_cons (ps_if (pt_cmpR op_eq (pv 3) pe_str (nomark _)) (pss_one (ps_ret (pe_op op_add (pe_call G_boxed_rows hr (by rfl) T.m_boxed_rows T.F_boxed_rows.kp T.b_boxed_rows .nil pass0 (pa_cons (pe_ix (ixL K) (pv 4) pe_int (fun _ _ => rfl)) (pa_cons (pe_ix (ixT K) (pv 1) pe_int (fun _ _ => rfl)) pa_nil))) (pe_ix (ixL K) (pv 4) pe_int (fun _ _ => rfl))))) pss_nil)
      (pss_cons (ps_set (i := 5) sc_greatest_within.nd rfl (Or.inl rfl) (pe_op op_add (pe_ix (ixL K) (pv 4) pe_int (fun _ _ => rfl)) pe_int))
      (pss_cons (ps_if (pt_cmpR op_eq (pv 3) pe_str (nomark _)) (pss_one ps_never) pss_nil)
      (pss_one (ps_ret (pv 5)))))))))))), ?_⟩
  have stp : ∀ (x : V) (c : Dv) (H' : Hp), c ∈ t.kids → DvAt K H' x c → ∀ Qn : VK, (∀ v H2, Kp nom H' H2 → True → v = iv c.gp → Qn v H2) → spGW K d [lv, x, kn] H' Qn E0 := fun x c H' hc hx Qn qn => by
    have z := hg.kid hc
    exact ⟨lv, x, kn, c, rfl, hx, z.1, by omega, fun H2 s2 => qn _ _ (Kp.of s2) True.intro rfl⟩
  cases t with
  | own x =>
    obtain ⟨c, rfl, hc⟩ := hv
    refine ⟨_, rfl, c, _, 0, _, rfl, rfl, hc, rfl, ?_⟩
    exact ⟨_, rfl, rfl, _, rfl, iteT (q H (Same.refl H))⟩
  | pick x sd b =>
    have hv0 := hv
    obtain ⟨c, y, rfl, hc, hb⟩ := hv
    refine ⟨_, rfl, c, _, 0, _, rfl, rfl, hc, rfl, ?_⟩
    refine ⟨_, rfl, rfl, _, rfl, iteF ?_⟩
    refine ⟨_, rfl, rfl, _, rfl, iteF ?_⟩
    refine ⟨_, rfl, .ref c, _, rfl, hv0, fun H1 p ys sm1 hp hk => ⟨p, rfl, ⟨ys, SqL.of hp⟩, fun D nD => ?_⟩⟩
    refine kids_lc (m := nom) (I := fun H => True) (F := fun H v t => v = iv t.gp) hp hk nD True.intro (fun H _ b z => z.elim) (fun H xs i z => True.intro) (fun H v t l xs e h => h) (fun H H' v t i k h => h) (kids_small _) (fun x => rfl) ?_ ?_
    · intro x c2 H' hc2 hx k1 i1 _ Qn qn
      exact ⟨_, rfl, _, rfl, _, rfl, stp x c2 H' hc2 hx Qn qn⟩
    · intro H2 acc k2 _ hD hacc
      obtain ⟨_, rfl, rfl⟩ := paired1 hacc
      refine ⟨_, rfl, rfl, _, rfl, iteF ?_⟩
      refine ⟨_, rfl, rfl, _, rfl, iteF ?_⟩
      refine ⟨_, rfl, rfl, _, rfl, iteF ?_⟩
      refine ⟨_, rfl, D, _, 0, _, rfl, rfl, SqL.of hD, rfl, _, _, rfl, rfl, ?_⟩
      exact ⟨_, rfl, rfl, _, rfl, iteF ⟨_, rfl, q H2 (sm1.trans k2.same)⟩⟩
  | offer b1 b2 =>
    have hv0 := hv
    obtain ⟨c, y, z, rfl, hc, hb1, hb2⟩ := hv
    refine ⟨_, rfl, c, _, 0, _, rfl, rfl, hc, rfl, ?_⟩
    refine ⟨_, rfl, rfl, _, rfl, iteF ?_⟩
    refine ⟨_, rfl, rfl, _, rfl, iteF ?_⟩
    refine ⟨_, rfl, .ref c, _, rfl, hv0, fun H1 p ys sm1 hp hk => ⟨p, rfl, ⟨ys, SqL.of hp⟩, fun D nD => ?_⟩⟩
    refine kids_lc (m := nom) (I := fun H => True) (F := fun H v t => v = iv t.gp) hp hk nD True.intro (fun H _ b z => z.elim) (fun H xs i z => True.intro) (fun H v t l xs e h => h) (fun H H' v t i k h => h) (kids_small _) (fun x => rfl) ?_ ?_
    · intro x c2 H' hc2 hx k1 i1 _ Qn qn
      exact ⟨_, rfl, _, rfl, _, rfl, stp x c2 H' hc2 hx Qn qn⟩
    · intro H2 acc k2 _ hD hacc
      obtain ⟨_, _, rfl, rfl, rfl⟩ := paired2 hacc
      refine ⟨_, rfl, rfl, _, rfl, iteT ?_⟩
      refine ⟨_, rfl, D, _, 0, _, rfl, rfl, SqL.of hD, rfl, _, rfl, D, _, 1, _, rfl, rfl, SqL.of hD, rfl, _, _, rfl, _, _, rfl, rfl, ?_⟩
      have z := q H2 (sm1.trans k2.same)
      have e : V.int ((if (b2.gp : Int) > (b1.gp : Int) then (b2.gp : Int) else (b1.gp : Int)) + 1) = iv (Dv.offer b1 b2).gp := by
        show V.int _ = V.int ((max b1.gp b2.gp + 1 : Nat) : Int)
        congr 1
        split <;> omega
      rw [← e] at z
      exact z
  | pay nm m b1 b2 =>
    have hv0 := hv
    obtain ⟨c, mv, y, z, rfl, hc, hm, hb1, hb2⟩ := hv
    refine ⟨_, rfl, c, _, 0, _, rfl, rfl, hc, rfl, ?_⟩
    refine ⟨_, rfl, rfl, _, rfl, iteF ?_⟩
    refine ⟨_, rfl, rfl, _, rfl, iteF ?_⟩
    refine ⟨_, rfl, .ref c, _, rfl, hv0, fun H1 p ys sm1 hp hk => ⟨p, rfl, ⟨ys, SqL.of hp⟩, fun D nD => ?_⟩⟩
    refine kids_lc (m := nom) (I := fun H => True) (F := fun H v t => v = iv t.gp) hp hk nD True.intro (fun H _ b z => z.elim) (fun H xs i z => True.intro) (fun H v t l xs e h => h) (fun H H' v t i k h => h) (kids_small _) (fun x => rfl) ?_ ?_
    · intro x c2 H' hc2 hx k1 i1 _ Qn qn
      exact ⟨_, rfl, _, rfl, _, rfl, stp x c2 H' hc2 hx Qn qn⟩
    · intro H2 acc k2 _ hD hacc
      obtain ⟨_, _, rfl, rfl, rfl⟩ := paired2 hacc
      have hgp := hg.gp
      rw [Dv.gp_pay] at hgp
      have zn := boxG_ge (g := b1.gp) hg.pos.1
      have z := q H2 (sm1.trans k2.same)
      rw [Dv.gp_pay] at z
      refine ⟨_, rfl, rfl, _, rfl, iteF ?_⟩
      refine ⟨_, rfl, rfl, _, rfl, iteT ?_⟩
      exact ⟨_, rfl, D, _, 0, _, rfl, rfl, SqL.of hD, rfl, _, rfl, c, _, 2, _, rfl, rfl, (kpT_same (sm1.trans k2.same)).tup hc, rfl, b1.gp, mv, m, rfl, hm.kp (kpT_same (sm1.trans k2.same)), by omega, by omega, _, rfl, D, _, 1, _, rfl, rfl, SqL.of hD, rfl, _, _, rfl, rfl, _, _, rfl, rfl, z⟩
  | cut m mn b1 b2 =>
    have hv0 := hv
    obtain ⟨c, mv, sv, y, z, rfl, hc, hm, hs, hb1, hb2⟩ := hv
    refine ⟨_, rfl, c, _, 0, _, rfl, rfl, hc, rfl, ?_⟩
    refine ⟨_, rfl, rfl, _, rfl, iteF ?_⟩
    refine ⟨_, rfl, rfl, _, rfl, iteF ?_⟩
    refine ⟨_, rfl, .ref c, _, rfl, hv0, fun H1 p ys sm1 hp hk => ⟨p, rfl, ⟨ys, SqL.of hp⟩, fun D nD => ?_⟩⟩
    refine kids_lc (m := nom) (I := fun H => True) (F := fun H v t => v = iv t.gp) hp hk nD True.intro (fun H _ b z => z.elim) (fun H xs i z => True.intro) (fun H v t l xs e h => h) (fun H H' v t i k h => h) (kids_small _) (fun x => rfl) ?_ ?_
    · intro x c2 H' hc2 hx k1 i1 _ Qn qn
      exact ⟨_, rfl, _, rfl, _, rfl, stp x c2 H' hc2 hx Qn qn⟩
    · intro H2 acc k2 _ hD hacc
      obtain ⟨_, _, rfl, rfl, rfl⟩ := paired2 hacc
      have hgp := hg.gp
      rw [Dv.gp_cut] at hgp
      have zn := boxG_ge (g := b1.gp) hg.pos.1
      have z := q H2 (sm1.trans k2.same)
      rw [Dv.gp_cut] at z
      refine ⟨_, rfl, rfl, _, rfl, iteF ?_⟩
      refine ⟨_, rfl, rfl, _, rfl, iteF ?_⟩
      refine ⟨_, rfl, rfl, _, rfl, iteT ?_⟩
      exact ⟨_, rfl, D, _, 0, _, rfl, rfl, SqL.of hD, rfl, _, rfl, c, _, 1, _, rfl, rfl, (kpT_same (sm1.trans k2.same)).tup hc, rfl, b1.gp, mv, m, rfl, hm.kp (kpT_same (sm1.trans k2.same)), by omega, by omega, _, rfl, D, _, 1, _, rfl, rfl, SqL.of hD, rfl, _, _, rfl, rfl, z⟩
def spGP (K : PySem.W.Frag) (CL : Addr) : Sp := fun vs H Q _ => ∃ (lv v : V) (a e : Addr) (t : Dv), vs = [lv, v] ∧ LibAt CL H lv a e ∧ DvAt K H v t ∧ t.Good ∧ t.dp < 40 ∧ ∀ H', Same H H' → Q (iv t.gp) H'
theorem ok_greatest_play {k : Nat} (T : Tx K mg w) (G_riders : FnOk P w K mg base CX0 k T.a_riders T.d_riders ["library", "derivation"] (spRiders K T.C_Library))
    (G_greatest_within : FnOk P w K mg base CX0 k T.a_greatest_within T.d_greatest_within ["library", "derivation", "known"] (spGW K 40)) :
    FnOk P w K mg base CX0 (k + 1) T.a_greatest_play T.d_greatest_play ["library", "derivation"] (spGP K T.C_Library) := by
  refine T.F_greatest_play.ok sc_greatest_play (fun vs H Q E h => ?_) (fun cdv A outer s H vs Q E hr h => ?_)
  · obtain ⟨_, _, _, _, _, rfl, _⟩ := h
    rfl
  obtain ⟨lv, v, a, e, t, rfl, hL, hv, hg, hd, q⟩ := h
  refine ⟨_, (pss_cons (ps_set (i := 2) sc_greatest_play.nd rfl (Or.inl rfl) pe_dnewK)
      (pss_cons (ps_for PassesOwn.never rfl (piL K (pe_call G_riders hr (by rfl) T.m_riders T.F_riders.kp T.b_riders .nil pass0 (pa_cons (pv 0) (pa_cons (pv 1) pa_nil)))) (pg_tup rfl (pgs_cons (pg_name (i := 3) sc_greatest_play.nd rfl (Or.inl rfl)) (pgs_cons (pg_name (i := 4) sc_greatest_play.nd rfl (Or.inl rfl)) pgs_nil))) (pss_one ps_never))
      (pss_one (ps_ret (pe_call G_greatest_within hr (by rfl) T.m_greatest_within T.F_greatest_within.kp T.b_greatest_within .nil pass0 (pa_cons (pv 0) (pa_cons (pv 1) (pa_cons (pv 2) pa_nil)))))))), ?_⟩
  refine fun f nf => ?_
  have s2 : Same H (upd H f (.dK [])) := Same.new nf
  generalize upd H f (.dK []) = H1 at s2
  refine ⟨_, rfl, _, rfl, lv, v, a, e, t, rfl, hL.same s2, DvAt.kp (kpT_same s2) hv, hg.sz, fun p H2 s3 hp => ⟨p, rfl, ⟨[], SqL.of hp⟩, for_stop (J := Itl K p) ⟨[], SqL.of hp, Nat.le_refl _⟩ ?_⟩⟩
  have s4 := s2.trans s3
  exact ⟨_, rfl, _, rfl, _, rfl, lv, v, _, t, rfl, DvAt.kp (kpT_same s4) hv, hg, hd, fun H3 s5 => q H3 (s4.trans s5)⟩
end
end W77
namespace HX
open PySem PySem.Spec PyProof.Rows L2
/-- [te for x in a for y in b], both lists kept -/
theorem lc2_list {K : PySem.W.Frag} {a b D : Addr} {xs ys : List V} {te : TE} {σ : L2.St} {vs vs1 : List Nat} {i0 i1 c : Nat} {H1 : Hp} {Qd : Hp → Prop} (Pv : Nat → Nat → Hp → Prop) (h0 : Pv 0 0 (upd H1 D (.lst [])))
    (hl : ∀ i j H, Pv i j H → SqL K H a xs ∧ SqL K H b ys) (hc : ∀ x, ((wipe σ vs).set i0 (some x))[c]? = some (some (.ref b)))
    (hw : ∀ x, wipe ((wipe σ vs).set i0 (some x)) vs = wipe σ vs) (hw1 : ∀ x y, wipe ((wipe ((wipe σ vs).set i0 (some x)) vs1).set i1 (some y)) vs1 = wipe ((wipe σ vs).set i0 (some x)) vs1)
    (hs : ∀ i j x y H, xs[i]? = some x → ys[j]? = some y → Pv i j H → te ((wipe ((wipe σ vs).set i0 (some x)) vs1).set i1 (some y)) H fun z H4 => ∃ acc, H4 D = some (.lst acc) ∧ acc.length < sizeLine ∧ Pv i (j + 1) (upd H4 D (.lst (acc ++ [z]))))
    (hrow : ∀ i H, i < xs.length → Pv i ys.length H → Pv (i + 1) 0 H) (hd : ∀ H, Pv xs.length 0 H → Qd H) :
    ∃ W : Nat → Nat → Hp → Prop, (∃ m, W 0 m (upd H1 D (.lst []))) ∧ ∀ i m H, W i m H →
      ((Itl K a).stop i H ∧ Qd H) ∨ ((Itl K a).go i H ∧ ∃ Nx : Hp → Prop, (∀ H', Nx H' → ∃ m', m' < m ∧ W (i + 1) m' H') ∧ ∀ x H', (Itl K a).yld i H x H' → gName i0 x (wipe σ vs) H' fun σ2 H2 => wipe σ2 vs = wipe σ vs ∧ tYes σ2 H2 fun b' H3 =>
        if b' = true then iList K (tVar c) σ2 H3 fun J1 H4 => ∃ W1 : Nat → Nat → Hp → Prop, (∃ m, W1 0 m H4) ∧ ∀ j k H, W1 j k H →
          (J1.stop j H ∧ Nx H) ∨ (J1.go j H ∧ ∃ Nx1 : Hp → Prop, (∀ H', Nx1 H' → ∃ k', k' < k ∧ W1 (j + 1) k' H') ∧ ∀ x H', J1.yld j H x H' → gName i1 x (wipe σ2 vs1) H' fun σ3 H5 => wipe σ3 vs1 = wipe σ2 vs1 ∧ tYes σ3 H5 fun b' H6 =>
            if b' = true then te σ3 H6 fun y H7 => ∃ acc, H7 D = some (.lst acc) ∧ acc.length < sizeLine ∧ Nx1 (upd H7 D (.lst (acc ++ [y]))) else Nx1 H6)
        else Nx H3) := by
  refine ⟨fun i m H => m = xs.length - i ∧ i ≤ xs.length ∧ Pv i 0 H, ⟨xs.length, by simp, Nat.zero_le _, h0⟩, ?_⟩
  rintro i m H ⟨rfl, hi, p⟩
  have q := (hl i 0 H p).1
  by_cases hlt : i < xs.length
  · refine .inr ⟨⟨xs, xs[i], q, by simp [hlt]⟩, Pv (i + 1) 0, fun H' p' => ⟨xs.length - (i + 1), by omega, rfl, hlt, p'⟩, fun x H' y => ?_⟩
    obtain ⟨e, y⟩ := y
    subst e
    have hx := y xs q
    refine ⟨hw x, ?_⟩
    dsimp only [tYes]
    rw [if_pos rfl]
    refine ⟨_, hc x, b, rfl, ⟨ys, (hl i 0 H' p).2⟩, ?_⟩
    refine ⟨fun j k H => k = ys.length - j ∧ j ≤ ys.length ∧ Pv i j H, ⟨ys.length, by simp, Nat.zero_le _, p⟩, ?_⟩
    rintro j k H2 ⟨rfl, hj, p2⟩
    have q2 := (hl i j H2 p2).2
    by_cases hlt2 : j < ys.length
    · refine .inr ⟨⟨ys, ys[j], q2, by simp [hlt2]⟩, Pv i (j + 1), fun H' p' => ⟨ys.length - (j + 1), by omega, rfl, hlt2, p'⟩, fun z H' y2 => ?_⟩
      obtain ⟨e2, y2⟩ := y2
      subst e2
      refine ⟨hw1 x z, ?_⟩
      rw [if_pos rfl]
      exact hs i j x z H' hx (y2 ys q2) p2
    · have e : j = ys.length := by omega
      subst e
      exact .inl ⟨⟨ys, q2, Nat.le_refl _⟩, hrow i H2 hlt p2⟩
  · have e : i = xs.length := by omega
    subst e
    exact .inl ⟨⟨xs, q, Nat.le_refl _⟩, hd H p⟩
end HX
namespace W77
open PySem PySem.Spec PyProof.Rows L2 HX
/-! ### plays as data -/
def PlAt (H : Hp) (v : V) (p : Pl) : Prop := ∃ b, v = .ref b ∧ H b = some (.tup [iv p.1, iv p.2])
def PlsAt (H : Hp) (v : V) (L : List Pl) : Prop := ∃ a xs, v = .ref a ∧ H a = some (.lst xs) ∧ Paired (PlAt H) xs L
section
variable {H H' : Hp} {v : V} {p : Pl} {L : List Pl}
theorem PlAt.same (h : PlAt H v p) (s : Same H H') : PlAt H' v p := let ⟨b, e, q⟩ := h; ⟨b, e, s _ _ q⟩
theorem PlsAt.same (h : PlsAt H v L) (s : Same H H') : PlsAt H' v L := let ⟨a, xs, e, q, k⟩ := h; ⟨a, xs, e, s _ _ q, Paired.mapP k fun _ _ z => z.same s⟩
theorem PlAt.put (h : PlAt H v p) {D : Addr} {l xs : List V} (e : H D = some (.lst l)) : PlAt (upd H D (.lst xs)) v p := by
  obtain ⟨b, e1, q⟩ := h
  exact ⟨b, e1, by rw [upd_ne (ne_of q e (by intro z; cases z))]; exact q⟩
theorem PlsAt.put (h : PlsAt H v L) {D : Addr} {l xs : List V} (e : H D = some (.lst l)) (ne : v ≠ .ref D) : PlsAt (upd H D (.lst xs)) v L := by
  obtain ⟨a, ys, rfl, q, k⟩ := h
  exact ⟨a, ys, rfl, by rw [upd_ne (fun z => ne (by rw [z]))]; exact q, Paired.mapP k fun _ _ z => z.put e⟩
theorem PlAt.rk {r : Addr} (h : PlAt H v p) (k : Kp (only1 r) H H') (hR : RkAt H r) : PlAt H' v p := by
  obtain ⟨b, e1, q⟩ := h
  refine ⟨b, e1, k _ _ (fun z => ?_) q⟩
  obtain ⟨ks, e⟩ := hR.dk b z
  rw [q] at e
  cases e
theorem PlsAt.rk {r : Addr} (h : PlsAt H v L) (k : Kp (only1 r) H H') (hR : RkAt H r) : PlsAt H' v L := by
  obtain ⟨a, ys, e1, q, kk⟩ := h
  refine ⟨a, ys, e1, k _ _ (fun z => ?_) q, Paired.mapP kk fun _ _ z => z.rk k hR⟩
  obtain ⟨ks, e⟩ := hR.dk a z
  rw [q] at e
  cases e
end
section
variable {P : Program} {w : World} {K : PySem.W.Frag} {mg : Str → Option Value} {base : Heap}
/-- gives a new list of plays -/
def GivesL (H : Hp) (Q : VK) (L : List Pl) : Prop := ∀ p H', Same H H' → H p = none → PlsAt H' (.ref p) L → Q (.ref p) H'
theorem at0 {K : PySem.W.Frag} {H : Hp} {b : Addr} {x y : V} (h : H b = some (.tup [x, y])) : SqT K H b [x, y] := .inl (.inl h)
theorem lc_map {H1 : Hp} {a D : Addr} {xs : List V} {A : List Pl} {f : Pl → Pl} {te : TE} {σ : L2.St} {vs : List Nat} {i0 : Nat} {Qd : Hp → Prop} (ha : H1 a = some (.lst xs)) (hA : Paired (PlAt H1) xs A) (nD : H1 D = none) (hlen : A.length ≤ 100000)
    (hw : ∀ x, wipe ((wipe σ vs).set i0 (some x)) vs = wipe σ vs)
    (step : ∀ b p H', p ∈ A → H' b = some (.tup [iv p.1, iv p.2]) → ∀ Qn : VK, (∀ z, H' z = none → Qn (.ref z) (upd H' z (.tup [iv (f p).1, iv (f p).2]))) → te ((wipe σ vs).set i0 (some (.ref b))) H' Qn)
    (hd : ∀ H' acc, Same H1 H' → H' D = some (.lst acc) → Paired (PlAt H') acc (A.map f) → Qd H') :
    ∃ W : Nat → Nat → Hp → Prop, (∃ n, W 0 n (upd H1 D (.lst []))) ∧ ∀ i n H, W i n H →
      ((Itl K a).stop i H ∧ Qd H) ∨ ((Itl K a).go i H ∧ ∃ Nx : Hp → Prop, (∀ H', Nx H' → ∃ n', n' < n ∧ W (i + 1) n' H') ∧ ∀ x H', (Itl K a).yld i H x H' → gName i0 x (wipe σ vs) H' fun σ2 H2 => wipe σ2 vs = wipe σ vs ∧ tYes σ2 H2 fun b H3 =>
        if b = true then te σ2 H3 fun y H4 => ∃ acc, H4 D = some (.lst acc) ∧ acc.length < sizeLine ∧ Nx (upd H4 D (.lst (acc ++ [y]))) else Nx H3) := by
  refine lc_list (K := K) (a := a) (xs := xs) (g := gName i0) (tt := tYes) (te := te) (fun i H' => Same H1 H' ∧ ∃ acc, H' D = some (.lst acc) ∧ Paired (PlAt H') acc ((A.take i).map f)) ⟨Same.new nD, [], upd_same, .nil⟩ (fun i H' _ h => SqL.of (h.1 _ _ ha)) ?_ ?_
  · rintro i x H' hx ⟨s1, acc, hD, hacc⟩
    obtain ⟨t, ht, b, rfl, hb⟩ := HX.Paired.getL hA hx
    have len1 : acc.length ≤ 100000 := by
      rw [Paired.len hacc, List.length_map, List.length_take]
      omega
    refine ⟨hw (.ref b), ?_⟩
    dsimp only [tYes]
    rw [if_pos rfl]
    refine step b t H' (List.mem_of_getElem? ht) (s1 _ _ hb) _ fun z nz => ?_
    have sz := Same.new (o := .tup [iv (f t).1, iv (f t).2]) nz
    have hD2 := sz _ _ hD
    refine ⟨acc, hD2, Nat.lt_of_le_of_lt len1 (by decide), ?_, _, upd_same, ?_⟩
    · exact Same.put (s1.trans sz) nD
    · rw [List.take_add_one, ht, List.map_append]
      refine Paired.mapP (Paired.snoc ⟨z, rfl, upd_same⟩ (Paired.mapP hacc fun a b q => q.same sz)) fun a b q => q.put hD2
  · rintro H' ⟨s1, acc, hD, hacc⟩
    rw [Paired.len hA, List.take_length] at hacc
    exact hd H' acc s1 hD hacc
def spLonger : Sp := fun vs H Q _ => ∃ (v : V) (r l : Nat) (A : List Pl), vs = [v, iv r, iv l] ∧ PlsAt H v A ∧ A.length ≤ 100000 ∧ GivesL H Q (lg A r l)
theorem ok_longer {k : Nat} (T : Tx K mg w) : FnOk P w K mg base CX0 (k + 1) T.a_longer T.d_longer ["found", "rows", "load"] spLonger := by
  refine T.F_longer.ok sc_longer (fun vs H Q E h => ?_) (fun cdv A outer s H vs Q E hr h => ?_)
  · obtain ⟨_, _, _, _, rfl, _⟩ := h
    rfl
  obtain ⟨v, r, l, L, rfl, ⟨a, xs, rfl, ha, hL⟩, hlen, q⟩ := h
  refine ⟨_, (pss_one (ps_ret (pe_lc (own := [("one", 3)]) (g := gName 3) (by rfl) sc_longer.nd (piL K (pv 0)) (blkOk_by (own := [("one", 3)]) (N := ["found", "rows", "load", "one"]) (sc := defScope s_longer) (by decide +kernel)) (fun _ _ _ _ _ => (pg_name (i := 3) sc_longer.nd rfl (Or.inl rfl))) (fun _ _ _ _ _ => pts_nil) (fun _ _ _ _ _ => (pe_tup (pa_cons (pe_op op_add (pe_ix (ixT K) (pv 3) pe_int (fun _ _ => rfl)) (pv 1)) (pa_cons (pe_op op_add (pe_ix (ixT K) (pv 3) pe_int (fun _ _ => rfl)) (pv 2)) pa_nil))))))), ?_⟩
  refine ⟨_, rfl, a, rfl, ⟨xs, SqL.of ha⟩, fun D nD => ?_⟩
  refine lc_map (f := fun p => (p.1 + r, p.2 + l)) ha hL nD hlen (fun x => rfl) ?_ ?_
  · intro b p H' _ hb Qn qn
    exact ⟨_, rfl, b, _, 0, _, rfl, rfl, at0 hb, rfl, _, rfl, _, _, rfl, rfl, _, rfl, b, _, 1, _, rfl, rfl, at0 hb, rfl, _, rfl, _, _, rfl, rfl, (by show 2 ≤ sizeLine; decide), qn⟩
  · exact fun H' acc s1 hD hacc => q D H' s1 nD ⟨D, acc, rfl, hD, hacc⟩
def spJoined : Sp := fun vs H Q _ => ∃ (v u : V) (A B : List Pl), vs = [v, u] ∧ PlsAt H v A ∧ PlsAt H u B ∧ A.length * B.length ≤ 100000 ∧ GivesL H Q (jn A B)
theorem ok_joined {k : Nat} (T : Tx K mg w) : FnOk P w K mg base CX0 (k + 1) T.a_joined T.d_joined ["first", "second"] spJoined := by
  refine T.F_joined.ok sc_joined (fun vs H Q E h => ?_) (fun cdv A outer s H vs Q E hr h => ?_)
  · obtain ⟨_, _, _, _, rfl, _⟩ := h
    rfl
  obtain ⟨v, u, A1, B1, rfl, ⟨a, xs, rfl, ha, hA⟩, ⟨b, ys, rfl, hb, hB⟩, hlen, q⟩ := h
  refine ⟨_, (pss_one (ps_ret (pe_lc2 (own := [("one", 2), ("two", 3)]) (vs1 := [3]) (g := gName 2) (g1 := gName 3) (by rfl) sc_joined.nd (piL K (pv 0)) (blkOk_by (own := [("one", 2), ("two", 3)]) (N := ["first", "second", "one", "two"]) (sc := defScope s_joined) (by decide +kernel)) (by decide) (fun _ _ _ _ _ => (pg_name (i := 2) sc_joined.nd rfl (Or.inl rfl))) (fun _ _ _ _ _ => pts_nil) (fun _ _ _ _ _ => (piL K (pv 1))) (fun _ _ _ _ _ => (pg_name (i := 3) sc_joined.nd rfl (Or.inl rfl))) (fun _ _ _ _ _ => pts_nil) (fun _ _ _ _ _ => (pe_tup (pa_cons (pe_op op_add (pe_ix (ixT K) (pv 2) pe_int (fun _ _ => rfl)) (pe_ix (ixT K) (pv 3) pe_int (fun _ _ => rfl))) (pa_cons (pe_op op_add (pe_ix (ixT K) (pv 2) pe_int (fun _ _ => rfl)) (pe_ix (ixT K) (pv 3) pe_int (fun _ _ => rfl))) pa_nil))))))), ?_⟩
  refine ⟨_, rfl, a, rfl, ⟨xs, SqL.of ha⟩, fun D nD => ?_⟩
  refine lc2_list (K := K) (a := a) (b := b) (xs := xs) (ys := ys) (c := 1) (fun i j H' => Same H H' ∧ j ≤ B1.length ∧ ∃ acc, H' D = some (.lst acc) ∧ Paired (PlAt H') acc (jn (A1.take i) B1 ++ (B1.take j).map (pad (A1.getD i (0, 0))))) ⟨Same.new nD, Nat.zero_le _, [], upd_same, .nil⟩
    (fun i j H' h => ⟨SqL.of (h.1 _ _ ha), SqL.of (h.1 _ _ hb)⟩) (fun x => rfl) (fun x => rfl) (fun x y => rfl) ?_ ?_ ?_
  · rintro i j x y H' hx hy ⟨s1, hj, acc, hD, hacc⟩
    obtain ⟨p1, hp1, b1, rfl, hb1⟩ := HX.Paired.getL hA hx
    obtain ⟨p2, hp2, b2, rfl, hb2⟩ := HX.Paired.getL hB hy
    have hb1' := s1 _ _ hb1
    have hb2' := s1 _ _ hb2
    have hi1 : i < A1.length := (List.getElem?_eq_some_iff.mp hp1).1
    have hj1 : j < B1.length := (List.getElem?_eq_some_iff.mp hp2).1
    have e1 : A1.getD i (0, 0) = p1 := by
      rw [List.getD_eq_getElem?_getD, hp1]
      rfl
    have len1 : acc.length ≤ 100000 := by
      rw [Paired.len hacc, List.length_append, jn_len, List.length_map, List.length_take, List.length_take, Nat.min_eq_left (by omega), Nat.min_eq_left (by omega)]
      have z : (i + 1) * B1.length ≤ A1.length * B1.length := Nat.mul_le_mul_right _ hi1
      rw [Nat.succ_mul] at z
      omega
    refine ⟨_, rfl, b1, _, 0, _, rfl, rfl, at0 hb1', rfl, _, rfl, b2, _, 0, _, rfl, rfl, at0 hb2', rfl, _, _, rfl, rfl, _, rfl, b1, _, 1, _, rfl, rfl, at0 hb1', rfl, _, rfl, b2, _, 1, _, rfl, rfl, at0 hb2', rfl, _, _, rfl, rfl, (by show 2 ≤ sizeLine; decide), fun z nz => ?_⟩
    have sz := Same.new (o := .tup [V.int ((p1.1 : Int) + (p2.1 : Int)), V.int ((p1.2 : Int) + (p2.2 : Int))]) nz
    have hD2 := sz _ _ hD
    refine ⟨acc, hD2, Nat.lt_of_le_of_lt len1 (by decide), Same.put (s1.trans sz) nD, hj1, _, upd_same, ?_⟩
    rw [List.take_add_one, hp2, List.map_append, ← List.append_assoc, e1]
    refine Paired.mapP (Paired.snoc ⟨z, rfl, upd_same⟩ (Paired.mapP (e1 ▸ hacc) fun a b q => q.same sz)) fun a b q => q.put hD2
  · rintro i H' hi ⟨s1, _, acc, hD, hacc⟩
    refine ⟨s1, Nat.zero_le _, acc, hD, ?_⟩
    have hi1 : i < A1.length := by rw [← Paired.len hA]; exact hi
    have e1 : A1.getD i (0, 0) = A1[i] := by
      rw [List.getD_eq_getElem?_getD, List.getElem?_eq_getElem hi1]
      rfl
    rw [Paired.len hB, List.take_length, e1] at hacc
    rw [List.take_add_one, List.getElem?_eq_getElem hi1, List.take_zero, List.map_nil, List.append_nil, jn_app]
    have e2 : jn (some A1[i]).toList B1 = B1.map (pad A1[i]) := by
      show B1.map (pad A1[i]) ++ [] = _
      rw [List.append_nil]
    rw [e2]
    exact hacc
  · rintro H' ⟨s1, _, acc, hD, hacc⟩
    rw [Paired.len hA, List.take_length, List.take_zero, List.map_nil, List.append_nil] at hacc
    exact q D H' s1 nD ⟨D, acc, rfl, hD, hacc⟩
def spBoxP (K : PySem.W.Frag) : Sp := fun vs H Q _ => ∃ (v u : V) (L : List Pl) (m : Mode), vs = [v, u] ∧ PlsAt H v L ∧ ModeAt K H u m ∧ L.length ≤ 100000 ∧ m.n ≤ 100000 ∧ (∀ i, i ≤ m.n → (pw (lg L 1 0) i).length ≤ 100000) ∧ ∀ z H', Same H H' → PlsAt H' z (boxL L m) → Q z H'
theorem ok_boxed_plays {k : Nat} (T : Tx K mg w) (G_longer : FnOk P w K mg base CX0 k T.a_longer T.d_longer ["found", "rows", "load"] spLonger) (G_joined : FnOk P w K mg base CX0 k T.a_joined T.d_joined ["first", "second"] spJoined) :
    FnOk P w K mg base CX0 (k + 1) T.a_boxed_plays T.d_boxed_plays ["found", "kind"] (spBoxP K) := by
  refine T.F_boxed_plays.ok sc_boxed_plays (fun vs H Q E h => ?_) (fun cdv A outer s H vs Q E hr h => ?_)
  · obtain ⟨_, _, _, _, rfl, _⟩ := h
    rfl
  obtain ⟨v, u, L, m, rfl, hL, hm, hlen, hn, hp, q⟩ := h
  refine ⟨_, (pss_cons (ps_if (pt_cmpR (eqD K hr.units) (pv 1) pe_str (nomark _)) (pss_one (ps_ret (pv 0))) pss_nil)
      (pss_cons (ps_set (i := 2) sc_boxed_plays.nd rfl (Or.inl rfl) (pe_call G_longer hr (by rfl) T.m_longer T.F_longer.kp T.b_longer .nil pass0 (pa_cons (pv 0) (pa_cons pe_int (pa_cons pe_int pa_nil)))))
      (pss_cons (ps_set (i := 3) sc_boxed_plays.nd rfl (Or.inl rfl) (pe_lst (pa_cons (pe_tup (pa_cons pe_int (pa_cons pe_int pa_nil))) pa_nil)))
      (pss_cons (ps_for PassesOwn.never rfl (pi_range1 (by rfl) T.z_range (pa_cons (pe_ix (ixT K) (pv 1) pe_int (fun _ _ => rfl)) pa_nil)) (pg_name (i := 4) sc_boxed_plays.nd rfl (Or.inl rfl)) (pss_one (ps_set (i := 3) sc_boxed_plays.nd rfl (Or.inl rfl) (pe_call G_joined hr (by rfl) T.m_joined T.F_joined.kp T.b_joined .nil pass0 (pa_cons (pv 3) (pa_cons (pv 2) pa_nil))))))
      (pss_one (ps_ret (pv 3))))))), ?_⟩
  refine ⟨_, rfl, _, _, mode_dp hm, .str _, mode_shaped m, once_shaped, _, rfl, ?_⟩
  rw [mode_eqv]
  cases m with
  | once => exact iteT ⟨_, rfl, q v H (Same.refl H) hL⟩
  | box n d =>
    refine iteF ?_
    have hn : n ≤ 100000 := hn
    obtain ⟨c, rfl, hc⟩ := hm
    refine ⟨_, rfl, v, 1, 0, L, rfl, hL, hlen, fun p1 H1 s1 np1 h1 => ?_⟩
    refine ⟨(by show 2 ≤ sizeLine; decide), fun b nb => ⟨(by show 1 ≤ sizeLine; decide), fun D nD => ?_⟩⟩
    have s2 : Same H1 (upd (upd H1 b (.tup [V.int 0, V.int 0])) D (.lst [.ref b])) := (Same.new nb).trans (Same.new nD)
    have h0 : PlsAt (upd (upd H1 b (.tup [V.int 0, V.int 0])) D (.lst [.ref b])) (.ref D) (pw (lg L 1 0) 0) :=
      ⟨D, _, rfl, upd_same, .cons ⟨b, rfl, by rw [upd_ne (ne_of_none upd_same nD)]; exact upd_same⟩ .nil⟩
    generalize upd (upd H1 b (.tup [V.int 0, V.int 0])) D (.lst [.ref b]) = H2 at s2 h0
    have s3 := s1.trans s2
    refine ⟨_, rfl, c, _, 0, _, rfl, rfl, (kpT_same s3).tup hc, rfl, _, rfl, by omega, by omega, ?_⟩
    refine for_range (lo := 0) (n := n) (fun i σ' H' => Same H2 H' ∧ ∃ t y, PlsAt H' t (pw (lg L 1 0) i) ∧ σ' = [some v, some (.ref c), some (.ref p1), some t, y]) ⟨Same.refl _, .ref D, none, h0, rfl⟩ ?_ ?_
    · rintro i σ' H' hi ⟨sm, t, y, ht, rfl⟩
      refine ⟨_, rfl, _, rfl, t, .ref p1, _, _, rfl, ht, h1.same (s2.trans sm), ?_, fun z H3 s4 _ hz => ?_⟩
      · have := hp (i + 1) hi
        rw [pw, jn_len] at this
        exact this
      · exact ⟨sm.trans s4, .ref z, _, hz, rfl⟩
    · rintro σ' H' ⟨sm, t, y, ht, rfl⟩
      exact ⟨_, rfl, q t H' (s3.trans sm) ht⟩
end
end W77
namespace W77
open PySem PySem.Spec PyProof.Rows L2 HX
/-! ### no list on the way is longer -/
theorem pw_le {W : List Pl} (h : 1 ≤ W.length) : ∀ n, 1 ≤ (pw W n).length
  | 0 => Nat.le_refl _
  | n + 1 => by
    rw [pw, jn_len]
    exact Nat.mul_pos (pw_le h n) h
theorem pw_mono {W : List Pl} (h : 1 ≤ W.length) : ∀ {n i : Nat}, i ≤ n → (pw W i).length ≤ (pw W n).length
  | 0, i, hi => by
    have : i = 0 := by omega
    subst this
    exact Nat.le_refl _
  | n + 1, i, hi => by
    by_cases e : i = n + 1
    · subst e
      exact Nat.le_refl _
    · refine Nat.le_trans (pw_mono h (n := n) (by omega)) ?_
      show (pw W n).length ≤ (jn (pw W n) W).length
      rw [jn_len]
      exact Nat.le_mul_of_pos_right _ h
theorem Dv.pl_pos (t : Dv) : 1 ≤ t.pl.length := by
  rw [Dv.pl_len]
  exact t.ge.p
theorem boxL_ge {A : List Pl} (h : 1 ≤ A.length) : ∀ {m : Mode}, 1 ≤ m.n → A.length ≤ (boxL A m).length
  | .once, _ => Nat.le_refl _
  | .box 0 d, hn => absurd hn (by show ¬ 1 ≤ 0; omega)
  | .box (n + 1) d, _ => by
    show A.length ≤ (jn (pw (lg A 1 0) n) (lg A 1 0)).length
    rw [jn_len, lg_len]
    exact Nat.le_mul_of_pos_left _ (pw_le (by rw [lg_len]; exact h) n)
theorem boxL_pos {A : List Pl} (h : 1 ≤ A.length) {m : Mode} (hn : 1 ≤ m.n) : 1 ≤ (boxL A m).length := Nat.le_trans h (boxL_ge h hn)
theorem two_le {A B : List Pl} {n : Nat} (ha : 1 ≤ A.length) (hb : 1 ≤ B.length) (h : (jn A B).length ≤ n) : A.length ≤ n ∧ B.length ≤ n ∧ A.length * B.length ≤ n := by
  rw [jn_len] at h
  exact ⟨Nat.le_trans (Nat.le_mul_of_pos_right _ hb) h, Nat.le_trans (Nat.le_mul_of_pos_left _ ha) h, h⟩
theorem Dv.pl_kid {t c : Dv} {n : Nat} (hp : t.Pos) (h : t.pl.length ≤ n) (hc : c ∈ t.kids) : c.pl.length ≤ n := by
  cases t with
  | own x => exact absurd hc List.not_mem_nil
  | pick x s b =>
    have hc : c = b := List.mem_singleton.mp hc
    subst hc
    rw [Dv.pl, lg_len] at h
    exact h
  | offer a b =>
    rw [Dv.pl, lg_len, List.length_append] at h
    rcases List.mem_cons.mp hc with e | e
    · subst e
      omega
    · have e : c = b := List.mem_singleton.mp e
      subst e
      omega
  | cut m mn a b =>
    rw [Dv.pl, cutL_len] at h
    obtain ⟨h1, h2, _⟩ := two_le (boxL_pos a.pl_pos hp.1) b.pl_pos h
    rcases List.mem_cons.mp hc with e | e
    · subst e
      exact Nat.le_trans (boxL_ge c.pl_pos hp.1) h1
    · have e : c = b := List.mem_singleton.mp e
      subst e
      exact h2
  | pay nm m a b =>
    rw [Dv.pl, lg_len] at h
    obtain ⟨h1, h2, _⟩ := two_le (boxL_pos a.pl_pos hp.1) b.pl_pos h
    rcases List.mem_cons.mp hc with e | e
    · subst e
      exact Nat.le_trans (boxL_ge c.pl_pos hp.1) h1
    · have e : c = b := List.mem_singleton.mp e
      subst e
      exact h2
theorem box_all {a : Dv} {m : Mode} {n : Nat} (hn : 1 ≤ m.n) (h : (boxL a.pl m).length ≤ n) (h1 : 1 ≤ n) : ∀ i, i ≤ m.n → (pw (lg a.pl 1 0) i).length ≤ n := fun i hi => by
  have hw : 1 ≤ (lg a.pl 1 0).length := by rw [lg_len]; exact a.pl_pos
  cases m with
  | once =>
    have hi : i ≤ 1 := hi
    have h : a.pl.length ≤ n := h
    refine Nat.le_trans (pw_mono hw hi) ?_
    rw [pw, pw, jn_zero, lg_len]
    exact h
  | box k d => exact Nat.le_trans (pw_mono hw hi) h
section
variable {P : Program} {w : World} {K : PySem.W.Frag} {mg : Str → Option Value} {base : Heap}
def spPW (K : PySem.W.Frag) (CL : Addr) (d : Nat) : Sp := fun vs H Q _ => ∃ (lv v kn : V) (r a e : Addr) (t : Dv), vs = [lv, v, kn, .ref r] ∧ LibAt CL H lv a e ∧ DvAt K H v t ∧ t.Good ∧ t.dp < d ∧ t.pl.length ≤ 100000 ∧ RkAt H r ∧ r ≠ a ∧ r ≠ e ∧
  ∀ z H', Kp (only1 r) H H' → RkAt H' r → H z = none → PlsAt H' (.ref z) t.pl → Q (.ref z) H'
theorem kp_none {m : Addr → Prop} {H H' : Hp} {z : Addr} (h : Kp m H H') (hm : ∀ b, m b → ∃ ks, H b = some (.dK ks)) (hz : H' z = none) (mz : ¬ m z) : H z = none := by
  cases e : H z with
  | none => rfl
  | some o =>
    rw [h _ _ mz e] at hz
    cases hz
theorem fresh_rk {r : Addr} {H H' : Hp} {z : Addr} (h : Kp (only1 r) H H') (hR : RkAt H' r) (hz : H' z = none) : H z = none := by
  cases e : H z with
  | none => rfl
  | some o =>
    by_cases hzr : z = r
    · subst hzr
      obtain ⟨ks, e2⟩ := hR.dk z rfl
      rw [hz] at e2
      cases e2
    · rw [h _ _ hzr e] at hz
      cases hz
theorem plays_step {k d : Nat} (T : Tx K mg w)
    (G_premises : FnOk P w K mg base CX0 k T.a_premises T.d_premises ["derivation"] (spPremises K)) (G_plays_within : FnOk P w K mg base CX0 k T.a_plays_within T.d_plays_within ["library", "derivation", "known", "ranks"] (spPW K T.C_Library d))
    (G_longer : FnOk P w K mg base CX0 k T.a_longer T.d_longer ["found", "rows", "load"] spLonger) (G_joined : FnOk P w K mg base CX0 k T.a_joined T.d_joined ["first", "second"] spJoined)
    (G_boxed_plays : FnOk P w K mg base CX0 k T.a_boxed_plays T.d_boxed_plays ["found", "kind"] (spBoxP K)) (G_copies : FnOk P w K mg base CX0 k T.a_copies T.d_copies ["kind"] (spCopies K))
    (G_rank_within : FnOk P w K mg base CX0 k T.a_rank_within T.d_rank_within ["library", "sentence", "known"] (spRankB K T.C_Library)) :
    FnOk P w K mg base CX0 (k + 1) T.a_plays_within T.d_plays_within ["library", "derivation", "known", "ranks"] (spPW K T.C_Library (d + 1)) := by
  refine T.F_plays_within.ok sc_plays_within (fun vs H Q E h => ?_) (fun cdv A outer s H vs Q E hr h => ?_)
  · obtain ⟨_, _, _, _, _, _, _, rfl, _⟩ := h
    rfl
  obtain ⟨lv, v, kn, r, a, e, t, rfl, hL, hv, hg, hd, hlen, hR, nra, nre, q⟩ := h
  refine ⟨_, (pss_cons (ps_set (i := 4) sc_plays_within.nd rfl (Or.inl rfl) (pe_ix (ixT K) (pv 1) pe_int (fun _ _ => rfl)))
      (pss_cons (ps_if (pt_cmpR op_eq (pv 4) pe_str (nomark _)) (pss_one (ps_ret (pe_lst (pa_cons (pe_tup (pa_cons pe_int (pa_cons pe_int pa_nil))) pa_nil)))) pss_nil)
      (pss_cons (ps_if (pt_cmpR op_eq (pv 4) pe_str (nomark _)) (pss_one ps_never) pss_nil)
      (pss_cons (ps_setLc (i := 5) (own := [("premise", 11)]) (g := gName 11) (by rfl) sc_plays_within.nd rfl rfl (sw_true rfl rfl rfl (by decide +kernel)) (piL K (pe_call G_premises hr (by rfl) T.m_premises T.F_premises.kp T.b_premises .nil pass0 (pa_cons (pv 1) pa_nil))) (blkOk_by (own := [("premise", 11)]) (N := ["library", "derivation", "known", "ranks", "name", "found", "factor", "both", "total", "key", "_", "premise", "one"]) (sc := defScope s_plays_within) (by decide +kernel)) (fun _ _ _ _ _ => (pg_name (i := 11) sc_plays_within.nd rfl (Or.inl rfl))) (fun _ _ _ _ _ => pts_nil) (fun _ _ _ _ _ => (pe_call G_plays_within hr (by rfl) T.m_plays_within T.F_plays_within.kp T.b_plays_within .nil pass0 (pa_cons (pv 0) (pa_cons (pv 11) (pa_cons (pv 2) (pa_cons (pv 3) pa_nil)))))))
      (pss_cons (ps_if (pt_cmpR op_eq (pv 4) pe_str (nomark _)) (pss_one (ps_ret (pe_call G_longer hr (by rfl) T.m_longer T.F_longer.kp T.b_longer .nil pass0 (pa_cons (pe_op op_cat (pe_ix (ixL K) (pv 5) pe_int (fun _ _ => rfl)) (pe_ix (ixL K) (pv 5) pe_int (fun _ _ => rfl))) (pa_cons pe_int (pa_cons pe_int pa_nil)))))) pss_nil)
      (pss_cons (ps_if (pt_cmpR op_eq (pv 4) pe_str (nomark _)) (pss_one (ps_ret (pe_call G_longer hr (by rfl) T.m_longer T.F_longer.kp T.b_longer .nil pass0 (pa_cons (pe_call G_joined hr (by rfl) T.m_joined T.F_joined.kp T.b_joined .nil pass0 (pa_cons (pe_call G_boxed_plays hr (by rfl) T.m_boxed_plays T.F_boxed_plays.kp T.b_boxed_plays .nil pass0 (pa_cons (pe_ix (ixL K) (pv 5) pe_int (fun _ _ => rfl)) (pa_cons (pe_ix (ixT K) (pv 1) pe_int (fun _ _ => rfl)) pa_nil))) (pa_cons (pe_ix (ixL K) (pv 5) pe_int (fun _ _ => rfl)) pa_nil))) (pa_cons pe_int (pa_cons pe_int pa_nil)))))) pss_nil)
      (pss_cons (ps_if (pt_cmpR op_eq (pv 4) pe_str (nomark _)) (pss_cons (ps_set (i := 6) sc_plays_within.nd rfl (Or.inr rfl) (pe_op op_mulW (pe_call G_copies hr (by rfl) T.m_copies T.F_copies.kp T.b_copies .nil pass0 (pa_cons (pe_ix (ixT K) (pv 1) pe_int (fun _ _ => rfl)) pa_nil)) (pe_call G_rank_within hr (by rfl) T.m_rank_within T.F_rank_within.kp T.b_rank_within .nil pass0 (pa_cons (pv 0) (pa_cons (pe_ix (ixT K) (pv 1) pe_int (fun _ _ => rfl)) (pa_cons (pv 3) pa_nil))))))
      (pss_cons (ps_set (i := 7) sc_plays_within.nd rfl (Or.inl rfl) (pe_call G_joined hr (by rfl) T.m_joined T.F_joined.kp T.b_joined .nil pass0 (pa_cons (pe_call G_boxed_plays hr (by rfl) T.m_boxed_plays T.F_boxed_plays.kp T.b_boxed_plays .nil pass0 (pa_cons (pe_ix (ixL K) (pv 5) pe_int (fun _ _ => rfl)) (pa_cons (pe_ix (ixT K) (pv 1) pe_int (fun _ _ => rfl)) pa_nil))) (pa_cons (pe_ix (ixL K) (pv 5) pe_int (fun _ _ => rfl)) pa_nil))))
      (pss_one (ps_ret (pe_lc (own := [("one", 12)]) (g := gName 12) (by rfl) sc_plays_within.nd (piL K (pv 7)) (blkOk_by (own := [("one", 12)]) (N := ["library", "derivation", "known", "ranks", "name", "found", "factor", "both", "total", "key", "_", "premise", "one"]) (sc := defScope s_plays_within) (by decide +kernel)) (fun _ _ _ _ _ => (pg_name (i := 12) sc_plays_within.nd rfl (Or.inl rfl))) (fun _ _ _ _ _ => pts_nil) (fun _ _ _ _ _ => (pe_tup (pa_cons (pe_ix (ixT K) (pv 12) pe_int (fun _ _ => rfl)) (pa_cons (pe_op op_add (pe_ix (ixT K) (pv 12) pe_int (fun _ _ => rfl)) (pe_op op_mulW (pv 6) (pe_op op_sub (pe_ix (ixT K) (pv 12) pe_int (fun _ _ => rfl)) pe_int))) pa_nil))))))))) pss_nil)
      (pss_cons (ps_set (i := 8) sc_plays_within.nd rfl (Or.inl rfl) (pe_ix (ixL K) (pv 5) pe_int (fun _ _ => rfl)))
      (pss_cons (ps_if (pt_cmpR op_eq (pv 4) pe_str (nomark _)) (pss_one ps_never) pss_nil)
      (pss_one (ps_ret (pe_call G_longer hr (by rfl) T.m_longer T.F_longer.kp T.b_longer .nil pass0 (pa_cons (pv 8) (pa_cons pe_int (pa_cons pe_int pa_nil))))))))))))))), ?_⟩
  have mI : ∀ H, RkAt H r → ∀ b, only1 r b → ∃ ks, H b = some (.dK ks) := fun H h => h.dk
  have stp : ∀ (D : Addr) (H1 : Hp) (x : V) (c : Dv) (H' : Hp), Kp (only1 r) H H1 → c ∈ t.kids → DvAt K H' x c → Kp (only1 r) H1 H' → RkAt H' r → (∃ l, H' D = some (.lst l)) → ∀ Qn : VK, (∀ v H2, Kp (only1 r) H' H2 → RkAt H2 r → (v ≠ .ref D ∧ PlsAt H2 v c.pl) → Qn v H2) →
      spPW K T.C_Library d [lv, x, kn, .ref r] H' Qn E0 := fun D H1 x c H' k0 hc hx k1 i1 hD Qn qn => by
    have z := hg.kid hc
    refine ⟨lv, x, kn, r, a, e, c, rfl, hL.rk (k0.trans k1) hR nra nre, hx, z.1, by omega, Dv.pl_kid hg.pos hlen hc, i1, nra, nre, fun z H2 k2 i2 nz hz => qn _ _ k2 i2 ⟨fun e => ?_, hz⟩⟩
    obtain ⟨l, hD⟩ := hD
    cases e
    rw [hD] at nz
    cases nz
  have kF : ∀ (D : Addr) (H H' : Hp) (v : V) (t : Dv), RkAt H r → Kp (only1 r) H H' → (v ≠ .ref D ∧ PlsAt H v t.pl) → (v ≠ .ref D ∧ PlsAt H' v t.pl) := fun D H H' v t i k h => ⟨h.1, h.2.rk k i⟩
  have uF : ∀ (D : Addr) (H : Hp) (v : V) (t : Dv) (l xs : List V), H D = some (.lst l) → (v ≠ .ref D ∧ PlsAt H v t.pl) → (v ≠ .ref D ∧ PlsAt (upd H D (.lst xs)) v t.pl) := fun D H v t l xs e h => ⟨h.1, h.2.put e h.1⟩
  cases t with
  | own x =>
    obtain ⟨c, rfl, hc⟩ := hv
    refine ⟨_, rfl, c, _, 0, _, rfl, rfl, hc, rfl, ?_⟩
    refine ⟨_, rfl, rfl, _, rfl, iteT ?_⟩
    refine ⟨(by show 2 ≤ sizeLine; decide), fun b nb => ⟨(by show 1 ≤ sizeLine; decide), fun D nD => ?_⟩⟩
    have s2 : Same H (upd (upd H b (.tup [V.int 1, V.int 0])) D (.lst [.ref b])) := (Same.new nb).trans (Same.new nD)
    exact q D _ (Kp.of s2) (hR.same s2) ((Same.new (o := .tup [V.int 1, V.int 0]) nb).free nD) ⟨D, _, rfl, upd_same, .cons ⟨b, rfl, by rw [upd_ne (ne_of_none upd_same nD)]; exact upd_same⟩ .nil⟩
  | pick x sd b =>
    have hv0 := hv
    obtain ⟨c, y, rfl, hc, hb⟩ := hv
    refine ⟨_, rfl, c, _, 0, _, rfl, rfl, hc, rfl, ?_⟩
    refine ⟨_, rfl, rfl, _, rfl, iteF ?_⟩
    refine ⟨_, rfl, rfl, _, rfl, iteF ?_⟩
    refine ⟨_, rfl, .ref c, _, rfl, hv0, fun H1 p ys sm1 hp hk => ⟨p, rfl, ⟨ys, SqL.of hp⟩, fun D nD => ?_⟩⟩
    refine kids_lc (m := only1 r) (I := fun H => RkAt H r) (F := fun H v t => v ≠ .ref D ∧ PlsAt H v t.pl) hp hk nD (hR.same sm1) mI (fun H xs i z => i.ne z) (uF D) (kF D) (kids_small _) (fun x => rfl) ?_ ?_
    · intro x c2 H' hc2 hx k1 i1 hD Qn qn
      exact ⟨_, rfl, _, rfl, _, rfl, _, rfl, stp D H1 x c2 H' (Kp.of sm1) hc2 hx k1 i1 hD Qn qn⟩
    · intro H2 acc k2 hR2 hD hacc
      obtain ⟨u, rfl, _, hu⟩ := paired1 hacc
      have zb := Dv.pl_kid hg.pos hlen (c := b) List.mem_cons_self
      refine ⟨_, rfl, rfl, _, rfl, iteF ?_⟩
      refine ⟨_, rfl, rfl, _, rfl, iteF ?_⟩
      refine ⟨_, rfl, rfl, _, rfl, iteF ?_⟩
      refine ⟨_, rfl, D, _, 0, _, rfl, rfl, SqL.of hD, rfl, ?_⟩
      refine ⟨_, rfl, rfl, _, rfl, iteF ?_⟩
      have k02 := (Kp.of (m := only1 r) sm1).trans k2
      exact ⟨_, rfl, u, 1, 0, b.pl, rfl, hu, zb, fun z H3 s3 nz h3 => q z H3 (k02.trans (Kp.of s3)) (hR2.same s3) (fresh_rk k02 hR2 nz) h3⟩
  | offer b1 b2 =>
    have hv0 := hv
    obtain ⟨c, y, z, rfl, hc, hb1, hb2⟩ := hv
    refine ⟨_, rfl, c, _, 0, _, rfl, rfl, hc, rfl, ?_⟩
    refine ⟨_, rfl, rfl, _, rfl, iteF ?_⟩
    refine ⟨_, rfl, rfl, _, rfl, iteF ?_⟩
    refine ⟨_, rfl, .ref c, _, rfl, hv0, fun H1 p ys sm1 hp hk => ⟨p, rfl, ⟨ys, SqL.of hp⟩, fun D nD => ?_⟩⟩
    refine kids_lc (m := only1 r) (I := fun H => RkAt H r) (F := fun H v t => v ≠ .ref D ∧ PlsAt H v t.pl) hp hk nD (hR.same sm1) mI (fun H xs i z => i.ne z) (uF D) (kF D) (kids_small _) (fun x => rfl) ?_ ?_
    · intro x c2 H' hc2 hx k1 i1 hD Qn qn
      exact ⟨_, rfl, _, rfl, _, rfl, _, rfl, stp D H1 x c2 H' (Kp.of sm1) hc2 hx k1 i1 hD Qn qn⟩
    · intro H2 acc k2 hR2 hD hacc
      obtain ⟨u1, u2, rfl, ⟨_, hu1⟩, _, hu2⟩ := paired2 hacc
      have hlen2 : b1.pl.length + b2.pl.length ≤ 100000 := by
        rw [Dv.pl, lg_len, List.length_append] at hlen
        exact hlen
      obtain ⟨l1, xs1, rfl, e1, p1⟩ := hu1
      obtain ⟨l2, xs2, rfl, e2, p2⟩ := hu2
      have n1 := Paired.len p1
      have n2 := Paired.len p2
      refine ⟨_, rfl, rfl, _, rfl, iteT ?_⟩
      have k02 := (Kp.of (m := only1 r) sm1).trans k2
      refine ⟨_, rfl, D, _, 0, _, rfl, rfl, SqL.of hD, rfl, _, rfl, D, _, 1, _, rfl, rfl, SqL.of hD, rfl, l1, l2, xs1, xs2, rfl, rfl, e1, e2, sz1 (by omega), fun z nz => ?_⟩
      have s3 : Same H2 (upd H2 z (.lst (xs1 ++ xs2))) := Same.new nz
      refine ⟨.ref z, 1, 0, b1.pl ++ b2.pl, rfl, ⟨z, _, rfl, upd_same, Paired.mapP (Paired.app p1 p2) fun _ _ q => q.same s3⟩, by rw [List.length_append]; exact hlen2, fun z2 H3 s4 nz2 h3 => ?_⟩
      exact q z2 H3 (k02.trans (Kp.of (s3.trans s4))) (hR2.same (s3.trans s4)) (fresh_rk k02 hR2 (s3.free nz2)) h3
  | pay nm m b1 b2 =>
    have hv0 := hv
    obtain ⟨c, mv, y, z, rfl, hc, hm, hb1, hb2⟩ := hv
    refine ⟨_, rfl, c, _, 0, _, rfl, rfl, hc, rfl, ?_⟩
    refine ⟨_, rfl, rfl, _, rfl, iteF ?_⟩
    refine ⟨_, rfl, rfl, _, rfl, iteF ?_⟩
    refine ⟨_, rfl, .ref c, _, rfl, hv0, fun H1 p ys sm1 hp hk => ⟨p, rfl, ⟨ys, SqL.of hp⟩, fun D nD => ?_⟩⟩
    refine kids_lc (m := only1 r) (I := fun H => RkAt H r) (F := fun H v t => v ≠ .ref D ∧ PlsAt H v t.pl) hp hk nD (hR.same sm1) mI (fun H xs i z => i.ne z) (uF D) (kF D) (kids_small _) (fun x => rfl) ?_ ?_
    · intro x c2 H' hc2 hx k1 i1 hD Qn qn
      exact ⟨_, rfl, _, rfl, _, rfl, _, rfl, stp D H1 x c2 H' (Kp.of sm1) hc2 hx k1 i1 hD Qn qn⟩
    · intro H2 acc k2 hR2 hD hacc
      obtain ⟨u1, u2, rfl, ⟨_, hu1⟩, _, hu2⟩ := paired2 hacc
      have hl2 := hlen
      rw [Dv.pl, lg_len] at hl2
      obtain ⟨w1, w2, w3⟩ := two_le (boxL_pos b1.pl_pos hg.pos.1) b2.pl_pos hl2
      have zb := Dv.pl_kid hg.pos hlen (c := b1) List.mem_cons_self
      have hgp := hg.gp
      rw [Dv.gp_pay] at hgp
      have zn := boxG_ge (g := b1.gp) hg.pos.1
      have k02 := (Kp.of (m := only1 r) sm1).trans k2
      have kt := rk_tup k02 hR
      refine ⟨_, rfl, rfl, _, rfl, iteF ?_⟩
      refine ⟨_, rfl, rfl, _, rfl, iteT ?_⟩
      refine ⟨_, rfl, D, _, 0, _, rfl, rfl, SqL.of hD, rfl, _, rfl, c, _, 2, _, rfl, rfl, kt.tup hc, rfl, u1, mv, b1.pl, m, rfl, hu1, hm.kp kt, zb, by omega, box_all hg.pos.1 w1 (by decide), fun z3 H3 s3 h3 => ?_⟩
      refine ⟨_, rfl, D, _, 1, _, rfl, rfl, SqL.of (s3 _ _ hD), rfl, z3, u2, _, _, rfl, h3, hu2.same s3, w3, fun z4 H4 s4 nz4 h4 => ?_⟩
      refine ⟨.ref z4, 1, 0, _, rfl, h4, hl2, fun z5 H5 s5 nz5 h5 => ?_⟩
      have s35 := (s3.trans s4).trans s5
      exact q z5 H5 (k02.trans (Kp.of s35)) (hR2.same s35) (fresh_rk k02 hR2 ((s3.trans s4).free nz5)) h5
  | cut m mn b1 b2 =>
    have hv0 := hv
    obtain ⟨c, mv, sv, y, z, rfl, hc, hm, hs, hb1, hb2⟩ := hv
    refine ⟨_, rfl, c, _, 0, _, rfl, rfl, hc, rfl, ?_⟩
    refine ⟨_, rfl, rfl, _, rfl, iteF ?_⟩
    refine ⟨_, rfl, rfl, _, rfl, iteF ?_⟩
    refine ⟨_, rfl, .ref c, _, rfl, hv0, fun H1 p ys sm1 hp hk => ⟨p, rfl, ⟨ys, SqL.of hp⟩, fun D nD => ?_⟩⟩
    refine kids_lc (m := only1 r) (I := fun H => RkAt H r) (F := fun H v t => v ≠ .ref D ∧ PlsAt H v t.pl) hp hk nD (hR.same sm1) mI (fun H xs i z => i.ne z) (uF D) (kF D) (kids_small _) (fun x => rfl) ?_ ?_
    · intro x c2 H' hc2 hx k1 i1 hD Qn qn
      exact ⟨_, rfl, _, rfl, _, rfl, _, rfl, stp D H1 x c2 H' (Kp.of sm1) hc2 hx k1 i1 hD Qn qn⟩
    · intro H2 acc k2 hR2 hD hacc
      obtain ⟨u1, u2, rfl, ⟨_, hu1⟩, _, hu2⟩ := paired2 hacc
      have hl2 := hlen
      rw [Dv.pl, cutL_len] at hl2
      obtain ⟨w1, w2, w3⟩ := two_le (boxL_pos b1.pl_pos hg.pos.1) b2.pl_pos hl2
      have zb := Dv.pl_kid hg.pos hlen (c := b1) List.mem_cons_self
      have hgp := hg.gp
      rw [Dv.gp_cut] at hgp
      have zn := boxG_ge (g := b1.gp) hg.pos.1
      have k02 := (Kp.of (m := only1 r) sm1).trans k2
      have kt := rk_tup k02 hR
      refine ⟨_, rfl, rfl, _, rfl, iteF ?_⟩
      refine ⟨_, rfl, rfl, _, rfl, iteF ?_⟩
      refine ⟨_, rfl, rfl, _, rfl, iteT ?_⟩
      refine ⟨_, rfl, c, _, 1, _, rfl, rfl, kt.tup hc, rfl, mv, m, rfl, hm.kp kt, ?_⟩
      refine ⟨_, rfl, _, rfl, c, _, 2, _, rfl, rfl, kt.tup hc, rfl, _, rfl, mn, lv, sv, r, a, e, rfl, hL.rk k02 hR nra nre, hs.kp kt, hR2, nra, nre, fun H3 k3 hR3 => ?_⟩
      refine ⟨_, _, rfl, rfl, mulW (a := m.n) (b := 1) (small_nat (by omega)) (small_nat (by decide)), ?_⟩
      have k03 := k02.trans k3
      have kt3 := rk_tup k03 hR
      have hD3 : H3 D = some (.lst [u1, u2]) := k3 _ _ (fun z => by
        obtain ⟨ks, e⟩ := hR2.dk D z
        rw [hD] at e
        cases e) hD
      have hu1' := hu1.rk k3 hR2
      have hu2' := hu2.rk k3 hR2
      refine ⟨_, rfl, D, _, 0, _, rfl, rfl, SqL.of hD3, rfl, _, rfl, c, _, 1, _, rfl, rfl, kt3.tup hc, rfl, u1, mv, b1.pl, m, rfl, hu1', hm.kp kt3, zb, by omega, box_all hg.pos.1 w1 (by decide), fun z4 H4 s4 h4 => ?_⟩
      refine ⟨_, rfl, D, _, 1, _, rfl, rfl, SqL.of (s4 _ _ hD3), rfl, z4, u2, _, _, rfl, h4, hu2'.same s4, w3, fun z5 H5 s5 nz5 h5 => ?_⟩
      obtain ⟨l5, xs5, e5, f5, p5⟩ := h5
      cases e5
      refine ⟨_, rfl, z5, rfl, ⟨xs5, SqL.of f5⟩, fun D6 nD6 => ?_⟩
      have hin := (b1.pl_in.box m).jn b2.pl_in
      refine lc_map (f := fun x => (x.1, x.2 + m.n * (x.1 - 1))) f5 p5 nD6 hl2 (fun x => rfl) ?_ ?_
      · intro b p H' hp hb Qn qn
        have hpi := hin p hp
        have ep : ((p.1 : Int) - 1) = ((p.1 - 1 : Nat) : Int) := by omega
        have en : ((m.n : Int) * 1) = (m.n : Int) := Int.mul_one _
        refine ⟨_, rfl, b, _, 0, _, rfl, rfl, at0 hb, rfl, _, rfl, b, _, 1, _, rfl, rfl, at0 hb, rfl, _, rfl, _, rfl, b, _, 0, _, rfl, rfl, at0 hb, rfl, _, _, rfl, rfl, ?_⟩
        refine ⟨_, _, rfl, rfl, by rw [ep]; show CMulW ((m.n : Int) * 1) _; rw [en]; exact mulW (small_nat (by omega)) (small_nat (by omega)), _, _, rfl, rfl, (by show 2 ≤ sizeLine; decide), fun z nz => ?_⟩
        have zz := qn z nz
        have e3 : iv (p.2 + m.n * (p.1 - 1)) = V.int ((p.2 : Int) + ((m.n : Int) * 1) * ((p.1 : Int) - 1)) := by
          rw [ep, en]
          rfl
        dsimp only at zz
        rw [e3] at zz
        exact zz
      · intro H' acc s6 hD6 hacc6
        have s46 := (s4.trans s5).trans s6
        exact q D6 H' (k03.trans (Kp.of s46)) (hR3.same s46) (fresh_rk k03 hR3 ((s4.trans s5).free nD6)) ⟨D6, acc, rfl, hD6, hacc6⟩
def spPlays (K : PySem.W.Frag) (CL : Addr) : Sp := fun vs H Q _ => ∃ (lv v : V) (a e : Addr) (t : Dv), vs = [lv, v] ∧ LibAt CL H lv a e ∧ DvAt K H v t ∧ t.Good ∧ t.dp < 40 ∧ t.pl.length ≤ 100000 ∧ GivesL H Q t.pl
theorem ok_plays {k : Nat} (T : Tx K mg w) (G_riders : FnOk P w K mg base CX0 k T.a_riders T.d_riders ["library", "derivation"] (spRiders K T.C_Library))
    (G_plays_within : FnOk P w K mg base CX0 k T.a_plays_within T.d_plays_within ["library", "derivation", "known", "ranks"] (spPW K T.C_Library 40)) :
    FnOk P w K mg base CX0 (k + 1) T.a_plays T.d_plays ["library", "derivation"] (spPlays K T.C_Library) := by
  refine T.F_plays.ok sc_plays (fun vs H Q E h => ?_) (fun cdv A outer s H vs Q E hr h => ?_)
  · obtain ⟨_, _, _, _, _, rfl, _⟩ := h
    rfl
  obtain ⟨lv, v, a, e, t, rfl, hL, hv, hg, hd, hlen, q⟩ := h
  refine ⟨_, (pss_cons (ps_set (i := 2) sc_plays.nd rfl (Or.inl rfl) pe_dnewK)
      (pss_cons (ps_set (i := 3) sc_plays.nd rfl (Or.inl rfl) pe_dnewK)
      (pss_cons (ps_for PassesOwn.never rfl (piL K (pe_call G_riders hr (by rfl) T.m_riders T.F_riders.kp T.b_riders .nil pass0 (pa_cons (pv 0) (pa_cons (pv 1) pa_nil)))) (pg_tup rfl (pgs_cons (pg_name (i := 4) sc_plays.nd rfl (Or.inl rfl)) (pgs_cons (pg_name (i := 5) sc_plays.nd rfl (Or.inl rfl)) pgs_nil))) (pss_one ps_never))
      (pss_one (ps_ret (pe_call G_plays_within hr (by rfl) T.m_plays_within T.F_plays_within.kp T.b_plays_within .nil pass0 (pa_cons (pv 0) (pa_cons (pv 1) (pa_cons (pv 2) (pa_cons (pv 3) pa_nil)))))))))), ?_⟩
  refine fun f nf r nr => ?_
  have s1 : Same H (upd H f (.dK [])) := Same.new nf
  have s2 : Same H (upd (upd H f (.dK [])) r (.dK [])) := s1.trans (Same.new nr)
  have hr2 : (upd (upd H f (.dK [])) r (.dK [])) r = some (.dK []) := upd_same
  have nr0 : H r = none := s1.free nr
  generalize upd (upd H f (.dK [])) r (.dK []) = H1 at s2 hr2
  refine ⟨_, rfl, _, rfl, lv, v, a, e, t, rfl, hL.same s2, DvAt.kp (kpT_same s2) hv, hg.sz, fun p H2 s3 hp => ⟨p, rfl, ⟨[], SqL.of hp⟩, for_stop (J := Itl K p) ⟨[], SqL.of hp, Nat.le_refl _⟩ ?_⟩⟩
  have nra : r ≠ a := fun z => by have := hL.wd; rw [← z, nr0] at this; cases this
  have nre : r ≠ e := fun z => by have := hL.en; rw [← z, nr0] at this; cases this
  have s4 := s2.trans s3
  refine ⟨_, rfl, _, rfl, _, rfl, _, rfl, lv, v, _, r, a, e, t, rfl, hL.same s4, DvAt.kp (kpT_same s4) hv, hg, hd, hlen, .inl (s3 _ _ hr2), nra, nre, fun u H3 k3 _ nu hu => q u H3 ?_ (s4.free nu) hu⟩
  intro b o hb
  exact k3 _ _ (fun z => by
    have z : b = r := z
    rw [z, nr0] at hb
    cases hb) (s4 _ _ hb)
end
end W77
namespace W77
open PySem PySem.Spec PyProof.Rows L2 HX
/-! ### the derivations that are drawn -/
/-- a text without the sign u -/
def NoU (x : Str) : Prop := ∀ c, c ∈ x.cps.toList → c < 128 ∧ c ≠ 117
theorem nou_app {x y : Str} (h1 : NoU x) (h2 : NoU y) : NoU (x ++ y) := fun c hc => by
  rcases mem_cps_append.mp hc with h | h
  · exact h1 c h
  · exact h2 c h
theorem nou_lit {s : Str} (h : (s.cps.toList.all fun c => decide (c < 128 ∧ c ≠ 117)) = true) : NoU s := by
  rw [List.all_eq_true] at h
  exact fun c hc => of_decide_eq_true (h c hc)
theorem int1000 : ∀ k : Fin 1000, (((toString ((k.val : Nat) : Int) : Str).cps.toList.all fun c => decide (c < 128 ∧ c ≠ 117)) && decide ((toString ((k.val : Nat) : Int) : Str).length ≤ 3)) = true := by decide +kernel
theorem nou_int {k : Nat} (h : k < 1000) : NoU (toString (k : Int) : Str) ∧ (toString (k : Int) : Str).length ≤ 3 := by
  have := int1000 ⟨k, h⟩
  rw [Bool.and_eq_true, decide_eq_true_eq] at this
  exact ⟨nou_lit this.1, this.2⟩
def Mode.Ok : Mode → Prop
  | .once => True
  | .box n d => n ≤ 400 ∧ d < 101
def NmOk (x : Str) : Prop := NoU x ∧ x.length ≤ 12
def Dv.Nm : Dv → Prop
  | .own x => Leaf x
  | .pick x s b => Leaf x ∧ (s = "left" ∨ s = "right") ∧ b.Nm
  | .offer a b => a.Nm ∧ b.Nm
  | .cut m _ a b => m.Ok ∧ a.Nm ∧ b.Nm
  | .pay nm m a b => NmOk nm ∧ m.Ok ∧ a.Nm ∧ b.Nm
structure Drw (d R : Nat) (t : Dv) : Prop where
  pos : t.Pos
  gp : t.gp ≤ (4 * d + 2) * R
  ml : t.ml ≤ d * (R * 13600)
  dp : t.dp ≤ 2 * d + 1
  sz : t.sz + 4 ≤ 6 * 2 ^ d
  nm : t.Nm
theorem leaf_s : Leaf (.str "s") := .inl rfl
theorem leaf_m : Leaf (.str "m") := .inr (.inl rfl)
theorem leaf_0 : Leaf (.int 0) := .inr (.inr ⟨0, by decide, rfl⟩)
theorem leaf_1 : Leaf (.int 1) := .inr (.inr ⟨1, by decide, rfl⟩)
theorem p2pos (d : Nat) : 1 ≤ 2 ^ d := Nat.pow_pos (by decide)
theorem drw_own {d R : Nat} (h : 1 ≤ R) {x : V} (hx : Leaf x) : Drw d R (.own x) := by
  have := p2pos d
  refine ⟨True.intro, ?_, Nat.zero_le _, Nat.zero_le _, by show 1 + 4 ≤ _; omega, hx⟩
  show 1 ≤ (4 * d + 2) * R
  exact Nat.mul_pos (by omega) h
theorem drw_pick {d R : Nat} (h : 1 ≤ R) {x y : V} {s : Str} (hx : Leaf x) (hy : Leaf y) (hs : s = "left" ∨ s = "right") : Drw d R (.pick x s (.own y)) := by
  have := p2pos d
  refine ⟨True.intro, ?_, Nat.zero_le _, by show 0 + 1 ≤ _; omega, by show 1 + 1 + 4 ≤ _; omega, hx, hs, hy⟩
  show 1 + 1 ≤ (4 * d + 2) * R
  have z := Nat.mul_le_mul (show 2 ≤ 4 * d + 2 by omega) h
  omega
theorem p2s (d : Nat) : 2 ^ (d + 1) = 2 * 2 ^ d := by rw [Nat.pow_succ, Nat.mul_comm]
theorem drw_offer {d R : Nat} {a b : Dv} {x y : V} {s : Str} (h : 1 ≤ R) (h2 : (4 * (d + 1) + 2) * R ≤ 13600) (ha : Drw d R a) (hb : Drw d R b) (hx : Leaf x) (hy : Leaf y) (hs : s = "left" ∨ s = "right") : Drw (d + 1) R (.cut .once true (.offer a b) (.pick x s (.own y))) := by
  have e1 : (4 * (d + 1) + 2) * R = (4 * d + 2) * R + 4 * R := by rw [← Nat.add_mul, show 4 * (d + 1) + 2 = 4 * d + 2 + 4 by omega]
  have e2 : (d + 1) * (R * 13600) = d * (R * 13600) + R * 13600 := Nat.succ_mul _ _
  obtain ⟨a1, a2, a3, a4, a5, a6⟩ := ha
  obtain ⟨b1, b2, b3, b4, b5, b6⟩ := hb
  refine ⟨⟨Nat.le_refl _, ⟨a1, b1⟩, True.intro⟩, ?_, ?_, ?_, ?_, True.intro, ⟨a6, b6⟩, hx, hs, hy⟩
  · show (max a.gp b.gp + 1) + (1 + 1) ≤ _
    rw [e1]
    omega
  · show 1 * max a.ml b.ml + 0 + 1 * ((max a.gp b.gp + 1) + (1 + 1)) ≤ _
    rw [e2]
    have : 13600 ≤ R * 13600 := Nat.le_mul_of_pos_left _ h
    omega
  · show max (max a.dp b.dp + 1) (0 + 1) + 1 ≤ _
    omega
  · show (a.sz + b.sz + 1) + (1 + 1) + 1 + 4 ≤ _
    rw [p2s]
    omega
theorem drw_gp {d R : Nat} {m : Mode} {a : Dv} (hn : 1 ≤ m.n) (hR : m.n ≤ R) (ha : Drw d (R / m.n) a) : boxG a.gp m + 2 ≤ (4 * (d + 1) + 2) * R ∧ m.n * a.ml ≤ d * (R * 13600) := by
  have e1 : (4 * (d + 1) + 2) * R = (4 * d + 2) * R + 4 * R := by rw [← Nat.add_mul, show 4 * (d + 1) + 2 = 4 * d + 2 + 4 by omega]
  have z0 : m.n * (R / m.n) ≤ R := Nat.mul_div_le R m.n
  have z1 : m.n * a.gp ≤ (4 * d + 2) * R := by
    refine Nat.le_trans (Nat.mul_le_mul_left _ ha.gp) ?_
    rw [Nat.mul_left_comm]
    exact Nat.mul_le_mul_left _ z0
  have z2 : m.n * a.ml ≤ d * (R * 13600) := by
    refine Nat.le_trans (Nat.mul_le_mul_left _ ha.ml) ?_
    rw [Nat.mul_left_comm, ← Nat.mul_assoc m.n]
    exact Nat.mul_le_mul_left _ (Nat.mul_le_mul_right _ z0)
  refine ⟨?_, z2⟩
  have z3 : boxG a.gp m ≤ m.n * a.gp + m.n := by
    cases m with
    | once => show a.gp ≤ 1 * a.gp + 1; omega
    | box n d => show n * (a.gp + 1) ≤ n * a.gp + n; rw [Nat.mul_succ]; exact Nat.le_refl _
  omega
theorem drw_cut {d R : Nat} {m : Mode} {a : Dv} {x : V} (hn : 1 ≤ m.n) (hR : m.n ≤ R) (h2 : (4 * (d + 1) + 2) * R ≤ 13600) (ha : Drw d (R / m.n) a) (hm : m.Ok) (hx : Leaf x) : Drw (d + 1) R (.cut m false a (.own x)) := by
  obtain ⟨g1, g2⟩ := drw_gp hn hR ha
  have e2 : (d + 1) * (R * 13600) = d * (R * 13600) + R * 13600 := Nat.succ_mul _ _
  refine ⟨⟨hn, ha.pos, True.intro⟩, ?_, ?_, ?_, ?_, hm, ha.nm, hx⟩
  · rw [Dv.gp_cut]
    show boxG a.gp m + 1 ≤ _
    omega
  · show m.n * a.ml + 0 + m.n * (boxG a.gp m + 1) ≤ _
    rw [e2]
    have : m.n * (boxG a.gp m + 1) ≤ R * 13600 := Nat.mul_le_mul hR (by omega)
    omega
  · show max a.dp 0 + 1 ≤ _
    have := ha.dp
    omega
  · show a.sz + 1 + 1 + 4 ≤ _
    rw [p2s]
    have := ha.sz
    have := p2pos d
    omega
theorem drw_pay {d R : Nat} {m : Mode} {a : Dv} {x : V} {nm : Str} (hn : 1 ≤ m.n) (hR : m.n ≤ R) (ha : Drw d (R / m.n) a) (hm : m.Ok) (hx : Leaf x) (hnm : NmOk nm) : Drw (d + 1) R (.pay nm m a (.own x)) := by
  obtain ⟨g1, g2⟩ := drw_gp hn hR ha
  have e2 : (d + 1) * (R * 13600) = d * (R * 13600) + R * 13600 := Nat.succ_mul _ _
  refine ⟨⟨hn, ha.pos, True.intro⟩, ?_, ?_, ?_, ?_, hnm, hm, ha.nm, hx⟩
  · rw [Dv.gp_pay]
    show boxG a.gp m + 1 + 1 ≤ _
    omega
  · show m.n * a.ml + 0 ≤ _
    omega
  · show max a.dp 0 + 1 ≤ _
    have := ha.dp
    omega
  · show a.sz + 1 + 1 + 4 ≤ _
    rw [p2s]
    have := ha.sz
    have := p2pos d
    omega
theorem Drw.good {d R : Nat} {t : Dv} (h : Drw d R t) (hd : d ≤ 8) (hR : R ≤ 400) : t.Good := by
  have z1 : (4 * d + 2) * R ≤ 34 * 400 := Nat.mul_le_mul (by omega) hR
  have z2 : d * (R * 13600) ≤ 8 * (400 * 13600) := Nat.mul_le_mul hd (Nat.mul_le_mul_right _ hR)
  have z3 : 2 ^ d ≤ 2 ^ 8 := Nat.pow_le_pow_right (by decide) hd
  have h1 := h.gp
  have h2 := h.ml
  have h3 := h.sz
  exact ⟨h.pos, by omega, by omega, by omega⟩
/-! ### the pool, kept -/
def PoolAt (H : Hp) (p : Addr) : Prop := ∃ l, H p = some (.lst l) ∧ Pool l
section
variable {P : Program} {w : World} {K : PySem.W.Frag} {mg : Str → Option Value} {base : Heap}
theorem pool_kpt {H H' : Hp} {p : Addr} (h : Kp (only1 p) H H') (hp : PoolAt H p) : KpT (only1 p) H H' := ⟨h, fun b hb => by
  have hb : b = p := hb
  subst hb
  obtain ⟨l, e, _⟩ := hp
  exact ⟨_, e, fun xs f => ⟨(by intro z; cases z), (by intro z; cases z)⟩⟩⟩
theorem PoolAt.same {H H' : Hp} {p : Addr} (h : PoolAt H p) (s : Same H H') : PoolAt H' p := let ⟨l, e, q⟩ := h; ⟨l, s _ _ e, q⟩
def spMode (K : PySem.W.Frag) : Sp := fun vs H Q _ => ∃ (p : Addr) (R : Nat), vs = [.ref p, iv R] ∧ PoolAt H p ∧ 1 ≤ R ∧ R ≤ 400 ∧ ∀ v m H', Kp (only1 p) H H' → PoolAt H' p → ModeAt K H' v m → 1 ≤ m.n → m.n ≤ R → m.Ok → Q v H'
theorem ok_law_mode {k : Nat} (T : Tx K mg w) (G_law_next : FnOk P w K mg base CX0 k T.a_law_next T.d_law_next ["pool", "many"] spNext) : FnOk P w K mg base CX0 (k + 1) T.a_law_mode T.d_law_mode ["pool", "room"] (spMode K) := by
  refine T.F_law_mode.ok sc_law_mode (fun vs H Q E h => ?_) (fun cdv A outer s H vs Q E hr h => ?_)
  · obtain ⟨_, _, rfl, _⟩ := h
    rfl
  obtain ⟨p, R, rfl, hp, h1, h4, q⟩ := h
  refine ⟨_, (pss_cons (ps_if (pt_cmpR op_eq (pe_call G_law_next hr (by rfl) T.m_law_next T.F_law_next.kp T.b_law_next .nil pass0 (pa_cons (pv 0) (pa_cons pe_int pa_nil))) pe_int (nomark _)) (pss_one (ps_ret pe_str)) pss_nil)
      (pss_one (ps_ret (pe_tup (pa_cons (pe_op op_add pe_int (pe_call G_law_next hr (by rfl) T.m_law_next T.F_law_next.kp T.b_law_next .nil pass0 (pa_cons (pv 0) (pa_cons (pe_ix (ixL K) (pe_lst (pa_cons (pe_callB (call_min2 rfl) (by rfl) T.z_min (by decide +kernel) (pa_cons (pv 1) (pa_cons pe_int pa_nil))) (pa_cons (pv 1) pa_nil))) (pe_call G_law_next hr (by rfl) T.m_law_next T.F_law_next.kp T.b_law_next .nil pass0 (pa_cons (pv 0) (pa_cons pe_int pa_nil))) (fun _ _ => rfl)) pa_nil)))) (pa_cons (pe_call G_law_next hr (by rfl) T.m_law_next T.F_law_next.kp T.b_law_next .nil pass0 (pa_cons (pv 0) (pa_cons pe_int pa_nil))) pa_nil)))))), ?_⟩
  obtain ⟨l_1, e_1, hl_1⟩ := id hp
  refine ⟨_, rfl, _, l_1, _, rfl, e_1, hl_1, (by decide), (by decide), fun d l'_1 hl'_1 hd_1 => ?_⟩
  have k1 : Kp (only1 p) H (upd H p (.lst l'_1)) := Kp.refl.put rfl
  have hp1 : PoolAt (upd H p (.lst l'_1)) p := ⟨_, upd_same, hl'_1⟩
  generalize upd H p (.lst l'_1) = H1 at k1 hp1 ⊢
  refine ⟨rfl, _, rfl, ?_⟩
  refine ite2 (fun _ => ?_) (fun _ => ?_)
  · exact q _ .once H1 k1 hp1 rfl (Nat.le_refl _) h1 True.intro
  · refine ⟨_, rfl, _, rfl, _, _, rfl, _, rfl, (by show 2 ≤ sizeLine; decide), fun l nl => ?_⟩
    have hl : (upd H1 l (.lst [V.int (if (13 : Int) < (R : Int) then 13 else (R : Int)), iv R])) l = some (.lst [V.int (if (13 : Int) < (R : Int) then 13 else (R : Int)), iv R]) := upd_same
    have s1 : Same H1 (upd H1 l (.lst [V.int (if (13 : Int) < (R : Int) then 13 else (R : Int)), iv R])) := Same.new nl
    have nlp : l ≠ p := fun z => by
      obtain ⟨l2, e, _⟩ := hp1
      rw [← z, nl] at e
      cases e
    generalize upd H1 l (.lst [V.int (if (13 : Int) < (R : Int) then 13 else (R : Int)), iv R]) = H2 at hl s1
    have hp2 := hp1.same s1
    obtain ⟨l_2, e_2, hl_2⟩ := id hp2
    refine ⟨_, rfl, _, l_2, _, rfl, e_2, hl_2, (by decide), (by decide), fun d2 l'_2 hl'_2 hd2 => ?_⟩
    have k3 : Kp (only1 p) H2 (upd H2 p (.lst l'_2)) := Kp.refl.put rfl
    have hp3 : PoolAt (upd H2 p (.lst l'_2)) p := ⟨_, upd_same, hl'_2⟩
    generalize upd H2 p (.lst l'_2) = H3 at k3 hp3 ⊢
    have hl3 := k3 _ _ nlp hl
    have two : ∃ M : Nat, 1 ≤ M ∧ M ≤ R ∧ atI [V.int (if (13 : Int) < (R : Int) then 13 else (R : Int)), iv R] (d2 : Int) = some (iv M) := by
      rcases Nat.lt_or_ge d2 1 with z | z
      · have z : d2 = 0 := by omega
        subst z
        by_cases c : (13 : Int) < (R : Int)
        · exact ⟨13, by decide, by omega, by rw [if_pos c]; rfl⟩
        · exact ⟨R, h1, Nat.le_refl _, by rw [if_neg c]; rfl⟩
      · have z : d2 = 1 := by omega
        subst z
        exact ⟨R, h1, Nat.le_refl _, rfl⟩
    obtain ⟨M, hM1, hM2, hat⟩ := two
    obtain ⟨l_3, e_3, hl_3⟩ := id hp3
    refine ⟨l, _, _, _, rfl, rfl, SqL.of hl3, hat, _, l_3, _, rfl, e_3, hl_3, (by omega), (by omega), fun d3 l'_3 hl'_3 hd3 => ?_⟩
    have k4 : Kp (only1 p) H3 (upd H3 p (.lst l'_3)) := Kp.refl.put rfl
    have hp4 : PoolAt (upd H3 p (.lst l'_3)) p := ⟨_, upd_same, hl'_3⟩
    generalize upd H3 p (.lst l'_3) = H4 at k4 hp4 ⊢
    refine ⟨_, _, rfl, rfl, ?_⟩
    obtain ⟨l_4, e_4, hl_4⟩ := id hp4
    refine ⟨_, rfl, _, l_4, _, rfl, e_4, hl_4, (by decide), (by decide), fun d5 l'_4 hl'_4 hd5 => ?_⟩
    have k5 : Kp (only1 p) H4 (upd H4 p (.lst l'_4)) := Kp.refl.put rfl
    have hp5 : PoolAt (upd H4 p (.lst l'_4)) p := ⟨_, upd_same, hl'_4⟩
    generalize upd H4 p (.lst l'_4) = H5 at k5 hp5 ⊢
    refine ⟨(by show 2 ≤ sizeLine; decide), fun b nb => ?_⟩
    have e : V.int (1 + (d3 : Int)) = iv (1 + d3) := by
      show V.int _ = V.int ((1 + d3 : Nat) : Int)
      congr 1
    dsimp only
    rw [e]
    have s6 := Same.new (o := .tup [iv (1 + d3), iv d5]) nb
    exact q _ (.box (1 + d3) d5) _ (((((k1.trans (Kp.of s1)).trans k3).trans k4).trans k5).trans (Kp.of s6)) (hp5.same s6) ⟨b, rfl, at0 upd_same⟩ (by show 1 ≤ 1 + d3; omega) (by show 1 + d3 ≤ R; omega) ⟨by omega, by omega⟩
end
end W77
namespace W77
open PySem PySem.Spec PyProof.Rows L2 HX
theorem leaf_01 : Leaf (.int (0 + 1)) := .inr (.inr ⟨1, by decide, rfl⟩)
theorem ifS_else {c : TT} {A B : TS} {D : Ends} {σ : L2.St} {H : Hp} (els : B D σ H) (h : B D σ H → tIfS c A B D σ H) : tIfS c A B D σ H := h els
theorem ifS_to {c : TT} {A B : TS} {D : Ends} {σ : L2.St} {H : Hp} (σ2 : L2.St) (els : D.nx σ2 H) (h : D.nx σ2 H → tIfS c A B D σ H) : tIfS c A B D σ H := h els
def nmOf : Mode → Str
  | .once => "f"
  | .box n d => (("f" : Str) ++ (toString (n : Int) : Str)) ++ ("x" : Str) ++ (toString (d : Int) : Str)
theorem len_app {x y : Str} : (x ++ y).length = x.length + y.length := by
  show (x.cps ++ y.cps).size = x.cps.size + y.cps.size
  rw [Array.size_append]
theorem len_f : ("f" : Str).length = 1 := by decide +kernel
theorem len_x : ("x" : Str).length = 1 := by decide +kernel
theorem nou_f : NoU ("f" : Str) := nou_lit (by decide +kernel)
theorem nou_x : NoU ("x" : Str) := nou_lit (by decide +kernel)
theorem nmOf_ok {m : Mode} (h : m.Ok) : NmOk (nmOf m) := by
  cases m with
  | once => exact ⟨nou_f, by show ("f" : Str).length ≤ 12; rw [len_f]; decide⟩
  | box n d =>
    obtain ⟨h1, h2⟩ := h
    obtain ⟨a1, a2⟩ := nou_int (k := n) (by omega)
    obtain ⟨b1, b2⟩ := nou_int (k := d) (by omega)
    refine ⟨nou_app (nou_app (nou_app nou_f a1) nou_x) b1, ?_⟩
    show ((("f" : Str) ++ (toString (n : Int) : Str)) ++ ("x" : Str) ++ (toString (d : Int) : Str)).length ≤ 12
    rw [len_app, len_app, len_app, len_f, len_x]
    omega
section
variable {P : Program} {w : World} {K : PySem.W.Frag} {mg : Str → Option Value} {base : Heap}
def spPart (K : PySem.W.Frag) (d : Nat) : Sp := fun vs H Q _ => ∃ (p : Addr) (d' R : Nat), vs = [.ref p, .int 0, iv d', iv R] ∧ d' < d ∧ d' ≤ 8 ∧ 1 ≤ R ∧ R ≤ 400 ∧ PoolAt H p ∧ ∀ v t H', Kp (only1 p) H H' → PoolAt H' p → DvAt K H' v t → Drw d' R t → Q v H'
theorem at_t {K : PySem.W.Frag} {H : Hp} {b : Addr} {xs : List V} (h : H b = some (.tup xs)) : SqT K H b xs := .inl (.inl h)
set_option exponentiation.threshold 2000 in
theorem log2_small {k : Nat} (h : k < 1000) : ((k : Int)).natAbs.log2 < 1920 := by
  rw [Int.natAbs_natCast]
  by_cases h0 : k = 0
  · subst h0
    decide
  · refine (Nat.log2_lt h0).mpr (Nat.lt_of_lt_of_le h ?_)
    exact Nat.le_trans (show 1000 ≤ 2 ^ 10 by decide) (Nat.pow_le_pow_right (by decide) (by decide))
theorem part_step {k d : Nat} (T : Tx K mg w) (G_law_next : FnOk P w K mg base CX0 k T.a_law_next T.d_law_next ["pool", "many"] spNext) (G_law_mode : FnOk P w K mg base CX0 k T.a_law_mode T.d_law_mode ["pool", "room"] (spMode K))
    (G_law_part : FnOk P w K mg base CX0 k T.a_law_part T.d_law_part ["pool", "level", "depth", "room"] (spPart K d)) :
    FnOk P w K mg base CX0 (k + 1) T.a_law_part T.d_law_part ["pool", "level", "depth", "room"] (spPart K (d + 1)) := by
  refine T.F_law_part.ok sc_law_part (fun vs H Q E h => ?_) (fun cdv A outer s H vs Q E hr h => ?_)
  · obtain ⟨_, _, _, rfl, _⟩ := h
    rfl
  obtain ⟨p, d', R, rfl, hd, h8, h1, h4, hp, q⟩ := h
  refine ⟨_, (pss_cons (ps_set (i := 4) sc_law_part.nd rfl (Or.inl rfl) (pe_tup (pa_cons pe_str (pa_cons pe_str pa_nil))))
      (pss_cons (ps_set (i := 5) sc_law_part.nd rfl (Or.inl rfl) (pe_call G_law_next hr (by rfl) T.m_law_next T.F_law_next.kp T.b_law_next .nil pass0 (pa_cons (pv 0) (pa_cons pe_int pa_nil))))
      (pss_cons (ps_if (PW.pt (pw_or (pt_cmpR op_eq (pv 2) pe_int (nomark _)) (pw_or1 (pt_cmpR op_eq (pv 5) pe_int (nomark _))))) (pss_one (ps_ret (pe_tup (pa_cons pe_str (pa_cons pe_str pa_nil))))) pss_nil)
      (pss_cons (ps_if (pt_cmpR op_eq (pv 5) pe_int (nomark _)) (pss_one (ps_ret (pe_tup (pa_cons pe_str (pa_cons pe_str (pa_cons pe_str (pa_cons (pe_tup (pa_cons pe_str (pa_cons (pv 1) pa_nil))) pa_nil))))))) pss_nil)
      (pss_cons (ps_if (PW.pt (pw_and (pt_cmpR op_lt (pv 5) pe_int (nomark _)) (pw_and1 (pt_cmpR op_lt (pv 2) pe_int (nomark _))))) (pss_cons (ps_set (i := 6) sc_law_part.nd rfl (Or.inl rfl) (pe_call G_law_part hr (by rfl) T.m_law_part T.F_law_part.kp T.b_law_part .nil pass0 (pa_cons (pv 0) (pa_cons (pv 1) (pa_cons (pe_op op_sub (pv 2) pe_int) (pa_cons (pv 3) pa_nil))))))
      (pss_cons (ps_set (i := 7) sc_law_part.nd rfl (Or.inl rfl) (pe_call G_law_part hr (by rfl) T.m_law_part T.F_law_part.kp T.b_law_part .nil pass0 (pa_cons (pv 0) (pa_cons (pv 1) (pa_cons (pe_op op_sub (pv 2) pe_int) (pa_cons (pv 3) pa_nil))))))
      (pss_cons (ps_set (i := 8) sc_law_part.nd rfl (Or.inl rfl) (pe_tup (pa_cons pe_str (pa_cons (pv 1) (pa_cons (pe_ix (ixL K) (pe_lst (pa_cons pe_str (pa_cons pe_str pa_nil))) (pe_call G_law_next hr (by rfl) T.m_law_next T.F_law_next.kp T.b_law_next .nil pass0 (pa_cons (pv 0) (pa_cons pe_int pa_nil))) (fun _ _ => rfl)) (pa_cons (pe_tup (pa_cons pe_str (pa_cons (pe_op op_add (pv 1) pe_int) pa_nil))) pa_nil))))))
      (pss_one (ps_ret (pe_tup (pa_cons pe_str (pa_cons pe_str (pa_cons (pe_tup (pa_cons pe_str (pa_cons (pv 4) (pa_cons (pv 4) pa_nil)))) (pa_cons (pe_tup (pa_cons pe_str (pa_cons (pv 6) (pa_cons (pv 7) pa_nil)))) (pa_cons (pv 8) pa_nil))))))))))) pss_nil)
      (pss_cons (ps_set (i := 9) sc_law_part.nd rfl (Or.inl rfl) (pe_call G_law_mode hr (by rfl) T.m_law_mode T.F_law_mode.kp T.b_law_mode .nil pass0 (pa_cons (pv 0) (pa_cons (pv 3) pa_nil))))
      (pss_cons (ps_if (pt_cmpR (neD K hr.units) (pv 9) pe_str (nomark _)) (pss_one (ps_set (i := 3) sc_law_part.nd rfl (Or.inl rfl) (pe_op op_fdivN (pv 3) (pe_ix (ixT K) (pv 9) pe_int (fun _ _ => rfl))))) pss_nil)
      (pss_cons (ps_set (i := 10) sc_law_part.nd rfl (Or.inl rfl) (pe_call G_law_part hr (by rfl) T.m_law_part T.F_law_part.kp T.b_law_part .nil pass0 (pa_cons (pv 0) (pa_cons (pv 1) (pa_cons (pe_op op_sub (pv 2) pe_int) (pa_cons (pv 3) pa_nil))))))
      (pss_cons (ps_if (pt_cmpR op_lt (pv 5) pe_int (nomark _)) (pss_one (ps_ret (pe_tup (pa_cons pe_str (pa_cons (pv 9) (pa_cons (pv 4) (pa_cons (pv 10) (pa_cons (pe_tup (pa_cons pe_str (pa_cons (pv 1) pa_nil))) pa_nil)))))))) pss_nil)
      (pss_cons (ps_set (i := 11) sc_law_part.nd rfl (Or.inl rfl) pe_str)
      (pss_cons (ps_if (pt_cmpR (neD K hr.units) (pv 9) pe_str (nomark _)) (pss_one (ps_set (i := 11) sc_law_part.nd rfl (Or.inl rfl) (pe_op op_add_str (pe_op op_add_str (pe_op op_add_str pe_str (pe_callTy call_str_int (by rfl) T.z_str (by decide +kernel) (pa_cons (pe_ix (ixT K) (pv 9) pe_int (fun _ _ => rfl)) pa_nil))) pe_str) (pe_callTy call_str_int (by rfl) T.z_str (by decide +kernel) (pa_cons (pe_ix (ixT K) (pv 9) pe_int (fun _ _ => rfl)) pa_nil))))) pss_nil)
      (pss_one (ps_ret (pe_tup (pa_cons pe_str (pa_cons (pv 11) (pa_cons (pv 9) (pa_cons (pv 10) (pa_cons (pe_tup (pa_cons pe_str (pa_cons (pv 1) pa_nil))) pa_nil))))))))))))))))))), ?_⟩
  refine ⟨(by show 2 ≤ sizeLine; decide), fun wa nwa => ?_⟩
  have s0 : Same H (upd H wa (.tup [.str "word", .str "p"])) := Same.new nwa
  have hw0 : (upd H wa (.tup [.str "word", .str "p"])) wa = some (.tup [.str "word", .str "p"]) := upd_same
  generalize upd H wa (.tup [.str "word", .str "p"]) = H0 at s0 hw0 ⊢
  obtain ⟨l1, e1, hl1⟩ := id (hp.same s0)
  refine ⟨_, rfl, p, l1, _, rfl, e1, hl1, (by decide), (by decide), fun pk l1' hl1' hpk => ?_⟩
  have nwp : wa ≠ p := ne_of hw0 e1 (by intro z; cases z)
  have k1 : Kp (only1 p) H0 (upd H0 p (.lst l1')) := Kp.refl.put rfl
  have hp1 : PoolAt (upd H0 p (.lst l1')) p := ⟨_, upd_same, hl1'⟩
  generalize upd H0 p (.lst l1') = H1 at k1 hp1 ⊢
  have hw1 : H1 wa = some (.tup [.str "word", .str "p"]) := k1 _ _ nwp hw0
  have k01 := (Kp.of (m := only1 p) s0).trans k1
  have own : ∀ Qo : VK, Qo = Q → [V.str "own", V.str "s"].length ≤ sizeLine ∧ ∀ b, H1 b = none → Qo (.ref b) (upd H1 b (.tup [.str "own", .str "s"])) := fun Qo e => by
    subst e
    refine ⟨(by show 2 ≤ sizeLine; decide), fun b nb => ?_⟩
    have sb := Same.new (o := .tup [V.str "own", V.str "s"]) nb
    exact q _ (.own (.str "s")) _ (k01.trans (Kp.of sb)) (hp1.same sb) ⟨b, rfl, at_t upd_same⟩ (drw_own h1 leaf_s)
  refine ⟨_, rfl, rfl, _, rfl, ite2 (fun _ => iteT (own _ rfl)) (fun c0 => ?_)⟩
  obtain ⟨e, rfl⟩ : ∃ e, d' = e + 1 := by
    cases d' with
    | zero => exact absurd (decide_eq_true rfl) c0
    | succ e => exact ⟨e, rfl⟩
  have sub1 : V.int (((e + 1 : Nat) : Int) - 1) = iv e := by
    show V.int _ = V.int _
    congr 1
    omega
  have h2 : (4 * (e + 1) + 2) * R ≤ 13600 := Nat.le_trans (Nat.mul_le_mul (show 4 * (e + 1) + 2 ≤ 34 by omega) h4) (by decide)
  refine ⟨_, rfl, rfl, _, rfl, ite2 (fun _ => own _ rfl) (fun _ => ?_)⟩
  refine ⟨_, rfl, rfl, _, rfl, ite2 (fun _ => ?_) (fun _ => ?_)⟩
  · refine ⟨_, rfl, (by show 2 ≤ sizeLine; decide), fun b nb => ?_⟩
    have sb : Same H1 (upd H1 b (.tup [V.str "own", V.int 0])) := Same.new nb
    have hb : (upd H1 b (.tup [V.str "own", V.int 0])) b = some (.tup [V.str "own", V.int 0]) := upd_same
    generalize upd H1 b (.tup [V.str "own", V.int 0]) = H2 at sb hb ⊢
    refine ⟨(by show 4 ≤ sizeLine; decide), fun c nc => ?_⟩
    have sc : Same H2 (upd H2 c (.tup [V.str "pick", V.str "m", V.str "left", .ref b])) := Same.new nc
    exact q _ (.pick (.str "m") "left" (.own (.int 0))) _ (k01.trans (Kp.of (sb.trans sc))) (hp1.same (sb.trans sc)) ⟨c, .ref b, rfl, at_t upd_same, b, rfl, at_t (sc _ _ hb)⟩ (drw_pick h1 leaf_m leaf_0 (.inl rfl))
  dsimp only [tNext, tSeq]
  refine ifS_else ?_ fun els => ?_
  · -- a kind is drawn
    refine ⟨_, rfl, _, rfl, p, R, rfl, hp1, h1, h4, fun mv m H3 k3 hp3 hm hn1 hnR hok => ?_⟩
    have hw3 : H3 wa = some (.tup [.str "word", .str "p"]) := k3 _ _ nwp hw1
    have k03 := k01.trans k3
    dsimp only [tNext, tSeq]
    refine ifS_to [some (.ref p), some (.int 0), some (iv (e + 1)), some (iv (R / m.n)), some (.ref wa), some (.int pk), none, none, none, some mv, none, none] ?_ fun els => ?_
    · have hRn : 1 ≤ R / m.n := Nat.div_pos hnR hn1
      have hRn2 : R / m.n ≤ 400 := Nat.le_trans (Nat.div_le_self _ _) h4
      refine ⟨_, rfl, _, rfl, _, rfl, _, _, rfl, rfl, _, rfl, p, e, R / m.n, ?_, by omega, by omega, hRn, hRn2, hp3, fun u t H4 k4 hp4 hu ht => ?_⟩
      · show [V.ref p, V.int 0, V.int (((e + 1 : Nat) : Int) - 1), iv (R / m.n)] = [V.ref p, V.int 0, iv e, iv (R / m.n)]
        rw [sub1]
      have hw4 : H4 wa = some (.tup [.str "word", .str "p"]) := k4 _ _ nwp hw3
      have hm4 := hm.kp (pool_kpt k4 hp3)
      have k04 := k03.trans k4
      refine ⟨_, rfl, _, _, rfl, rfl, _, rfl, ite2 (fun _ => ?_) (fun _ => ?_)⟩
      · refine ⟨_, rfl, _, rfl, _, rfl, _, rfl, (by show 2 ≤ sizeLine; decide), fun b nb => ?_⟩
        have sb : Same H4 (upd H4 b (.tup [V.str "own", V.int 0])) := Same.new nb
        have hb : (upd H4 b (.tup [V.str "own", V.int 0])) b = some (.tup [V.str "own", V.int 0]) := upd_same
        generalize upd H4 b (.tup [V.str "own", V.int 0]) = H5 at sb hb ⊢
        refine ⟨(by show 5 ≤ sizeLine; decide), fun c nc => ?_⟩
        have sc : Same H5 (upd H5 c (.tup [V.str "cut", mv, .ref wa, u, .ref b])) := Same.new nc
        have s2 := sb.trans sc
        exact q _ (.cut m false t (.own (.int 0))) _ (k04.trans (Kp.of s2)) (hp4.same s2) ⟨c, mv, .ref wa, u, .ref b, rfl, at_t upd_same, hm4.kp (kpT_same s2), ⟨wa, rfl, at_t (s2 _ _ hw4)⟩, DvAt.kp (kpT_same s2) hu, b, rfl, at_t (sc _ _ hb)⟩ (drw_cut hn1 hnR h2 ht hok leaf_0)
      · dsimp only [tNext, tSeq, tAsg, tC, gName]
        refine ifS_to [some (.ref p), some (.int 0), some (iv (e + 1)), some (iv (R / m.n)), some (.ref wa), some (.int pk), none, none, none, some mv, some u, some (.str (nmOf m))] ?_ fun els => ?_
        · refine ⟨_, rfl, _, rfl, _, rfl, _, rfl, (by show 2 ≤ sizeLine; decide), fun b nb => ?_⟩
          have sb : Same H4 (upd H4 b (.tup [V.str "own", V.int 0])) := Same.new nb
          have hb : (upd H4 b (.tup [V.str "own", V.int 0])) b = some (.tup [V.str "own", V.int 0]) := upd_same
          generalize upd H4 b (.tup [V.str "own", V.int 0]) = H5 at sb hb ⊢
          refine ⟨(by show 5 ≤ sizeLine; decide), fun c nc => ?_⟩
          have sc : Same H5 (upd H5 c (.tup [V.str "pay", .str (nmOf m), mv, u, .ref b])) := Same.new nc
          have s2 := sb.trans sc
          exact q _ (.pay (nmOf m) m t (.own (.int 0))) _ (k04.trans (Kp.of s2)) (hp4.same s2) ⟨c, mv, u, .ref b, rfl, at_t upd_same, hm4.kp (kpT_same s2), DvAt.kp (kpT_same s2) hu, b, rfl, at_t (sc _ _ hb)⟩ (drw_pay hn1 hnR ht hok leaf_0 (nmOf_ok hok))
        · refine ⟨_, rfl, _, _, mode_dp hm4, .str _, mode_shaped m, once_shaped, _, rfl, ?_⟩
          rw [mode_eqv]
          cases m with
          | once => exact iteF els
          | box n dd =>
            refine iteT ?_
            obtain ⟨c, rfl, hc⟩ := hm4
            obtain ⟨o1, o2⟩ := hok
            have z1 := (nou_int (k := n) (by omega)).2
            have z2 := (nou_int (k := dd) (by omega)).2
            refine ⟨_, rfl, c, _, 0, _, rfl, rfl, hc, rfl, _, rfl, log2_small (by omega), _, _, rfl, rfl, ?_, ?_⟩
            · rw [len_f]
              exact sz1 (by omega)
            refine ⟨_, _, rfl, rfl, ?_, ?_⟩
            · rw [len_app, len_f, len_x]
              exact sz1 (by omega)
            refine ⟨_, rfl, c, _, 1, _, rfl, rfl, hc, rfl, _, rfl, log2_small (by omega), _, _, rfl, rfl, ?_, ?_⟩
            · rw [len_app, len_app, len_f, len_x]
              exact sz1 (by omega)
            exact els
    · refine ⟨_, rfl, _, _, mode_dp hm, .str _, mode_shaped m, once_shaped, _, rfl, ?_⟩
      rw [mode_eqv]
      cases m with
      | once =>
        rw [show R / Mode.once.n = R from Nat.div_one R] at els
        exact iteF els
      | box n dd =>
        refine iteT ?_
        obtain ⟨c, rfl, hc⟩ := hm
        have hn1 : 1 ≤ n := hn1
        have hok := hok.1
        refine ⟨_, rfl, _, rfl, c, _, 0, _, rfl, rfl, hc, rfl, _, _, rfl, rfl, ⟨by omega, by omega⟩, ?_⟩
        have e2 : V.int ((R : Int).fdiv (n : Int)) = iv (R / n) := by
          rw [Int.fdiv_eq_ediv_of_nonneg _ (by omega)]
          rfl
        dsimp only
        rw [e2]
        exact els
  · -- an offer under a cut
    refine ⟨_, rfl, _, _, rfl, rfl, _, rfl, ite2 (fun _ => ?_) (fun _ => iteF els)⟩
    refine ⟨_, rfl, _, _, rfl, rfl, _, rfl, ite2 (fun _ => ?_) (fun _ => els)⟩
    refine ⟨_, rfl, _, rfl, _, rfl, _, _, rfl, rfl, _, rfl, p, e, R, ?_, by omega, by omega, h1, h4, hp1, fun u1 t1 H2 k2 hp2 hu1 ht1 => ?_⟩
    · show [V.ref p, V.int 0, V.int (((e + 1 : Nat) : Int) - 1), iv R] = [V.ref p, V.int 0, iv e, iv R]
      rw [sub1]
    refine ⟨_, rfl, _, rfl, _, rfl, _, _, rfl, rfl, _, rfl, p, e, R, ?_, by omega, by omega, h1, h4, hp2, fun u2 t2 H3 k3 hp3 hu2 ht2 => ?_⟩
    · show [V.ref p, V.int 0, V.int (((e + 1 : Nat) : Int) - 1), iv R] = [V.ref p, V.int 0, iv e, iv R]
      rw [sub1]
    have hu1' := DvAt.kp (pool_kpt k3 hp2) hu1
    have k03 := (k01.trans k2).trans k3
    have hw3 : H3 wa = some (.tup [.str "word", .str "p"]) := k3 _ _ nwp (k2 _ _ nwp hw1)
    refine ⟨_, rfl, (by show 2 ≤ sizeLine; decide), fun l nl => ?_⟩
    have s4 : Same H3 (upd H3 l (.lst [V.str "left", V.str "right"])) := Same.new nl
    have hl4 : (upd H3 l (.lst [V.str "left", V.str "right"])) l = some (.lst [V.str "left", V.str "right"]) := upd_same
    have nlp : l ≠ p := fun z => by
      obtain ⟨l2, e, _⟩ := hp3
      rw [← z, nl] at e
      cases e
    generalize upd H3 l (.lst [V.str "left", V.str "right"]) = H4 at s4 hl4 ⊢
    obtain ⟨l2, e2, hl2⟩ := id (hp3.same s4)
    refine ⟨_, rfl, p, l2, _, rfl, e2, hl2, (by decide), (by decide), fun sd l2' hl2' hsd => ?_⟩
    have k5 : Kp (only1 p) H4 (upd H4 p (.lst l2')) := Kp.refl.put rfl
    have hp5 : PoolAt (upd H4 p (.lst l2')) p := ⟨_, upd_same, hl2'⟩
    generalize upd H4 p (.lst l2') = H5 at k5 hp5 ⊢
    have hl5 := k5 _ _ nlp hl4
    have side : ∃ z : Str, (z = "left" ∨ z = "right") ∧ atI [V.str "left", V.str "right"] (sd : Int) = some (.str z) := by
      rcases Nat.lt_or_ge sd 1 with z | z
      · have z : sd = 0 := by omega
        subst z
        exact ⟨_, .inl rfl, rfl⟩
      · have z : sd = 1 := by omega
        subst z
        exact ⟨_, .inr rfl, rfl⟩
    obtain ⟨z, hz, hat⟩ := side
    refine ⟨l, _, _, _, rfl, rfl, SqL.of hl5, hat, ?_⟩
    have kp3 := pool_kpt ((Kp.of (m := only1 p) s4).trans k5) hp3
    have hu1'' := DvAt.kp kp3 hu1'
    have hu2'' := DvAt.kp kp3 hu2
    have hw5 := k5 _ _ nwp (s4 _ _ hw3)
    have k05 := (k03.trans (Kp.of s4)).trans k5
    refine ⟨_, rfl, _, _, rfl, rfl, (by show 2 ≤ sizeLine; decide), fun b nb => ?_⟩
    have s6 : Same H5 (upd H5 b (.tup [V.str "own", V.int (0 + 1)])) := Same.new nb
    have hb6 : (upd H5 b (.tup [V.str "own", V.int (0 + 1)])) b = some (.tup [V.str "own", V.int (0 + 1)]) := upd_same
    generalize upd H5 b (.tup [V.str "own", V.int (0 + 1)]) = H6 at s6 hb6 ⊢
    refine ⟨(by show 4 ≤ sizeLine; decide), fun c nc => ?_⟩
    have s7 : Same H6 (upd H6 c (.tup [V.str "pick", V.int 0, .str z, .ref b])) := Same.new nc
    have hc7 : (upd H6 c (.tup [V.str "pick", V.int 0, .str z, .ref b])) c = some (.tup [V.str "pick", V.int 0, .str z, .ref b]) := upd_same
    generalize upd H6 c (.tup [V.str "pick", V.int 0, .str z, .ref b]) = H7 at s7 hc7 ⊢
    refine ⟨_, rfl, _, rfl, (by show 3 ≤ sizeLine; decide), fun f nf => ?_⟩
    have s8 : Same H7 (upd H7 f (.tup [V.str "menu", .ref wa, .ref wa])) := Same.new nf
    have hf8 : (upd H7 f (.tup [V.str "menu", .ref wa, .ref wa])) f = some (.tup [V.str "menu", .ref wa, .ref wa]) := upd_same
    generalize upd H7 f (.tup [V.str "menu", .ref wa, .ref wa]) = H8 at s8 hf8 ⊢
    refine ⟨_, rfl, _, rfl, (by show 3 ≤ sizeLine; decide), fun g ng => ?_⟩
    have s9 : Same H8 (upd H8 g (.tup [V.str "offer", u1, u2])) := Same.new ng
    have hg9 : (upd H8 g (.tup [V.str "offer", u1, u2])) g = some (.tup [V.str "offer", u1, u2]) := upd_same
    generalize upd H8 g (.tup [V.str "offer", u1, u2]) = H9 at s9 hg9 ⊢
    refine ⟨_, rfl, (by show 5 ≤ sizeLine; decide), fun r nr => ?_⟩
    have s10 : Same H9 (upd H9 r (.tup [V.str "cut", V.str "once", .ref f, .ref g, .ref c])) := Same.new nr
    have s710 := ((s8.trans s9).trans s10)
    have s510 := (s6.trans s7).trans s710
    have hw10 := s510 _ _ hw5
    refine q _ (.cut .once true (.offer t1 t2) (.pick (.int 0) z (.own (.int (0 + 1))))) _ (k05.trans (Kp.of s510)) (hp5.same s510) ⟨r, .str "once", .ref f, .ref g, .ref c, rfl, at_t upd_same, rfl, ?_, ?_, ?_⟩ (drw_offer h1 h2 ht1 ht2 leaf_0 leaf_01 hz)
    · exact ⟨f, .ref wa, .ref wa, rfl, at_t ((s9.trans s10) _ _ hf8), ⟨wa, rfl, at_t hw10⟩, ⟨wa, rfl, at_t hw10⟩⟩
    · exact ⟨g, u1, u2, rfl, at_t (s10 _ _ hg9), DvAt.kp (kpT_same s510) hu1'', DvAt.kp (kpT_same s510) hu2''⟩
    · exact ⟨c, .ref b, rfl, at_t (s710 _ _ hc7), b, rfl, at_t ((s7.trans s710) _ _ hb6)⟩
end
end W77
namespace W77
open PySem PySem.Spec PyProof.Rows L2 HX
/-! ### the law's own numbers -/
def boxN (a : T3) (g : Nat) : Mode → T3 × Nat
  | .once => (a, g)
  | .box _ _ => (a.tall 1, g + 1)
theorem box_it (a b : T3) (g : Nat) : ∀ m : Mode, (boxT a m).mul b = T3.it b (boxN a g m).1 m.n
  | .once => T3.mul_comm a b
  | .box n d => T3.pow_it (a.tall 1) b n
theorem box_g (a : T3) (g h : Nat) : ∀ m : Mode, boxG g m + h = h + m.n * (boxN a g m).2
  | .once => by show g + h = h + 1 * g; omega
  | .box n d => by show n * (g + 1) + h = h + n * (g + 1); omega
theorem boxN_bd {a : T3} {g l : Nat} (h : Bd a g l) : ∀ m : Mode, Bd (boxN a g m).1 (boxN a g m).2 l
  | .once => h
  | .box n d => h.tall
def nums (t : T3) (g : Nat) : List V := [iv t.p, iv t.r, iv t.l, iv g]
section
variable {P : Program} {w : World} {K : PySem.W.Frag} {mg : Str → Option Value} {base : Heap}
def spLB (K : PySem.W.Frag) : Sp := fun vs H Q _ => ∃ (a : Addr) (u : V) (t : T3) (g : Nat) (m : Mode), vs = [.ref a, u] ∧ H a = some (.tup (nums t g)) ∧ ModeAt K H u m ∧
  ∀ b c H', Same H H' → H' b = some (.tup [.ref c, iv m.n]) → H' c = some (.tup (nums (boxN t g m).1 (boxN t g m).2)) → Q (.ref b) H'
theorem ok_law_boxed {k : Nat} (T : Tx K mg w) : FnOk P w K mg base CX0 (k + 1) T.a_law_boxed T.d_law_boxed ["one", "mode"] (spLB K) := by
  refine T.F_law_boxed.ok sc_law_boxed (fun vs H Q E h => ?_) (fun cdv A outer s H vs Q E hr h => ?_)
  · obtain ⟨_, _, _, _, _, rfl, _⟩ := h
    rfl
  obtain ⟨a, u, t, g, m, rfl, ha, hm, q⟩ := h
  refine ⟨_, (pss_cons (ps_if (pt_cmpR (eqD K hr.units) (pv 1) pe_str (nomark _)) (pss_one (ps_ret (pe_tup (pa_cons (pv 0) (pa_cons pe_int pa_nil))))) pss_nil)
      (pss_one (ps_ret (pe_tup (pa_cons (pe_tup (pa_cons (pe_ix (ixT K) (pv 0) pe_int (fun _ _ => rfl)) (pa_cons (pe_op op_add (pe_ix (ixT K) (pv 0) pe_int (fun _ _ => rfl)) (pe_ix (ixT K) (pv 0) pe_int (fun _ _ => rfl))) (pa_cons (pe_ix (ixT K) (pv 0) pe_int (fun _ _ => rfl)) (pa_cons (pe_op op_add (pe_ix (ixT K) (pv 0) pe_int (fun _ _ => rfl)) pe_int) pa_nil))))) (pa_cons (pe_ix (ixT K) (pv 1) pe_int (fun _ _ => rfl)) pa_nil)))))), ?_⟩
  refine ⟨_, rfl, _, _, mode_dp hm, .str _, mode_shaped m, once_shaped, _, rfl, ?_⟩
  rw [mode_eqv]
  cases m with
  | once =>
    refine iteT ⟨_, rfl, (by show 2 ≤ sizeLine; decide), fun b nb => ?_⟩
    have sb : Same H (upd H b (.tup [.ref a, .int 1])) := Same.new nb
    exact q b a _ sb upd_same (sb _ _ ha)
  | box n d =>
    refine iteF ?_
    obtain ⟨c, rfl, hc⟩ := hm
    refine ⟨_, rfl, a, _, 0, _, rfl, rfl, at_t ha, rfl, _, rfl, a, _, 1, _, rfl, rfl, at_t ha, rfl, _, rfl, a, _, 0, _, rfl, rfl, at_t ha, rfl, _, _, rfl, rfl, _, rfl, a, _, 2, _, rfl, rfl, at_t ha, rfl, _, rfl, a, _, 3, _, rfl, rfl, at_t ha, rfl, _, _, rfl, rfl, (by show 4 ≤ sizeLine; decide), fun e ne => ?_⟩
    have se : Same H (upd H e (.tup [iv t.p, V.int ((t.r : Int) + (t.p : Int)), iv t.l, V.int ((g : Int) + 1)])) := Same.new ne
    have he : (upd H e (.tup [iv t.p, V.int ((t.r : Int) + (t.p : Int)), iv t.l, V.int ((g : Int) + 1)])) e = some (.tup (nums (t.tall 1) (g + 1))) := by
      rw [upd_same]
      have e1 : V.int ((t.r : Int) + (t.p : Int)) = iv (t.r + 1 * t.p) := by
        rw [Nat.one_mul]
        rfl
      rw [e1]
      rfl
    dsimp only
    generalize upd H e (.tup [iv t.p, V.int ((t.r : Int) + (t.p : Int)), iv t.l, V.int ((g : Int) + 1)]) = H1 at se he ⊢
    refine ⟨_, rfl, c, _, 0, _, rfl, rfl, (kpT_same se).tup hc, rfl, (by show 2 ≤ sizeLine; decide), fun b nb => ?_⟩
    have sb : Same H1 (upd H1 b (.tup [.ref e, iv n])) := Same.new nb
    exact q b e _ (se.trans sb) upd_same (sb _ _ he)
def spLN (K : PySem.W.Frag) (d : Nat) : Sp := fun vs H Q _ => ∃ (v : V) (t : Dv), vs = [v] ∧ DvAt K H v t ∧ t.Good ∧ t.dp < d ∧ ∀ a H', Same H H' → H' a = some (.tup (nums t.tal t.gp)) → Q (.ref a) H'
theorem in_cp {x : V} (h : flatV x = true) : flatV x = true ∧ [V.str "cut", V.str "pay"].all flatV = true := ⟨h, by decide⟩
theorem mulI {a b : Nat} : V.int ((a : Int) * (b : Int)) = iv (a * b) := rfl
theorem num_it {t o : T3} {g l g' l' n : Nat} (h : Bd t g l) (k : Bd o g' l') (i : Nat) (hi : i ≤ n) (hg : g + n * g' ≤ 100000) (hl : l + n * l' ≤ 35184372088832) : (T3.it t o i).Sm :=
  (h.it k i).sm (Nat.le_trans (Nat.add_le_add_left (Nat.mul_le_mul_right _ hi) _) hg) (big_l (Nat.le_trans (Nat.add_le_add_left (Nat.mul_le_mul_right _ hi) _) hl))
theorem numbers_step {k d : Nat} (T : Tx K mg w) (G_law_numbers : FnOk P w K mg base CX0 k T.a_law_numbers T.d_law_numbers ["tree"] (spLN K d)) (G_law_boxed : FnOk P w K mg base CX0 k T.a_law_boxed T.d_law_boxed ["one", "mode"] (spLB K)) :
    FnOk P w K mg base CX0 (k + 1) T.a_law_numbers T.d_law_numbers ["tree"] (spLN K (d + 1)) := by
  refine T.F_law_numbers.ok sc_law_numbers (fun vs H Q E h => ?_) (fun cdv A outer s H vs Q E hr h => ?_)
  · obtain ⟨_, _, rfl, _⟩ := h
    rfl
  obtain ⟨v, t, rfl, hv, hg, hd, q⟩ := h
  refine ⟨_, (pss_cons (ps_if (pt_cmpR op_eq (pe_ix (ixT K) (pv 0) pe_int (fun _ _ => rfl)) pe_str (nomark _)) (pss_one (ps_ret (pe_tup (pa_cons pe_int (pa_cons pe_int (pa_cons pe_int (pa_cons pe_int pa_nil))))))) pss_nil)
      (pss_cons (ps_set (i := 1) sc_law_numbers.nd rfl (Or.inl rfl) (pe_call G_law_numbers hr (by rfl) T.m_law_numbers T.F_law_numbers.kp T.b_law_numbers .nil pass0 (pa_cons (pe_ix (ixT K) (pv 0) (pe_un un_neg pe_int) (fun _ _ => rfl)) pa_nil)))
      (pss_cons (ps_if (pt_cmpR op_eq (pe_ix (ixT K) (pv 0) pe_int (fun _ _ => rfl)) pe_str (nomark _)) (pss_cons (ps_set (i := 2) sc_law_numbers.nd rfl (Or.inl rfl) (pe_call G_law_numbers hr (by rfl) T.m_law_numbers T.F_law_numbers.kp T.b_law_numbers .nil pass0 (pa_cons (pe_ix (ixT K) (pv 0) pe_int (fun _ _ => rfl)) pa_nil)))
      (pss_one (ps_ret (pe_tup (pa_cons (pe_op op_add (pe_ix (ixT K) (pv 2) pe_int (fun _ _ => rfl)) (pe_ix (ixT K) (pv 1) pe_int (fun _ _ => rfl))) (pa_cons (pe_op op_add (pe_op op_add (pe_op op_add (pe_ix (ixT K) (pv 2) pe_int (fun _ _ => rfl)) (pe_ix (ixT K) (pv 1) pe_int (fun _ _ => rfl))) (pe_ix (ixT K) (pv 2) pe_int (fun _ _ => rfl))) (pe_ix (ixT K) (pv 1) pe_int (fun _ _ => rfl))) (pa_cons (pe_op op_add (pe_ix (ixT K) (pv 2) pe_int (fun _ _ => rfl)) (pe_ix (ixT K) (pv 1) pe_int (fun _ _ => rfl))) (pa_cons (pe_op op_add pe_int (pe_callB (call_max2 rfl) (by rfl) T.z_max (by decide +kernel) (pa_cons (pe_ix (ixT K) (pv 2) pe_int (fun _ _ => rfl)) (pa_cons (pe_ix (ixT K) (pv 1) pe_int (fun _ _ => rfl)) pa_nil)))) pa_nil)))))))) pss_nil)
      (pss_cons (ps_if (pt_cmpR (inS K) (pe_ix (ixT K) (pv 0) pe_int (fun _ _ => rfl)) (pe_tup (pa_cons pe_str (pa_cons pe_str pa_nil))) (by rfl)) (pss_cons (ps_set (i := 3) sc_law_numbers.nd rfl (Or.inl rfl) (pe_ix (ixT K) (pv 0) (pe_op op_add pe_int (pe_callTy call_int1 (by rfl) T.z_int (by decide +kernel) (pa_cons (pe_cmpR op_eq (pe_ix (ixT K) (pv 0) pe_int (fun _ _ => rfl)) pe_str (nomark _)) pa_nil))) (fun _ _ => rfl)))
      (pss_cons (ps_asg (pe_call G_law_boxed hr (by rfl) T.m_law_boxed T.F_law_boxed.kp T.b_law_boxed .nil pass0 (pa_cons (pe_call G_law_numbers hr (by rfl) T.m_law_numbers T.F_law_numbers.kp T.b_law_numbers .nil pass0 (pa_cons (pe_ix (ixT K) (pv 0) pe_int (fun _ _ => rfl)) pa_nil)) (pa_cons (pv 3) pa_nil))) (pg_tup rfl (pgs_cons (pg_name (i := 2) sc_law_numbers.nd rfl (Or.inl rfl)) (pgs_cons (pg_name (i := 4) sc_law_numbers.nd rfl (Or.inl rfl)) pgs_nil))))
      (pss_cons (ps_for PassesOwn.never rfl (pi_range1 (by rfl) T.z_range (pa_cons (pv 4) pa_nil)) (pg_name (i := 5) sc_law_numbers.nd rfl (Or.inl rfl)) (pss_cons (ps_set (i := 6) sc_law_numbers.nd rfl (Or.inl rfl) (pe_op op_add (pe_op op_mulW (pe_ix (ixT K) (pv 1) pe_int (fun _ _ => rfl)) (pe_ix (ixT K) (pv 2) pe_int (fun _ _ => rfl))) (pe_op op_mulW (pe_ix (ixT K) (pv 2) pe_int (fun _ _ => rfl)) (pe_ix (ixT K) (pv 1) pe_int (fun _ _ => rfl)))))
      (pss_one (ps_set (i := 1) sc_law_numbers.nd rfl (Or.inl rfl) (pe_tup (pa_cons (pe_op op_mulW (pe_ix (ixT K) (pv 1) pe_int (fun _ _ => rfl)) (pe_ix (ixT K) (pv 2) pe_int (fun _ _ => rfl))) (pa_cons (pv 6) (pa_cons (pe_op op_add (pe_op op_mulW (pe_ix (ixT K) (pv 1) pe_int (fun _ _ => rfl)) (pe_ix (ixT K) (pv 2) pe_int (fun _ _ => rfl))) (pe_op op_mulW (pe_ix (ixT K) (pv 2) pe_int (fun _ _ => rfl)) (pe_ix (ixT K) (pv 1) pe_int (fun _ _ => rfl)))) (pa_cons (pe_op op_add (pe_ix (ixT K) (pv 1) pe_int (fun _ _ => rfl)) (pe_ix (ixT K) (pv 2) pe_int (fun _ _ => rfl))) pa_nil)))))))))
      (pss_one (ps_if (pt_cmpR op_eq (pe_ix (ixT K) (pv 0) pe_int (fun _ _ => rfl)) pe_str (nomark _)) (pss_one (ps_ret (pe_tup (pa_cons (pe_ix (ixT K) (pv 1) pe_int (fun _ _ => rfl)) (pa_cons (pe_ix (ixT K) (pv 1) pe_int (fun _ _ => rfl)) (pa_cons (pe_op op_add (pe_ix (ixT K) (pv 1) pe_int (fun _ _ => rfl)) (pe_op op_mulW (pv 4) (pe_op op_sub (pe_ix (ixT K) (pv 1) pe_int (fun _ _ => rfl)) (pe_ix (ixT K) (pv 1) pe_int (fun _ _ => rfl))))) (pa_cons (pe_ix (ixT K) (pv 1) pe_int (fun _ _ => rfl)) pa_nil))))))) pss_nil))))) pss_nil)
      (pss_one (ps_ret (pe_tup (pa_cons (pe_ix (ixT K) (pv 1) pe_int (fun _ _ => rfl)) (pa_cons (pe_op op_add (pe_ix (ixT K) (pv 1) pe_int (fun _ _ => rfl)) (pe_ix (ixT K) (pv 1) pe_int (fun _ _ => rfl))) (pa_cons (pe_ix (ixT K) (pv 1) pe_int (fun _ _ => rfl)) (pa_cons (pe_op op_add (pe_ix (ixT K) (pv 1) pe_int (fun _ _ => rfl)) pe_int) pa_nil))))))))))), ?_⟩
  cases t with
  | own x =>
    obtain ⟨c, rfl, hc⟩ := hv
    refine ⟨_, rfl, c, _, 0, _, rfl, rfl, hc, rfl, rfl, _, rfl, iteT ⟨(by show 4 ≤ sizeLine; decide), fun b nb => ?_⟩⟩
    exact q b _ (Same.new nb) upd_same
  | pick x sd b =>
    obtain ⟨c, y, rfl, hc, hb⟩ := hv
    obtain ⟨zb, zd⟩ := hg.kid (c := b) List.mem_cons_self
    refine ⟨_, rfl, c, _, 0, _, rfl, rfl, hc, rfl, rfl, _, rfl, iteF ?_⟩
    refine ⟨_, rfl, _, rfl, c, _, _, _, rfl, rfl, hc, rfl, y, b, rfl, hb, zb, by omega, fun f H1 s1 hf => ?_⟩
    have hc1 := (kpT_same s1).tup hc
    refine ⟨_, rfl, c, _, 0, _, rfl, rfl, hc1, rfl, rfl, _, rfl, iteF ?_⟩
    refine ⟨_, rfl, c, _, 0, _, rfl, rfl, hc1, rfl, (by show 2 ≤ sizeLine; decide), fun e ne => ?_⟩
    refine ⟨e, _, rfl, .inr (at_t upd_same), rfl, by decide, _, rfl, iteF ?_⟩
    have s2 : Same H1 (upd H1 e (.tup [V.str "cut", V.str "pay"])) := Same.new ne
    generalize upd H1 e (.tup [V.str "cut", V.str "pay"]) = H2 at s2 ⊢
    have hf2 := at_t (K := K) (s2 _ _ hf)
    refine ⟨_, rfl, f, _, 0, _, rfl, rfl, hf2, rfl, _, rfl, f, _, 1, _, rfl, rfl, hf2, rfl, _, rfl, f, _, 0, _, rfl, rfl, hf2, rfl, _, _, rfl, rfl, _, rfl, f, _, 2, _, rfl, rfl, hf2, rfl, _, rfl, f, _, 3, _, rfl, rfl, hf2, rfl, _, _, rfl, rfl, (by show 4 ≤ sizeLine; decide), fun g ng => ?_⟩
    refine q g _ ((s1.trans s2).trans (Same.new ng)) ?_
    rw [upd_same]
    have e1 : V.int ((b.tal.r : Int) + (b.tal.p : Int)) = iv (b.tal.r + 1 * b.tal.p) := by
      rw [Nat.one_mul]
      rfl
    dsimp only
    rw [e1]
    rfl
  | offer b1 b2 =>
    obtain ⟨c, y, z, rfl, hc, hb1, hb2⟩ := hv
    obtain ⟨z1, zd1⟩ := hg.kid (c := b1) List.mem_cons_self
    obtain ⟨z2, zd2⟩ := hg.kid (c := b2) (List.mem_cons_of_mem _ List.mem_cons_self)
    refine ⟨_, rfl, c, _, 0, _, rfl, rfl, hc, rfl, rfl, _, rfl, iteF ?_⟩
    refine ⟨_, rfl, _, rfl, c, _, _, _, rfl, rfl, hc, rfl, z, b2, rfl, hb2, z2, by omega, fun f H1 s1 hf => ?_⟩
    have hc1 := (kpT_same s1).tup hc
    refine ⟨_, rfl, c, _, 0, _, rfl, rfl, hc1, rfl, rfl, _, rfl, iteT ?_⟩
    refine ⟨_, rfl, c, _, 1, _, rfl, rfl, hc1, rfl, y, b1, rfl, DvAt.kp (kpT_same s1) hb1, z1, by omega, fun g H2 s2 hg2 => ?_⟩
    have hf2 := at_t (K := K) (s2 _ _ hf)
    have hg2 := at_t (K := K) hg2
    refine ⟨_, rfl, g, _, 0, _, rfl, rfl, hg2, rfl, _, rfl, f, _, 0, _, rfl, rfl, hf2, rfl, _, _, rfl, rfl, ?_⟩
    refine ⟨_, rfl, g, _, 1, _, rfl, rfl, hg2, rfl, _, rfl, f, _, 1, _, rfl, rfl, hf2, rfl, _, _, rfl, rfl, _, rfl, g, _, 0, _, rfl, rfl, hg2, rfl, _, _, rfl, rfl, _, rfl, f, _, 0, _, rfl, rfl, hf2, rfl, _, _, rfl, rfl, ?_⟩
    refine ⟨_, rfl, g, _, 2, _, rfl, rfl, hg2, rfl, _, rfl, f, _, 2, _, rfl, rfl, hf2, rfl, _, _, rfl, rfl, ?_⟩
    refine ⟨_, rfl, g, _, 3, _, rfl, rfl, hg2, rfl, _, rfl, f, _, 3, _, rfl, rfl, hf2, rfl, _, _, rfl, _, _, rfl, rfl, (by show 4 ≤ sizeLine; decide), fun r nr => ?_⟩
    refine q r _ ((s1.trans s2).trans (Same.new nr)) ?_
    rw [upd_same]
    have e1 : V.int ((b1.tal.r : Int) + (b2.tal.r : Int) + (b1.tal.p : Int) + (b2.tal.p : Int)) = iv (b1.tal.r + b2.tal.r + 1 * (b1.tal.p + b2.tal.p)) := by
      show V.int _ = V.int _
      congr 1
      omega
    have e2 : V.int (1 + (if (b2.gp : Int) > (b1.gp : Int) then (b2.gp : Int) else (b1.gp : Int))) = iv (max b1.gp b2.gp + 1) := by
      show V.int _ = V.int _
      congr 1
      split <;> omega
    dsimp only
    rw [e1, e2]
    rfl
  | cut m mn b1 b2 =>
    obtain ⟨c, mv, sv, y, z, rfl, hc, hm, hs, hb1, hb2⟩ := hv
    obtain ⟨z1, zd1⟩ := hg.kid (c := b1) List.mem_cons_self
    obtain ⟨z2, zd2⟩ := hg.kid (c := b2) (List.mem_cons_of_mem _ List.mem_cons_self)
    have hgp := hg.gp
    rw [Dv.gp_cut, box_g b1.tal] at hgp
    have zn := boxG_ge (g := b1.gp) hg.pos.1
    have hgp0 := hg.gp
    rw [Dv.gp_cut] at hgp0
    have z2l := z2.ml
    have z3 : m.n * b1.ml ≤ 20001 * 536870912 := Nat.mul_le_mul (by omega) z1.ml
    refine ⟨_, rfl, c, _, 0, _, rfl, rfl, hc, rfl, rfl, _, rfl, iteF ?_⟩
    refine ⟨_, rfl, _, rfl, c, _, _, _, rfl, rfl, hc, rfl, z, b2, rfl, hb2, z2, by omega, fun f H1 s1 hf => ?_⟩
    have hc1 := (kpT_same s1).tup hc
    refine ⟨_, rfl, c, _, 0, _, rfl, rfl, hc1, rfl, rfl, _, rfl, iteF ?_⟩
    refine ⟨_, rfl, c, _, 0, _, rfl, rfl, hc1, rfl, (by show 2 ≤ sizeLine; decide), fun e ne => ?_⟩
    refine ⟨e, _, rfl, .inr (at_t upd_same), rfl, by decide, _, rfl, iteT ?_⟩
    have s2 : Same H1 (upd H1 e (.tup [V.str "cut", V.str "pay"])) := Same.new ne
    generalize upd H1 e (.tup [V.str "cut", V.str "pay"]) = H2 at s2 ⊢
    have hc2 := (kpT_same s2).tup hc1
    refine ⟨_, rfl, _, rfl, c, _, 0, _, rfl, rfl, hc2, rfl, rfl, .inr ⟨_, rfl, _, _, rfl, rfl, ?_⟩⟩
    refine ⟨c, _, _, _, rfl, rfl, hc2, rfl, ?_⟩
    have s02 := s1.trans s2
    refine ⟨_, rfl, c, _, 3, _, rfl, rfl, hc2, rfl, y, b1, rfl, DvAt.kp (kpT_same s02) hb1, z1, by omega, fun g H3 s3 hg3 => ?_⟩
    have s03 := s02.trans s3
    refine ⟨_, rfl, g, mv, b1.tal, b1.gp, m, rfl, hg3, hm.kp (kpT_same s03), fun r o H4 s4 hr4 ho4 => ?_⟩
    refine ⟨r, _, rfl, at_t hr4, rfl, _, _, rfl, _, _, rfl, rfl, ?_⟩
    have s04 := s03.trans s4
    have hc4 := (kpT_same (s3.trans s4)).tup hc2
    have hf4 := (s2.trans (s3.trans s4)) _ _ hf
    refine ⟨_, rfl, _, rfl, by omega, by omega, ?_⟩
    refine for_range (lo := 0) (n := m.n) (fun i σ' H' => Same H4 H' ∧ ∃ bd y6 y7, H' bd = some (.tup (nums (T3.it b2.tal (boxN b1.tal b1.gp m).1 i) (b2.gp + i * (boxN b1.tal b1.gp m).2))) ∧ σ' = [some (.ref c), some (.ref bd), some (.ref o), some mv, some (iv m.n), y6, y7])
      ⟨Same.refl _, f, none, none, by rw [Nat.zero_mul]; exact hf4, rfl⟩ ?_ ?_
    · rintro i σ' H' hi ⟨sm, bd, y6, y7, hbd, rfl⟩
      have ho' := sm _ _ ho4
      have A1 := num_it b2.bd (boxN_bd b1.bd m) (n := m.n) i (by omega) (by omega) (by omega)
      have A2 := (boxN_bd b1.bd m).sm (by cases m with | once => show b1.gp ≤ 100000; omega | box n dd => have := z1.gp; show b1.gp + 1 ≤ 100000; omega) (big_l (Nat.le_trans z1.ml (by decide)))
      generalize (boxN b1.tal b1.gp m).1 = oo at *
      generalize (boxN b1.tal b1.gp m).2 = og at *
      have hb' := at_t (K := K) hbd
      have hoo := at_t (K := K) ho'
      refine ⟨_, rfl, bd, _, 1, _, rfl, rfl, hb', rfl, _, rfl, o, _, 0, _, rfl, rfl, hoo, rfl, _, _, rfl, rfl, mulW A1.2.1 A2.1, ?_⟩
      refine ⟨_, rfl, o, _, 1, _, rfl, rfl, hoo, rfl, _, rfl, bd, _, 0, _, rfl, rfl, hb', rfl, _, _, rfl, rfl, mulW A2.2.1 A1.1, _, _, rfl, rfl, ?_⟩
      refine ⟨_, rfl, bd, _, 0, _, rfl, rfl, hb', rfl, _, rfl, o, _, 0, _, rfl, rfl, hoo, rfl, _, _, rfl, rfl, mulW A1.1 A2.1, _, rfl, ?_⟩
      refine ⟨_, rfl, bd, _, 2, _, rfl, rfl, hb', rfl, _, rfl, o, _, 0, _, rfl, rfl, hoo, rfl, _, _, rfl, rfl, mulW A1.2.2 A2.1, ?_⟩
      refine ⟨_, rfl, o, _, 2, _, rfl, rfl, hoo, rfl, _, rfl, bd, _, 0, _, rfl, rfl, hb', rfl, _, _, rfl, rfl, mulW A2.2.2 A1.1, _, _, rfl, rfl, ?_⟩
      refine ⟨_, rfl, bd, _, 3, _, rfl, rfl, hb', rfl, _, rfl, o, _, 3, _, rfl, rfl, hoo, rfl, _, _, rfl, rfl, (by show 4 ≤ sizeLine; decide), fun n2 nn2 => ?_⟩
      refine ⟨sm.trans (Same.new nn2), n2, _, _, ?_, rfl⟩
      rw [upd_same, Nat.succ_mul, ← Nat.add_assoc]
      rfl
    · rintro σ' H' ⟨sm, bd, y6, y7, hbd, rfl⟩
      rw [← box_it, ← box_g] at hbd
      have hc' := (kpT_same sm).tup hc4
      have hb' := at_t (K := K) hbd
      obtain ⟨c1, c2⟩ := boxed_sm z1 z2 hg.pos.1 (by omega)
      have ge := Ge.mul (box_p b1.ge.p m) b2.ge
      have gpe := Dv.gp_cut m mn b1 b2
      have tle : (Dv.cut m mn b1 b2).tal = ((boxT b1.tal m).mul b2.tal).cut m.n := rfl
      generalize (boxT b1.tal m).mul b2.tal = tt at *
      refine ⟨_, rfl, c, _, 0, _, rfl, rfl, hc', rfl, rfl, _, rfl, iteT ?_⟩
      refine ⟨_, rfl, bd, _, 0, _, rfl, rfl, hb', rfl, ?_⟩
      refine ⟨_, rfl, bd, _, 1, _, rfl, rfl, hb', rfl, ?_⟩
      have e : ((tt.r : Int) - (tt.p : Int)) = ((tt.r - tt.p : Nat) : Int) := by have := ge.r; omega
      refine ⟨_, rfl, bd, _, 2, _, rfl, rfl, hb', rfl, _, rfl, _, rfl, bd, _, 1, _, rfl, rfl, hb', rfl, _, rfl, bd, _, 0, _, rfl, rfl, hb', rfl, _, _, rfl, rfl, ?_⟩
      refine ⟨_, _, rfl, rfl, by rw [e]; exact mulW (small_nat (by omega)) (Nat.lt_of_le_of_lt (Nat.sub_le _ _) c2.2.1), _, _, rfl, rfl, ?_⟩
      refine ⟨_, rfl, bd, _, 3, _, rfl, rfl, hb', rfl, (by show 4 ≤ sizeLine; decide), fun n2 nn2 => ?_⟩
      refine q n2 _ ((s04.trans sm).trans (Same.new nn2)) ?_
      rw [upd_same, gpe, tle]
      dsimp only
      rw [e]
      rfl
  | pay nm m b1 b2 =>
    obtain ⟨c, mv, y, z, rfl, hc, hm, hb1, hb2⟩ := hv
    obtain ⟨z1, zd1⟩ := hg.kid (c := b1) List.mem_cons_self
    obtain ⟨z2, zd2⟩ := hg.kid (c := b2) (List.mem_cons_of_mem _ List.mem_cons_self)
    have hgp := hg.gp
    rw [Dv.gp_pay, box_g b1.tal] at hgp
    have zn := boxG_ge (g := b1.gp) hg.pos.1
    have hgp0 := hg.gp
    rw [Dv.gp_pay] at hgp0
    have z2l := z2.ml
    have z3 : m.n * b1.ml ≤ 20001 * 536870912 := Nat.mul_le_mul (by omega) z1.ml
    refine ⟨_, rfl, c, _, 0, _, rfl, rfl, hc, rfl, rfl, _, rfl, iteF ?_⟩
    refine ⟨_, rfl, _, rfl, c, _, _, _, rfl, rfl, hc, rfl, z, b2, rfl, hb2, z2, by omega, fun f H1 s1 hf => ?_⟩
    have hc1 := (kpT_same s1).tup hc
    refine ⟨_, rfl, c, _, 0, _, rfl, rfl, hc1, rfl, rfl, _, rfl, iteF ?_⟩
    refine ⟨_, rfl, c, _, 0, _, rfl, rfl, hc1, rfl, (by show 2 ≤ sizeLine; decide), fun e ne => ?_⟩
    refine ⟨e, _, rfl, .inr (at_t upd_same), rfl, by decide, _, rfl, iteT ?_⟩
    have s2 : Same H1 (upd H1 e (.tup [V.str "cut", V.str "pay"])) := Same.new ne
    generalize upd H1 e (.tup [V.str "cut", V.str "pay"]) = H2 at s2 ⊢
    have hc2 := (kpT_same s2).tup hc1
    refine ⟨_, rfl, _, rfl, c, _, 0, _, rfl, rfl, hc2, rfl, rfl, .inr ⟨_, rfl, _, _, rfl, rfl, ?_⟩⟩
    refine ⟨c, _, _, _, rfl, rfl, hc2, rfl, ?_⟩
    have s02 := s1.trans s2
    refine ⟨_, rfl, c, _, 3, _, rfl, rfl, hc2, rfl, y, b1, rfl, DvAt.kp (kpT_same s02) hb1, z1, by omega, fun g H3 s3 hg3 => ?_⟩
    have s03 := s02.trans s3
    refine ⟨_, rfl, g, mv, b1.tal, b1.gp, m, rfl, hg3, hm.kp (kpT_same s03), fun r o H4 s4 hr4 ho4 => ?_⟩
    refine ⟨r, _, rfl, at_t hr4, rfl, _, _, rfl, _, _, rfl, rfl, ?_⟩
    have s04 := s03.trans s4
    have hc4 := (kpT_same (s3.trans s4)).tup hc2
    have hf4 := (s2.trans (s3.trans s4)) _ _ hf
    refine ⟨_, rfl, _, rfl, by omega, by omega, ?_⟩
    refine for_range (lo := 0) (n := m.n) (fun i σ' H' => Same H4 H' ∧ ∃ bd y6 y7, H' bd = some (.tup (nums (T3.it b2.tal (boxN b1.tal b1.gp m).1 i) (b2.gp + i * (boxN b1.tal b1.gp m).2))) ∧ σ' = [some (.ref c), some (.ref bd), some (.ref o), some mv, some (iv m.n), y6, y7])
      ⟨Same.refl _, f, none, none, by rw [Nat.zero_mul]; exact hf4, rfl⟩ ?_ ?_
    · rintro i σ' H' hi ⟨sm, bd, y6, y7, hbd, rfl⟩
      have ho' := sm _ _ ho4
      have A1 := num_it b2.bd (boxN_bd b1.bd m) (n := m.n) i (by omega) (by omega) (by omega)
      have A2 := (boxN_bd b1.bd m).sm (by cases m with | once => show b1.gp ≤ 100000; omega | box n dd => have := z1.gp; show b1.gp + 1 ≤ 100000; omega) (big_l (Nat.le_trans z1.ml (by decide)))
      generalize (boxN b1.tal b1.gp m).1 = oo at *
      generalize (boxN b1.tal b1.gp m).2 = og at *
      have hb' := at_t (K := K) hbd
      have hoo := at_t (K := K) ho'
      refine ⟨_, rfl, bd, _, 1, _, rfl, rfl, hb', rfl, _, rfl, o, _, 0, _, rfl, rfl, hoo, rfl, _, _, rfl, rfl, mulW A1.2.1 A2.1, ?_⟩
      refine ⟨_, rfl, o, _, 1, _, rfl, rfl, hoo, rfl, _, rfl, bd, _, 0, _, rfl, rfl, hb', rfl, _, _, rfl, rfl, mulW A2.2.1 A1.1, _, _, rfl, rfl, ?_⟩
      refine ⟨_, rfl, bd, _, 0, _, rfl, rfl, hb', rfl, _, rfl, o, _, 0, _, rfl, rfl, hoo, rfl, _, _, rfl, rfl, mulW A1.1 A2.1, _, rfl, ?_⟩
      refine ⟨_, rfl, bd, _, 2, _, rfl, rfl, hb', rfl, _, rfl, o, _, 0, _, rfl, rfl, hoo, rfl, _, _, rfl, rfl, mulW A1.2.2 A2.1, ?_⟩
      refine ⟨_, rfl, o, _, 2, _, rfl, rfl, hoo, rfl, _, rfl, bd, _, 0, _, rfl, rfl, hb', rfl, _, _, rfl, rfl, mulW A2.2.2 A1.1, _, _, rfl, rfl, ?_⟩
      refine ⟨_, rfl, bd, _, 3, _, rfl, rfl, hb', rfl, _, rfl, o, _, 3, _, rfl, rfl, hoo, rfl, _, _, rfl, rfl, (by show 4 ≤ sizeLine; decide), fun n2 nn2 => ?_⟩
      refine ⟨sm.trans (Same.new nn2), n2, _, _, ?_, rfl⟩
      rw [upd_same, Nat.succ_mul, ← Nat.add_assoc]
      rfl
    · rintro σ' H' ⟨sm, bd, y6, y7, hbd, rfl⟩
      rw [← box_it, ← box_g] at hbd
      have hc' := (kpT_same sm).tup hc4
      have hb' := at_t (K := K) hbd
      have gpe := Dv.gp_pay nm m b1 b2
      have tle : (Dv.pay nm m b1 b2).tal = ((boxT b1.tal m).mul b2.tal).tall 1 := rfl
      generalize (boxT b1.tal m).mul b2.tal = tt at *
      refine ⟨_, rfl, c, _, 0, _, rfl, rfl, hc', rfl, rfl, _, rfl, iteF ?_⟩
      refine ⟨_, rfl, bd, _, 0, _, rfl, rfl, hb', rfl, _, rfl, bd, _, 1, _, rfl, rfl, hb', rfl, _, rfl, bd, _, 0, _, rfl, rfl, hb', rfl, _, _, rfl, rfl, _, rfl, bd, _, 2, _, rfl, rfl, hb', rfl, _, rfl, bd, _, 3, _, rfl, rfl, hb', rfl, _, _, rfl, rfl, (by show 4 ≤ sizeLine; decide), fun n2 nn2 => ?_⟩
      refine q n2 _ ((s04.trans sm).trans (Same.new nn2)) ?_
      rw [upd_same, gpe, tle]
      have e1 : V.int ((tt.r : Int) + (tt.p : Int)) = iv (tt.r + 1 * tt.p) := by
        rw [Nat.one_mul]
        rfl
      dsimp only
      rw [e1]
      rfl
end
end W77
namespace W77
open PySem PySem.Spec PyProof.Rows L2 HX
/-! ### tables of plays as dicts -/
def encK (k : Pl) : List Key := [Sum.inl (k.1 : Int), Sum.inl (k.2 : Int)]
def enc (D : List (Pl × Nat)) : List (List Key × V) := D.map fun p => (encK p.1, iv p.2)
theorem encK_inj {a b : Pl} (h : encK a = encK b) : a = b := by
  obtain ⟨a1, a2⟩ := a
  obtain ⟨b1, b2⟩ := b
  unfold encK at h
  simp only [List.cons.injEq, Sum.inl.injEq, and_true] at h
  obtain ⟨h1, h2⟩ := h
  have h1 : (a1 : Int) = (b1 : Int) := h1
  have h2 : (a2 : Int) = (b2 : Int) := h2
  rw [Int.ofNat_inj.mp h1, Int.ofNat_inj.mp h2]
theorem val_enc (k : Pl) : ∀ D : List (Pl × Nat), (valV (enc D) (encK k)).getD (.int 0) = iv (lookP k D)
  | [] => rfl
  | p :: D => by
    show (valV ((encK p.1, iv p.2) :: enc D) (encK k)).getD (.int 0) = iv (if p.1 = k then p.2 else lookP k D)
    by_cases h : p.1 = k
    · rw [valV_pos (by rw [h]), if_pos h]
      rfl
    · rw [valV_neg (fun z => h (encK_inj z)), if_neg h]
      exact val_enc k D
theorem val_mem {k : Pl} {n : Nat} : ∀ {D : List (Pl × Nat)}, (D.map (·.1)).Nodup → (k, n) ∈ D → valV (enc D) (encK k) = some (iv n)
  | [], _, h => absurd h List.not_mem_nil
  | p :: D, nd, h => by
    rw [List.map_cons, List.nodup_cons] at nd
    show valV ((encK p.1, iv p.2) :: enc D) (encK k) = _
    rcases List.mem_cons.mp h with e | e
    · subst e
      exact valV_pos rfl
    · have ne : ¬ p.1 = k := fun z => nd.1 (z ▸ List.mem_map_of_mem (f := (·.1)) e)
      rw [valV_neg (fun z => ne (encK_inj z))]
      exact val_mem nd.2 e
theorem putK_ne {x : List Key × V} {r : List (List Key × V)} {k : List Key} {v : V} (h : ¬ x.1 = k) : putK (x :: r) k v = x :: putK r k v := by
  unfold putK
  rw [List.any_cons, decide_eq_false h, Bool.false_or]
  by_cases a : (r.any fun kv => decide (kv.1 = k)) = true
  · rw [if_pos a, if_pos a, List.map_cons, if_neg h]
  · rw [if_neg a, if_neg a, List.cons_append]
theorem put_enc (k : Pl) (m : Nat) : ∀ {D : List (Pl × Nat)}, (D.map (·.1)).Nodup → putK (enc D) (encK k) (iv (lookP k D + m)) = enc (addP k m D)
  | [], _ => by
    show [(encK k, iv (0 + m))] = [(encK k, iv m)]
    rw [Nat.zero_add]
  | p :: D, nd => by
    rw [List.map_cons, List.nodup_cons] at nd
    show putK ((encK p.1, iv p.2) :: enc D) (encK k) (iv ((if p.1 = k then p.2 else lookP k D) + m)) = enc (if p.1 = k then (p.1, p.2 + m) :: D else p :: addP k m D)
    by_cases h : p.1 = k
    · rw [if_pos h, if_pos h]
      unfold putK
      rw [if_pos (by rw [List.any_cons, Bool.or_eq_true]; exact .inl (decide_eq_true (by rw [h]))), List.map_cons, if_pos (by rw [h])]
      have e : (enc D).map (fun kv => if kv.1 = encK k then (kv.1, iv (p.2 + m)) else kv) = enc D := by
        conv => rhs; rw [← List.map_id (enc D)]
        refine List.map_congr_left fun x hx => ?_
        obtain ⟨y, hy, rfl⟩ := List.mem_map.mp hx
        rw [if_neg]
        · rfl
        · intro z
          have z := encK_inj z
          rw [← h] at z
          exact nd.1 (z ▸ List.mem_map_of_mem (f := (·.1)) hy)
      rw [e]
      rfl
    · rw [if_neg h, if_neg h, putK_ne (fun z => h (encK_inj z)), put_enc k m nd.2]
      rfl
theorem enc_len (D : List (Pl × Nat)) : (enc D).length = D.length := List.length_map _
theorem enc_get {D : List (Pl × Nat)} {i : Nat} {k : List Key} {v : V} (h : (enc D)[i]? = some (k, v)) : ∃ p, D[i]? = some p ∧ k = encK p.1 ∧ v = iv p.2 := by
  unfold enc at h
  rw [List.getElem?_map] at h
  cases e : D[i]? with
  | none => rw [e] at h; cases h
  | some p =>
    rw [e] at h
    cases h
    exact ⟨p, rfl, rfl, rfl⟩
/-- how a table is moved into another one -/
def mvd (f : Pl → Pl) (c : Nat → Nat) (E : List (Pl × Nat)) : List Pl := E.flatMap fun p => List.replicate (c p.2) (f p.1)
theorem mvd_take {f : Pl → Pl} {c : Nat → Nat} {E : List (Pl × Nat)} {i : Nat} {p : Pl × Nat} (h : E[i]? = some p) : mvd f c (E.take (i + 1)) = mvd f c (E.take i) ++ List.replicate (c p.2) (f p.1) := by
  unfold mvd
  rw [List.take_add_one, h, List.flatMap_append]
  show _ ++ (List.replicate (c p.2) (f p.1) ++ []) = _
  rw [List.append_nil]
theorem mvd_le (f : Pl → Pl) (c : Nat → Nat) (E : List (Pl × Nat)) (i : Nat) : (mvd f c (E.take i)).length ≤ (mvd f c E).length := by
  unfold mvd
  conv => rhs; rw [← List.take_append_drop i E, List.flatMap_append, List.length_append]
  exact Nat.le_add_right _ _
theorem mvd_map (f : Pl → Pl) (E : List (Pl × Nat)) : mvd f (fun n => n) E = (expd E).map f := (expd_map f E).symm
def sh (b : Nat) (a : Pl) : Pl := (a.1 + b, a.2)
theorem lg_sh (A : List Pl) (b : Nat) : lg A b 0 = A.map (sh b) := rfl
theorem row_perm (n : Nat) (a : Pl) (b : Nat) : ∀ E : List (Pl × Nat), (mvd (fun q => (a.1 + q.1 + b, a.2 + q.2)) (fun m => n * m) E).Perm (jn (List.replicate n a) (lg (expd E) b 0))
  | [] => by
    rw [show lg (expd []) b 0 = [] from rfl, jn_nil]
    exact .nil
  | q :: E => by
    have e1 : lg (expd (q :: E)) b 0 = List.replicate q.2 (sh b q.1) ++ lg (expd E) b 0 := by
      rw [expd_cons, lg_sh, lg_sh, List.map_append, List.map_replicate]
    have e2 : mvd (fun q => (a.1 + q.1 + b, a.2 + q.2)) (fun m => n * m) (q :: E) = List.replicate (n * q.2) (pad a (sh b q.1)) ++ mvd (fun q => (a.1 + q.1 + b, a.2 + q.2)) (fun m => n * m) E := by
      unfold mvd
      rw [List.flatMap_cons]
      unfold pad sh
      show List.replicate (n * q.2) (a.1 + q.1.1 + b, a.2 + q.1.2) ++ _ = List.replicate (n * q.2) (a.1 + (q.1.1 + b), a.2 + q.1.2) ++ _
      rw [Nat.add_assoc]
    rw [e1, e2]
    refine List.Perm.trans ?_ (jn_app_right _ _ _).symm
    rw [jn_rep]
    exact List.Perm.append_left _ (row_perm n a b E)
def prod (b : Nat) (B E : List (Pl × Nat)) : List Pl := B.flatMap fun p => mvd (fun q => (p.1.1 + q.1 + b, p.1.2 + q.2)) (fun m => p.2 * m) E
theorem prod_perm (b : Nat) (E : List (Pl × Nat)) : ∀ B, (prod b B E).Perm (jn (expd B) (lg (expd E) b 0))
  | [] => .nil
  | p :: B => by
    rw [expd_cons, jn_app]
    show (_ ++ prod b B E).Perm _
    exact (row_perm p.2 p.1 b E).append (prod_perm b E B)
theorem prod_take {b : Nat} {B E : List (Pl × Nat)} {i : Nat} {p : Pl × Nat} (h : B[i]? = some p) : prod b (B.take (i + 1)) E = prod b (B.take i) E ++ mvd (fun q => (p.1.1 + q.1 + b, p.1.2 + q.2)) (fun m => p.2 * m) E := by
  unfold prod
  rw [List.take_add_one, h, List.flatMap_append]
  show _ ++ (_ ++ []) = _
  rw [List.append_nil]
theorem prod_le (b : Nat) (B E : List (Pl × Nat)) (i : Nat) : (prod b (B.take i) E).length ≤ (prod b B E).length := by
  unfold prod
  conv => rhs; rw [← List.take_append_drop i B, List.flatMap_append, List.length_append]
  exact Nat.le_add_right _ _
/-- hashes of plays -/
theorem keyHash_eq (X : Cx) (k : List Key) : keyHash X k = tupleKeyHash (mixKind X.prog X.w) k := by
  unfold keyHash tupleKind
  rfl
theorem map_enc {β : Type} (g : List Key → β) (D : List (Pl × Nat)) : (enc D).map (fun p => g p.1) = D.map fun p => g (encK p.1) := by
  unfold enc
  rw [List.map_map]
  rfl
theorem hash_enc {X : Cx} {a : Pl} (h1 : a.1 ≤ 9000) (h2 : a.2 < 1073741824) : keyHash X (encK a) = hsh a.1 a.2 := by
  rw [keyHash_eq]
  unfold encK
  rw [hash_is h1 h2]
theorem nd_map {β : Type} {g : Pl → β} {D : List (Pl × Nat)} (h : (D.map (·.1)).Nodup) (hg : ∀ a ∈ D, ∀ b ∈ D, g a.1 = g b.1 → a.1 = b.1) : (D.map fun p => g p.1).Nodup := by
  rw [List.Nodup, List.pairwise_map] at h ⊢
  refine List.Pairwise.imp_of_mem ?_ h
  intro a b ha hb ne z
  exact ne (hg a ha b hb z)
theorem hash_nd {X : Cx} {D : List (Pl × Nat)} (h : (D.map (·.1)).Nodup) (hb : ∀ p ∈ D, p.1.1 ≤ 9000 ∧ p.1.2 < 1073741824) : ((enc D).map fun p => keyHash X p.1).Nodup := by
  rw [map_enc (keyHash X)]
  refine nd_map (g := fun a => keyHash X (encK a)) h fun a ha b hb' z => ?_
  have z2 : keyHash X (encK a.1) = keyHash X (encK b.1) := z
  rw [hash_enc (hb a ha).1 (hb a ha).2, hash_enc (hb b hb').1 (hb b hb').2] at z2
  obtain ⟨z3, z4⟩ := hsh_inj (hb a ha).1 (hb b hb').1 (hb a ha).2 (hb b hb').2 z2
  exact Prod.ext z3 z4
section
variable {P : Program} {w : World} {K : PySem.W.Frag} {mg : Str → Option Value} {base : Heap}
def spPut : Sp := fun vs H Q _ => ∃ (p b : Addr) (D : List (Pl × Nat)) (k : Pl) (m : Nat), vs = [.ref p, .ref b, iv m] ∧ H p = some (.dT (enc D)) ∧ H b = some (.tup [iv k.1, iv k.2]) ∧ (D.map (·.1)).Nodup ∧ D.length < 100000 ∧ Q .non (upd H p (.dT (enc (addP k m D))))
theorem ok_law_put {k : Nat} (T : Tx K mg w) : FnOk P w K mg base CX0 (k + 1) T.a_law_put T.d_law_put ["total", "play", "many"] spPut := by
  refine T.F_law_put.ok sc_law_put (fun vs H Q E h => ?_) (fun cdv A outer s H vs Q E hr h => ?_)
  · obtain ⟨_, _, _, _, _, rfl, _⟩ := h
    rfl
  obtain ⟨p, b, D, key, m, rfl, hp, hb, nd, hl, q⟩ := h
  have hu := hu_of hr
  refine ⟨_, (pss_one (ps_dput hu (pv 0) (pv 1) (pe_op op_add (pe_dget2 hu (pv 0) (pv 1) pe_int ⟨rfl, rfl, rfl, rfl⟩) (pv 2)) rfl)), ?_⟩
  have hb2 : H b = some (.tup ((encK key).map kV)) := hb
  refine ⟨_, rfl, p, rfl, .inr ⟨_, .inl hp⟩, _, rfl, _, DGet.t hp hb2, _, rfl, _, _, val_enc key D, rfl, ?_⟩
  refine ⟨_, rfl, _, rfl, p, _, rfl, DPut.t hp hb2 (by rw [enc_len]; exact sz2 hl), ?_⟩
  have e : V.int (((lookP key D : Nat) : Int) + (m : Int)) = iv (lookP key D + m) := rfl
  dsimp only
  rw [e, put_enc key m nd]
  exact q
/-- for play in d: a table moved into another one -/
theorem loop_put {d tot : Addr} {od : Obj} {E T0 : List (Pl × Nat)} {L : List Pl} {f : Pl → Pl} {c : Nat → Nat} {tb : TS} {D : Ends} {σ : L2.St} {S : L2.St → Prop} {i0 : Nat} {H1 : Hp} (hd1 : H1 d = some (.frz od (.dT (enc E)))) (ht : H1 tot = some (.dT (enc T0))) (hr : Rep T0 L)
    (small : (L ++ mvd f c E).length < 100000) (pos : ∀ p ∈ E, 0 < c p.2) (hσ : S σ)
    (step : ∀ k n q σ' H' T (Dn : Ends), (k, n) ∈ E → S σ' → H' q = some (.tup [iv k.1, iv k.2]) → H' d = some (.frz od (.dT (enc E))) → Kp (only1 tot) H1 H' → H' tot = some (.dT (enc T)) → (T.map (·.1)).Nodup → T.length < 100000 →
      (∀ σ2 H2, S σ2 → Kp (only1 tot) H' H2 → H2 tot = some (.dT (enc (addP (f k) (c n) T))) → Dn.nx σ2 H2) → tb Dn (σ'.set i0 (some (.ref q))) H')
    (hd : ∀ σ' H' T, S σ' → Kp (only1 tot) H1 H' → H' d = some (.frz od (.dT (enc E))) → H' tot = some (.dT (enc T)) → Rep T (L ++ mvd f c E) → D.nx σ' H') :
    ∃ W : Nat → Nat → L2.St → Hp → Prop, (∃ m, W 0 m σ H1) ∧ ∀ i m σ H, W i m σ H →
      ((Itkt d od (enc E)).stop i H ∧ D.nx σ H) ∨ ((Itkt d od (enc E)).go i H ∧ ∃ N : L2.St → Hp → Prop, (∀ σ' H', N σ' H' → ∃ m', m' < m ∧ W (i + 1) m' σ' H') ∧ ∀ x H', (Itkt d od (enc E)).yld i H x H' → gName i0 x σ H' fun σ2 H2 => tb { D with nx := N, ct := N, bk := D.nx } σ2 H2) := by
  have keep : ∀ H', Kp (only1 tot) H1 H' → H' d = some (.frz od (.dT (enc E))) := fun H' k => k _ _ (ne_of hd1 ht (by intro z; cases z)) hd1
  refine ⟨fun i m σ' H' => i + m = (enc E).length ∧ Kp (only1 tot) H1 H' ∧ ∃ T, H' tot = some (.dT (enc T)) ∧ Rep T (L ++ mvd f c (E.take i)) ∧ S σ', ⟨(enc E).length, by omega, Kp.refl, T0, ?_⟩, ?_⟩
  · refine ⟨ht, ?_, hσ⟩
    rw [List.take_zero]
    show Rep T0 (L ++ [])
    rw [List.append_nil]
    exact hr
  rintro i m σ' H' ⟨hm, k1, T, hT, hR, hS⟩
  have q := keep H' k1
  by_cases hlt : i < (enc E).length
  · refine .inr ⟨⟨q, hlt⟩, fun σ2 H2 => Kp (only1 tot) H1 H2 ∧ ∃ T, H2 tot = some (.dT (enc T)) ∧ Rep T (L ++ mvd f c (E.take (i + 1))) ∧ S σ2, fun σ2 H2 p' => ⟨m - 1, by omega, by omega, p'⟩, fun x H2 yl => ?_⟩
    obtain ⟨rfl, k, v, qa, e, rfl, hq⟩ := yl
    obtain ⟨⟨k, n⟩, hp, rfl, rfl⟩ := enc_get e
    have hmem := List.mem_of_getElem? hp
    have hlen : T.length < 100000 := by
      refine Nat.lt_of_le_of_lt hR.le (Nat.lt_of_le_of_lt ?_ small)
      rw [List.length_append, List.length_append]
      exact Nat.add_le_add_left (mvd_le f c E i) _
    refine step k n qa σ' H2 T _ hmem hS hq q k1 hT hR.nd hlen fun σ3 H3 hS3 k2 h3 => ?_
    refine ⟨k1.trans k2, _, h3, ?_, hS3⟩
    rw [mvd_take hp, ← List.append_assoc]
    exact hR.add _ (pos _ hmem)
  · have e : i = (enc E).length := by omega
    subst e
    rw [enc_len, List.take_length] at hR
    exact .inl ⟨⟨q, Nat.le_refl _⟩, hd σ' H' T hS k1 q hT hR⟩
theorem kp_unlock {tot d : Addr} {H H' : Hp} {u : HO} {od : Obj} (hd : H d = some u) (k : Kp (only1 tot) (upd H d (.frz od u)) H') : Kp (only1 tot) H (upd H' d u) := fun b o n e => by
  by_cases h : b = d
  · subst h
    rw [hd] at e
    cases e
    exact upd_same
  · rw [upd_ne h]
    exact k _ _ n (by rw [upd_ne h]; exact e)
end
end W77
namespace W77
open PySem PySem.Spec PyProof.Rows L2 HX
/-! ### the law's list of plays, counted -/
def bxn : Mode → Nat
  | .once => 0
  | .box _ _ => 1
theorem lg0 (A : List Pl) : lg A 0 0 = A := by
  conv => rhs; rw [← List.map_id A]
  rfl
theorem box_perm (A B : List Pl) : ∀ m : Mode, (jn (boxL A m) B).Perm (it B (lg A (bxn m) 0) m.n)
  | .once => by
    show (jn A B).Perm (jn B (lg A 0 0))
    rw [lg0]
    exact jn_comm A B
  | .box n d => pw_it B (lg A 1 0) n
theorem boxN_g (a : T3) (g : Nat) : ∀ m : Mode, (boxN a g m).2 = g + bxn m
  | .once => rfl
  | .box _ _ => rfl
theorem it_mono {B W : List Pl} (h : 1 ≤ W.length) : ∀ {n i : Nat}, i ≤ n → (it B W i).length ≤ (it B W n).length
  | 0, i, hi => by
    have : i = 0 := by omega
    subst this
    exact Nat.le_refl _
  | n + 1, i, hi => by
    by_cases e : i = n + 1
    · subst e
      exact Nat.le_refl _
    · refine Nat.le_trans (it_mono h (n := n) (by omega)) ?_
      show (it B W n).length ≤ (jn (it B W n) W).length
      rw [jn_len]
      exact Nat.le_mul_of_pos_right _ h
theorem Rep.cnt {D : List (Pl × Nat)} {L : List Pl} (h : Rep D L) {k : Pl} {n : Nat} (hm : (k, n) ∈ D) : n ≤ L.length := by
  obtain ⟨e, _⟩ := h.mem.mp hm
  rw [← e]
  exact List.count_le_length
theorem lg_perm {A B : List Pl} (r l : Nat) (h : A.Perm B) : (lg A r l).Perm (lg B r l) := h.map _
section
variable {K : PySem.W.Frag}
theorem kpt_dT {d : Addr} {H H' : Hp} {e : List (List Key × V)} (k : Kp (only1 d) H H') (h : H d = some (.dT e)) : KpT (only1 d) H H' := ⟨k, fun b hb => by
  have hb : b = d := hb
  subst hb
  exact ⟨_, h, fun xs f => ⟨(by intro z; cases z), (by intro z; cases z)⟩⟩⟩
theorem same_kp {tot : Addr} {H H0 H' : Hp} (s : Same H H0) (k : Kp (only1 tot) H0 H') (n : H tot = none) : Same H H' := fun b o e => k _ _ (fun z => by
  have z : b = tot := z
  rw [z, n] at e
  cases e) (s _ _ e)
theorem dget_frz {d q : Addr} {od : Obj} {E : List (Pl × Nat)} {H : Hp} {k : Pl} {n : Nat} (h : H d = some (.frz od (.dT (enc E)))) (hq : H q = some (.tup [iv k.1, iv k.2])) (nd : (E.map (·.1)).Nodup) (m : (k, n) ∈ E) : DGet H d (.ref q) (some (iv n)) :=
  .inr ⟨_, encK k, q, .inr ⟨od, h⟩, rfl, hq, (val_mem nd m).symm⟩
/-- for play in d, with the rest of the state -/
theorem for_keysT {d : Addr} {od : Obj} {E : List (Pl × Nat)} {tb : TS} {D : Ends} {σ : L2.St} {H : Hp} {i0 : Nat} (Pv : Nat → L2.St → Hp → Prop) (h0 : Pv 0 σ H) (hl : ∀ i σ H, Pv i σ H → H d = some (.frz od (.dT (enc E))))
    (hs : ∀ i k n q σ H, E[i]? = some (k, n) → H q = some (.tup [iv k.1, iv k.2]) → Pv i σ H → tb { D with nx := Pv (i + 1), ct := Pv (i + 1), bk := D.nx } (σ.set i0 (some (.ref q))) H) (hd : ∀ σ H, Pv E.length σ H → D.nx σ H) :
    ∃ W : Nat → Nat → L2.St → Hp → Prop, (∃ m, W 0 m σ H) ∧ ∀ i m σ H, W i m σ H →
      ((Itkt d od (enc E)).stop i H ∧ D.nx σ H) ∨ ((Itkt d od (enc E)).go i H ∧ ∃ N : L2.St → Hp → Prop, (∀ σ' H', N σ' H' → ∃ m', m' < m ∧ W (i + 1) m' σ' H') ∧ ∀ x H', (Itkt d od (enc E)).yld i H x H' → gName i0 x σ H' fun σ2 H2 => tb { D with nx := N, ct := N, bk := D.nx } σ2 H2) := by
  refine ⟨fun i m σ H => i + m = E.length ∧ Pv i σ H, ⟨E.length, by omega, h0⟩, ?_⟩
  rintro i m σ H ⟨hm, p⟩
  have q := hl i σ H p
  by_cases hlt : i < E.length
  · refine Or.inr ⟨⟨q, by rw [enc_len]; exact hlt⟩, Pv (i + 1), fun σ' H' p' => ⟨m - 1, by omega, by omega, p'⟩, fun x H' y => ?_⟩
    obtain ⟨rfl, k, v, qa, e, rfl, hq⟩ := y
    obtain ⟨⟨k, n⟩, hp, rfl, rfl⟩ := enc_get e
    exact hs i k n qa σ H' hp hq p
  · have e : i = E.length := by omega
    subst e
    exact Or.inl ⟨⟨q, by rw [enc_len]; exact Nat.le_refl _⟩, hd σ H p⟩
end
theorem bxn_int (m : Mode) : (if (!m.isOnce) = true then (1 : Int) else 0) = (bxn m : Int) := by cases m <;> rfl
section
variable {P : Program} {w : World} {K : PySem.W.Frag} {mg : Str → Option Value} {base : Heap}
def spLS (K : PySem.W.Frag) (d : Nat) : Sp := fun vs H Q _ => ∃ (v : V) (t : Dv), vs = [v] ∧ DvAt K H v t ∧ t.Good ∧ t.dp < d ∧ t.gp ≤ 9000 ∧ t.pl.length ≤ 5000 ∧ ∀ a H' D, Same H H' → H a = none → H' a = some (.dT (enc D)) → Rep D t.pl → Q (.ref a) H'
theorem Dv.gp_kid {t c : Dv} {n : Nat} (hp : t.Pos) (h : t.gp ≤ n) (hc : c ∈ t.kids) : c.gp ≤ n := by
  cases t with
  | own x => exact absurd hc List.not_mem_nil
  | pick x s b =>
    have hc : c = b := List.mem_singleton.mp hc
    subst hc
    have h : c.gp + 1 ≤ n := h
    omega
  | offer a b =>
    have h : max a.gp b.gp + 1 ≤ n := h
    rcases List.mem_cons.mp hc with e | e
    · subst e
      omega
    · have e : c = b := List.mem_singleton.mp e
      subst e
      omega
  | cut m mn a b =>
    rw [Dv.gp_cut] at h
    have z := boxG_ge (g := a.gp) hp.1
    rcases List.mem_cons.mp hc with e | e
    · subst e
      omega
    · have e : c = b := List.mem_singleton.mp e
      subst e
      omega
  | pay nm m a b =>
    rw [Dv.gp_pay] at h
    have z := boxG_ge (g := a.gp) hp.1
    rcases List.mem_cons.mp hc with e | e
    · subst e
      omega
    · have e : c = b := List.mem_singleton.mp e
      subst e
      omega
theorem listed_step {k d : Nat} (T : Tx K mg w) (G_law_listed : FnOk P w K mg base CX0 k T.a_law_listed T.d_law_listed ["tree"] (spLS K d)) (G_law_put : FnOk P w K mg base CX0 k T.a_law_put T.d_law_put ["total", "play", "many"] spPut) :
    FnOk P w K mg base CX0 (k + 1) T.a_law_listed T.d_law_listed ["tree"] (spLS K (d + 1)) := by
  refine T.F_law_listed.ok sc_law_listed (fun vs H Q E h => ?_) (fun cdv A outer s H vs Q E hr h => ?_)
  · obtain ⟨_, _, rfl, _⟩ := h
    rfl
  obtain ⟨v, t, rfl, hv, hg, hd, h9, h5, q⟩ := h
  have hu := hu_of hr
  have hu1 := hr.units0
  have hu2 : (A.deeper (envOfC "_law_listed" (defScope s_law_listed) s.heap.objs.size T.a_law_listed cdv)).units + 2 < cLine := by
    have := hr.units
    omega
  refine ⟨_, (pss_cons (ps_set (i := 1) sc_law_listed.nd rfl (Or.inl rfl) pe_dnewT)
      (pss_cons (ps_if (pt_cmpR op_eq (pe_ix (ixT K) (pv 0) pe_int (fun _ _ => rfl)) pe_str (nomark _)) (pss_one (ps_ret (pe_disp1T hu1 (pe_tup (pa_cons pe_int (pa_cons pe_int pa_nil))) pe_int))) pss_nil)
      (pss_cons (ps_set (i := 2) sc_law_listed.nd rfl (Or.inl rfl) (pe_call G_law_listed hr (by rfl) T.m_law_listed T.F_law_listed.kp T.b_law_listed .nil pass0 (pa_cons (pe_ix (ixT K) (pv 0) (pe_un un_neg pe_int) (fun _ _ => rfl)) pa_nil)))
      (pss_cons (ps_if (pt_cmpR op_eq (pe_ix (ixT K) (pv 0) pe_int (fun _ _ => rfl)) pe_str (nomark _)) (pss_cons (ps_set (i := 3) sc_law_listed.nd rfl (Or.inl rfl) (pe_call G_law_listed hr (by rfl) T.m_law_listed T.F_law_listed.kp T.b_law_listed .nil pass0 (pa_cons (pe_ix (ixT K) (pv 0) pe_int (fun _ _ => rfl)) pa_nil)))
      (pss_cons (ps_lock (ps_for PassesOwn.never rfl (pi_keys (pv 3)) (pg_name (i := 4) sc_law_listed.nd rfl (Or.inl rfl)) (pss_one (ps_expr (pe_call G_law_put hr (by rfl) T.m_law_put T.F_law_put.kp T.b_law_put .nil pass0 (pa_cons (pv 1) (pa_cons (pe_tup (pa_cons (pe_op op_add (pe_ix (ixT K) (pv 4) pe_int (fun _ _ => rfl)) pe_int) (pa_cons (pe_ix (ixT K) (pv 4) pe_int (fun _ _ => rfl)) pa_nil))) (pa_cons (pe_dget hu (pv 3) (pv 4) (fun _ _ => rfl)) pa_nil))))))))
      (pss_cons (ps_lock (ps_for PassesOwn.never rfl (pi_keys (pv 2)) (pg_name (i := 4) sc_law_listed.nd rfl (Or.inl rfl)) (pss_one (ps_expr (pe_call G_law_put hr (by rfl) T.m_law_put T.F_law_put.kp T.b_law_put .nil pass0 (pa_cons (pv 1) (pa_cons (pe_tup (pa_cons (pe_op op_add (pe_ix (ixT K) (pv 4) pe_int (fun _ _ => rfl)) pe_int) (pa_cons (pe_ix (ixT K) (pv 4) pe_int (fun _ _ => rfl)) pa_nil))) (pa_cons (pe_dget hu (pv 2) (pv 4) (fun _ _ => rfl)) pa_nil))))))))
      (pss_one (ps_ret (pv 1)))))) pss_nil)
      (pss_cons (ps_if (pt_cmpR op_eq (pe_ix (ixT K) (pv 0) pe_int (fun _ _ => rfl)) pe_str (nomark _)) (pss_cons (ps_lock (ps_for PassesOwn.never rfl (pi_keys (pv 2)) (pg_name (i := 4) sc_law_listed.nd rfl (Or.inl rfl)) (pss_one (ps_expr (pe_call G_law_put hr (by rfl) T.m_law_put T.F_law_put.kp T.b_law_put .nil pass0 (pa_cons (pv 1) (pa_cons (pe_tup (pa_cons (pe_op op_add (pe_ix (ixT K) (pv 4) pe_int (fun _ _ => rfl)) pe_int) (pa_cons (pe_ix (ixT K) (pv 4) pe_int (fun _ _ => rfl)) pa_nil))) (pa_cons (pe_dget hu (pv 2) (pv 4) (fun _ _ => rfl)) pa_nil))))))))
      (pss_one (ps_ret (pv 1)))) pss_nil)
      (pss_cons (ps_set (i := 5) sc_law_listed.nd rfl (Or.inl rfl) (pe_ix (ixT K) (pv 0) (pe_op op_add pe_int (pe_callTy call_int1 (by rfl) T.z_int (by decide +kernel) (pa_cons (pe_cmpR op_eq (pe_ix (ixT K) (pv 0) pe_int (fun _ _ => rfl)) pe_str (nomark _)) pa_nil))) (fun _ _ => rfl)))
      (pss_cons (ps_set (i := 3) sc_law_listed.nd rfl (Or.inl rfl) (pe_call G_law_listed hr (by rfl) T.m_law_listed T.F_law_listed.kp T.b_law_listed .nil pass0 (pa_cons (pe_ix (ixT K) (pv 0) pe_int (fun _ _ => rfl)) pa_nil)))
      (pss_cons (ps_set (i := 6) sc_law_listed.nd rfl (Or.inl rfl) pe_int)
      (pss_cons (ps_if (pt_cmpR (neD K hr.units) (pv 5) pe_str (nomark _)) (pss_one (ps_set (i := 6) sc_law_listed.nd rfl (Or.inl rfl) (pe_ix (ixT K) (pv 5) pe_int (fun _ _ => rfl)))) pss_nil)
      (pss_cons (ps_for PassesOwn.never rfl (pi_range1 (by rfl) T.z_range (pa_cons (pv 6) pa_nil)) (pg_name (i := 7) sc_law_listed.nd rfl (Or.inl rfl)) (pss_cons (ps_set (i := 8) sc_law_listed.nd rfl (Or.inl rfl) pe_dnewT)
      (pss_cons (ps_lock (ps_for PassesOwn.never rfl (pi_keys (pv 2)) (pg_name (i := 4) sc_law_listed.nd rfl (Or.inl rfl)) (pss_one (ps_lock (ps_for PassesOwn.never rfl (pi_keys (pv 3)) (pg_name (i := 9) sc_law_listed.nd rfl (Or.inl rfl)) (pss_cons (ps_set (i := 10) sc_law_listed.nd rfl (Or.inl rfl) (pe_op op_add (pe_op op_add (pe_ix (ixT K) (pv 4) pe_int (fun _ _ => rfl)) (pe_ix (ixT K) (pv 9) pe_int (fun _ _ => rfl))) (pe_callTy call_int1 (by rfl) T.z_int (by decide +kernel) (pa_cons (pe_cmpR (neD K hr.units) (pv 5) pe_str (nomark _)) pa_nil))))
      (pss_one (ps_expr (pe_call G_law_put hr (by rfl) T.m_law_put T.F_law_put.kp T.b_law_put .nil pass0 (pa_cons (pv 8) (pa_cons (pe_tup (pa_cons (pv 10) (pa_cons (pe_op op_add (pe_ix (ixT K) (pv 4) pe_int (fun _ _ => rfl)) (pe_ix (ixT K) (pv 9) pe_int (fun _ _ => rfl))) pa_nil))) (pa_cons (pe_op op_mulW (pe_dget hu (pv 2) (pv 4) (fun _ _ => rfl)) (pe_dget hu (pv 3) (pv 9) (fun _ _ => rfl))) pa_nil))))))))))))
      (pss_one (ps_set (i := 2) sc_law_listed.nd rfl (Or.inl rfl) (pe_callTy (call_dictT hu2) (by rfl) T.z_dict (by decide +kernel) (pa_cons (pv 8) pa_nil)))))))
      (pss_cons (ps_lock (ps_for PassesOwn.never rfl (pi_keys (pv 2)) (pg_name (i := 4) sc_law_listed.nd rfl (Or.inl rfl)) (pss_one (ps_if (pt_cmpR op_eq (pe_ix (ixT K) (pv 0) pe_int (fun _ _ => rfl)) pe_str (nomark _)) (pss_one (ps_expr (pe_call G_law_put hr (by rfl) T.m_law_put T.F_law_put.kp T.b_law_put .nil pass0 (pa_cons (pv 1) (pa_cons (pe_tup (pa_cons (pe_ix (ixT K) (pv 4) pe_int (fun _ _ => rfl)) (pa_cons (pe_op op_add (pe_ix (ixT K) (pv 4) pe_int (fun _ _ => rfl)) (pe_op op_mulW (pv 6) (pe_op op_sub (pe_ix (ixT K) (pv 4) pe_int (fun _ _ => rfl)) pe_int))) pa_nil))) (pa_cons (pe_dget hu (pv 2) (pv 4) (fun _ _ => rfl)) pa_nil)))))) (pss_one (ps_expr (pe_call G_law_put hr (by rfl) T.m_law_put T.F_law_put.kp T.b_law_put .nil pass0 (pa_cons (pv 1) (pa_cons (pe_tup (pa_cons (pe_op op_add (pe_ix (ixT K) (pv 4) pe_int (fun _ _ => rfl)) pe_int) (pa_cons (pe_ix (ixT K) (pv 4) pe_int (fun _ _ => rfl)) pa_nil))) (pa_cons (pe_dget hu (pv 2) (pv 4) (fun _ _ => rfl)) pa_nil))))))))))
      (pss_one (ps_ret (pv 1)))))))))))))), ?_⟩
  refine fun tot nt => ?_
  have s0 : Same H (upd H tot (.dT [])) := Same.new nt
  have h0 : (upd H tot (.dT [])) tot = some (.dT (enc [])) := upd_same
  generalize upd H tot (.dT []) = H0 at s0 h0 ⊢
  have kd : ∀ c, c ∈ t.kids → c.dp < d := fun c hc => by
    have := (hg.kid hc).2
    omega
  cases t with
  | own x =>
    obtain ⟨c, rfl, hc⟩ := hv
    have hc := (kpT_same s0).tup hc
    refine ⟨_, rfl, c, _, 0, _, rfl, rfl, hc, rfl, rfl, _, rfl, iteT ?_⟩
    refine fun p np => ⟨(by show 2 ≤ sizeLine; decide), fun b nb => ?_⟩
    have hp : (upd H0 p (.dT [])) p = some (.dT []) := upd_same
    have s1 : Same H0 (upd H0 p (.dT [])) := Same.new np
    have nbp : p ≠ b := ne_of_none hp nb
    refine ⟨encK (1, 0), b, iv 1, rfl, by rw [upd_ne nbp]; exact hp, upd_same, ?_⟩
    have s2 := Same.new (o := .tup [V.int 1, V.int 0]) nb
    refine q p _ [((1, 0), 1)] ?_ (s0.free np) upd_same ⟨?_, ?_, ?_⟩
    · exact Same.put ((s0.trans s1).trans s2) (s0.free np)
    · exact List.nodup_cons.mpr ⟨List.not_mem_nil, List.nodup_nil⟩
    · intro p hp
      rw [List.mem_singleton.mp hp]
      decide
    · exact .refl _
  | pick x sd b =>
    obtain ⟨c, y, rfl, hc, hb⟩ := hv
    have hc := (kpT_same s0).tup hc
    refine ⟨_, rfl, c, _, 0, _, rfl, rfl, hc, rfl, rfl, _, rfl, iteF ?_⟩
    refine ⟨_, rfl, _, rfl, c, _, _, _, rfl, rfl, hc, rfl, y, b, rfl, (DvAt.kp (kpT_same s0) hb), (hg.kid (c := b) List.mem_cons_self).1, kd b List.mem_cons_self, Dv.gp_kid hg.pos h9 (c := b) List.mem_cons_self, Dv.pl_kid hg.pos h5 (c := b) List.mem_cons_self, fun bd H1 Db s1 nbd hbd hR => ?_⟩
    have ht1 := s1 _ _ h0
    have nbt : bd ≠ tot := fun z => by rw [z, h0] at nbd; cases nbd
    have hc1 := (kpT_same s1).tup hc
    refine ⟨_, rfl, c, _, 0, _, rfl, rfl, hc1, rfl, rfl, _, rfl, iteF ?_⟩
    refine ⟨_, rfl, c, _, 0, _, rfl, rfl, hc1, rfl, rfl, _, rfl, iteT ?_⟩
    refine ⟨bd, _, hbd, trivial, fun od => ⟨_, rfl, bd, od, rfl, .inr ⟨_, upd_same, ?_⟩⟩⟩
    refine loop_put (f := fun a => (a.1 + 1, a.2 + 0)) (c := fun n => n) (S := fun σ => ∃ y4, σ = [some (.ref c), some (.ref tot), some (.ref bd), none, y4, none, none, none, none, none, none]) (L := []) (T0 := []) upd_same (by rw [upd_ne (Ne.symm nbt)]; exact ht1) Rep.nil ?_ hR.ps ⟨_, rfl⟩ ?_ ?_
    · rw [List.nil_append, mvd_map, List.length_map, hR.pm.length_eq]
      rw [Dv.pl, lg_len] at h5
      omega
    · rintro k n qa σ' H' T' Dn hm ⟨y4, rfl⟩ hq hfz k1 hT nd hl cont
      refine ⟨_, rfl, _, rfl, qa, _, 0, _, rfl, rfl, at_t hq, rfl, _, _, rfl, rfl, _, rfl, qa, _, 1, _, rfl, rfl, at_t hq, rfl, (by show 2 ≤ sizeLine; decide), fun b nb => ?_⟩
      have sb : Same H' (upd H' b (.tup [V.int ((k.1 : Int) + 1), iv k.2])) := Same.new nb
      refine ⟨_, rfl, _, rfl, bd, _, rfl, dget_frz (sb _ _ hfz) (sb _ _ hq) hR.nd hm, tot, b, T', (k.1 + 1, k.2 + 0), n, rfl, sb _ _ hT, upd_same, nd, hl, cont _ _ ⟨_, rfl⟩ ((Kp.of sb).put rfl) upd_same⟩
    · rintro σ' H' T' ⟨y4, rfl⟩ k1 hfz hT hR'
      have k2 := kp_unlock hbd k1
      refine ⟨hfz, _, rfl, ?_⟩
      refine q tot _ T' (same_kp s0 ((Kp.of s1).trans k2) nt) nt (by rw [upd_ne (Ne.symm nbt)]; exact hT) (hR'.perm ?_)
      rw [List.nil_append, mvd_map]
      exact lg_perm 1 0 hR.pm
  | offer b1 b2 =>
    obtain ⟨c, y, z, rfl, hc, hb1, hb2⟩ := hv
    have hc := (kpT_same s0).tup hc
    refine ⟨_, rfl, c, _, 0, _, rfl, rfl, hc, rfl, rfl, _, rfl, iteF ?_⟩
    refine ⟨_, rfl, _, rfl, c, _, _, _, rfl, rfl, hc, rfl, z, b2, rfl, (DvAt.kp (kpT_same s0) hb2), (hg.kid (c := b2) (List.mem_cons_of_mem _ List.mem_cons_self)).1, kd b2 (List.mem_cons_of_mem _ List.mem_cons_self), Dv.gp_kid hg.pos h9 (c := b2) (List.mem_cons_of_mem _ List.mem_cons_self), Dv.pl_kid hg.pos h5 (c := b2) (List.mem_cons_of_mem _ List.mem_cons_self), fun bd H1 Db s1 nbd hbd hR => ?_⟩
    have ht1 := s1 _ _ h0
    have nbt : bd ≠ tot := fun z => by rw [z, h0] at nbd; cases nbd
    have hc1 := (kpT_same s1).tup hc
    refine ⟨_, rfl, c, _, 0, _, rfl, rfl, hc1, rfl, rfl, _, rfl, iteT ?_⟩
    refine ⟨_, rfl, c, _, 1, _, rfl, rfl, hc1, rfl, y, b1, rfl, (DvAt.kp (kpT_same (s0.trans s1)) hb1), (hg.kid (c := b1) List.mem_cons_self).1, kd b1 List.mem_cons_self, Dv.gp_kid hg.pos h9 (c := b1) List.mem_cons_self, Dv.pl_kid hg.pos h5 (c := b1) List.mem_cons_self, fun on H2 Do s2 non hon hO => ?_⟩
    have ht2 := s2 _ _ ht1
    have hbd2 := s2 _ _ hbd
    have not_ : on ≠ tot := fun z => by rw [z, ht1] at non; cases non
    have nob : on ≠ bd := fun z => by rw [z, hbd] at non; cases non
    have hlen : b1.pl.length + b2.pl.length ≤ 5000 := by
      rw [Dv.pl, lg_len, List.length_append] at h5
      exact h5
    refine ⟨on, _, hon, trivial, fun od => ⟨_, rfl, on, od, rfl, .inr ⟨_, upd_same, ?_⟩⟩⟩
    refine loop_put (f := fun a => (a.1 + 1, a.2 + 0)) (c := fun n => n) (S := fun σ => ∃ y4, σ = [some (.ref c), some (.ref tot), some (.ref bd), some (.ref on), y4, none, none, none, none, none, none]) (L := []) (T0 := []) upd_same (by rw [upd_ne (Ne.symm not_)]; exact ht2) Rep.nil ?_ hO.ps ⟨_, rfl⟩ ?_ ?_
    · rw [List.nil_append, mvd_map, List.length_map, hO.pm.length_eq]
      omega
    · rintro k n qa σ' H' T' Dn hm ⟨y4, rfl⟩ hq hfz k1 hT nd hl cont
      refine ⟨_, rfl, _, rfl, qa, _, 0, _, rfl, rfl, at_t hq, rfl, _, _, rfl, rfl, _, rfl, qa, _, 1, _, rfl, rfl, at_t hq, rfl, (by show 2 ≤ sizeLine; decide), fun b nb => ?_⟩
      have sb : Same H' (upd H' b (.tup [V.int ((k.1 : Int) + 1), iv k.2])) := Same.new nb
      refine ⟨_, rfl, _, rfl, on, _, rfl, dget_frz (sb _ _ hfz) (sb _ _ hq) hO.nd hm, tot, b, T', (k.1 + 1, k.2 + 0), n, rfl, sb _ _ hT, upd_same, nd, hl, cont _ _ ⟨_, rfl⟩ ((Kp.of sb).put rfl) upd_same⟩
    · rintro σ' H3 T1 ⟨y4, rfl⟩ k1 hfz hT hR1
      have k2 := kp_unlock hon k1
      refine ⟨hfz, ?_⟩
      have ht3 : (upd H3 on (.dT (enc Do))) tot = some (.dT (enc T1)) := by rw [upd_ne (Ne.symm not_)]; exact hT
      have hbd3 : (upd H3 on (.dT (enc Do))) bd = some (.dT (enc Db)) := k2 _ _ nbt hbd2
      generalize upd H3 on (.dT (enc Do)) = H4 at k2 ht3 hbd3 ⊢
      rw [List.nil_append, mvd_map] at hR1
      refine ⟨bd, _, hbd3, trivial, fun od2 => ⟨_, rfl, bd, od2, rfl, .inr ⟨_, upd_same, ?_⟩⟩⟩
      refine loop_put (f := fun a => (a.1 + 1, a.2 + 0)) (c := fun n => n) (S := fun σ => ∃ y4, σ = [some (.ref c), some (.ref tot), some (.ref bd), some (.ref on), y4, none, none, none, none, none, none]) (T0 := T1) upd_same (by rw [upd_ne (Ne.symm nbt)]; exact ht3) hR1 ?_ hR.ps ⟨_, rfl⟩ ?_ ?_
      · rw [List.length_append, mvd_map, List.length_map, List.length_map, hR.pm.length_eq, hO.pm.length_eq]
        omega
      · rintro k n qa σ' H' T' Dn hm ⟨y4, rfl⟩ hq hfz k1 hT nd hl cont
        refine ⟨_, rfl, _, rfl, qa, _, 0, _, rfl, rfl, at_t hq, rfl, _, _, rfl, rfl, _, rfl, qa, _, 1, _, rfl, rfl, at_t hq, rfl, (by show 2 ≤ sizeLine; decide), fun b nb => ?_⟩
        have sb : Same H' (upd H' b (.tup [V.int ((k.1 : Int) + 1), iv k.2])) := Same.new nb
        refine ⟨_, rfl, _, rfl, bd, _, rfl, dget_frz (sb _ _ hfz) (sb _ _ hq) hR.nd hm, tot, b, T', (k.1 + 1, k.2 + 0), n, rfl, sb _ _ hT, upd_same, nd, hl, cont _ _ ⟨_, rfl⟩ ((Kp.of sb).put rfl) upd_same⟩
      · rintro σ' H' T' ⟨y4, rfl⟩ k5 hfz hT hR'
        have k6 := kp_unlock hbd3 k5
        refine ⟨hfz, _, rfl, ?_⟩
        refine q tot _ T' (same_kp s0 ((Kp.of (s1.trans s2)).trans (k2.trans k6)) nt) nt (by rw [upd_ne (Ne.symm nbt)]; exact hT) (hR'.perm ?_)
        rw [mvd_map, ← List.map_append]
        exact lg_perm 1 0 (hO.pm.append hR.pm)
  | cut m mn b1 b2 =>
    obtain ⟨c, mv, sv, y, z, rfl, hc, hm, hs, hb1, hb2⟩ := hv
    have hc := (kpT_same s0).tup hc
    have hgp := h9
    rw [Dv.gp_cut] at hgp
    have hml : m.n * b1.ml + b2.ml + m.n * (boxG b1.gp m + b2.gp) ≤ 536870912 := hg.ml
    have hpl := h5
    rw [Dv.pl, cutL_len] at hpl
    have hn1 : 1 ≤ m.n := hg.pos.1
    have zn := boxG_ge (g := b1.gp) hn1
    refine ⟨_, rfl, c, _, 0, _, rfl, rfl, hc, rfl, rfl, _, rfl, iteF ?_⟩
    refine ⟨_, rfl, _, rfl, c, _, _, _, rfl, rfl, hc, rfl, z, b2, rfl, (DvAt.kp (kpT_same s0) hb2), (hg.kid (c := b2) (List.mem_cons_of_mem _ List.mem_cons_self)).1, kd b2 (List.mem_cons_of_mem _ List.mem_cons_self), Dv.gp_kid hg.pos h9 (c := b2) (List.mem_cons_of_mem _ List.mem_cons_self), Dv.pl_kid hg.pos h5 (c := b2) (List.mem_cons_of_mem _ List.mem_cons_self), fun bd0 H1 Db0 s1 nbd hbd hR => ?_⟩
    have ht1 := s1 _ _ h0
    have nbt : bd0 ≠ tot := fun z => by rw [z, h0] at nbd; cases nbd
    have hc1 := (kpT_same s1).tup hc
    refine ⟨_, rfl, c, _, 0, _, rfl, rfl, hc1, rfl, rfl, _, rfl, iteF ?_⟩
    refine ⟨_, rfl, c, _, 0, _, rfl, rfl, hc1, rfl, rfl, _, rfl, iteF ?_⟩
    refine ⟨_, rfl, _, rfl, c, _, 0, _, rfl, rfl, hc1, rfl, rfl, .inr ⟨_, rfl, _, _, rfl, rfl, ?_⟩⟩
    refine ⟨c, _, _, _, rfl, rfl, hc1, rfl, ?_⟩
    refine ⟨_, rfl, c, _, 3, _, rfl, rfl, hc1, rfl, y, b1, rfl, (DvAt.kp (kpT_same (s0.trans s1)) hb1), (hg.kid (c := b1) List.mem_cons_self).1, kd b1 List.mem_cons_self, Dv.gp_kid hg.pos h9 (c := b1) List.mem_cons_self, Dv.pl_kid hg.pos h5 (c := b1) List.mem_cons_self, fun on H2 Do s2 non hon hO => ?_⟩
    have ht2 := s2 _ _ ht1
    have hbd2 := s2 _ _ hbd
    have not_ : on ≠ tot := fun z => by rw [z, ht1] at non; cases non
    have nob0 : on ≠ bd0 := fun z => by rw [z, hbd] at non; cases non
    have s02 := (s0.trans s1).trans s2
    have hc2 := (kpT_same s2).tup hc1
    have hm2 := hm.kp (kpT_same s02)
    have hbp := box_perm b1.pl b2.pl m
    have hlen : (it b2.pl (lg b1.pl (bxn m) 0) m.n).length ≤ 5000 := by
      rw [← hbp.length_eq]
      exact hpl
    have hmon : ∀ i, i ≤ m.n → (it b2.pl (lg b1.pl (bxn m) 0) i).length ≤ 5000 := fun i hi => Nat.le_trans (it_mono (by rw [lg_len]; exact b1.pl_pos) hi) hlen
    have hin : ∀ i, i ≤ m.n → In (it b2.pl (lg b1.pl (bxn m) 0) i) 1 9000 536870912 := fun i hi => by
      refine (b2.pl_in.it (b1.pl_in.lg (bxn m)) i).mono (Nat.le_refl _) ?_ ?_
      · have z1 : i * (b1.gp + bxn m) ≤ m.n * (b1.gp + bxn m) := Nat.mul_le_mul_right _ hi
        have z2 := box_g b1.tal b1.gp b2.gp m
        rw [boxN_g] at z2
        omega
      · have z1 : i * b1.ml ≤ m.n * b1.ml := Nat.mul_le_mul_right _ hi
        omega
    have hO1 : Do.length ≤ 5000 := Nat.le_trans hO.le (Dv.pl_kid hg.pos h5 List.mem_cons_self)
    have hOl : b1.pl.length ≤ 5000 := Dv.pl_kid hg.pos h5 List.mem_cons_self
    dsimp only [tNext, tSeq, tAsg, tC, gName]
    refine ifS_to [some (.ref c), some (.ref tot), some (.ref bd0), some (.ref on), none, some mv, some (iv m.n), none, none, none, none] ?_ fun els => ?_
    · refine ⟨_, rfl, _, rfl, by omega, by omega, ?_⟩
      refine for_range (lo := 0) (n := m.n) (fun i σ' H' => Same H2 H' ∧ ∃ bd Db y4 y7 y8 y9 y10, H' bd = some (.dT (enc Db)) ∧ bd ≠ tot ∧ on ≠ bd ∧ Rep Db (it b2.pl (lg b1.pl (bxn m) 0) i) ∧ σ' = [some (.ref c), some (.ref tot), some (.ref bd), some (.ref on), y4, some mv, some (iv m.n), y7, y8, y9, y10])
        ⟨Same.refl _, bd0, Db0, none, none, none, none, none, hbd2, nbt, nob0, hR, rfl⟩ ?_ ?_
      · rintro i σ' H' hi ⟨sm, bd, Db, y4, y7, y8, y9, y10, hbd, nbt, nob, hR, rfl⟩
        have hon' := sm _ _ hon
        have ht' := sm _ _ ht2
        refine fun mo nmo => ?_
        have s3 : Same H' (upd H' mo (.dT [])) := Same.new nmo
        have hmo : (upd H' mo (.dT [])) mo = some (.dT (enc [])) := upd_same
        generalize upd H' mo (.dT []) = H3 at s3 hmo ⊢
        have hbd3 := s3 _ _ hbd
        have hon3 := s3 _ _ hon'
        have nbm : bd ≠ mo := fun z => by rw [z, nmo] at hbd; cases hbd
        have nom_ : on ≠ mo := fun z => by rw [z, nmo] at hon'; cases hon'
        have hm3 := hm2.kp (kpT_same (sm.trans s3))
        have hpp := prod_perm (bxn m) Do Db
        have hpp2 : (prod (bxn m) Db Do).Perm (it b2.pl (lg b1.pl (bxn m) 0) (i + 1)) := hpp.trans ((jn_left _ hR.pm).trans (jn_right _ (lg_perm _ _ hO.pm)))
        have hplen : (prod (bxn m) Db Do).length ≤ 5000 := by
          rw [hpp2.length_eq]
          exact hmon _ hi
        refine ⟨bd, _, hbd3, trivial, fun od => ⟨_, rfl, bd, od, rfl, .inr ⟨_, upd_same, ?_⟩⟩⟩
        have kl : Kp (only1 bd) H3 (upd H3 bd (.frz od (.dT (enc Db)))) := Kp.refl.put rfl
        have hmol : (upd H3 bd (.frz od (.dT (enc Db)))) mo = some (.dT (enc [])) := by rw [upd_ne (Ne.symm nbm)]; exact hmo
        have honl := kl _ _ nob hon3
        have hml3 := hm3.kp (kpt_dT kl hbd3)
        have hbdl : (upd H3 bd (.frz od (.dT (enc Db)))) bd = some (.frz od (.dT (enc Db))) := upd_same
        refine for_keysT (d := bd) (od := od) (E := Db) (fun j σ' H4 => Kp (only1 mo) (upd H3 bd (.frz od (.dT (enc Db)))) H4 ∧ ∃ M y4 y9 y10, H4 mo = some (.dT (enc M)) ∧ Rep M (prod (bxn m) (Db.take j) Do) ∧ σ' = [some (.ref c), some (.ref tot), some (.ref bd), some (.ref on), y4, some mv, some (iv m.n), some (V.int (0 + (i : Int))), some (.ref mo), y9, y10])
          ⟨Kp.refl, [], _, _, _, hmol, Rep.nil, rfl⟩ (fun j σ' H4 h => h.1 _ _ nbm hbdl) ?_ ?_
        · rintro j k n qa σ' H4 hp hq ⟨k4, M, y4, y9, y10, hM, hRM, rfl⟩
          have hbd4 := k4 _ _ nbm hbdl
          have hon4 := k4 _ _ nom_ honl
          have hm4 := hml3.kp (kpt_dT k4 hmol)
          have hkn := List.mem_of_getElem? hp
          have hn5 : n ≤ 5000 := Nat.le_trans (hR.cnt hkn) (hmon i (by omega))
          refine ⟨on, _, hon4, trivial, fun od2 => ⟨_, rfl, on, od2, rfl, .inr ⟨_, upd_same, ?_⟩⟩⟩
          have kl2 : Kp (only1 on) H4 (upd H4 on (.frz od2 (.dT (enc Do)))) := Kp.refl.put rfl
          have hml5 := hm4.kp (kpt_dT kl2 hon4)
          have hbdl5 := kl2 _ _ (Ne.symm nob) hbd4
          have hql5 : (upd H4 on (.frz od2 (.dT (enc Do)))) qa = some (.tup [iv k.1, iv k.2]) := kl2 _ _ (ne_of hq hon4 (by intro z; cases z)) hq
          refine loop_put (d := on) (od := od2) (E := Do) (tot := mo) (T0 := M) (L := prod (bxn m) (Db.take j) Do) (f := fun q => (k.1 + q.1 + bxn m, k.2 + q.2)) (c := fun x => n * x) (S := fun σ => ∃ y9 y10, σ = [some (.ref c), some (.ref tot), some (.ref bd), some (.ref on), some (.ref qa), some mv, some (iv m.n), some (V.int (0 + (i : Int))), some (.ref mo), y9, y10])
            upd_same (by rw [upd_ne (Ne.symm nom_)]; exact hM) hRM ?_ (fun p hp => Nat.mul_pos (hR.ps _ hkn) (hO.ps p hp)) ⟨_, _, rfl⟩ ?_ ?_
          · rw [← prod_take hp]
            exact Nat.lt_of_le_of_lt (prod_le _ _ _ _) (by omega)
          · rintro k' n' qb σ' H5 T' Dn hm' ⟨y9, y10, rfl⟩ hq' hfz k5 hT nd hl cont
            have hm6 := hml5.kp (kpt_dT k5 (by rw [upd_ne (Ne.symm nom_)]; exact hM))
            have hbd6 := k5 _ _ nbm hbdl5
            have hqa6 := k5 _ _ (fun z => by
              have z : qa = mo := z
              rw [z, upd_ne (Ne.symm nom_), hM] at hql5
              cases hql5) hql5
            have hn6 : n' ≤ 5000 := Nat.le_trans (hO.cnt hm') hOl
            refine ⟨_, rfl, qa, _, 0, _, rfl, rfl, at_t hqa6, rfl, _, rfl, qb, _, 0, _, rfl, rfl, at_t hq', rfl, _, _, rfl, rfl, ?_⟩
            refine ⟨_, rfl, _, _, mode_dp hm6, .str _, mode_shaped m, once_shaped, .inr ⟨!m.isOnce, by rw [mode_eqv], _, _, rfl, rfl, ?_⟩⟩
            refine ⟨_, rfl, _, rfl, ?_⟩
            refine ⟨_, rfl, qa, _, 1, _, rfl, rfl, at_t hqa6, rfl, _, rfl, qb, _, 1, _, rfl, rfl, at_t hq', rfl, _, _, rfl, rfl, (by show 2 ≤ sizeLine; decide), fun b nb => ?_⟩
            have er : V.int ((k.1 : Int) + (k'.1 : Int) + (if (!m.isOnce) = true then (1 : Int) else 0)) = iv (k.1 + k'.1 + bxn m) := by
              rw [bxn_int]
              rfl
            dsimp only
            rw [er]
            have sb : Same H5 (upd H5 b (.tup [iv (k.1 + k'.1 + bxn m), V.int ((k.2 : Int) + (k'.2 : Int))])) := Same.new nb
            refine ⟨_, rfl, _, rfl, bd, _, rfl, dget_frz (sb _ _ hbd6) (sb _ _ hqa6) hR.nd hkn, ?_⟩
            refine ⟨_, rfl, _, rfl, on, _, rfl, dget_frz (sb _ _ hfz) (sb _ _ hq') hO.nd hm', _, _, rfl, rfl, mulW (small_nat (by omega)) (small_nat (by omega)), ?_⟩
            exact ⟨mo, b, T', (k.1 + k'.1 + bxn m, k.2 + k'.2), n * n', rfl, sb _ _ hT, upd_same, nd, hl, cont _ _ ⟨_, _, rfl⟩ ((Kp.of sb).put rfl) upd_same⟩
          · rintro σ' H5 T' ⟨y9, y10, rfl⟩ k5 hfz hT hR5
            have k6 := kp_unlock hon4 k5
            refine ⟨hfz, k4.trans k6, T', _, _, _, by rw [upd_ne (Ne.symm nom_)]; exact hT, ?_, rfl⟩
            rw [prod_take hp]
            exact hR5
        · rintro σ' H4 ⟨k4, M, y4, y9, y10, hM, hRM, rfl⟩
          have hfz := k4 _ _ nbm hbdl
          have k5 := kp_unlock hbd3 k4
          refine ⟨hfz, ?_⟩
          rw [List.take_length] at hRM
          have hM5 : (upd H4 bd (.dT (enc Db))) mo = some (.dT (enc M)) := by rw [upd_ne (Ne.symm nbm)]; exact hM
          have s5 : Same H' (upd H4 bd (.dT (enc Db))) := same_kp s3 k5 nmo
          generalize upd H4 bd (.dT (enc Db)) = H5 at s5 hM5 ⊢
          have hRn := hRM.perm hpp2
          refine ⟨_, rfl, mo, _, rfl, .inl hM5, hash_nd hRM.nd (fun p hp => ?_), fun nb nnb => ?_⟩
          · have z := hin (i + 1) hi p.1 (hRn.key hp)
            omega
          · have sn : Same H5 (upd H5 nb (.dT (enc M))) := Same.new nnb
            refine ⟨sm.trans (s5.trans sn), nb, M, _, _, _, _, _, upd_same, ?_, ?_, hRn, rfl⟩
            · exact fun z => by rw [z, s5 _ _ ht'] at nnb; cases nnb
            · exact fun z => by rw [← z, s5 _ _ hon'] at nnb; cases nnb
      · rintro σ' H' ⟨sm, bd, Db, y4, y7, y8, y9, y10, hbd, nbt, nob, hR, rfl⟩
        have ht' := sm _ _ ht2
        have hc' := (kpT_same sm).tup hc2
        refine ⟨bd, _, hbd, trivial, fun od => ⟨_, rfl, bd, od, rfl, .inr ⟨_, upd_same, ?_⟩⟩⟩
        have kl : Kp (only1 bd) H' (upd H' bd (.frz od (.dT (enc Db)))) := Kp.refl.put rfl
        have hcl := (kpt_dT kl hbd).tup hc'
        refine loop_put (d := bd) (od := od) (E := Db) (tot := tot) (T0 := []) (L := []) (f := (fun x => (x.1, x.2 + m.n * (x.1 - 1)))) (c := fun n => n) (S := fun σ => ∃ y4 y7 y8 y9 y10, σ = [some (.ref c), some (.ref tot), some (.ref bd), some (.ref on), y4, some mv, some (iv m.n), y7, y8, y9, y10]) upd_same (by rw [upd_ne (Ne.symm nbt)]; exact ht') Rep.nil ?_ hR.ps ⟨_, _, _, _, _, rfl⟩ ?_ ?_
        · rw [List.nil_append, mvd_map, List.length_map, hR.pm.length_eq]
          omega
        · rintro k n qa σ' H5 T' Dn hkm ⟨y4, y7, y8, y9, y10, rfl⟩ hq hfz k1 hT nd hl cont
          have hc5 := (kpt_dT k1 (by rw [upd_ne (Ne.symm nbt)]; exact ht')).tup hcl
          refine ⟨_, rfl, c, _, 0, _, rfl, rfl, hc5, rfl, rfl, _, rfl, iteT ?_⟩
          have hk := hin m.n (Nat.le_refl _) k (hR.key hkm)
          have ek : ((k.1 : Int) - 1) = ((k.1 - 1 : Nat) : Int) := by omega
          refine ⟨_, rfl, _, rfl, qa, _, 0, _, rfl, rfl, at_t hq, rfl, _, rfl, qa, _, 1, _, rfl, rfl, at_t hq, rfl, _, rfl, _, rfl, qa, _, 0, _, rfl, rfl, at_t hq, rfl, _, _, rfl, rfl, ?_⟩
          refine ⟨_, _, rfl, rfl, by rw [ek]; exact mulW (small_nat (by omega)) (small_nat (by omega)), _, _, rfl, rfl, (by show 2 ≤ sizeLine; decide), fun b nb => ?_⟩
          have e2 : V.int ((k.2 : Int) + (m.n : Int) * ((k.1 : Int) - 1)) = iv (k.2 + m.n * (k.1 - 1)) := by
            rw [ek]
            rfl
          dsimp only
          rw [e2]
          have sb : Same H5 (upd H5 b (.tup [iv k.1, iv (k.2 + m.n * (k.1 - 1))])) := Same.new nb
          exact ⟨_, rfl, _, rfl, bd, _, rfl, dget_frz (sb _ _ hfz) (sb _ _ hq) hR.nd hkm, tot, b, T', (k.1, k.2 + m.n * (k.1 - 1)), n, rfl, sb _ _ hT, upd_same, nd, hl, cont _ _ ⟨_, _, _, _, _, rfl⟩ ((Kp.of sb).put rfl) upd_same⟩
        · rintro σ' H5 T' ⟨y4, y7, y8, y9, y10, rfl⟩ k1 hfz hT hR'
          have k2 := kp_unlock hbd k1
          refine ⟨hfz, _, rfl, ?_⟩
          refine q tot _ T' (same_kp s0 ((Kp.of ((s1.trans s2).trans sm)).trans k2) nt) nt (by rw [upd_ne (Ne.symm nbt)]; exact hT) (hR'.perm ?_)
          rw [List.nil_append, mvd_map]
          exact (hR.pm.trans hbp.symm).map _
    · refine ⟨_, rfl, _, _, mode_dp hm2, .str _, mode_shaped m, once_shaped, _, rfl, ?_⟩
      rw [mode_eqv]
      cases m with
      | once => exact iteF els
      | box n dd =>
        refine iteT ?_
        obtain ⟨cm, rfl, hcm⟩ := hm2
        exact ⟨_, rfl, cm, _, 0, _, rfl, rfl, hcm, rfl, els⟩
  | pay nm m b1 b2 =>
    obtain ⟨c, mv, y, z, rfl, hc, hm, hb1, hb2⟩ := hv
    have hc := (kpT_same s0).tup hc
    have hgp := h9
    rw [Dv.gp_pay] at hgp
    have hml : m.n * b1.ml + b2.ml ≤ 536870912 := hg.ml
    have hpl := h5
    rw [Dv.pl, lg_len] at hpl
    have hn1 : 1 ≤ m.n := hg.pos.1
    have zn := boxG_ge (g := b1.gp) hn1
    refine ⟨_, rfl, c, _, 0, _, rfl, rfl, hc, rfl, rfl, _, rfl, iteF ?_⟩
    refine ⟨_, rfl, _, rfl, c, _, _, _, rfl, rfl, hc, rfl, z, b2, rfl, (DvAt.kp (kpT_same s0) hb2), (hg.kid (c := b2) (List.mem_cons_of_mem _ List.mem_cons_self)).1, kd b2 (List.mem_cons_of_mem _ List.mem_cons_self), Dv.gp_kid hg.pos h9 (c := b2) (List.mem_cons_of_mem _ List.mem_cons_self), Dv.pl_kid hg.pos h5 (c := b2) (List.mem_cons_of_mem _ List.mem_cons_self), fun bd0 H1 Db0 s1 nbd hbd hR => ?_⟩
    have ht1 := s1 _ _ h0
    have nbt : bd0 ≠ tot := fun z => by rw [z, h0] at nbd; cases nbd
    have hc1 := (kpT_same s1).tup hc
    refine ⟨_, rfl, c, _, 0, _, rfl, rfl, hc1, rfl, rfl, _, rfl, iteF ?_⟩
    refine ⟨_, rfl, c, _, 0, _, rfl, rfl, hc1, rfl, rfl, _, rfl, iteF ?_⟩
    refine ⟨_, rfl, _, rfl, c, _, 0, _, rfl, rfl, hc1, rfl, rfl, .inr ⟨_, rfl, _, _, rfl, rfl, ?_⟩⟩
    refine ⟨c, _, _, _, rfl, rfl, hc1, rfl, ?_⟩
    refine ⟨_, rfl, c, _, 3, _, rfl, rfl, hc1, rfl, y, b1, rfl, (DvAt.kp (kpT_same (s0.trans s1)) hb1), (hg.kid (c := b1) List.mem_cons_self).1, kd b1 List.mem_cons_self, Dv.gp_kid hg.pos h9 (c := b1) List.mem_cons_self, Dv.pl_kid hg.pos h5 (c := b1) List.mem_cons_self, fun on H2 Do s2 non hon hO => ?_⟩
    have ht2 := s2 _ _ ht1
    have hbd2 := s2 _ _ hbd
    have not_ : on ≠ tot := fun z => by rw [z, ht1] at non; cases non
    have nob0 : on ≠ bd0 := fun z => by rw [z, hbd] at non; cases non
    have s02 := (s0.trans s1).trans s2
    have hc2 := (kpT_same s2).tup hc1
    have hm2 := hm.kp (kpT_same s02)
    have hbp := box_perm b1.pl b2.pl m
    have hlen : (it b2.pl (lg b1.pl (bxn m) 0) m.n).length ≤ 5000 := by
      rw [← hbp.length_eq]
      exact hpl
    have hmon : ∀ i, i ≤ m.n → (it b2.pl (lg b1.pl (bxn m) 0) i).length ≤ 5000 := fun i hi => Nat.le_trans (it_mono (by rw [lg_len]; exact b1.pl_pos) hi) hlen
    have hin : ∀ i, i ≤ m.n → In (it b2.pl (lg b1.pl (bxn m) 0) i) 1 9000 536870912 := fun i hi => by
      refine (b2.pl_in.it (b1.pl_in.lg (bxn m)) i).mono (Nat.le_refl _) ?_ ?_
      · have z1 : i * (b1.gp + bxn m) ≤ m.n * (b1.gp + bxn m) := Nat.mul_le_mul_right _ hi
        have z2 := box_g b1.tal b1.gp b2.gp m
        rw [boxN_g] at z2
        omega
      · have z1 : i * b1.ml ≤ m.n * b1.ml := Nat.mul_le_mul_right _ hi
        omega
    have hO1 : Do.length ≤ 5000 := Nat.le_trans hO.le (Dv.pl_kid hg.pos h5 List.mem_cons_self)
    have hOl : b1.pl.length ≤ 5000 := Dv.pl_kid hg.pos h5 List.mem_cons_self
    dsimp only [tNext, tSeq, tAsg, tC, gName]
    refine ifS_to [some (.ref c), some (.ref tot), some (.ref bd0), some (.ref on), none, some mv, some (iv m.n), none, none, none, none] ?_ fun els => ?_
    · refine ⟨_, rfl, _, rfl, by omega, by omega, ?_⟩
      refine for_range (lo := 0) (n := m.n) (fun i σ' H' => Same H2 H' ∧ ∃ bd Db y4 y7 y8 y9 y10, H' bd = some (.dT (enc Db)) ∧ bd ≠ tot ∧ on ≠ bd ∧ Rep Db (it b2.pl (lg b1.pl (bxn m) 0) i) ∧ σ' = [some (.ref c), some (.ref tot), some (.ref bd), some (.ref on), y4, some mv, some (iv m.n), y7, y8, y9, y10])
        ⟨Same.refl _, bd0, Db0, none, none, none, none, none, hbd2, nbt, nob0, hR, rfl⟩ ?_ ?_
      · rintro i σ' H' hi ⟨sm, bd, Db, y4, y7, y8, y9, y10, hbd, nbt, nob, hR, rfl⟩
        have hon' := sm _ _ hon
        have ht' := sm _ _ ht2
        refine fun mo nmo => ?_
        have s3 : Same H' (upd H' mo (.dT [])) := Same.new nmo
        have hmo : (upd H' mo (.dT [])) mo = some (.dT (enc [])) := upd_same
        generalize upd H' mo (.dT []) = H3 at s3 hmo ⊢
        have hbd3 := s3 _ _ hbd
        have hon3 := s3 _ _ hon'
        have nbm : bd ≠ mo := fun z => by rw [z, nmo] at hbd; cases hbd
        have nom_ : on ≠ mo := fun z => by rw [z, nmo] at hon'; cases hon'
        have hm3 := hm2.kp (kpT_same (sm.trans s3))
        have hpp := prod_perm (bxn m) Do Db
        have hpp2 : (prod (bxn m) Db Do).Perm (it b2.pl (lg b1.pl (bxn m) 0) (i + 1)) := hpp.trans ((jn_left _ hR.pm).trans (jn_right _ (lg_perm _ _ hO.pm)))
        have hplen : (prod (bxn m) Db Do).length ≤ 5000 := by
          rw [hpp2.length_eq]
          exact hmon _ hi
        refine ⟨bd, _, hbd3, trivial, fun od => ⟨_, rfl, bd, od, rfl, .inr ⟨_, upd_same, ?_⟩⟩⟩
        have kl : Kp (only1 bd) H3 (upd H3 bd (.frz od (.dT (enc Db)))) := Kp.refl.put rfl
        have hmol : (upd H3 bd (.frz od (.dT (enc Db)))) mo = some (.dT (enc [])) := by rw [upd_ne (Ne.symm nbm)]; exact hmo
        have honl := kl _ _ nob hon3
        have hml3 := hm3.kp (kpt_dT kl hbd3)
        have hbdl : (upd H3 bd (.frz od (.dT (enc Db)))) bd = some (.frz od (.dT (enc Db))) := upd_same
        refine for_keysT (d := bd) (od := od) (E := Db) (fun j σ' H4 => Kp (only1 mo) (upd H3 bd (.frz od (.dT (enc Db)))) H4 ∧ ∃ M y4 y9 y10, H4 mo = some (.dT (enc M)) ∧ Rep M (prod (bxn m) (Db.take j) Do) ∧ σ' = [some (.ref c), some (.ref tot), some (.ref bd), some (.ref on), y4, some mv, some (iv m.n), some (V.int (0 + (i : Int))), some (.ref mo), y9, y10])
          ⟨Kp.refl, [], _, _, _, hmol, Rep.nil, rfl⟩ (fun j σ' H4 h => h.1 _ _ nbm hbdl) ?_ ?_
        · rintro j k n qa σ' H4 hp hq ⟨k4, M, y4, y9, y10, hM, hRM, rfl⟩
          have hbd4 := k4 _ _ nbm hbdl
          have hon4 := k4 _ _ nom_ honl
          have hm4 := hml3.kp (kpt_dT k4 hmol)
          have hkn := List.mem_of_getElem? hp
          have hn5 : n ≤ 5000 := Nat.le_trans (hR.cnt hkn) (hmon i (by omega))
          refine ⟨on, _, hon4, trivial, fun od2 => ⟨_, rfl, on, od2, rfl, .inr ⟨_, upd_same, ?_⟩⟩⟩
          have kl2 : Kp (only1 on) H4 (upd H4 on (.frz od2 (.dT (enc Do)))) := Kp.refl.put rfl
          have hml5 := hm4.kp (kpt_dT kl2 hon4)
          have hbdl5 := kl2 _ _ (Ne.symm nob) hbd4
          have hql5 : (upd H4 on (.frz od2 (.dT (enc Do)))) qa = some (.tup [iv k.1, iv k.2]) := kl2 _ _ (ne_of hq hon4 (by intro z; cases z)) hq
          refine loop_put (d := on) (od := od2) (E := Do) (tot := mo) (T0 := M) (L := prod (bxn m) (Db.take j) Do) (f := fun q => (k.1 + q.1 + bxn m, k.2 + q.2)) (c := fun x => n * x) (S := fun σ => ∃ y9 y10, σ = [some (.ref c), some (.ref tot), some (.ref bd), some (.ref on), some (.ref qa), some mv, some (iv m.n), some (V.int (0 + (i : Int))), some (.ref mo), y9, y10])
            upd_same (by rw [upd_ne (Ne.symm nom_)]; exact hM) hRM ?_ (fun p hp => Nat.mul_pos (hR.ps _ hkn) (hO.ps p hp)) ⟨_, _, rfl⟩ ?_ ?_
          · rw [← prod_take hp]
            exact Nat.lt_of_le_of_lt (prod_le _ _ _ _) (by omega)
          · rintro k' n' qb σ' H5 T' Dn hm' ⟨y9, y10, rfl⟩ hq' hfz k5 hT nd hl cont
            have hm6 := hml5.kp (kpt_dT k5 (by rw [upd_ne (Ne.symm nom_)]; exact hM))
            have hbd6 := k5 _ _ nbm hbdl5
            have hqa6 := k5 _ _ (fun z => by
              have z : qa = mo := z
              rw [z, upd_ne (Ne.symm nom_), hM] at hql5
              cases hql5) hql5
            have hn6 : n' ≤ 5000 := Nat.le_trans (hO.cnt hm') hOl
            refine ⟨_, rfl, qa, _, 0, _, rfl, rfl, at_t hqa6, rfl, _, rfl, qb, _, 0, _, rfl, rfl, at_t hq', rfl, _, _, rfl, rfl, ?_⟩
            refine ⟨_, rfl, _, _, mode_dp hm6, .str _, mode_shaped m, once_shaped, .inr ⟨!m.isOnce, by rw [mode_eqv], _, _, rfl, rfl, ?_⟩⟩
            refine ⟨_, rfl, _, rfl, ?_⟩
            refine ⟨_, rfl, qa, _, 1, _, rfl, rfl, at_t hqa6, rfl, _, rfl, qb, _, 1, _, rfl, rfl, at_t hq', rfl, _, _, rfl, rfl, (by show 2 ≤ sizeLine; decide), fun b nb => ?_⟩
            have er : V.int ((k.1 : Int) + (k'.1 : Int) + (if (!m.isOnce) = true then (1 : Int) else 0)) = iv (k.1 + k'.1 + bxn m) := by
              rw [bxn_int]
              rfl
            dsimp only
            rw [er]
            have sb : Same H5 (upd H5 b (.tup [iv (k.1 + k'.1 + bxn m), V.int ((k.2 : Int) + (k'.2 : Int))])) := Same.new nb
            refine ⟨_, rfl, _, rfl, bd, _, rfl, dget_frz (sb _ _ hbd6) (sb _ _ hqa6) hR.nd hkn, ?_⟩
            refine ⟨_, rfl, _, rfl, on, _, rfl, dget_frz (sb _ _ hfz) (sb _ _ hq') hO.nd hm', _, _, rfl, rfl, mulW (small_nat (by omega)) (small_nat (by omega)), ?_⟩
            exact ⟨mo, b, T', (k.1 + k'.1 + bxn m, k.2 + k'.2), n * n', rfl, sb _ _ hT, upd_same, nd, hl, cont _ _ ⟨_, _, rfl⟩ ((Kp.of sb).put rfl) upd_same⟩
          · rintro σ' H5 T' ⟨y9, y10, rfl⟩ k5 hfz hT hR5
            have k6 := kp_unlock hon4 k5
            refine ⟨hfz, k4.trans k6, T', _, _, _, by rw [upd_ne (Ne.symm nom_)]; exact hT, ?_, rfl⟩
            rw [prod_take hp]
            exact hR5
        · rintro σ' H4 ⟨k4, M, y4, y9, y10, hM, hRM, rfl⟩
          have hfz := k4 _ _ nbm hbdl
          have k5 := kp_unlock hbd3 k4
          refine ⟨hfz, ?_⟩
          rw [List.take_length] at hRM
          have hM5 : (upd H4 bd (.dT (enc Db))) mo = some (.dT (enc M)) := by rw [upd_ne (Ne.symm nbm)]; exact hM
          have s5 : Same H' (upd H4 bd (.dT (enc Db))) := same_kp s3 k5 nmo
          generalize upd H4 bd (.dT (enc Db)) = H5 at s5 hM5 ⊢
          have hRn := hRM.perm hpp2
          refine ⟨_, rfl, mo, _, rfl, .inl hM5, hash_nd hRM.nd (fun p hp => ?_), fun nb nnb => ?_⟩
          · have z := hin (i + 1) hi p.1 (hRn.key hp)
            omega
          · have sn : Same H5 (upd H5 nb (.dT (enc M))) := Same.new nnb
            refine ⟨sm.trans (s5.trans sn), nb, M, _, _, _, _, _, upd_same, ?_, ?_, hRn, rfl⟩
            · exact fun z => by rw [z, s5 _ _ ht'] at nnb; cases nnb
            · exact fun z => by rw [← z, s5 _ _ hon'] at nnb; cases nnb
      · rintro σ' H' ⟨sm, bd, Db, y4, y7, y8, y9, y10, hbd, nbt, nob, hR, rfl⟩
        have ht' := sm _ _ ht2
        have hc' := (kpT_same sm).tup hc2
        refine ⟨bd, _, hbd, trivial, fun od => ⟨_, rfl, bd, od, rfl, .inr ⟨_, upd_same, ?_⟩⟩⟩
        have kl : Kp (only1 bd) H' (upd H' bd (.frz od (.dT (enc Db)))) := Kp.refl.put rfl
        have hcl := (kpt_dT kl hbd).tup hc'
        refine loop_put (d := bd) (od := od) (E := Db) (tot := tot) (T0 := []) (L := []) (f := (fun x => (x.1 + 1, x.2 + 0))) (c := fun n => n) (S := fun σ => ∃ y4 y7 y8 y9 y10, σ = [some (.ref c), some (.ref tot), some (.ref bd), some (.ref on), y4, some mv, some (iv m.n), y7, y8, y9, y10]) upd_same (by rw [upd_ne (Ne.symm nbt)]; exact ht') Rep.nil ?_ hR.ps ⟨_, _, _, _, _, rfl⟩ ?_ ?_
        · rw [List.nil_append, mvd_map, List.length_map, hR.pm.length_eq]
          omega
        · rintro k n qa σ' H5 T' Dn hkm ⟨y4, y7, y8, y9, y10, rfl⟩ hq hfz k1 hT nd hl cont
          have hc5 := (kpt_dT k1 (by rw [upd_ne (Ne.symm nbt)]; exact ht')).tup hcl
          refine ⟨_, rfl, c, _, 0, _, rfl, rfl, hc5, rfl, rfl, _, rfl, iteF ?_⟩
          refine ⟨_, rfl, _, rfl, qa, _, 0, _, rfl, rfl, at_t hq, rfl, _, _, rfl, rfl, _, rfl, qa, _, 1, _, rfl, rfl, at_t hq, rfl, (by show 2 ≤ sizeLine; decide), fun b nb => ?_⟩
          have sb : Same H5 (upd H5 b (.tup [V.int ((k.1 : Int) + 1), iv k.2])) := Same.new nb
          exact ⟨_, rfl, _, rfl, bd, _, rfl, dget_frz (sb _ _ hfz) (sb _ _ hq) hR.nd hkm, tot, b, T', (k.1 + 1, k.2 + 0), n, rfl, sb _ _ hT, upd_same, nd, hl, cont _ _ ⟨_, _, _, _, _, rfl⟩ ((Kp.of sb).put rfl) upd_same⟩
        · rintro σ' H5 T' ⟨y4, y7, y8, y9, y10, rfl⟩ k1 hfz hT hR'
          have k2 := kp_unlock hbd k1
          refine ⟨hfz, _, rfl, ?_⟩
          refine q tot _ T' (same_kp s0 ((Kp.of ((s1.trans s2).trans sm)).trans k2) nt) nt (by rw [upd_ne (Ne.symm nbt)]; exact hT) (hR'.perm ?_)
          rw [List.nil_append, mvd_map]
          exact (hR.pm.trans hbp.symm).map _
    · refine ⟨_, rfl, _, _, mode_dp hm2, .str _, mode_shaped m, once_shaped, _, rfl, ?_⟩
      rw [mode_eqv]
      cases m with
      | once => exact iteF els
      | box n dd =>
        refine iteT ?_
        obtain ⟨cm, rfl, hcm⟩ := hm2
        exact ⟨_, rfl, cm, _, 0, _, rfl, rfl, hcm, rfl, els⟩
end
end W77
namespace W77
open PySem PySem.Spec PyProof.Rows L2 HX
/-! ### the text of a derivation -/
def leafD : V → PyData
  | .str x => .str x
  | .int i => .int i
  | _ => .none
def wordD : PyData := .tuple [.str "word", .str "p"]
def sentD : Bool → PyData
  | false => wordD
  | true => .tuple [.str "menu", wordD, wordD]
def Dv.dat : Dv → PyData
  | .own x => .tuple [.str "own", leafD x]
  | .pick x s b => .tuple [.str "pick", leafD x, .str s, b.dat]
  | .offer a b => .tuple [.str "offer", a.dat, b.dat]
  | .cut m mn a b => .tuple [.str "cut", modeD m, sentD mn, a.dat, b.dat]
  | .pay nm m a b => .tuple [.str "pay", .str nm, modeD m, a.dat, b.dat]
section
variable {K : PySem.W.Frag} {H : Hp}
theorem leaf_dp {x : V} (h : Leaf x) : Dp K H x (leafD x) := by
  rcases h with rfl | rfl | ⟨n, _, rfl⟩
  · exact .str _
  · exact .str _
  · exact .int _
theorem word_dp {v : V} (h : WordAt K H v) : Dp K H v wordD := by
  obtain ⟨a, rfl, q⟩ := h
  exact .tup q (.cons (.str _) (.cons (.str _) .nil))
theorem sent_dp {v : V} : ∀ {b : Bool}, SentAt K H v b → Dp K H v (sentD b)
  | false, h => word_dp h
  | true, h => by
    obtain ⟨a, y, z, rfl, q, h1, h2⟩ := h
    exact .tup q (.cons (.str _) (.cons (word_dp h1) (.cons (word_dp h2) .nil)))
theorem dv_dp : ∀ {t : Dv} {v : V}, DvAt K H v t → t.Nm → Dp K H v t.dat
  | .own x, _, h, n => by
    obtain ⟨a, rfl, q⟩ := h
    exact .tup q (.cons (.str _) (.cons (leaf_dp n) .nil))
  | .pick x s b, _, h, n => by
    obtain ⟨a, y, rfl, q, hb⟩ := h
    exact .tup q (.cons (.str _) (.cons (leaf_dp n.1) (.cons (.str _) (.cons (dv_dp hb n.2.2) .nil))))
  | .offer b c, _, h, n => by
    obtain ⟨a, y, z, rfl, q, hb, hc⟩ := h
    exact .tup q (.cons (.str _) (.cons (dv_dp hb n.1) (.cons (dv_dp hc n.2) .nil)))
  | .cut m mn b c, _, h, n => by
    obtain ⟨a, mv, sv, y, z, rfl, q, hm, hs, hb, hc⟩ := h
    exact .tup q (.cons (.str _) (.cons (mode_dp hm) (.cons (sent_dp hs) (.cons (dv_dp hb n.2.1) (.cons (dv_dp hc n.2.2) .nil)))))
  | .pay nm m b c, _, h, n => by
    obtain ⟨a, mv, y, z, rfl, q, hm, hb, hc⟩ := h
    exact .tup q (.cons (.str _) (.cons (.str _) (.cons (mode_dp hm) (.cons (dv_dp hb n.2.2.1) (.cons (dv_dp hc n.2.2.2) .nil)))))
end
/-- data that may be shown: its leaves are short, it is showable, its weight is known -/
structure Shw (d : PyData) (dep wt : Nat) : Prop where
  short : d.leavesShort 13 = true
  show_ : d.showable = true
  dep_ : d.depth ≤ dep
  wt_ : d.weight ≤ wt
theorem Shw.mono {d : PyData} {a b a' b' : Nat} (h : Shw d a b) (h1 : a ≤ a') (h2 : b ≤ b') : Shw d a' b' := ⟨h.short, h.show_, Nat.le_trans h.dep_ h1, Nat.le_trans h.wt_ h2⟩
theorem n1000 : ∀ k : Fin 1000, ((PyData.leavesShort 13 (natD k.val)) && (natD k.val).showable && decide ((natD k.val).weight ≤ 10)) = true := by decide +kernel
theorem shw_nat {k : Nat} (h : k < 1000) : Shw (.int (k : Int)) 0 10 := by
  have := n1000 ⟨k, h⟩
  rw [Bool.and_eq_true, Bool.and_eq_true, decide_eq_true_eq] at this
  exact ⟨this.1.1, this.1.2, by simp only [PyData.depth]; omega, this.2⟩
theorem shw_str {x : Str} (hl : x.length ≤ 12) (hc : ∀ c, c ∈ x.cps.toList → c < 128) : Shw (.str x) 0 12 := by
  refine ⟨?_, by simp only [PyData.showable], by simp only [PyData.depth]; omega, ?_⟩
  · simp only [PyData.leavesShort]
    rw [List.all_eq_true]
    intro c hm
    rw [decide_eq_true_eq]
    exact Nat.lt_of_lt_of_le (hc c hm) (by decide)
  · simp only [PyData.weight]
    exact hl
theorem shw_nou {x : Str} (hl : x.length ≤ 12) (h : NoU x) : Shw (.str x) 0 12 := shw_str hl fun c hc => (h c hc).1
theorem shw_lit {x : Str} (h : (decide (x.length ≤ 12) && x.cps.toList.all fun c => decide (c < 128)) = true) : Shw (.str x) 0 12 := by
  rw [Bool.and_eq_true, decide_eq_true_eq, List.all_eq_true] at h
  exact shw_str h.1 fun c hc => of_decide_eq_true (h.2 c hc)
inductive ShwAll : List PyData → Nat → Nat → Prop
  | nil {d : Nat} : ShwAll [] d 0
  | cons {x : PyData} {xs : List PyData} {d w w' : Nat} (h : Shw x d w) (t : ShwAll xs d w') : ShwAll (x :: xs) d (w + 1 + w')
theorem ShwAll.all {xs : List PyData} {d w : Nat} (h : ShwAll xs d w) : PyData.leavesShortAll 13 xs = true ∧ PyData.showableAll xs = true ∧ PyData.depthAll xs ≤ d ∧ PyData.weightAll xs ≤ w := by
  induction h with
  | nil =>
    simp only [PyData.leavesShortAll, PyData.showableAll, PyData.depthAll, PyData.weightAll]
    exact ⟨trivial, trivial, Nat.zero_le _, Nat.zero_le _⟩
  | cons h t ih =>
    obtain ⟨h1, h2, h3, h4⟩ := ih
    simp only [PyData.leavesShortAll, PyData.showableAll, PyData.depthAll, PyData.weightAll, h.short, h.show_, h1, h2, Bool.and_self]
    have z1 := h.dep_
    have z2 := h.wt_
    refine ⟨trivial, trivial, by omega, by omega⟩
theorem ShwAll.tup {xs : List PyData} {d w : Nat} (h : ShwAll xs d w) : Shw (.tuple xs) (d + 1) w := by
  obtain ⟨h1, h2, h3, h4⟩ := h.all
  exact ⟨by simpa only [PyData.leavesShort] using h1, by simpa only [PyData.showable] using h2, by simp only [PyData.depth]; omega, by simpa only [PyData.weight] using h4⟩
theorem shw_leaf {x : V} (h : Leaf x) : Shw (leafD x) 0 12 := by
  rcases h with rfl | rfl | ⟨n, hn, rfl⟩
  · exact shw_lit (by decide +kernel)
  · exact shw_lit (by decide +kernel)
  · exact (shw_nat (k := n) (by omega)).mono (Nat.le_refl _) (by decide)
theorem shw_mode {m : Mode} (h : m.Ok) : Shw (modeD m) 1 22 := by
  cases m with
  | once => exact (shw_lit (by decide +kernel)).mono (by decide) (by decide)
  | box n d =>
    obtain ⟨h1, h2⟩ := h
    exact (ShwAll.cons (shw_nat (k := n) (by omega)) (.cons (shw_nat (k := d) (by omega)) .nil)).tup
theorem shw_word : Shw wordD 1 26 := (ShwAll.cons (shw_lit (by decide +kernel)) (.cons (shw_lit (by decide +kernel)) .nil)).tup
theorem shw_sent : ∀ b : Bool, Shw (sentD b) 2 67
  | false => shw_word.mono (by decide) (by decide)
  | true => (ShwAll.cons ((shw_lit (x := "menu") (by decide +kernel)).mono (Nat.zero_le 1) (Nat.le_refl _)) (.cons shw_word (.cons shw_word .nil))).tup
theorem Dv.shw : ∀ t : Dv, t.Nm → Shw t.dat (t.dp + 3) (t.sz * 120)
  | .own x, n => ((ShwAll.cons (shw_lit (by decide +kernel)) (.cons (shw_leaf n) .nil)).tup).mono (Nat.le_add_left 1 2) (by show 12 + 1 + (12 + 1 + 0) ≤ 1 * 120; decide)
  | .pick x s b, n => by
    have h := Dv.shw b n.2.2
    have hs : Shw (.str s) 0 12 := by
      rcases n.2.1 with rfl | rfl
      · exact shw_lit (by decide +kernel)
      · exact shw_lit (by decide +kernel)
    refine ((ShwAll.cons ((shw_lit (x := "pick") (by decide +kernel)).mono (Nat.zero_le (b.dp + 3)) (Nat.le_refl _)) (.cons ((shw_leaf n.1).mono (Nat.zero_le _) (Nat.le_refl _)) (.cons (hs.mono (Nat.zero_le _) (Nat.le_refl _)) (.cons h .nil)))).tup).mono ?_ ?_
    · show b.dp + 3 + 1 ≤ b.dp + 1 + 3
      omega
    · show 12 + 1 + (12 + 1 + (12 + 1 + (b.sz * 120 + 1 + 0))) ≤ (b.sz + 1) * 120
      omega
  | .offer a b, n => by
    have h1 := (Dv.shw a n.1).mono (show a.dp + 3 ≤ max a.dp b.dp + 3 by omega) (Nat.le_refl _)
    have h2 := (Dv.shw b n.2).mono (show b.dp + 3 ≤ max a.dp b.dp + 3 by omega) (Nat.le_refl _)
    refine ((ShwAll.cons ((shw_lit (x := "offer") (by decide +kernel)).mono (Nat.zero_le (max a.dp b.dp + 3)) (Nat.le_refl _)) (.cons h1 (.cons h2 .nil))).tup).mono ?_ ?_
    · show max a.dp b.dp + 3 + 1 ≤ max a.dp b.dp + 1 + 3
      omega
    · show 12 + 1 + (a.sz * 120 + 1 + (b.sz * 120 + 1 + 0)) ≤ (a.sz + b.sz + 1) * 120
      omega
  | .cut m mn a b, n => by
    have h1 := (Dv.shw a n.2.1).mono (show a.dp + 3 ≤ max a.dp b.dp + 3 by omega) (Nat.le_refl _)
    have h2 := (Dv.shw b n.2.2).mono (show b.dp + 3 ≤ max a.dp b.dp + 3 by omega) (Nat.le_refl _)
    refine ((ShwAll.cons ((shw_lit (x := "cut") (by decide +kernel)).mono (Nat.zero_le (max a.dp b.dp + 3)) (Nat.le_refl _)) (.cons ((shw_mode n.1).mono (by omega) (Nat.le_refl _)) (.cons ((shw_sent mn).mono (by omega) (Nat.le_refl _)) (.cons h1 (.cons h2 .nil))))).tup).mono ?_ ?_
    · show max a.dp b.dp + 3 + 1 ≤ max a.dp b.dp + 1 + 3
      omega
    · show 12 + 1 + (22 + 1 + (67 + 1 + (a.sz * 120 + 1 + (b.sz * 120 + 1 + 0)))) ≤ (a.sz + b.sz + 1) * 120
      omega
  | .pay nm m a b, n => by
    have h1 := (Dv.shw a n.2.2.1).mono (show a.dp + 3 ≤ max a.dp b.dp + 3 by omega) (Nat.le_refl _)
    have h2 := (Dv.shw b n.2.2.2).mono (show b.dp + 3 ≤ max a.dp b.dp + 3 by omega) (Nat.le_refl _)
    refine ((ShwAll.cons ((shw_lit (x := "pay") (by decide +kernel)).mono (Nat.zero_le (max a.dp b.dp + 3)) (Nat.le_refl _)) (.cons ((shw_nou n.1.2 n.1.1).mono (Nat.zero_le _) (Nat.le_refl _)) (.cons ((shw_mode n.2.1).mono (by omega) (Nat.le_refl _)) (.cons h1 (.cons h2 .nil))))).tup).mono ?_ ?_
    · show max a.dp b.dp + 3 + 1 ≤ max a.dp b.dp + 1 + 3
      omega
    · show 12 + 1 + (12 + 1 + (22 + 1 + (a.sz * 120 + 1 + (b.sz * 120 + 1 + 0)))) ≤ (a.sz + b.sz + 1) * 120
      omega
theorem Shw.fits {d : PyData} {dep wt : Nat} (h : Shw d dep wt) (hw : wt ≤ 1048576) : d.shown.length ≤ sizeLine := PyData.shown_fits (by decide) (by decide) h.short (Nat.le_trans h.wt_ (by
  have e : (2 : Nat) ^ 20 = 1048576 := by decide
  omega))
/-! ### cut in the text -/
theorem nou_join {sep : Str} {ts : List Str} (h0 : NoU sep) (h : ∀ t, t ∈ ts → NoU t) : NoU (Str.join sep ts) := fun c hc => by
  rcases (mem_join sep c ts).mp hc with ⟨t, ht, h1⟩ | ⟨_, h1⟩
  · exact h t ht c h1
  · exact h0 c h1
theorem hex_nou : ∀ c : Fin 128, (([92, 120] ++ (List.replicate (2 - ((Nat.toDigits 16 c.val).map Char.toNat).length) 48 ++ (Nat.toDigits 16 c.val).map Char.toNat)).all (fun b => decide (b < 128 ∧ b ≠ 117))) = true := by decide +kernel
theorem nou_char {q c b : Nat} (hc : c < 128 ∧ c ≠ 117) (hb : b ∈ PySem.Builtin.Str.reprChar q c) : b < 128 ∧ b ≠ 117 := by
  unfold PySem.Builtin.Str.reprChar at hb
  dsimp only at hb
  split at hb
  · rcases List.mem_cons.mp hb with e | hb
    · omega
    · rw [List.mem_singleton.mp hb]
      exact hc
  split at hb
  · rcases List.mem_cons.mp hb with e | hb
    · omega
    · rw [List.mem_singleton.mp hb]
      decide
  split at hb
  · rcases List.mem_cons.mp hb with e | hb
    · omega
    · rw [List.mem_singleton.mp hb]
      decide
  split at hb
  · rcases List.mem_cons.mp hb with e | hb
    · omega
    · rw [List.mem_singleton.mp hb]
      decide
  split at hb
  · rw [List.mem_singleton.mp hb]
    exact hc
  rw [if_pos (by omega)] at hb
  have h := hex_nou ⟨c, hc.1⟩
  rw [List.all_eq_true] at h
  exact of_decide_eq_true (h b hb)
theorem nou_fold {q : Nat} : ∀ {l : List Nat} {acc : Array Nat}, (∀ c, c ∈ l → c < 128 ∧ c ≠ 117) → (∀ b, b ∈ acc.toList → b < 128 ∧ b ≠ 117) → ∀ b, b ∈ (l.foldl (fun out c => out ++ (PySem.Builtin.Str.reprChar q c).toArray) acc).toList → b < 128 ∧ b ≠ 117
  | [], acc, _, h2 => h2
  | c :: l, acc, h1, h2 => by
    rw [List.foldl_cons]
    refine nou_fold (fun d hd => h1 d (List.mem_cons_of_mem _ hd)) fun b hb => ?_
    rw [Array.toList_append] at hb
    rcases List.mem_append.mp hb with hb | hb
    · exact h2 b hb
    · exact nou_char (h1 c List.mem_cons_self) (by simpa using hb)
theorem nou_repr {x : Str} (h : NoU x) : NoU (reprText x) := by
  have hq : reprQuote x < 128 ∧ reprQuote x ≠ 117 := by
    unfold reprQuote
    split <;> decide
  intro b hb
  unfold reprText at hb
  have hb : b ∈ ((x.cps.foldl (fun out c => out ++ (PySem.Builtin.Str.reprChar (reprQuote x) c).toArray) #[reprQuote x]).push (reprQuote x)).toList := hb
  rw [Array.toList_push] at hb
  rcases List.mem_append.mp hb with hb | hb
  · rw [← Array.foldl_toList] at hb
    exact nou_fold h (fun d hd => by
      have e : d = reprQuote x := by simpa using hd
      rw [e]
      exact hq) b hb
  · rw [List.mem_singleton.mp hb]
    exact hq
inductive NouAll : List PyData → Prop
  | nil : NouAll []
  | cons {x : PyData} {xs : List PyData} (h : NoU x.shown) (t : NouAll xs) : NouAll (x :: xs)
theorem NouAll.all {xs : List PyData} (h : NouAll xs) : ∀ t, t ∈ PyData.shownAll xs → NoU t := by
  induction h with
  | nil =>
    intro t ht
    simp only [PyData.shownAll] at ht
    cases ht
  | cons h t ih =>
    intro y hy
    simp only [PyData.shownAll] at hy
    rcases List.mem_cons.mp hy with e | e
    · rw [e]
      exact h
    · exact ih y e
theorem NouAll.tup {xs : List PyData} (h : NouAll xs) : NoU (PyData.tuple xs).shown := by
  rw [PyData.shown_tuple]
  refine nou_app (nou_app (nou_lit (by decide +kernel)) (nou_join (nou_lit (by decide +kernel)) h.all)) ?_
  split
  · exact nou_lit (by decide +kernel)
  · exact nou_lit (by decide +kernel)
theorem nou_str {x : Str} (h : NoU x) : NoU (PyData.str x).shown := by
  simp only [PyData.shown]
  exact nou_repr h
theorem nou_nat {k : Nat} (h : k < 1000) : NoU (PyData.int (k : Int)).shown := by
  simp only [PyData.shown]
  exact (nou_int h).1
theorem nou_leaf {x : V} (h : Leaf x) : NoU (leafD x).shown := by
  rcases h with rfl | rfl | ⟨n, hn, rfl⟩
  · exact nou_str (nou_lit (by decide +kernel))
  · exact nou_str (nou_lit (by decide +kernel))
  · exact nou_nat (k := n) (by omega)
theorem nou_mode {m : Mode} (h : m.Ok) : NoU (modeD m).shown := by
  cases m with
  | once => exact nou_str (nou_lit (by decide +kernel))
  | box n d =>
    obtain ⟨h1, h2⟩ := h
    exact (NouAll.cons (nou_nat (k := n) (by omega)) (.cons (nou_nat (k := d) (by omega)) .nil)).tup
theorem Dv.nou : ∀ t : Dv, t.Nm → t.cuts = false → NoU t.dat.shown
  | .own x, n, _ => (NouAll.cons (nou_str (nou_lit (by decide +kernel))) (.cons (nou_leaf n) .nil)).tup
  | .pick x s b, n, h => by
    have hs : NoU (PyData.str s).shown := by
      rcases n.2.1 with rfl | rfl
      · exact nou_str (nou_lit (by decide +kernel))
      · exact nou_str (nou_lit (by decide +kernel))
    exact (NouAll.cons (nou_str (nou_lit (by decide +kernel))) (.cons (nou_leaf n.1) (.cons hs (.cons (Dv.nou b n.2.2 h) .nil)))).tup
  | .offer a b, n, h => by
    have h : (a.cuts || b.cuts) = false := h
    rw [Bool.or_eq_false_iff] at h
    exact (NouAll.cons (nou_str (nou_lit (by decide +kernel))) (.cons (Dv.nou a n.1 h.1) (.cons (Dv.nou b n.2 h.2) .nil))).tup
  | .cut m mn a b, n, h => by cases h
  | .pay nm m a b, n, h => by
    have h : (a.cuts || b.cuts) = false := h
    rw [Bool.or_eq_false_iff] at h
    exact (NouAll.cons (nou_str (nou_lit (by decide +kernel))) (.cons (nou_str n.1.1) (.cons (nou_mode n.2.1) (.cons (Dv.nou a n.2.2.1 h.1) (.cons (Dv.nou b n.2.2.2 h.2) .nil))))).tup
/-- y stands in x -/
def Has (x y : Str) : Prop := ∃ a b : List Nat, x.cps.toList = a ++ y.cps.toList ++ b
theorem cps_app (x y : Str) : (x ++ y).cps.toList = x.cps.toList ++ y.cps.toList := by
  show (x.cps ++ y.cps).toList = _
  rw [Array.toList_append]
theorem Has.left {x y : Str} (z : Str) (h : Has x y) : Has (z ++ x) y := by
  obtain ⟨a, b, e⟩ := h
  refine ⟨z.cps.toList ++ a, b, ?_⟩
  rw [cps_app, e]
  simp only [List.append_assoc]
theorem Has.right {x y : Str} (z : Str) (h : Has x y) : Has (x ++ z) y := by
  obtain ⟨a, b, e⟩ := h
  refine ⟨a, b ++ z.cps.toList, ?_⟩
  rw [cps_app, e]
  simp only [List.append_assoc]
theorem has_join {sep y : Str} : ∀ {ts : List Str} {t : Str}, t ∈ ts → Has t y → Has (Str.join sep ts) y
  | [], _, h, _ => absurd h List.not_mem_nil
  | [x], t, h, k => by
    rw [List.mem_singleton.mp h] at k
    exact k
  | x :: z :: r, t, h, k => by
    show Has (x ++ sep ++ Str.join sep (z :: r)) y
    rcases List.mem_cons.mp h with e | e
    · rw [e] at k
      exact (k.right sep).right _
    · exact (has_join e k).left _
theorem has_tup {xs : List PyData} {t y : Str} (h : t ∈ PyData.shownAll xs) (k : Has t y) : Has (PyData.tuple xs).shown y := by
  rw [PyData.shown_tuple]
  exact ((has_join h k).left _).right _
theorem Dv.has_cut : ∀ t : Dv, t.cuts = true → Has t.dat.shown "cut"
  | .own x, h => by cases h
  | .pick x s b, h => by
    refine has_tup (t := b.dat.shown) ?_ (Dv.has_cut b h)
    simp only [PyData.shownAll]
    simp
  | .offer a b, h => by
    have h : (a.cuts || b.cuts) = true := h
    rw [Bool.or_eq_true] at h
    rcases h with h | h
    · refine has_tup (t := a.dat.shown) ?_ (Dv.has_cut a h)
      simp only [PyData.shownAll]
      simp
    · refine has_tup (t := b.dat.shown) ?_ (Dv.has_cut b h)
      simp only [PyData.shownAll]
      simp
  | .cut m mn a b, h => by
    refine has_tup (t := reprText "cut") ?_ ⟨[39], [39], by decide +kernel⟩
    simp only [PyData.shownAll, PyData.shown]
    simp
  | .pay nm m a b, h => by
    have h : (a.cuts || b.cuts) = true := h
    rw [Bool.or_eq_true] at h
    rcases h with h | h
    · refine has_tup (t := a.dat.shown) ?_ (Dv.has_cut a h)
      simp only [PyData.shownAll]
      simp
    · refine has_tup (t := b.dat.shown) ?_ (Dv.has_cut b h)
      simp only [PyData.shownAll]
      simp
theorem found_has {x y : Str} (h : Has x y) : (!(Builtin.Str.occurrences x y 0 x.length 1).isEmpty) = true := by
  rw [StrLaws.found_iff]
  obtain ⟨a, b, e⟩ := h
  have el : x.length = a.length + y.length + b.length := by
    show x.cps.size = a.length + y.cps.size + b.length
    have z : x.cps.toList.length = a.length + y.cps.toList.length + b.length := by rw [e, List.length_append, List.length_append]
    rw [Array.length_toList, Array.length_toList] at z
    exact z
  refine ⟨a.length, by omega, ?_⟩
  rw [StrLaws.subAt_eq, e, beq_iff_eq, List.append_assoc, List.drop_left]
  have ey : y.length = y.cps.toList.length := by
    show y.cps.size = _
    rw [Array.length_toList]
  rw [ey, List.take_left]
theorem found_nou {x : Str} (h : NoU x) : (!(Builtin.Str.occurrences x "cut" 0 x.length 1).isEmpty) = false := by
  rw [Bool.eq_false_iff]
  intro z
  obtain ⟨i, _, z⟩ := (StrLaws.found_iff _ _).mp z
  rw [StrLaws.subAt_eq, beq_iff_eq] at z
  have m : 117 ∈ ("cut" : Str).cps.toList := by decide +kernel
  rw [← z] at m
  exact (h 117 (List.mem_of_mem_drop (List.mem_of_mem_take m))).2 rfl
theorem Dv.found {t : Dv} (n : t.Nm) : (!(Builtin.Str.occurrences t.dat.shown "cut" 0 t.dat.shown.length 1).isEmpty) = t.cuts := by
  cases h : t.cuts with
  | true => exact found_has (Dv.has_cut t h)
  | false => exact found_nou (Dv.nou t n h)
end W77
namespace W77
open PySem PySem.Spec PyProof.Rows L2 HX
section
variable {P : Program} {w : World} {K : PySem.W.Frag} {mg : Str → Option Value} {base : Heap}
theorem lib_same {C x dx : Addr} {H H1 : Hp} (nx : H x = none) (nd : H dx = none) (ne : dx ≠ x) (k : Kp (only1 x) (upd (upd H dx (.own x)) x (.ins C dx [])) H1) : Same H H1 := fun b o e => by
  have h1 : b ≠ x := fun z => by rw [z, nx] at e; cases e
  have h2 : b ≠ dx := fun z => by rw [z, nd] at e; cases e
  exact k _ _ h1 (by rw [upd_ne h1, upd_ne h2]; exact e)
def spLP (K : PySem.W.Frag) : Sp := fun vs H Q _ => ∃ (v : V) (f : Addr) (t : Dv) (F : List (Pl × Nat)), vs = [v, .ref f] ∧ DvAt K H v t ∧ t.Good ∧ t.dp < 40 ∧ t.pl.length ≤ 5000 ∧ H f = some (.dT (enc F)) ∧ Rep F t.pl ∧ ∀ H', Same H H' → Q (.bl true) H'
theorem ok_law_plays {k : Nat} (T : Tx K mg w) (G_Library__init : FnOk P w K mg base CX0 k T.a_Library__init T.d_Library__init ["self"] (spLInit T.C_Library)) (G_plays : FnOk P w K mg base CX0 (k + 1) T.a_plays T.d_plays ["library", "derivation"] (spPlays K T.C_Library))
    (G_law_put : FnOk P w K mg base CX0 (k + 1) T.a_law_put T.d_law_put ["total", "play", "many"] spPut) :
    FnOk P w K mg base CX0 (k + 2) T.a_law_plays T.d_law_plays ["tree", "found"] (spLP K) := by
  refine T.F_law_plays.ok sc_law_plays (fun vs H Q E h => ?_) (fun cdv A outer s H vs Q E hr h => ?_)
  · obtain ⟨_, _, _, _, rfl, _⟩ := h
    rfl
  obtain ⟨v, f, t, F, rfl, hv, hg, hd, h5, hf, hF, q⟩ := h
  have hu2 : (A.deeper (envOfC "_law_plays" (defScope s_law_plays) s.heap.objs.size T.a_law_plays cdv)).units + 2 < cLine := by
    have := hr.units
    omega
  refine ⟨_, (pss_cons (ps_set (i := 2) sc_law_plays.nd rfl (Or.inl rfl) (pe_call G_plays hr (by rfl) T.m_plays T.F_plays.kp T.b_plays .nil pass0 (pa_cons (pe_make0 T.k_Library G_Library__init hr (by rfl) T.c_Library T.b_Library__init .nil pass0) (pa_cons (pv 0) pa_nil))))
      (pss_cons (ps_if (pt_not (pt_val (pe_callB RZ.call_isTy (by rfl) T.z_isinstance (by decide +kernel) (pa_cons (pv 2) (pa_cons (pe_bltn (v := .ty "list") (by rfl) T.z_list (by decide +kernel) rfl) pa_nil))))) (pss_one (ps_ret pe_bl)) pss_nil)
      (pss_cons (ps_set (i := 3) sc_law_plays.nd rfl (Or.inl rfl) pe_dnewT)
      (pss_cons (ps_for PassesOwn.never rfl (piL K (pv 2)) (pg_name (i := 4) sc_law_plays.nd rfl (Or.inl rfl)) (pss_cons (ps_if (PW.pt (pw_or (pt_not (pt_val (pe_callB RZ.call_isTy (by rfl) T.z_isinstance (by decide +kernel) (pa_cons (pv 4) (pa_cons (pe_bltn (v := .ty "tuple") (by rfl) T.z_tuple (by decide +kernel) rfl) pa_nil))))) (pw_or1 (pt_cmpR op_ne (pe_callB (lenS K) (by rfl) T.z_len PySem.boot_len (pa_cons (pv 4) pa_nil)) pe_int (nomark _))))) (pss_one (ps_ret pe_bl)) pss_nil)
      (pss_one (ps_expr (pe_call G_law_put hr (by rfl) T.m_law_put T.F_law_put.kp T.b_law_put .nil pass0 (pa_cons (pv 3) (pa_cons (pv 4) (pa_cons pe_int pa_nil))))))))
      (pss_cons (ps_expr (pe_bm0 PySem.F.plainAttrs_list PySem.F.slot_list_clear PySem.F.type_list_clear mt_clear (pv 2)))
      (pss_one (ps_ret (pe_cmpR (op_eqT hu2) (pv 3) (pv 1) (nomark _))))))))), ?_⟩
  refine fun x dx nx ndx ne => ⟨x, dx, rfl, upd_same, fun H1 a m e k1 hx ha he => ⟨rfl, ?_⟩⟩
  have s1 := lib_same nx ndx ne k1
  refine ⟨_, rfl, .ref x, v, a, e, t, rfl, ⟨⟨x, dx, m, rfl, hx⟩, ha, he⟩, DvAt.kp (kpT_same s1) hv, hg, hd, Nat.le_trans h5 (by decide), fun tl H2 s2 ntl htl => ?_⟩
  obtain ⟨tl', xs, e0, htl, hp⟩ := htl
  cases e0
  refine ⟨_, rfl, _, _, rfl, .lst htl, _, rfl, iteF ?_⟩
  refine fun sn nsn => ?_
  have s3 : Same H2 (upd H2 sn (.dT [])) := Same.new nsn
  have hsn : (upd H2 sn (.dT [])) sn = some (.dT (enc [])) := upd_same
  generalize upd H2 sn (.dT []) = H3 at s3 hsn ⊢
  have htl3 := s3 _ _ htl
  have hp3 := Paired.mapP hp fun _ _ z => z.same s3
  have s13 := (s1.trans s2).trans s3
  have nsn0 : H sn = none := (s1.trans s2).free nsn
  have ntn : tl ≠ sn := ne_of htl3 hsn (by intro z; cases z)
  have kpk : ∀ {H'}, Kp (only1 sn) H3 H' → KpT (only1 sn) H3 H' := fun k => kpt_dT k hsn
  refine ⟨_, rfl, tl, rfl, ⟨xs, SqL.of htl3⟩, for_list (K := K) (a := tl) (xs := xs) (fun i σ' H' => Kp (only1 sn) H3 H' ∧ ∃ D y4, H' sn = some (.dT (enc D)) ∧ Rep D (t.pl.take i) ∧ σ' = [some v, some (.ref f), some (.ref tl), some (.ref sn), y4]) ⟨Kp.refl, [], _, hsn, Rep.nil, rfl⟩ (fun i σ' H' _ h => SqL.of (h.1 _ _ ntn htl3)) ?_ ?_⟩
  · rintro i y σ' H' hy ⟨k3, D, y4, hD, hR, rfl⟩
    obtain ⟨pl, hpl, b, rfl, hb⟩ := HX.Paired.getL hp3 hy
    have hb' : H' b = some (.tup [iv pl.1, iv pl.2]) := k3 _ _ (ne_of hb hsn (by intro z; cases z)) hb
    have hlen : D.length < 100000 := by
      have := hR.le
      rw [List.length_take] at this
      omega
    refine ⟨_, rfl, _, _, rfl, .tup hb', _, rfl, iteF ?_⟩
    refine ⟨_, rfl, b, _, rfl, .inr (at_t hb'), rfl, _, rfl, iteF ?_⟩
    refine ⟨_, rfl, _, rfl, sn, b, D, pl, 1, rfl, hD, hb', hR.nd, hlen, ?_⟩
    refine ⟨k3.put rfl, _, _, upd_same, ?_, rfl⟩
    rw [List.take_add_one, hpl]
    exact hR.add pl (by decide)
  · rintro σ' H' ⟨k3, D, y4, hD, hR, rfl⟩
    rw [Paired.len hp3, List.take_length] at hR
    have htl' := k3 _ _ ntn htl3
    refine ⟨_, rfl, .inl ⟨rfl, _, SqL.of htl'⟩, tl, xs, rfl, rfl, htl', ?_⟩
    have hfs : f ≠ sn := fun z => by rw [z, nsn0] at hf; cases hf
    have hf' : H' f = some (.dT (enc F)) := k3 _ _ hfs (s13 _ _ hf)
    have nft : f ≠ tl := fun z => by rw [z, htl'] at hf'; cases hf'
    have same := hR.same hF (.refl _)
    refine ⟨_, rfl, _, rfl, sn, f, enc D, enc F, rfl, rfl, by rw [upd_ne (Ne.symm ntn)]; exact hD, by rw [upd_ne nft]; exact hf', by rw [enc_len, enc_len]; exact hR.len hF (.refl _), ?_, ?_⟩
    · intro p hp
      obtain ⟨y, hy, rfl⟩ := List.mem_map.mp hp
      exact ⟨List.mem_map.mpr ⟨y, (same y).mp hy, rfl⟩, rfl⟩
    · refine q _ fun b o hb => ?_
      have h1 : b ≠ tl := fun z => by rw [z, s1.free ntl] at hb; cases hb
      rw [upd_ne h1]
      exact k3 _ _ (fun z => by
        have z : b = sn := z
        rw [z, nsn0] at hb
        cases hb) (s13 _ _ hb)
/-! ### a derivation is drawn -/
def rm : Nat → Nat
  | 0 => 400
  | i + 1 => rm i / 3
theorem rm_ok : ∀ i, i < 4 → 1 ≤ rm i ∧ rm i ≤ 400 := by decide
structure Drawn (t : Dv) : Prop where
  good : t.Good
  nm : t.Nm
  dp : t.dp < 20
  gp : t.gp ≤ 9000
  sz : t.sz ≤ 1600
def spDrawn (K : PySem.W.Frag) : Sp := fun vs H Q _ => ∃ (p : Addr), vs = [.ref p] ∧ PoolAt H p ∧ ∀ v t H', Kp (only1 p) H H' → PoolAt H' p → DvAt K H' v t → Drawn t → Q v H'
theorem ok_law_drawn {k : Nat} (T : Tx K mg w) (G_law_part : FnOk P w K mg base CX0 k T.a_law_part T.d_law_part ["pool", "level", "depth", "room"] (spPart K 9)) (G_law_numbers : FnOk P w K mg base CX0 k T.a_law_numbers T.d_law_numbers ["tree"] (spLN K 20)) :
    FnOk P w K mg base CX0 (k + 1) T.a_law_drawn T.d_law_drawn ["pool"] (spDrawn K) := by
  refine T.F_law_drawn.ok sc_law_drawn (fun vs H Q E h => ?_) (fun cdv A outer s H vs Q E hr h => ?_)
  · obtain ⟨_, rfl, _⟩ := h
    rfl
  obtain ⟨p, rfl, hp, q⟩ := h
  refine ⟨_, (pss_cons (ps_set (i := 1) sc_law_drawn.nd rfl (Or.inl rfl) pe_int)
      (pss_cons (ps_set (i := 2) sc_law_drawn.nd rfl (Or.inl rfl) pe_int)
      (pss_cons (ps_set (i := 3) sc_law_drawn.nd rfl (Or.inl rfl) (pe_tup (pa_cons pe_str (pa_cons pe_str pa_nil))))
      (pss_cons (ps_for PassesOwn.never rfl (pi_range1 (by rfl) T.z_range (pa_cons pe_int pa_nil)) (pg_name (i := 4) sc_law_drawn.nd rfl (Or.inl rfl)) (pss_cons (ps_set (i := 3) sc_law_drawn.nd rfl (Or.inl rfl) (pe_call G_law_part hr (by rfl) T.m_law_part T.F_law_part.kp T.b_law_part .nil pass0 (pa_cons (pv 0) (pa_cons pe_int (pa_cons (pv 2) (pa_cons (pv 1) pa_nil))))))
      (pss_cons (ps_if (pt_cmpR op_le (pe_ix (ixT K) (pe_call G_law_numbers hr (by rfl) T.m_law_numbers T.F_law_numbers.kp T.b_law_numbers .nil pass0 (pa_cons (pv 3) pa_nil)) pe_int (fun _ _ => rfl)) pe_int (nomark _)) (pss_one (ps_ret (pv 3))) pss_nil)
      (pss_cons (ps_set (i := 1) sc_law_drawn.nd rfl (Or.inl rfl) (pe_op op_fdiv (pv 1) pe_int))
      (pss_one (ps_set (i := 2) sc_law_drawn.nd rfl (Or.inl rfl) (pe_op op_sub (pv 2) pe_int)))))))
      (pss_one (ps_ret (pe_tup (pa_cons pe_str (pa_cons pe_str pa_nil))))))))), ?_⟩
  refine ⟨(by show 2 ≤ sizeLine; decide), fun b nb => ?_⟩
  have s0 : Same H (upd H b (.tup [.str "own", .str "s"])) := Same.new nb
  generalize upd H b (.tup [.str "own", .str "s"]) = H0 at s0 ⊢
  refine ⟨_, rfl, by decide, by decide, ?_⟩
  refine for_range (lo := 0) (n := 4) (fun i σ' H' => Kp (only1 p) H0 H' ∧ PoolAt H' p ∧ ∃ y3 y4, σ' = [some (.ref p), some (iv (rm i)), some (iv (8 - i)), y3, y4]) ⟨Kp.refl, hp.same s0, _, _, rfl⟩ ?_ ?_
  · rintro i σ' H' hi ⟨k1, hp1, y3, y4, rfl⟩
    obtain ⟨r1, r2⟩ := rm_ok i hi
    refine ⟨_, rfl, _, rfl, _, rfl, p, 8 - i, rm i, rfl, by omega, by omega, r1, r2, hp1, fun v t H2 k2 hp2 hv ht => ?_⟩
    have good := ht.good (by omega) r2
    have hdp := ht.dp
    have hsz := ht.sz
    have hsz2 : 6 * 2 ^ (8 - i) ≤ 6 * 2 ^ 8 := Nat.mul_le_mul_left _ (Nat.pow_le_pow_right (by decide) (by omega))
    refine ⟨_, rfl, v, t, rfl, hv, good, by omega, fun a H3 s3 ha => ?_⟩
    have k13 := (k1.trans k2).trans (Kp.of s3)
    refine ⟨a, _, 3, _, rfl, rfl, at_t ha, rfl, _, _, rfl, rfl, _, rfl, ite2 (fun c => ?_) (fun _ => ?_)⟩
    · have c := of_decide_eq_true c
      refine ⟨_, rfl, q v t H3 ((Kp.of s0).trans k13) (hp2.same s3) (DvAt.kp (kpT_same s3) hv) ⟨good, ht.nm, by omega, by omega, by omega⟩⟩
    · refine ⟨_, rfl, _, _, rfl, rfl, ⟨by decide, by decide⟩, _, rfl, _, _, rfl, rfl, k13, hp2.same s3, some v, some (V.int (0 + (i : Int))), ?_⟩
      have e1 : V.int (((8 - i : Nat) : Int) - 1) = iv (8 - (i + 1)) := by
        show V.int _ = V.int _
        congr 1
        omega
      dsimp only
      rw [e1]
      rfl
  · rintro σ' H' ⟨k1, hp1, y3, y4, rfl⟩
    refine ⟨(by show 2 ≤ sizeLine; decide), fun c nc => ?_⟩
    have s1 : Same H' (upd H' c (.tup [.str "own", .str "s"])) := Same.new nc
    exact q _ (.own (.str "s")) _ (((Kp.of s0).trans k1).trans (Kp.of s1)) (hp1.same s1) ⟨c, rfl, at_t upd_same⟩ ⟨⟨True.intro, by decide, by decide, by decide⟩, leaf_s, by decide, by decide, by decide⟩
end
end W77
namespace W77
open PySem PySem.Spec PyProof.Rows L2 HX
theorem dv_ref {K : PySem.W.Frag} {H : Hp} {v : V} {t : Dv} (h : DvAt K H v t) : ∃ a, v = .ref a := by
  cases t with
  | own x => obtain ⟨a, e, _⟩ := h; exact ⟨a, e⟩
  | pick x s b => obtain ⟨a, _, e, _⟩ := h; exact ⟨a, e⟩
  | offer b c => obtain ⟨a, _, _, e, _⟩ := h; exact ⟨a, e⟩
  | cut m mn b c => obtain ⟨a, _, _, _, _, e, _⟩ := h; exact ⟨a, e⟩
  | pay nm m b c => obtain ⟨a, _, _, _, e, _⟩ := h; exact ⟨a, e⟩
def triD (t : T3) : PyData := .tuple [natD t.p, natD t.r, natD t.l]
theorem tri_shaped (t : T3) : SeqAt.shaped (triD t) = true := by
  unfold SeqAt.shaped triD
  simp only [PyData.canLay0, PyData.canLayAll0, PyData.depth, PyData.depthAll, Bool.and_self]
  rfl
theorem tri_eqv (t : T3) : PyData.eqv (triD t) (triD t) = true := by
  unfold triD
  simp [PyData.eqv, PyData.eqvAll]
theorem tri_dp {K : PySem.W.Frag} {H : Hp} {b : Addr} {t : T3} (h : H b = some (.tup [iv t.p, iv t.r, iv t.l])) : Dp K H (.ref b) (triD t) := .tup (at_t h) (.cons (.int _) (.cons (.int _) (.cons (.int _) .nil)))
theorem ne_same {x y : V} (h : x = y) : (!decide (x = y)) = false := by rw [decide_eq_true h]; rfl
theorem ne_self (x : V) : (!decide (x = x)) = false := by rw [decide_eq_true rfl]; rfl
section
variable {P : Program} {w : World} {K : PySem.W.Frag} {mg : Str → Option Value} {base : Heap}
def spLaw (K : PySem.W.Frag) : Sp := fun vs H Q _ => ∃ (a : Addr) (ns : List Int), vs = [.ref a] ∧ SqL K H a (ns.map V.int) ∧ ns.length ≤ 63 ∧ ∀ H', Q (.bl true) H'
theorem ok_law {k : Nat} (T : Tx K mg w) (G_law_pool : FnOk P w K mg base CX0 (k + 1) T.a_law_pool T.d_law_pool ["script", "k"] (spPool K)) (G_law_drawn : FnOk P w K mg base CX0 (k + 1) T.a_law_drawn T.d_law_drawn ["pool"] (spDrawn K))
    (G_law_numbers : FnOk P w K mg base CX0 (k + 1) T.a_law_numbers T.d_law_numbers ["tree"] (spLN K 20)) (G_Library__init : FnOk P w K mg base CX0 k T.a_Library__init T.d_Library__init ["self"] (spLInit T.C_Library))
    (G_tally : FnOk P w K mg base CX0 (k + 1) T.a_tally T.d_tally ["library", "derivation"] (spTally K T.C_Tally T.C_Library)) (G_Tally_triple : FnOk P w K mg base CX0 (k + 1) T.a_Tally_triple T.d_Tally_triple ["self"] (spTTriple T.C_Tally))
    (G_greatest_play : FnOk P w K mg base CX0 (k + 1) T.a_greatest_play T.d_greatest_play ["library", "derivation"] (spGP K T.C_Library)) (G_law_listed : FnOk P w K mg base CX0 (k + 1) T.a_law_listed T.d_law_listed ["tree"] (spLS K 20))
    (G_law_plays : FnOk P w K mg base CX0 (k + 1) T.a_law_plays T.d_law_plays ["tree", "found"] (spLP K)) :
    FnOkG P w K mg base CX0 (k + 2) T.a_law T.d_law ["script"] (spLaw K) := by
  refine HX.Fun.okG T.F_law sc_law (fun vs H Q E h => ?_) (fun cdv A outer s H vs Q E gd hr h => ?_)
  · obtain ⟨_, _, rfl, _⟩ := h
    rfl
  obtain ⟨sa, ns, rfl, hS, h63, q⟩ := h
  have hrep : (A.deeper (envOfC "law" (defScope s_law) s.heap.objs.size T.a_law cdv)).units + (30 + 1) < cLine := by
    have := hr.units
    omega
  refine ⟨_, PSs.nox (pss_cons (ps_set (i := 1) sc_law.nd rfl (Or.inl rfl) (pe_call G_law_pool hr (by rfl) T.m_law_pool T.F_law_pool.kp T.b_law_pool .nil pass0 (pa_cons (pv 0) (pa_cons pe_int pa_nil))))
      (pss_cons (ps_for PassesOwn.never rfl (pi_range1 (by rfl) T.z_range (pa_cons pe_int pa_nil)) (pg_name (i := 2) sc_law.nd rfl (Or.inl rfl)) (pss_cons (ps_set (i := 3) sc_law.nd rfl (Or.inl rfl) (pe_call G_law_drawn hr (by rfl) T.m_law_drawn T.F_law_drawn.kp T.b_law_drawn .nil pass0 (pa_cons (pv 1) pa_nil)))
      (pss_cons (ps_set (i := 4) sc_law.nd rfl (Or.inl rfl) (pe_call G_law_numbers hr (by rfl) T.m_law_numbers T.F_law_numbers.kp T.b_law_numbers .nil pass0 (pa_cons (pv 3) pa_nil)))
      (pss_cons (ps_set (i := 5) sc_law.nd rfl (Or.inl rfl) (pe_call G_tally hr (by rfl) T.m_tally T.F_tally.kp T.b_tally .nil pass0 (pa_cons (pe_make0 T.k_Library G_Library__init hr (by rfl) T.c_Library T.b_Library__init .nil pass0) (pa_cons (pv 3) pa_nil))))
      (pss_cons (ps_if (PW.pt (pw_or (pt_cmpR (neD K hr.units) (pe_meth0 (pv 5) T.cl_Tally T.mt_Tally_triple G_Tally_triple hr T.b_Tally_triple .nil pass0) (pe_slice (slT K) (pv 4) po_none (po_some pe_int)) (nomark _)) (pw_or1 (pt_cmpR (neD K hr.units) (pe_tup (pa_cons (pe_fldK K (pv 5) rfl) (pa_cons (pe_fldK K (pv 5) rfl) (pa_cons (pe_fldK K (pv 5) rfl) pa_nil)))) (pe_slice (slT K) (pv 4) po_none (po_some pe_int)) (nomark _))))) (pss_one (ps_ret pe_bl)) pss_nil)
      (pss_cons (ps_if (pt_cmpR op_ne (pe_call G_greatest_play hr (by rfl) T.m_greatest_play T.F_greatest_play.kp T.b_greatest_play .nil pass0 (pa_cons (pe_make0 T.k_Library G_Library__init hr (by rfl) T.c_Library T.b_Library__init .nil pass0) (pa_cons (pv 3) pa_nil))) (pe_ix (ixT K) (pv 4) pe_int (fun _ _ => rfl)) (nomark _)) (pss_one (ps_ret pe_bl)) pss_nil)
      (pss_cons (ps_if (pt_cmpR op_ne (pe_cmpR op_in_str pe_str (pe_callB (call_reprD gd (n := 30) hrep) (by rfl) T.z_repr (by decide +kernel) (pa_cons (pv 3) pa_nil)) (by rfl)) (pe_cmpR op_gt (pe_fldK K (pv 5) rfl) pe_int (nomark _)) (nomark _)) (pss_one (ps_ret pe_bl)) pss_nil)
      (pss_one (ps_if (pt_cmpR op_le (pe_ix (ixT K) (pv 4) pe_int (fun _ _ => rfl)) pe_int (nomark _)) (pss_cons (ps_set (i := 6) sc_law.nd rfl (Or.inl rfl) (pe_call G_law_listed hr (by rfl) T.m_law_listed T.F_law_listed.kp T.b_law_listed .nil pass0 (pa_cons (pv 3) pa_nil)))
      (pss_one (ps_if (PW.pt (pw_or (pt_not (pt_val (pe_call G_law_plays hr (by rfl) T.m_law_plays T.F_law_plays.kp T.b_law_plays .nil pass0 (pa_cons (pv 3) (pa_cons (pv 6) pa_nil))))) (pw_or1 (PW.pt (pw_and (pt_cmpR op_le (pe_ix (ixT K) (pv 4) pe_int (fun _ _ => rfl)) pe_int (nomark _)) (pw_and1 (pt_not (pt_val (pe_call G_law_plays hr (by rfl) T.m_law_plays T.F_law_plays.kp T.b_law_plays .nil pass0 (pa_cons (pv 3) (pa_cons (pv 6) pa_nil))))))))))) (pss_one (ps_ret pe_bl)) pss_nil))) pss_nil)))))))))
      (pss_one (ps_ret pe_bl)))), ?_⟩
  refine ⟨_, rfl, sa, ns, 0, rfl, hS, h63, by decide, fun p l np hl => ?_⟩
  have hp0 : PoolAt (upd H p (.lst l)) p := ⟨l, upd_same, hl⟩
  generalize upd H p (.lst l) = H0 at hp0 ⊢
  refine ⟨_, rfl, by decide, by decide, ?_⟩
  refine for_range (lo := 0) (n := 3) (fun i σ' H' => PoolAt H' p ∧ ∃ y2 y3 y4 y5 y6, σ' = [some (.ref sa), some (.ref p), y2, y3, y4, y5, y6]) ⟨hp0, none, none, none, none, none, rfl⟩ ?_ ?_
  · rintro i σ' H' hi ⟨hp, y2, y3, y4, y5, y6, rfl⟩
    refine ⟨_, rfl, p, rfl, hp, fun v t H1 k1 hp1 hv ht => ?_⟩
    obtain ⟨ta, rfl⟩ := dv_ref hv
    have hd := ht.dp
    refine ⟨_, rfl, .ref ta, t, rfl, hv, ht.good, hd, fun na H2 s2 hna => ?_⟩
    refine fun x dx nx ndx ne => ⟨x, dx, rfl, upd_same, fun H3 a m e k3 hx ha he => ⟨rfl, ?_⟩⟩
    have s3 := lib_same nx ndx ne k3
    have s13 := s2.trans s3
    refine ⟨_, rfl, .ref x, .ref ta, a, e, t, rfl, ⟨⟨x, dx, m, rfl, hx⟩, ha, he⟩, DvAt.kp (kpT_same s13) hv, ht.good, by omega, fun u H4 s4 hu => ?_⟩
    have s14 := s13.trans s4
    have hna4 := (s3.trans s4) _ _ hna
    obtain ⟨x5, d5, rfl, e5⟩ := id hu
    refine ⟨_, rfl, x5, d5, _, rfl, e5, t3_no, .ref x5, t.tal, rfl, hu, fun b nb => ?_⟩
    have s5 : Same H4 (upd H4 b (.tup [iv t.tal.p, iv t.tal.r, iv t.tal.l])) := Same.new nb
    have hb5 : (upd H4 b (.tup [iv t.tal.p, iv t.tal.r, iv t.tal.l])) b = some (.tup [iv t.tal.p, iv t.tal.r, iv t.tal.l]) := upd_same
    generalize upd H4 b (.tup [iv t.tal.p, iv t.tal.r, iv t.tal.l]) = H5 at s5 hb5 ⊢
    have hna5 := s5 _ _ hna4
    refine ⟨_, rfl, _, rfl, na, _, rfl, at_t hna5, (by show ¬ (HT.sIx 4 0 none = 0 ∧ HT.sIx 4 4 (some 3) = 4); decide), fun c nc => ?_⟩
    have s6 : Same H5 (upd H5 c (.tup [iv t.tal.p, iv t.tal.r, iv t.tal.l])) := Same.new nc
    have hc6 : (upd H5 c (.tup [iv t.tal.p, iv t.tal.r, iv t.tal.l])) c = some (.tup [iv t.tal.p, iv t.tal.r, iv t.tal.l]) := upd_same
    have hcut : cutV (nums t.tal t.gp) none (some 3) = [iv t.tal.p, iv t.tal.r, iv t.tal.l] := rfl
    rw [hcut]
    generalize upd H5 c (.tup [iv t.tal.p, iv t.tal.r, iv t.tal.l]) = H6 at s6 hc6 ⊢
    refine ⟨_, _, tri_dp (s6 _ _ hb5), tri_dp hc6, tri_shaped _, tri_shaped _, _, rfl, ?_⟩
    rw [tri_eqv]
    refine iteF ?_
    have s46 := s5.trans s6
    have e6 := s46 _ _ e5
    have hna6 := s46 _ _ hna4
    refine ⟨_, rfl, x5, T.C_Tally, d5, _, _, rfl, e6, T.cl_Tally, T.n_plays, tf_p, _, rfl, x5, T.C_Tally, d5, _, _, rfl, e6, T.cl_Tally, T.n_rows, tf_r, _, rfl, x5, T.C_Tally, d5, _, _, rfl, e6, T.cl_Tally, T.n_load, tf_l, (by show 3 ≤ sizeLine; decide), fun b2 nb2 => ?_⟩
    have s7 : Same H6 (upd H6 b2 (.tup [iv t.tal.p, iv t.tal.r, iv t.tal.l])) := Same.new nb2
    have hb7 : (upd H6 b2 (.tup [iv t.tal.p, iv t.tal.r, iv t.tal.l])) b2 = some (.tup [iv t.tal.p, iv t.tal.r, iv t.tal.l]) := upd_same
    generalize upd H6 b2 (.tup [iv t.tal.p, iv t.tal.r, iv t.tal.l]) = H7 at s7 hb7 ⊢
    refine ⟨_, rfl, _, rfl, na, _, rfl, at_t (s7 _ _ hna6), (by show ¬ (HT.sIx 4 0 none = 0 ∧ HT.sIx 4 4 (some 3) = 4); decide), fun c2 nc2 => ?_⟩
    have s8 : Same H7 (upd H7 c2 (.tup [iv t.tal.p, iv t.tal.r, iv t.tal.l])) := Same.new nc2
    have hc8 : (upd H7 c2 (.tup [iv t.tal.p, iv t.tal.r, iv t.tal.l])) c2 = some (.tup [iv t.tal.p, iv t.tal.r, iv t.tal.l]) := upd_same
    rw [hcut]
    generalize upd H7 c2 (.tup [iv t.tal.p, iv t.tal.r, iv t.tal.l]) = H8 at s8 hc8 ⊢
    refine ⟨_, _, tri_dp (s8 _ _ hb7), tri_dp hc8, tri_shaped _, tri_shaped _, _, rfl, ?_⟩
    rw [tri_eqv]
    refine iteF ?_
    have s48 := (s46.trans s7).trans s8
    have s18 := s14.trans s48
    have hna8 := s48 _ _ hna4
    have e8 := s48 _ _ e5
    clear hcut hc8 hb7 hc6 hb5 hna6 hna5
    -- the greatest play
    refine fun x2 dx2 nx2 ndx2 ne2 => ⟨x2, dx2, rfl, upd_same, fun H9 a2 m2 e2 k9 hx2 ha2 he2 => ⟨rfl, ?_⟩⟩
    have s9 := lib_same nx2 ndx2 ne2 k9
    have s19 := s18.trans s9
    refine ⟨_, rfl, .ref x2, .ref ta, a2, e2, t, rfl, ⟨⟨x2, dx2, m2, rfl, hx2⟩, ha2, he2⟩, DvAt.kp (kpT_same s19) hv, ht.good, by omega, fun H10 s10 => ?_⟩
    have s1a := s19.trans s10
    have hnaa := (s9.trans s10) _ _ hna8
    have ea := (s9.trans s10) _ _ e8
    refine ⟨_, rfl, na, _, 3, _, rfl, rfl, at_t hnaa, rfl, rfl, _, rfl, ?_⟩
    rw [ne_self]
    refine iteF ?_
    -- the text
    have shw := t.shw ht.nm
    have hsz := ht.sz
    refine ⟨_, rfl, ta, t.dat, rfl, dv_dp (DvAt.kp (kpT_same s1a) hv) ht.nm, shw.show_, Nat.le_trans shw.dep_ (by omega), shw.fits (by omega), _, _, rfl, rfl, ?_⟩
    refine ⟨_, rfl, x5, T.C_Tally, d5, _, _, rfl, ea, T.cl_Tally, T.n_load, tf_l, _, _, rfl, rfl, rfl, _, rfl, ?_⟩
    have el : decide ((t.tal.l : Int) > 0) = t.cuts := by
      have z := t.load ht.good.pos
      cases hc : t.cuts with
      | true =>
        have := z.mpr hc
        exact decide_eq_true (by omega)
      | false =>
        refine decide_eq_false fun h => ?_
        have := z.mp (by omega)
        rw [hc] at this
        cases this
    dsimp only
    rw [ne_same (show V.bl (!(Builtin.Str.occurrences t.dat.shown "cut" 0 t.dat.shown.length 1).isEmpty) = V.bl (decide ((t.tal.l : Int) > 0)) from by rw [Dv.found ht.nm, el])]
    refine iteF ?_
    -- the plays, listed
    refine ⟨_, rfl, na, _, 0, _, rfl, rfl, at_t hnaa, rfl, _, _, rfl, rfl, _, rfl, ite2 (fun c => ?_) (fun _ => ⟨hp1.same s1a, _, _, _, _, _, rfl⟩)⟩
    have c := of_decide_eq_true c
    have hpl : t.pl.length ≤ 5000 := by
      rw [t.pl_len]
      omega
    refine ⟨_, rfl, .ref ta, t, rfl, DvAt.kp (kpT_same s1a) hv, ht.good, hd, ht.gp, hpl, fun f Hf F sf nf hf hF => ?_⟩
    have s1f := s1a.trans sf
    refine ⟨_, rfl, _, rfl, .ref ta, f, t, F, rfl, DvAt.kp (kpT_same s1f) hv, ht.good, by omega, hpl, hf, hF, fun Hg sg => ⟨_, rfl, iteF ?_⟩⟩
    have s1g := s1f.trans sg
    refine ⟨_, rfl, na, _, 0, _, rfl, rfl, at_t ((sf.trans sg) _ _ hnaa), rfl, _, _, rfl, rfl, _, rfl, ite2 (fun _ => ?_) (fun _ => iteF ⟨hp1.same s1g, _, _, _, _, _, rfl⟩)⟩
    exact ⟨_, rfl, _, rfl, .ref ta, f, t, F, rfl, DvAt.kp (kpT_same s1g) hv, ht.good, by omega, hpl, sg _ _ hf, hF, fun Hh sh => ⟨_, rfl, iteF ⟨hp1.same (s1g.trans sh), _, _, _, _, _, rfl⟩⟩⟩
  · rintro σ' H' ⟨hp, y2, y3, y4, y5, y6, rfl⟩
    exact q H'
end
end W77
namespace W77
open PySem PySem.Spec PyProof.Rows L2 HX
section
variable {P : Program} {w : World} {K : PySem.W.Frag} {mg : Str → Option Value} {base : Heap}
theorem tally_all (T : Tx K mg w) : ∀ d, FnOk P w K mg base CX0 (d + 8) T.a_tally_within T.d_tally_within ["library", "derivation", "known", "ranks"] (spTW K T.C_Tally T.C_Library d)
  | 0 => ⟨fun vs H Q E h => by obtain ⟨_, _, _, _, _, _, t, _, _, _, _, h, _⟩ := h; exact absurd h (Nat.not_lt_zero _), fun _ _ _ _ _ _ _ _ _ _ _ _ _ h => by obtain ⟨_, _, _, _, _, _, t, _, _, _, _, h, _⟩ := h; exact absurd h (Nat.not_lt_zero _)⟩
  | d + 1 => by
    have init : FnOk P w K mg base CX0 1 T.a_Tally__init T.d_Tally__init ["self", "plays", "rows", "load"] (spTInit T.C_Tally) := ok_Tally__init (k := 0) T
    have mul := ok_Tally__mul (k := 1) T init
    have tall := ok_Tally_taller (k := 1) T init
    have cop := ok_Tally_copied (k := 2) T (init.mono (by decide)) mul
    have boxed := ok_boxed_tally (k := 4) T (tall.mono (by decide)) cop
    exact tally_step (k := d + 7) (d := d) T (init.mono (by omega)) ((ok_premises (k := 0) T).mono (by omega)) (tally_all T d) ((ok_Tally__add (k := 1) T init).mono (by omega)) (mul.mono (by omega)) (tall.mono (by omega)) ((ok_Tally_cut (k := 1) T init).mono (by omega))
      (boxed.mono (by omega)) ((ok_copies (k := 0) T).mono (by omega)) ((ok_rank T).mono (by omega))
theorem greatest_all (T : Tx K mg w) : ∀ d, FnOk P w K mg base CX0 (d + 8) T.a_greatest_within T.d_greatest_within ["library", "derivation", "known"] (spGW K d)
  | 0 => ⟨fun vs H Q E h => by obtain ⟨_, _, _, t, _, _, _, h, _⟩ := h; exact absurd h (Nat.not_lt_zero _), fun _ _ _ _ _ _ _ _ _ _ _ _ _ h => by obtain ⟨_, _, _, t, _, _, _, h, _⟩ := h; exact absurd h (Nat.not_lt_zero _)⟩
  | d + 1 => greatest_step (k := d + 8) (d := d) T ((ok_premises (k := 0) T).mono (by omega)) (greatest_all T d) ((ok_boxed_rows (k := 0) T).mono (by omega))
theorem plays_all (T : Tx K mg w) : ∀ d, FnOk P w K mg base CX0 (d + 8) T.a_plays_within T.d_plays_within ["library", "derivation", "known", "ranks"] (spPW K T.C_Library d)
  | 0 => ⟨fun vs H Q E h => by obtain ⟨_, _, _, _, _, _, t, _, _, _, _, h, _⟩ := h; exact absurd h (Nat.not_lt_zero _), fun _ _ _ _ _ _ _ _ _ _ _ _ _ h => by obtain ⟨_, _, _, _, _, _, t, _, _, _, _, h, _⟩ := h; exact absurd h (Nat.not_lt_zero _)⟩
  | d + 1 => by
    have lon : FnOk P w K mg base CX0 1 T.a_longer T.d_longer ["found", "rows", "load"] spLonger := ok_longer (k := 0) T
    have joi : FnOk P w K mg base CX0 1 T.a_joined T.d_joined ["first", "second"] spJoined := ok_joined (k := 0) T
    exact plays_step (k := d + 8) (d := d) T ((ok_premises (k := 0) T).mono (by omega)) (plays_all T d) (lon.mono (by omega)) (joi.mono (by omega)) ((ok_boxed_plays (k := 1) T lon joi).mono (by omega)) ((ok_copies (k := 0) T).mono (by omega)) ((ok_rank T).mono (by omega))
theorem part_all (T : Tx K mg w) : ∀ d, FnOk P w K mg base CX0 (d + 3) T.a_law_part T.d_law_part ["pool", "level", "depth", "room"] (spPart K d)
  | 0 => ⟨fun vs H Q E h => by obtain ⟨_, _, _, _, h, _⟩ := h; exact absurd h (Nat.not_lt_zero _), fun _ _ _ _ _ _ _ _ _ _ _ _ _ h => by obtain ⟨_, _, _, _, h, _⟩ := h; exact absurd h (Nat.not_lt_zero _)⟩
  | d + 1 => by
    have next : FnOk P w K mg base CX0 1 T.a_law_next T.d_law_next ["pool", "many"] spNext := ok_law_next (k := 0) T
    exact part_step (k := d + 3) (d := d) T (next.mono (by omega)) ((ok_law_mode (k := 1) T next).mono (by omega)) (part_all T d)
theorem numbers_all (T : Tx K mg w) : ∀ d, FnOk P w K mg base CX0 (d + 3) T.a_law_numbers T.d_law_numbers ["tree"] (spLN K d)
  | 0 => ⟨fun vs H Q E h => by obtain ⟨_, t, _, _, _, h, _⟩ := h; exact absurd h (Nat.not_lt_zero _), fun _ _ _ _ _ _ _ _ _ _ _ _ _ h => by obtain ⟨_, t, _, _, _, h, _⟩ := h; exact absurd h (Nat.not_lt_zero _)⟩
  | d + 1 => numbers_step (k := d + 3) (d := d) T (numbers_all T d) ((ok_law_boxed (k := 0) T).mono (by omega))
theorem listed_all (T : Tx K mg w) : ∀ d, FnOk P w K mg base CX0 (d + 3) T.a_law_listed T.d_law_listed ["tree"] (spLS K d)
  | 0 => ⟨fun vs H Q E h => by obtain ⟨_, t, _, _, _, h, _⟩ := h; exact absurd h (Nat.not_lt_zero _), fun _ _ _ _ _ _ _ _ _ _ _ _ _ h => by obtain ⟨_, t, _, _, _, h, _⟩ := h; exact absurd h (Nat.not_lt_zero _)⟩
  | d + 1 => listed_step (k := d + 3) (d := d) T (listed_all T d) ((ok_law_put (k := 0) T).mono (by omega))
end
/-! ### the whole chain -/
theorem law_ok {P : Program} {w : World} {K : PySem.W.Frag} {mg : Str → Option Value} {base : Heap} {T : Tx K mg w} : FnOkG P w K mg base CX0 60 T.a_law T.d_law ["script"] (spLaw K) := by
  have init : FnOk P w K mg base CX0 1 T.a_Library__init T.d_Library__init ["self"] (spLInit T.C_Library) := ok_Library__init (k := 0) T
  have prem : FnOk P w K mg base CX0 1 T.a_premises T.d_premises ["derivation"] (spPremises K) := ok_premises (k := 0) T
  have keys := ok_rider_keys (P := P) (base := base) (k := 1) T (ok_Library__iter (k := 0) T) (ok_Library_entry_names (k := 0) T)
  have rid := ok_riders (k := 2) T (prem.mono (by decide)) ((ok_riders_of (k := 0) T).mono (by decide)) keys
  have tal := ok_tally (k := 48) T (rid.mono (by decide)) (tally_all T 40)
  have gre := ok_greatest_play (k := 48) T (rid.mono (by decide)) (greatest_all T 40)
  have pla := ok_plays (k := 48) T (rid.mono (by decide)) (plays_all T 40)
  have num : FnOk P w K mg base CX0 23 T.a_law_numbers T.d_law_numbers ["tree"] (spLN K 20) := numbers_all T 20
  have drawn := ok_law_drawn (k := 23) T ((part_all T 9).mono (by decide)) num
  have lp := ok_law_plays (k := 49) T (init.mono (by decide)) (pla.mono (by decide)) ((ok_law_put (k := 0) T).mono (by decide))
  exact ok_law (k := 58) T ((ok_law_pool (k := 1) T (ok_law_cell (k := 0) T)).mono (by decide)) (drawn.mono (by decide)) (num.mono (by decide)) (init.mono (by decide)) (tal.mono (by decide)) ((ok_Tally_triple (k := 0) T).mono (by decide)) (gre.mono (by decide)) ((listed_all T 20).mono (by decide)) (lp.mono (by decide))
/-! ### what the top has written -/
theorem all_mk {P : Program} {w : World} {K : PySem.W.Frag} {h : Heap} {mg : Str → Option Value} {fa : Addr} (X : K.In h) (G : h.Ns mainGlobals mg) (hfa : mg "law" = some (.ref fa))
    {f0 : Addr} {od0 an0 : Option Addr} {sl0 : Array (Option Value)} {oc0 kV0 dc0 pm0 cd0 ct0 : Value}
    {f1 : Addr} {od1 an1 : Option Addr} {sl1 : Array (Option Value)} {oc1 kV1 dc1 pm1 cd1 ct1 : Value}
    {f2 : Addr} {od2 an2 : Option Addr} {sl2 : Array (Option Value)} {oc2 kV2 dc2 pm2 cd2 ct2 : Value}
    {f3 : Addr} {od3 an3 : Option Addr} {sl3 : Array (Option Value)} {oc3 kV3 dc3 pm3 cd3 ct3 : Value}
    {f4 : Addr} {od4 an4 : Option Addr} {sl4 : Array (Option Value)} {oc4 kV4 dc4 pm4 cd4 ct4 : Value}
    {f5 : Addr} {od5 an5 : Option Addr} {sl5 : Array (Option Value)} {oc5 kV5 dc5 pm5 cd5 ct5 : Value}
    {f6 : Addr} {od6 an6 : Option Addr} {sl6 : Array (Option Value)} {oc6 kV6 dc6 pm6 cd6 ct6 : Value}
    {f7 : Addr} {od7 an7 : Option Addr} {sl7 : Array (Option Value)} {oc7 kV7 dc7 pm7 cd7 ct7 : Value}
    {f8 : Addr} {od8 an8 : Option Addr} {sl8 : Array (Option Value)} {oc8 kV8 dc8 pm8 cd8 ct8 : Value}
    {f9 : Addr} {od9 an9 : Option Addr} {sl9 : Array (Option Value)} {oc9 kV9 dc9 pm9 cd9 ct9 : Value}
    {f10 : Addr} {od10 an10 : Option Addr} {sl10 : Array (Option Value)} {oc10 kV10 dc10 pm10 cd10 ct10 : Value}
    {f11 : Addr} {od11 an11 : Option Addr} {sl11 : Array (Option Value)} {oc11 kV11 dc11 pm11 cd11 ct11 : Value}
    {f12 : Addr} {od12 an12 : Option Addr} {sl12 : Array (Option Value)} {oc12 kV12 dc12 pm12 cd12 ct12 : Value}
    {f13 : Addr} {od13 an13 : Option Addr} {sl13 : Array (Option Value)} {oc13 kV13 dc13 pm13 cd13 ct13 : Value}
    {f14 : Addr} {od14 an14 : Option Addr} {sl14 : Array (Option Value)} {oc14 kV14 dc14 pm14 cd14 ct14 : Value}
    {f15 : Addr} {od15 an15 : Option Addr} {sl15 : Array (Option Value)} {oc15 kV15 dc15 pm15 cd15 ct15 : Value}
    {f16 : Addr} {od16 an16 : Option Addr} {sl16 : Array (Option Value)} {oc16 kV16 dc16 pm16 cd16 ct16 : Value}
    {f17 : Addr} {od17 an17 : Option Addr} {sl17 : Array (Option Value)} {oc17 kV17 dc17 pm17 cd17 ct17 : Value}
    {f18 : Addr} {od18 an18 : Option Addr} {sl18 : Array (Option Value)} {oc18 kV18 dc18 pm18 cd18 ct18 : Value}
    {f19 : Addr} {od19 an19 : Option Addr} {sl19 : Array (Option Value)} {oc19 kV19 dc19 pm19 cd19 ct19 : Value}
    {f20 : Addr} {od20 an20 : Option Addr} {sl20 : Array (Option Value)} {oc20 kV20 dc20 pm20 cd20 ct20 : Value}
    {f21 : Addr} {od21 an21 : Option Addr} {sl21 : Array (Option Value)} {oc21 kV21 dc21 pm21 cd21 ct21 : Value}
    {f22 : Addr} {od22 an22 : Option Addr} {sl22 : Array (Option Value)} {oc22 kV22 dc22 pm22 cd22 ct22 : Value}
    {f23 : Addr} {od23 an23 : Option Addr} {sl23 : Array (Option Value)} {oc23 kV23 dc23 pm23 cd23 ct23 : Value}
    {f24 : Addr} {od24 an24 : Option Addr} {sl24 : Array (Option Value)} {oc24 kV24 dc24 pm24 cd24 ct24 : Value}
    {f25 : Addr} {od25 an25 : Option Addr} {sl25 : Array (Option Value)} {oc25 kV25 dc25 pm25 cd25 ct25 : Value}
    {f26 : Addr} {od26 an26 : Option Addr} {sl26 : Array (Option Value)} {oc26 kV26 dc26 pm26 cd26 ct26 : Value}
    {f27 : Addr} {od27 an27 : Option Addr} {sl27 : Array (Option Value)} {oc27 kV27 dc27 pm27 cd27 ct27 : Value}
    {f28 : Addr} {od28 an28 : Option Addr} {sl28 : Array (Option Value)} {oc28 kV28 dc28 pm28 cd28 ct28 : Value}
    {f29 : Addr} {od29 an29 : Option Addr} {sl29 : Array (Option Value)} {oc29 kV29 dc29 pm29 cd29 ct29 : Value}
    {f30 : Addr} {od30 an30 : Option Addr} {sl30 : Array (Option Value)} {oc30 kV30 dc30 pm30 cd30 ct30 : Value}
    {f31 : Addr} {od31 an31 : Option Addr} {sl31 : Array (Option Value)} {oc31 kV31 dc31 pm31 cd31 ct31 : Value}
    {f32 : Addr} {od32 an32 : Option Addr} {sl32 : Array (Option Value)} {oc32 kV32 dc32 pm32 cd32 ct32 : Value}
    {f33 : Addr} {od33 an33 : Option Addr} {sl33 : Array (Option Value)} {oc33 kV33 dc33 pm33 cd33 ct33 : Value}
    {f34 : Addr} {od34 an34 : Option Addr} {sl34 : Array (Option Value)} {oc34 kV34 dc34 pm34 cd34 ct34 : Value}
    {f35 : Addr} {od35 an35 : Option Addr} {sl35 : Array (Option Value)} {oc35 kV35 dc35 pm35 cd35 ct35 : Value}
    {f36 : Addr} {od36 an36 : Option Addr} {sl36 : Array (Option Value)} {oc36 kV36 dc36 pm36 cd36 ct36 : Value}
    {f37 : Addr} {od37 an37 : Option Addr} {sl37 : Array (Option Value)} {oc37 kV37 dc37 pm37 cd37 ct37 : Value}
    {f38 : Addr} {od38 an38 : Option Addr} {sl38 : Array (Option Value)} {oc38 kV38 dc38 pm38 cd38 ct38 : Value}
    {f39 : Addr} {od39 an39 : Option Addr} {sl39 : Array (Option Value)} {oc39 kV39 dc39 pm39 cd39 ct39 : Value}
    {f40 : Addr} {od40 an40 : Option Addr} {sl40 : Array (Option Value)} {oc40 kV40 dc40 pm40 cd40 ct40 : Value}
    {f41 : Addr} {od41 an41 : Option Addr} {sl41 : Array (Option Value)} {oc41 kV41 dc41 pm41 cd41 ct41 : Value}
    {f42 : Addr} {od42 an42 : Option Addr} {sl42 : Array (Option Value)} {oc42 kV42 dc42 pm42 cd42 ct42 : Value}
    {CTally CLib fP : Addr}
    {eP : Array DictEntry} {nP : Nat}
    {t_own t_offer t_pick t_pay t_cut : Tok}
    (a0 : PySem.W.nsIn K mainGlobals "copies" = some (some (.ref f0)))
    (l0 : K.lookup f0 = some ⟨oc0, od0, .func (PySem.W.fnOf "copies" "copies" (defArgs s_copies) (defBody s_copies) (defScope s_copies) .none kV0 dc0 pm0 an0 cd0 ct0), sl0⟩)
    (c0 : PySem.W.codeIn K cd0 "copies" = true)
    (k0 : PySem.W.keepIn K (.ref f0) = true)
    (a1 : PySem.W.nsIn K mainGlobals "rank_within" = some (some (.ref f1)))
    (l1 : K.lookup f1 = some ⟨oc1, od1, .func (PySem.W.fnOf "rank_within" "rank_within" (defArgs s_rank_within) (defBody s_rank_within) (defScope s_rank_within) .none kV1 dc1 pm1 an1 cd1 ct1), sl1⟩)
    (c1 : PySem.W.codeIn K cd1 "rank_within" = true)
    (k1 : PySem.W.keepIn K (.ref f1) = true)
    (a2 : PySem.W.nsIn K mainGlobals "word_rank" = some (some (.ref f2)))
    (l2 : K.lookup f2 = some ⟨oc2, od2, .func (PySem.W.fnOf "word_rank" "word_rank" (defArgs s_word_rank) (defBody s_word_rank) (defScope s_word_rank) .none kV2 dc2 pm2 an2 cd2 ct2), sl2⟩)
    (c2 : PySem.W.codeIn K cd2 "word_rank" = true)
    (k2 : PySem.W.keepIn K (.ref f2) = true)
    (a3 : PySem.W.nsIn K mainGlobals "greatest_rank" = some (some (.ref f3)))
    (l3 : K.lookup f3 = some ⟨oc3, od3, .func (PySem.W.fnOf "greatest_rank" "greatest_rank" (defArgs s_greatest_rank) (defBody s_greatest_rank) (defScope s_greatest_rank) .none kV3 dc3 pm3 an3 cd3 ct3), sl3⟩)
    (c3 : PySem.W.codeIn K cd3 "greatest_rank" = true)
    (k3 : PySem.W.keepIn K (.ref f3) = true)
    (a4 : PySem.W.nsIn K mainGlobals "premises" = some (some (.ref f4)))
    (l4 : K.lookup f4 = some ⟨oc4, od4, .func (PySem.W.fnOf "premises" "premises" (defArgs s_premises) (defBody s_premises) (defScope s_premises) .none kV4 dc4 pm4 an4 cd4 ct4), sl4⟩)
    (c4 : PySem.W.codeIn K cd4 "premises" = true)
    (k4 : PySem.W.keepIn K (.ref f4) = true)
    (a5 : PySem.W.findIn K (.ref CTally) "__init__" = some (some (.ref f5)))
    (i5 : PySem.W.isFn K (.ref f5) = true)
    (l5 : K.lookup f5 = some ⟨oc5, od5, .func (PySem.W.fnOf "__init__" "Tally.__init__" (defArgs s_Tally__init) (defBody s_Tally__init) (defScope s_Tally__init) .none kV5 dc5 pm5 an5 cd5 ct5), sl5⟩)
    (c5 : PySem.W.codeIn K cd5 "Tally.__init__" = true)
    (k5 : PySem.W.keepIn K (.ref f5) = true)
    (a6 : PySem.W.findIn K (.ref CTally) "__add__" = some (some (.ref f6)))
    (i6 : PySem.W.isFn K (.ref f6) = true)
    (l6 : K.lookup f6 = some ⟨oc6, od6, .func (PySem.W.fnOf "__add__" "Tally.__add__" (defArgs s_Tally__add) (defBody s_Tally__add) (defScope s_Tally__add) .none kV6 dc6 pm6 an6 cd6 ct6), sl6⟩)
    (c6 : PySem.W.codeIn K cd6 "Tally.__add__" = true)
    (k6 : PySem.W.keepIn K (.ref f6) = true)
    (a7 : PySem.W.findIn K (.ref CTally) "__mul__" = some (some (.ref f7)))
    (i7 : PySem.W.isFn K (.ref f7) = true)
    (l7 : K.lookup f7 = some ⟨oc7, od7, .func (PySem.W.fnOf "__mul__" "Tally.__mul__" (defArgs s_Tally__mul) (defBody s_Tally__mul) (defScope s_Tally__mul) .none kV7 dc7 pm7 an7 cd7 ct7), sl7⟩)
    (c7 : PySem.W.codeIn K cd7 "Tally.__mul__" = true)
    (k7 : PySem.W.keepIn K (.ref f7) = true)
    (a8 : PySem.W.findIn K (.ref CTally) "copied" = some (some (.ref f8)))
    (i8 : PySem.W.isFn K (.ref f8) = true)
    (l8 : K.lookup f8 = some ⟨oc8, od8, .func (PySem.W.fnOf "copied" "Tally.copied" (defArgs s_Tally_copied) (defBody s_Tally_copied) (defScope s_Tally_copied) .none kV8 dc8 pm8 an8 cd8 ct8), sl8⟩)
    (c8 : PySem.W.codeIn K cd8 "Tally.copied" = true)
    (k8 : PySem.W.keepIn K (.ref f8) = true)
    (a9 : PySem.W.findIn K (.ref CTally) "taller" = some (some (.ref f9)))
    (i9 : PySem.W.isFn K (.ref f9) = true)
    (l9 : K.lookup f9 = some ⟨oc9, od9, .func (PySem.W.fnOf "taller" "Tally.taller" (defArgs s_Tally_taller) (defBody s_Tally_taller) (defScope s_Tally_taller) .none kV9 dc9 pm9 an9 cd9 ct9), sl9⟩)
    (c9 : PySem.W.codeIn K cd9 "Tally.taller" = true)
    (k9 : PySem.W.keepIn K (.ref f9) = true)
    (a10 : PySem.W.findIn K (.ref CTally) "cut" = some (some (.ref f10)))
    (i10 : PySem.W.isFn K (.ref f10) = true)
    (l10 : K.lookup f10 = some ⟨oc10, od10, .func (PySem.W.fnOf "cut" "Tally.cut" (defArgs s_Tally_cut) (defBody s_Tally_cut) (defScope s_Tally_cut) .none kV10 dc10 pm10 an10 cd10 ct10), sl10⟩)
    (c10 : PySem.W.codeIn K cd10 "Tally.cut" = true)
    (k10 : PySem.W.keepIn K (.ref f10) = true)
    (a11 : PySem.W.findIn K (.ref CTally) "triple" = some (some (.ref f11)))
    (i11 : PySem.W.isFn K (.ref f11) = true)
    (l11 : K.lookup f11 = some ⟨oc11, od11, .func (PySem.W.fnOf "triple" "Tally.triple" (defArgs s_Tally_triple) (defBody s_Tally_triple) (defScope s_Tally_triple) .none kV11 dc11 pm11 an11 cd11 ct11), sl11⟩)
    (c11 : PySem.W.codeIn K cd11 "Tally.triple" = true)
    (k11 : PySem.W.keepIn K (.ref f11) = true)
    (a12 : PySem.W.nsIn K mainGlobals "riders_of" = some (some (.ref f12)))
    (l12 : K.lookup f12 = some ⟨oc12, od12, .func (PySem.W.fnOf "riders_of" "riders_of" (defArgs s_riders_of) (defBody s_riders_of) (defScope s_riders_of) .none kV12 dc12 pm12 an12 cd12 ct12), sl12⟩)
    (c12 : PySem.W.codeIn K cd12 "riders_of" = true)
    (k12 : PySem.W.keepIn K (.ref f12) = true)
    (a13 : PySem.W.nsIn K mainGlobals "rider_keys" = some (some (.ref f13)))
    (l13 : K.lookup f13 = some ⟨oc13, od13, .func (PySem.W.fnOf "rider_keys" "rider_keys" (defArgs s_rider_keys) (defBody s_rider_keys) (defScope s_rider_keys) .none kV13 dc13 pm13 an13 cd13 ct13), sl13⟩)
    (c13 : PySem.W.codeIn K cd13 "rider_keys" = true)
    (k13 : PySem.W.keepIn K (.ref f13) = true)
    (a14 : PySem.W.nsIn K mainGlobals "riders" = some (some (.ref f14)))
    (l14 : K.lookup f14 = some ⟨oc14, od14, .func (PySem.W.fnOf "riders" "riders" (defArgs s_riders) (defBody s_riders) (defScope s_riders) .none kV14 dc14 pm14 an14 cd14 ct14), sl14⟩)
    (c14 : PySem.W.codeIn K cd14 "riders" = true)
    (k14 : PySem.W.keepIn K (.ref f14) = true)
    (a15 : PySem.W.nsIn K mainGlobals "boxed_tally" = some (some (.ref f15)))
    (l15 : K.lookup f15 = some ⟨oc15, od15, .func (PySem.W.fnOf "boxed_tally" "boxed_tally" (defArgs s_boxed_tally) (defBody s_boxed_tally) (defScope s_boxed_tally) .none kV15 dc15 pm15 an15 cd15 ct15), sl15⟩)
    (c15 : PySem.W.codeIn K cd15 "boxed_tally" = true)
    (k15 : PySem.W.keepIn K (.ref f15) = true)
    (a16 : PySem.W.nsIn K mainGlobals "tally" = some (some (.ref f16)))
    (l16 : K.lookup f16 = some ⟨oc16, od16, .func (PySem.W.fnOf "tally" "tally" (defArgs s_tally) (defBody s_tally) (defScope s_tally) .none kV16 dc16 pm16 an16 cd16 ct16), sl16⟩)
    (c16 : PySem.W.codeIn K cd16 "tally" = true)
    (k16 : PySem.W.keepIn K (.ref f16) = true)
    (a17 : PySem.W.nsIn K mainGlobals "tally_within" = some (some (.ref f17)))
    (l17 : K.lookup f17 = some ⟨oc17, od17, .func (PySem.W.fnOf "tally_within" "tally_within" (defArgs s_tally_within) (defBody s_tally_within) (defScope s_tally_within) .none kV17 dc17 pm17 an17 cd17 ct17), sl17⟩)
    (c17 : PySem.W.codeIn K cd17 "tally_within" = true)
    (k17 : PySem.W.keepIn K (.ref f17) = true)
    (a18 : PySem.W.nsIn K mainGlobals "boxed_rows" = some (some (.ref f18)))
    (l18 : K.lookup f18 = some ⟨oc18, od18, .func (PySem.W.fnOf "boxed_rows" "boxed_rows" (defArgs s_boxed_rows) (defBody s_boxed_rows) (defScope s_boxed_rows) .none kV18 dc18 pm18 an18 cd18 ct18), sl18⟩)
    (c18 : PySem.W.codeIn K cd18 "boxed_rows" = true)
    (k18 : PySem.W.keepIn K (.ref f18) = true)
    (a19 : PySem.W.nsIn K mainGlobals "greatest_play" = some (some (.ref f19)))
    (l19 : K.lookup f19 = some ⟨oc19, od19, .func (PySem.W.fnOf "greatest_play" "greatest_play" (defArgs s_greatest_play) (defBody s_greatest_play) (defScope s_greatest_play) .none kV19 dc19 pm19 an19 cd19 ct19), sl19⟩)
    (c19 : PySem.W.codeIn K cd19 "greatest_play" = true)
    (k19 : PySem.W.keepIn K (.ref f19) = true)
    (a20 : PySem.W.nsIn K mainGlobals "greatest_within" = some (some (.ref f20)))
    (l20 : K.lookup f20 = some ⟨oc20, od20, .func (PySem.W.fnOf "greatest_within" "greatest_within" (defArgs s_greatest_within) (defBody s_greatest_within) (defScope s_greatest_within) .none kV20 dc20 pm20 an20 cd20 ct20), sl20⟩)
    (c20 : PySem.W.codeIn K cd20 "greatest_within" = true)
    (k20 : PySem.W.keepIn K (.ref f20) = true)
    (a21 : PySem.W.nsIn K mainGlobals "plays" = some (some (.ref f21)))
    (l21 : K.lookup f21 = some ⟨oc21, od21, .func (PySem.W.fnOf "plays" "plays" (defArgs s_plays) (defBody s_plays) (defScope s_plays) .none kV21 dc21 pm21 an21 cd21 ct21), sl21⟩)
    (c21 : PySem.W.codeIn K cd21 "plays" = true)
    (k21 : PySem.W.keepIn K (.ref f21) = true)
    (a22 : PySem.W.nsIn K mainGlobals "longer" = some (some (.ref f22)))
    (l22 : K.lookup f22 = some ⟨oc22, od22, .func (PySem.W.fnOf "longer" "longer" (defArgs s_longer) (defBody s_longer) (defScope s_longer) .none kV22 dc22 pm22 an22 cd22 ct22), sl22⟩)
    (c22 : PySem.W.codeIn K cd22 "longer" = true)
    (k22 : PySem.W.keepIn K (.ref f22) = true)
    (a23 : PySem.W.nsIn K mainGlobals "joined" = some (some (.ref f23)))
    (l23 : K.lookup f23 = some ⟨oc23, od23, .func (PySem.W.fnOf "joined" "joined" (defArgs s_joined) (defBody s_joined) (defScope s_joined) .none kV23 dc23 pm23 an23 cd23 ct23), sl23⟩)
    (c23 : PySem.W.codeIn K cd23 "joined" = true)
    (k23 : PySem.W.keepIn K (.ref f23) = true)
    (a24 : PySem.W.nsIn K mainGlobals "boxed_plays" = some (some (.ref f24)))
    (l24 : K.lookup f24 = some ⟨oc24, od24, .func (PySem.W.fnOf "boxed_plays" "boxed_plays" (defArgs s_boxed_plays) (defBody s_boxed_plays) (defScope s_boxed_plays) .none kV24 dc24 pm24 an24 cd24 ct24), sl24⟩)
    (c24 : PySem.W.codeIn K cd24 "boxed_plays" = true)
    (k24 : PySem.W.keepIn K (.ref f24) = true)
    (a25 : PySem.W.nsIn K mainGlobals "plays_within" = some (some (.ref f25)))
    (l25 : K.lookup f25 = some ⟨oc25, od25, .func (PySem.W.fnOf "plays_within" "plays_within" (defArgs s_plays_within) (defBody s_plays_within) (defScope s_plays_within) .none kV25 dc25 pm25 an25 cd25 ct25), sl25⟩)
    (c25 : PySem.W.codeIn K cd25 "plays_within" = true)
    (k25 : PySem.W.keepIn K (.ref f25) = true)
    (a26 : PySem.W.findIn K (.ref CLib) "__init__" = some (some (.ref f26)))
    (i26 : PySem.W.isFn K (.ref f26) = true)
    (l26 : K.lookup f26 = some ⟨oc26, od26, .func (PySem.W.fnOf "__init__" "Library.__init__" (defArgs s_Library__init) (defBody s_Library__init) (defScope s_Library__init) .none kV26 dc26 pm26 an26 cd26 ct26), sl26⟩)
    (c26 : PySem.W.codeIn K cd26 "Library.__init__" = true)
    (k26 : PySem.W.keepIn K (.ref f26) = true)
    (a27 : PySem.W.findIn K (.ref CLib) "__iter__" = some (some (.ref f27)))
    (i27 : PySem.W.isFn K (.ref f27) = true)
    (l27 : K.lookup f27 = some ⟨oc27, od27, .func (PySem.W.fnOf "__iter__" "Library.__iter__" (defArgs s_Library__iter) (defBody s_Library__iter) (defScope s_Library__iter) .none kV27 dc27 pm27 an27 cd27 ct27), sl27⟩)
    (c27 : PySem.W.codeIn K cd27 "Library.__iter__" = true)
    (k27 : PySem.W.keepIn K (.ref f27) = true)
    (a28 : PySem.W.findIn K (.ref CLib) "makes_of" = some (some (.ref f28)))
    (i28 : PySem.W.isFn K (.ref f28) = true)
    (l28 : K.lookup f28 = some ⟨oc28, od28, .func (PySem.W.fnOf "makes_of" "Library.makes_of" (defArgs s_Library_makes_of) (defBody s_Library_makes_of) (defScope s_Library_makes_of) .none kV28 dc28 pm28 an28 cd28 ct28), sl28⟩)
    (c28 : PySem.W.codeIn K cd28 "Library.makes_of" = true)
    (k28 : PySem.W.keepIn K (.ref f28) = true)
    (a29 : PySem.W.findIn K (.ref CLib) "opens_of" = some (some (.ref f29)))
    (i29 : PySem.W.isFn K (.ref f29) = true)
    (l29 : K.lookup f29 = some ⟨oc29, od29, .func (PySem.W.fnOf "opens_of" "Library.opens_of" (defArgs s_Library_opens_of) (defBody s_Library_opens_of) (defScope s_Library_opens_of) .none kV29 dc29 pm29 an29 cd29 ct29), sl29⟩)
    (c29 : PySem.W.codeIn K cd29 "Library.opens_of" = true)
    (k29 : PySem.W.keepIn K (.ref f29) = true)
    (a30 : PySem.W.findIn K (.ref CLib) "entry_names" = some (some (.ref f30)))
    (i30 : PySem.W.isFn K (.ref f30) = true)
    (l30 : K.lookup f30 = some ⟨oc30, od30, .func (PySem.W.fnOf "entry_names" "Library.entry_names" (defArgs s_Library_entry_names) (defBody s_Library_entry_names) (defScope s_Library_entry_names) .none kV30 dc30 pm30 an30 cd30 ct30), sl30⟩)
    (c30 : PySem.W.codeIn K cd30 "Library.entry_names" = true)
    (k30 : PySem.W.keepIn K (.ref f30) = true)
    (a31 : PySem.W.nsIn K mainGlobals "_law_cell" = some (some (.ref f31)))
    (l31 : K.lookup f31 = some ⟨oc31, od31, .func (PySem.W.fnOf "_law_cell" "_law_cell" (defArgs s_law_cell) (defBody s_law_cell) (defScope s_law_cell) .none kV31 dc31 pm31 an31 cd31 ct31), sl31⟩)
    (c31 : PySem.W.codeIn K cd31 "_law_cell" = true)
    (k31 : PySem.W.keepIn K (.ref f31) = true)
    (a32 : PySem.W.nsIn K mainGlobals "_law_pool" = some (some (.ref f32)))
    (l32 : K.lookup f32 = some ⟨oc32, od32, .func (PySem.W.fnOf "_law_pool" "_law_pool" (defArgs s_law_pool) (defBody s_law_pool) (defScope s_law_pool) .none kV32 dc32 pm32 an32 cd32 ct32), sl32⟩)
    (c32 : PySem.W.codeIn K cd32 "_law_pool" = true)
    (k32 : PySem.W.keepIn K (.ref f32) = true)
    (a33 : PySem.W.nsIn K mainGlobals "_law_next" = some (some (.ref f33)))
    (l33 : K.lookup f33 = some ⟨oc33, od33, .func (PySem.W.fnOf "_law_next" "_law_next" (defArgs s_law_next) (defBody s_law_next) (defScope s_law_next) .none kV33 dc33 pm33 an33 cd33 ct33), sl33⟩)
    (c33 : PySem.W.codeIn K cd33 "_law_next" = true)
    (k33 : PySem.W.keepIn K (.ref f33) = true)
    (a34 : PySem.W.nsIn K mainGlobals "_law_mode" = some (some (.ref f34)))
    (l34 : K.lookup f34 = some ⟨oc34, od34, .func (PySem.W.fnOf "_law_mode" "_law_mode" (defArgs s_law_mode) (defBody s_law_mode) (defScope s_law_mode) .none kV34 dc34 pm34 an34 cd34 ct34), sl34⟩)
    (c34 : PySem.W.codeIn K cd34 "_law_mode" = true)
    (k34 : PySem.W.keepIn K (.ref f34) = true)
    (a35 : PySem.W.nsIn K mainGlobals "_law_part" = some (some (.ref f35)))
    (l35 : K.lookup f35 = some ⟨oc35, od35, .func (PySem.W.fnOf "_law_part" "_law_part" (defArgs s_law_part) (defBody s_law_part) (defScope s_law_part) .none kV35 dc35 pm35 an35 cd35 ct35), sl35⟩)
    (c35 : PySem.W.codeIn K cd35 "_law_part" = true)
    (k35 : PySem.W.keepIn K (.ref f35) = true)
    (a36 : PySem.W.nsIn K mainGlobals "_law_boxed" = some (some (.ref f36)))
    (l36 : K.lookup f36 = some ⟨oc36, od36, .func (PySem.W.fnOf "_law_boxed" "_law_boxed" (defArgs s_law_boxed) (defBody s_law_boxed) (defScope s_law_boxed) .none kV36 dc36 pm36 an36 cd36 ct36), sl36⟩)
    (c36 : PySem.W.codeIn K cd36 "_law_boxed" = true)
    (k36 : PySem.W.keepIn K (.ref f36) = true)
    (a37 : PySem.W.nsIn K mainGlobals "_law_numbers" = some (some (.ref f37)))
    (l37 : K.lookup f37 = some ⟨oc37, od37, .func (PySem.W.fnOf "_law_numbers" "_law_numbers" (defArgs s_law_numbers) (defBody s_law_numbers) (defScope s_law_numbers) .none kV37 dc37 pm37 an37 cd37 ct37), sl37⟩)
    (c37 : PySem.W.codeIn K cd37 "_law_numbers" = true)
    (k37 : PySem.W.keepIn K (.ref f37) = true)
    (a38 : PySem.W.nsIn K mainGlobals "_law_put" = some (some (.ref f38)))
    (l38 : K.lookup f38 = some ⟨oc38, od38, .func (PySem.W.fnOf "_law_put" "_law_put" (defArgs s_law_put) (defBody s_law_put) (defScope s_law_put) .none kV38 dc38 pm38 an38 cd38 ct38), sl38⟩)
    (c38 : PySem.W.codeIn K cd38 "_law_put" = true)
    (k38 : PySem.W.keepIn K (.ref f38) = true)
    (a39 : PySem.W.nsIn K mainGlobals "_law_listed" = some (some (.ref f39)))
    (l39 : K.lookup f39 = some ⟨oc39, od39, .func (PySem.W.fnOf "_law_listed" "_law_listed" (defArgs s_law_listed) (defBody s_law_listed) (defScope s_law_listed) .none kV39 dc39 pm39 an39 cd39 ct39), sl39⟩)
    (c39 : PySem.W.codeIn K cd39 "_law_listed" = true)
    (k39 : PySem.W.keepIn K (.ref f39) = true)
    (a40 : PySem.W.nsIn K mainGlobals "_law_plays" = some (some (.ref f40)))
    (l40 : K.lookup f40 = some ⟨oc40, od40, .func (PySem.W.fnOf "_law_plays" "_law_plays" (defArgs s_law_plays) (defBody s_law_plays) (defScope s_law_plays) .none kV40 dc40 pm40 an40 cd40 ct40), sl40⟩)
    (c40 : PySem.W.codeIn K cd40 "_law_plays" = true)
    (k40 : PySem.W.keepIn K (.ref f40) = true)
    (a41 : PySem.W.nsIn K mainGlobals "_law_drawn" = some (some (.ref f41)))
    (l41 : K.lookup f41 = some ⟨oc41, od41, .func (PySem.W.fnOf "_law_drawn" "_law_drawn" (defArgs s_law_drawn) (defBody s_law_drawn) (defScope s_law_drawn) .none kV41 dc41 pm41 an41 cd41 ct41), sl41⟩)
    (c41 : PySem.W.codeIn K cd41 "_law_drawn" = true)
    (k41 : PySem.W.keepIn K (.ref f41) = true)
    (a42 : PySem.W.nsIn K mainGlobals "law" = some (some (.ref f42)))
    (l42 : K.lookup f42 = some ⟨oc42, od42, .func (PySem.W.fnOf "law" "law" (defArgs s_law) (defBody s_law) (defScope s_law) .none kV42 dc42 pm42 an42 cd42 ct42), sl42⟩)
    (c42 : PySem.W.codeIn K cd42 "law" = true)
    (k42 : PySem.W.keepIn K (.ref f42) = true)
    (z_len : PySem.W.nsIn K mainGlobals "len" = some none)
    (z_range : PySem.W.nsIn K mainGlobals "range" = some none)
    (z_int : PySem.W.nsIn K mainGlobals "int" = some none)
    (z_abs : PySem.W.nsIn K mainGlobals "abs" = some none)
    (z_str : PySem.W.nsIn K mainGlobals "str" = some none)
    (z_min : PySem.W.nsIn K mainGlobals "min" = some none)
    (z_max : PySem.W.nsIn K mainGlobals "max" = some none)
    (z_list : PySem.W.nsIn K mainGlobals "list" = some none)
    (z_tuple : PySem.W.nsIn K mainGlobals "tuple" = some none)
    (z_repr : PySem.W.nsIn K mainGlobals "repr" = some none)
    (z_dict : PySem.W.nsIn K mainGlobals "dict" = some none)
    (z_iter : PySem.W.nsIn K mainGlobals "iter" = some none)
    (z_isinstance : PySem.W.nsIn K mainGlobals "isinstance" = some none)
    (aT : PySem.W.nsIn K mainGlobals "Tally" = some (some (.ref CTally)))
    (aL : PySem.W.nsIn K mainGlobals "Library" = some (some (.ref CLib)))
    (aP : PySem.W.nsIn K mainGlobals "PREMISES" = some (some (.ref fP)))
    (lP : K.lookup fP = some ⟨.type "dict", none, .dict eP nP, #[]⟩)
    (kP : PySem.W.KeysLit w.params eP.toList)
    (p_own : PySem.W.nsIn K fP "own" = some (some (.int 0 t_own)))
    (p_offer : PySem.W.nsIn K fP "offer" = some (some (.int 2 t_offer)))
    (p_pick : PySem.W.nsIn K fP "pick" = some (some (.int 1 t_pick)))
    (p_pay : PySem.W.nsIn K fP "pay" = some (some (.int 2 t_pay)))
    (p_cut : PySem.W.nsIn K fP "cut" = some (some (.int 2 t_cut)))
    (pgT : PySem.W.plainGet K CTally Str.empty = true)
    (hdT : PySem.W.hasDictIn K CTally = true)
    (poT : PySem.W.plainOver K CTally = true)
    (saT : PySem.W.findIn K (.ref CTally) "__setattr__" = some (some (.builtin "object.__setattr__")))
    (mkT : PySem.W.makesIn K CTally = true)
    (kcT : PySem.W.keepIn K (.ref CTally) = true)
    (pgL : PySem.W.plainGet K CLib Str.empty = true)
    (hdL : PySem.W.hasDictIn K CLib = true)
    (poL : PySem.W.plainOver K CLib = true)
    (saL : PySem.W.findIn K (.ref CLib) "__setattr__" = some (some (.builtin "object.__setattr__")))
    (mkL : PySem.W.makesIn K CLib = true)
    (kcL : PySem.W.keepIn K (.ref CLib) = true)
    (sfT : PySem.W.selfFirst K CTally = true)
    (nTplays : PySem.W.findIn K (.ref CTally) "plays" = some none)
    (nTrows : PySem.W.findIn K (.ref CTally) "rows" = some none)
    (nTload : PySem.W.findIn K (.ref CTally) "load" = some none)
    (nLchanges : PySem.W.findIn K (.ref CLib) "changes" = some none)
    (nLwords : PySem.W.findIn K (.ref CLib) "_words" = some none)
    (nLmeetings : PySem.W.findIn K (.ref CLib) "_meetings" = some none)
    (nLentries : PySem.W.findIn K (.ref CLib) "_entries" = some none) :
    ∃ fd : FuncData, (∀ (s : Shared) (v : Value), BindsTo s fd ⟨[v], []⟩ [("script", v)]) ∧ ∀ base : Heap, K.In base → base.Ns mainGlobals mg → FnOkG P w K mg base CX0 60 fa fd ["script"] (spLaw K) := by
  have e := hfa.symm.trans (PySem.W.mg_of X G a42)
  cases e
  have F0 := fun_mk (st := s_copies) l0 c0 k0
  have b0 := F0.binds (ps := ["kind"]) fun _ _ _ _ _ _ us hl => match us, hl with | [_], _ => rfl
  have F1 := fun_mk (st := s_rank_within) l1 c1 k1
  have b1 := F1.binds (ps := ["library", "sentence", "known"]) fun _ _ _ _ _ _ us hl => match us, hl with | [_, _, _], _ => rfl
  have F2 := fun_mk (st := s_word_rank) l2 c2 k2
  have b2 := F2.binds (ps := ["library", "name", "known"]) fun _ _ _ _ _ _ us hl => match us, hl with | [_, _, _], _ => rfl
  have F3 := fun_mk (st := s_greatest_rank) l3 c3 k3
  have b3 := F3.binds (ps := ["library", "sentences", "known"]) fun _ _ _ _ _ _ us hl => match us, hl with | [_, _, _], _ => rfl
  have F4 := fun_mk (st := s_premises) l4 c4 k4
  have b4 := F4.binds (ps := ["derivation"]) fun _ _ _ _ _ _ us hl => match us, hl with | [_], _ => rfl
  have F5 := fun_mk (st := s_Tally__init) l5 c5 k5
  have b5 := F5.binds (ps := ["self", "plays", "rows", "load"]) fun _ _ _ _ _ _ us hl => match us, hl with | [_, _, _, _], _ => rfl
  have F6 := fun_mk (st := s_Tally__add) l6 c6 k6
  have b6 := F6.binds (ps := ["self", "other"]) fun _ _ _ _ _ _ us hl => match us, hl with | [_, _], _ => rfl
  have F7 := fun_mk (st := s_Tally__mul) l7 c7 k7
  have b7 := F7.binds (ps := ["self", "other"]) fun _ _ _ _ _ _ us hl => match us, hl with | [_, _], _ => rfl
  have F8 := fun_mk (st := s_Tally_copied) l8 c8 k8
  have b8 := F8.binds (ps := ["self", "n"]) fun _ _ _ _ _ _ us hl => match us, hl with | [_, _], _ => rfl
  have F9 := fun_mk (st := s_Tally_taller) l9 c9 k9
  have b9 := F9.binds (ps := ["self", "k"]) fun _ _ _ _ _ _ us hl => match us, hl with | [_, _], _ => rfl
  have F10 := fun_mk (st := s_Tally_cut) l10 c10 k10
  have b10 := F10.binds (ps := ["self", "factor"]) fun _ _ _ _ _ _ us hl => match us, hl with | [_, _], _ => rfl
  have F11 := fun_mk (st := s_Tally_triple) l11 c11 k11
  have b11 := F11.binds (ps := ["self"]) fun _ _ _ _ _ _ us hl => match us, hl with | [_], _ => rfl
  have F12 := fun_mk (st := s_riders_of) l12 c12 k12
  have b12 := F12.binds (ps := ["library", "row"]) fun _ _ _ _ _ _ us hl => match us, hl with | [_, _], _ => rfl
  have F13 := fun_mk (st := s_rider_keys) l13 c13 k13
  have b13 := F13.binds (ps := ["library"]) fun _ _ _ _ _ _ us hl => match us, hl with | [_], _ => rfl
  have F14 := fun_mk (st := s_riders) l14 c14 k14
  have b14 := F14.binds (ps := ["library", "derivation"]) fun _ _ _ _ _ _ us hl => match us, hl with | [_, _], _ => rfl
  have F15 := fun_mk (st := s_boxed_tally) l15 c15 k15
  have b15 := F15.binds (ps := ["found", "kind"]) fun _ _ _ _ _ _ us hl => match us, hl with | [_, _], _ => rfl
  have F16 := fun_mk (st := s_tally) l16 c16 k16
  have b16 := F16.binds (ps := ["library", "derivation"]) fun _ _ _ _ _ _ us hl => match us, hl with | [_, _], _ => rfl
  have F17 := fun_mk (st := s_tally_within) l17 c17 k17
  have b17 := F17.binds (ps := ["library", "derivation", "known", "ranks"]) fun _ _ _ _ _ _ us hl => match us, hl with | [_, _, _, _], _ => rfl
  have F18 := fun_mk (st := s_boxed_rows) l18 c18 k18
  have b18 := F18.binds (ps := ["rows", "kind"]) fun _ _ _ _ _ _ us hl => match us, hl with | [_, _], _ => rfl
  have F19 := fun_mk (st := s_greatest_play) l19 c19 k19
  have b19 := F19.binds (ps := ["library", "derivation"]) fun _ _ _ _ _ _ us hl => match us, hl with | [_, _], _ => rfl
  have F20 := fun_mk (st := s_greatest_within) l20 c20 k20
  have b20 := F20.binds (ps := ["library", "derivation", "known"]) fun _ _ _ _ _ _ us hl => match us, hl with | [_, _, _], _ => rfl
  have F21 := fun_mk (st := s_plays) l21 c21 k21
  have b21 := F21.binds (ps := ["library", "derivation"]) fun _ _ _ _ _ _ us hl => match us, hl with | [_, _], _ => rfl
  have F22 := fun_mk (st := s_longer) l22 c22 k22
  have b22 := F22.binds (ps := ["found", "rows", "load"]) fun _ _ _ _ _ _ us hl => match us, hl with | [_, _, _], _ => rfl
  have F23 := fun_mk (st := s_joined) l23 c23 k23
  have b23 := F23.binds (ps := ["first", "second"]) fun _ _ _ _ _ _ us hl => match us, hl with | [_, _], _ => rfl
  have F24 := fun_mk (st := s_boxed_plays) l24 c24 k24
  have b24 := F24.binds (ps := ["found", "kind"]) fun _ _ _ _ _ _ us hl => match us, hl with | [_, _], _ => rfl
  have F25 := fun_mk (st := s_plays_within) l25 c25 k25
  have b25 := F25.binds (ps := ["library", "derivation", "known", "ranks"]) fun _ _ _ _ _ _ us hl => match us, hl with | [_, _, _, _], _ => rfl
  have F26 := fun_mk (st := s_Library__init) l26 c26 k26
  have b26 := F26.binds (ps := ["self"]) fun _ _ _ _ _ _ us hl => match us, hl with | [_], _ => rfl
  have F27 := fun_mk (st := s_Library__iter) l27 c27 k27
  have b27 := F27.binds (ps := ["self"]) fun _ _ _ _ _ _ us hl => match us, hl with | [_], _ => rfl
  have F28 := fun_mk (st := s_Library_makes_of) l28 c28 k28
  have b28 := F28.binds (ps := ["self", "name"]) fun _ _ _ _ _ _ us hl => match us, hl with | [_, _], _ => rfl
  have F29 := fun_mk (st := s_Library_opens_of) l29 c29 k29
  have b29 := F29.binds (ps := ["self", "name"]) fun _ _ _ _ _ _ us hl => match us, hl with | [_, _], _ => rfl
  have F30 := fun_mk (st := s_Library_entry_names) l30 c30 k30
  have b30 := F30.binds (ps := ["self"]) fun _ _ _ _ _ _ us hl => match us, hl with | [_], _ => rfl
  have F31 := fun_mk (st := s_law_cell) l31 c31 k31
  have b31 := F31.binds (ps := ["script", "k"]) fun _ _ _ _ _ _ us hl => match us, hl with | [_, _], _ => rfl
  have F32 := fun_mk (st := s_law_pool) l32 c32 k32
  have b32 := F32.binds (ps := ["script", "k"]) fun _ _ _ _ _ _ us hl => match us, hl with | [_, _], _ => rfl
  have F33 := fun_mk (st := s_law_next) l33 c33 k33
  have b33 := F33.binds (ps := ["pool", "many"]) fun _ _ _ _ _ _ us hl => match us, hl with | [_, _], _ => rfl
  have F34 := fun_mk (st := s_law_mode) l34 c34 k34
  have b34 := F34.binds (ps := ["pool", "room"]) fun _ _ _ _ _ _ us hl => match us, hl with | [_, _], _ => rfl
  have F35 := fun_mk (st := s_law_part) l35 c35 k35
  have b35 := F35.binds (ps := ["pool", "level", "depth", "room"]) fun _ _ _ _ _ _ us hl => match us, hl with | [_, _, _, _], _ => rfl
  have F36 := fun_mk (st := s_law_boxed) l36 c36 k36
  have b36 := F36.binds (ps := ["one", "mode"]) fun _ _ _ _ _ _ us hl => match us, hl with | [_, _], _ => rfl
  have F37 := fun_mk (st := s_law_numbers) l37 c37 k37
  have b37 := F37.binds (ps := ["tree"]) fun _ _ _ _ _ _ us hl => match us, hl with | [_], _ => rfl
  have F38 := fun_mk (st := s_law_put) l38 c38 k38
  have b38 := F38.binds (ps := ["total", "play", "many"]) fun _ _ _ _ _ _ us hl => match us, hl with | [_, _, _], _ => rfl
  have F39 := fun_mk (st := s_law_listed) l39 c39 k39
  have b39 := F39.binds (ps := ["tree"]) fun _ _ _ _ _ _ us hl => match us, hl with | [_], _ => rfl
  have F40 := fun_mk (st := s_law_plays) l40 c40 k40
  have b40 := F40.binds (ps := ["tree", "found"]) fun _ _ _ _ _ _ us hl => match us, hl with | [_, _], _ => rfl
  have F41 := fun_mk (st := s_law_drawn) l41 c41 k41
  have b41 := F41.binds (ps := ["pool"]) fun _ _ _ _ _ _ us hl => match us, hl with | [_], _ => rfl
  have F42 := fun_mk (st := s_law) l42 c42 k42
  have b42 := F42.binds (ps := ["script"]) fun _ _ _ _ _ _ us hl => match us, hl with | [_], _ => rfl
  refine ⟨PySem.W.fnOf "law" "law" (defArgs s_law) (defBody s_law) (defScope s_law) .none kV42 dc42 pm42 an42 cd42 ct42, fun s v => .of_eq rfl, fun base _ _ => ?_⟩
  exact law_ok (T := {
a_copies := f0, d_copies := _, F_copies := F0, b_copies := b0,
    m_copies := PySem.W.mg_of X G a0,
    a_rank_within := f1, d_rank_within := _, F_rank_within := F1, b_rank_within := b1,
    m_rank_within := PySem.W.mg_of X G a1,
    a_word_rank := f2, d_word_rank := _, F_word_rank := F2, b_word_rank := b2,
    m_word_rank := PySem.W.mg_of X G a2,
    a_greatest_rank := f3, d_greatest_rank := _, F_greatest_rank := F3, b_greatest_rank := b3,
    m_greatest_rank := PySem.W.mg_of X G a3,
    a_premises := f4, d_premises := _, F_premises := F4, b_premises := b4,
    m_premises := PySem.W.mg_of X G a4,
    a_Tally__init := f5, d_Tally__init := _, F_Tally__init := F5, b_Tally__init := b5,
    a_Tally__add := f6, d_Tally__add := _, F_Tally__add := F6, b_Tally__add := b6,
    a_Tally__mul := f7, d_Tally__mul := _, F_Tally__mul := F7, b_Tally__mul := b7,
    a_Tally_copied := f8, d_Tally_copied := _, F_Tally_copied := F8, b_Tally_copied := b8,
    a_Tally_taller := f9, d_Tally_taller := _, F_Tally_taller := F9, b_Tally_taller := b9,
    a_Tally_cut := f10, d_Tally_cut := _, F_Tally_cut := F10, b_Tally_cut := b10,
    a_Tally_triple := f11, d_Tally_triple := _, F_Tally_triple := F11, b_Tally_triple := b11,
    a_riders_of := f12, d_riders_of := _, F_riders_of := F12, b_riders_of := b12,
    m_riders_of := PySem.W.mg_of X G a12,
    a_rider_keys := f13, d_rider_keys := _, F_rider_keys := F13, b_rider_keys := b13,
    m_rider_keys := PySem.W.mg_of X G a13,
    a_riders := f14, d_riders := _, F_riders := F14, b_riders := b14,
    m_riders := PySem.W.mg_of X G a14,
    a_boxed_tally := f15, d_boxed_tally := _, F_boxed_tally := F15, b_boxed_tally := b15,
    m_boxed_tally := PySem.W.mg_of X G a15,
    a_tally := f16, d_tally := _, F_tally := F16, b_tally := b16,
    m_tally := PySem.W.mg_of X G a16,
    a_tally_within := f17, d_tally_within := _, F_tally_within := F17, b_tally_within := b17,
    m_tally_within := PySem.W.mg_of X G a17,
    a_boxed_rows := f18, d_boxed_rows := _, F_boxed_rows := F18, b_boxed_rows := b18,
    m_boxed_rows := PySem.W.mg_of X G a18,
    a_greatest_play := f19, d_greatest_play := _, F_greatest_play := F19, b_greatest_play := b19,
    m_greatest_play := PySem.W.mg_of X G a19,
    a_greatest_within := f20, d_greatest_within := _, F_greatest_within := F20, b_greatest_within := b20,
    m_greatest_within := PySem.W.mg_of X G a20,
    a_plays := f21, d_plays := _, F_plays := F21, b_plays := b21,
    m_plays := PySem.W.mg_of X G a21,
    a_longer := f22, d_longer := _, F_longer := F22, b_longer := b22,
    m_longer := PySem.W.mg_of X G a22,
    a_joined := f23, d_joined := _, F_joined := F23, b_joined := b23,
    m_joined := PySem.W.mg_of X G a23,
    a_boxed_plays := f24, d_boxed_plays := _, F_boxed_plays := F24, b_boxed_plays := b24,
    m_boxed_plays := PySem.W.mg_of X G a24,
    a_plays_within := f25, d_plays_within := _, F_plays_within := F25, b_plays_within := b25,
    m_plays_within := PySem.W.mg_of X G a25,
    a_Library__init := f26, d_Library__init := _, F_Library__init := F26, b_Library__init := b26,
    a_Library__iter := f27, d_Library__iter := _, F_Library__iter := F27, b_Library__iter := b27,
    a_Library_makes_of := f28, d_Library_makes_of := _, F_Library_makes_of := F28, b_Library_makes_of := b28,
    a_Library_opens_of := f29, d_Library_opens_of := _, F_Library_opens_of := F29, b_Library_opens_of := b29,
    a_Library_entry_names := f30, d_Library_entry_names := _, F_Library_entry_names := F30, b_Library_entry_names := b30,
    a_law_cell := f31, d_law_cell := _, F_law_cell := F31, b_law_cell := b31,
    m_law_cell := PySem.W.mg_of X G a31,
    a_law_pool := f32, d_law_pool := _, F_law_pool := F32, b_law_pool := b32,
    m_law_pool := PySem.W.mg_of X G a32,
    a_law_next := f33, d_law_next := _, F_law_next := F33, b_law_next := b33,
    m_law_next := PySem.W.mg_of X G a33,
    a_law_mode := f34, d_law_mode := _, F_law_mode := F34, b_law_mode := b34,
    m_law_mode := PySem.W.mg_of X G a34,
    a_law_part := f35, d_law_part := _, F_law_part := F35, b_law_part := b35,
    m_law_part := PySem.W.mg_of X G a35,
    a_law_boxed := f36, d_law_boxed := _, F_law_boxed := F36, b_law_boxed := b36,
    m_law_boxed := PySem.W.mg_of X G a36,
    a_law_numbers := f37, d_law_numbers := _, F_law_numbers := F37, b_law_numbers := b37,
    m_law_numbers := PySem.W.mg_of X G a37,
    a_law_put := f38, d_law_put := _, F_law_put := F38, b_law_put := b38,
    m_law_put := PySem.W.mg_of X G a38,
    a_law_listed := f39, d_law_listed := _, F_law_listed := F39, b_law_listed := b39,
    m_law_listed := PySem.W.mg_of X G a39,
    a_law_plays := f40, d_law_plays := _, F_law_plays := F40, b_law_plays := b40,
    m_law_plays := PySem.W.mg_of X G a40,
    a_law_drawn := f41, d_law_drawn := _, F_law_drawn := F41, b_law_drawn := b41,
    m_law_drawn := PySem.W.mg_of X G a41,
    a_law := fa, d_law := _, F_law := F42, b_law := b42,
    m_law := PySem.W.mg_of X G a42,
    z_len := PySem.W.mg_none_of X G z_len,
    z_range := PySem.W.mg_none_of X G z_range,
    z_int := PySem.W.mg_none_of X G z_int,
    z_abs := PySem.W.mg_none_of X G z_abs,
    z_str := PySem.W.mg_none_of X G z_str,
    z_min := PySem.W.mg_none_of X G z_min,
    z_max := PySem.W.mg_none_of X G z_max,
    z_list := PySem.W.mg_none_of X G z_list,
    z_tuple := PySem.W.mg_none_of X G z_tuple,
    z_repr := PySem.W.mg_none_of X G z_repr,
    z_dict := PySem.W.mg_none_of X G z_dict,
    z_iter := PySem.W.mg_none_of X G z_iter,
    z_isinstance := PySem.W.mg_none_of X G z_isinstance,
    C_Tally := CTally, cl_Tally := ⟨pgT, hdT, poT, saT⟩, c_Tally := PySem.W.mg_of X G aT, k_Tally := ⟨mkT, a5, i5, kcT⟩, sf_Tally := sfT, n_plays := nTplays, n_rows := nTrows, n_load := nTload,
    mt_Tally_copied := ⟨a8, i8, k8⟩,
    mt_Tally_taller := ⟨a9, i9, k9⟩,
    mt_Tally_cut := ⟨a10, i10, k10⟩,
    mt_Tally_triple := ⟨a11, i11, k11⟩,
    of_Tally__add := a6, oi_Tally__add := i6,
    of_Tally__mul := a7, oi_Tally__mul := i7,
    C_Library := CLib, cl_Library := ⟨pgL, hdL, poL, saL⟩, c_Library := PySem.W.mg_of X G aL, k_Library := ⟨mkL, a26, i26, kcL⟩,
    ii_Library := a27, if_Library := i27,
    n_changes := nLchanges, n_words := nLwords, n_meetings := nLmeetings, n_entries := nLentries,
    mt_Library_makes_of := ⟨a28, i28, k28⟩,
    mt_Library_opens_of := ⟨a29, i29, k29⟩,
    mt_Library_entry_names := ⟨a30, i30, k30⟩,
    a_PREMISES := fP, m_PREMISES := PySem.W.mg_of X G aP,
    pr_own := ⟨eP, nP, _, lP, kP, p_own, t_own, rfl⟩,
    pr_offer := ⟨eP, nP, _, lP, kP, p_offer, t_offer, rfl⟩,
    pr_pick := ⟨eP, nP, _, lP, kP, p_pick, t_pick, rfl⟩,
    pr_pay := ⟨eP, nP, _, lP, kP, p_pay, t_pay, rfl⟩,
    pr_cut := ⟨eP, nP, _, lP, kP, p_cut, t_cut, rfl⟩ })
end W77
open PySem PySem.W PyProof.Rows
set_option maxRecDepth 100000 in
set_option maxHeartbeats 0 in
theorem PySem.Challenge.cw_heldanswers_k77_seam_large_plays_holds : PySem.Challenge.rw_heldanswers_k77_seam_large_plays.Holds := by
  w_on; o_law; k_head; (case hw => w_witness2)
  k_fill
  refine HX.walk_ofG (l := PySem.Challenge.rw_heldanswers_k77_seam_large_plays) (n := 63) (k := 60) (x := "script") (CX := fun _ => L2.CX0) (sp := fun w => W77.spLaw _) rfl (by decide) rfl ⟨rfl, by decide, by decide⟩ (fun w h Y => PySem.W.kIn_of Y) ?F (fun _ _ a ns hl _ hS => ⟨a, ns, rfl, hS, hl, fun _ => rfl⟩) fun _ _ _ _ _ z => z
  case F =>
    intro w mg fa h KX G hmg
    have hmg2 : mg "law" = some (.ref fa) := hmg
    clear hmg
    refine' W77.all_mk KX G hmg2 ?a0 ?l0 ?c0 ?k0 ?a1 ?l1 ?c1 ?k1 ?a2 ?l2 ?c2 ?k2 ?a3 ?l3 ?c3 ?k3 ?a4 ?l4 ?c4 ?k4 ?a5 ?i5 ?l5 ?c5 ?k5 ?a6 ?i6 ?l6 ?c6 ?k6 ?a7 ?i7 ?l7 ?c7 ?k7 ?a8 ?i8 ?l8 ?c8 ?k8 ?a9 ?i9 ?l9 ?c9 ?k9 ?a10 ?i10 ?l10 ?c10 ?k10 ?a11 ?i11 ?l11 ?c11 ?k11 ?a12 ?l12 ?c12 ?k12 ?a13 ?l13 ?c13 ?k13 ?a14 ?l14 ?c14 ?k14 ?a15 ?l15 ?c15 ?k15 ?a16 ?l16 ?c16 ?k16 ?a17 ?l17 ?c17 ?k17 ?a18 ?l18 ?c18 ?k18 ?a19 ?l19 ?c19 ?k19 ?a20 ?l20 ?c20 ?k20 ?a21 ?l21 ?c21 ?k21 ?a22 ?l22 ?c22 ?k22 ?a23 ?l23 ?c23 ?k23 ?a24 ?l24 ?c24 ?k24 ?a25 ?l25 ?c25 ?k25 ?a26 ?i26 ?l26 ?c26 ?k26 ?a27 ?i27 ?l27 ?c27 ?k27 ?a28 ?i28 ?l28 ?c28 ?k28 ?a29 ?i29 ?l29 ?c29 ?k29 ?a30 ?i30 ?l30 ?c30 ?k30 ?a31 ?l31 ?c31 ?k31 ?a32 ?l32 ?c32 ?k32 ?a33 ?l33 ?c33 ?k33 ?a34 ?l34 ?c34 ?k34 ?a35 ?l35 ?c35 ?k35 ?a36 ?l36 ?c36 ?k36 ?a37 ?l37 ?c37 ?k37 ?a38 ?l38 ?c38 ?k38 ?a39 ?l39 ?c39 ?k39 ?a40 ?l40 ?c40 ?k40 ?a41 ?l41 ?c41 ?k41 ?a42 ?l42 ?c42 ?k42 ?z_len ?z_range ?z_int ?z_abs ?z_str ?z_min ?z_max ?z_list ?z_tuple ?z_repr ?z_dict ?z_iter ?z_isinstance ?aT ?aL ?aP ?lP ?kP ?p_own ?p_offer ?p_pick ?p_pay ?p_cut ?pgT ?hdT ?poT ?saT ?mkT ?kcT ?pgL ?hdL ?poL ?saL ?mkL ?kcL ?sfT ?nTplays ?nTrows ?nTload ?nLchanges ?nLwords ?nLmeetings ?nLentries
    (case aT => k_is)
    (case aL => k_is)
    (case aP => k_is)
    (case lP => k_is)
    (case a0 => k_is)
    (case l0 => k_is)
    (case c0 => k_is)
    (case k0 => k_is)
    (case a1 => k_is)
    (case l1 => k_is)
    (case c1 => k_is)
    (case k1 => k_is)
    (case a2 => k_is)
    (case l2 => k_is)
    (case c2 => k_is)
    (case k2 => k_is)
    (case a3 => k_is)
    (case l3 => k_is)
    (case c3 => k_is)
    (case k3 => k_is)
    (case a4 => k_is)
    (case l4 => k_is)
    (case c4 => k_is)
    (case k4 => k_is)
    (case a5 => k_is)
    (case i5 => k_is)
    (case l5 => k_is)
    (case c5 => k_is)
    (case k5 => k_is)
    (case a6 => k_is)
    (case i6 => k_is)
    (case l6 => k_is)
    (case c6 => k_is)
    (case k6 => k_is)
    (case a7 => k_is)
    (case i7 => k_is)
    (case l7 => k_is)
    (case c7 => k_is)
    (case k7 => k_is)
    (case a8 => k_is)
    (case i8 => k_is)
    (case l8 => k_is)
    (case c8 => k_is)
    (case k8 => k_is)
    (case a9 => k_is)
    (case i9 => k_is)
    (case l9 => k_is)
    (case c9 => k_is)
    (case k9 => k_is)
    (case a10 => k_is)
    (case i10 => k_is)
    (case l10 => k_is)
    (case c10 => k_is)
    (case k10 => k_is)
    (case a11 => k_is)
    (case i11 => k_is)
    (case l11 => k_is)
    (case c11 => k_is)
    (case k11 => k_is)
    (case a12 => k_is)
    (case l12 => k_is)
    (case c12 => k_is)
    (case k12 => k_is)
    (case a13 => k_is)
    (case l13 => k_is)
    (case c13 => k_is)
    (case k13 => k_is)
    (case a14 => k_is)
    (case l14 => k_is)
    (case c14 => k_is)
    (case k14 => k_is)
    (case a15 => k_is)
    (case l15 => k_is)
    (case c15 => k_is)
    (case k15 => k_is)
    (case a16 => k_is)
    (case l16 => k_is)
    (case c16 => k_is)
    (case k16 => k_is)
    (case a17 => k_is)
    (case l17 => k_is)
    (case c17 => k_is)
    (case k17 => k_is)
    (case a18 => k_is)
    (case l18 => k_is)
    (case c18 => k_is)
    (case k18 => k_is)
    (case a19 => k_is)
    (case l19 => k_is)
    (case c19 => k_is)
    (case k19 => k_is)
    (case a20 => k_is)
    (case l20 => k_is)
    (case c20 => k_is)
    (case k20 => k_is)
    (case a21 => k_is)
    (case l21 => k_is)
    (case c21 => k_is)
    (case k21 => k_is)
    (case a22 => k_is)
    (case l22 => k_is)
    (case c22 => k_is)
    (case k22 => k_is)
    (case a23 => k_is)
    (case l23 => k_is)
    (case c23 => k_is)
    (case k23 => k_is)
    (case a24 => k_is)
    (case l24 => k_is)
    (case c24 => k_is)
    (case k24 => k_is)
    (case a25 => k_is)
    (case l25 => k_is)
    (case c25 => k_is)
    (case k25 => k_is)
    (case a26 => k_is)
    (case i26 => k_is)
    (case l26 => k_is)
    (case c26 => k_is)
    (case k26 => k_is)
    (case a27 => k_is)
    (case i27 => k_is)
    (case l27 => k_is)
    (case c27 => k_is)
    (case k27 => k_is)
    (case a28 => k_is)
    (case i28 => k_is)
    (case l28 => k_is)
    (case c28 => k_is)
    (case k28 => k_is)
    (case a29 => k_is)
    (case i29 => k_is)
    (case l29 => k_is)
    (case c29 => k_is)
    (case k29 => k_is)
    (case a30 => k_is)
    (case i30 => k_is)
    (case l30 => k_is)
    (case c30 => k_is)
    (case k30 => k_is)
    (case a31 => k_is)
    (case l31 => k_is)
    (case c31 => k_is)
    (case k31 => k_is)
    (case a32 => k_is)
    (case l32 => k_is)
    (case c32 => k_is)
    (case k32 => k_is)
    (case a33 => k_is)
    (case l33 => k_is)
    (case c33 => k_is)
    (case k33 => k_is)
    (case a34 => k_is)
    (case l34 => k_is)
    (case c34 => k_is)
    (case k34 => k_is)
    (case a35 => k_is)
    (case l35 => k_is)
    (case c35 => k_is)
    (case k35 => k_is)
    (case a36 => k_is)
    (case l36 => k_is)
    (case c36 => k_is)
    (case k36 => k_is)
    (case a37 => k_is)
    (case l37 => k_is)
    (case c37 => k_is)
    (case k37 => k_is)
    (case a38 => k_is)
    (case l38 => k_is)
    (case c38 => k_is)
    (case k38 => k_is)
    (case a39 => k_is)
    (case l39 => k_is)
    (case c39 => k_is)
    (case k39 => k_is)
    (case a40 => k_is)
    (case l40 => k_is)
    (case c40 => k_is)
    (case k40 => k_is)
    (case a41 => k_is)
    (case l41 => k_is)
    (case c41 => k_is)
    (case k41 => k_is)
    (case a42 => k_is)
    (case l42 => k_is)
    (case c42 => k_is)
    (case k42 => k_is)
    (case z_len => k_is)
    (case z_range => k_is)
    (case z_int => k_is)
    (case z_abs => k_is)
    (case z_str => k_is)
    (case z_min => k_is)
    (case z_max => k_is)
    (case z_list => k_is)
    (case z_tuple => k_is)
    (case z_repr => k_is)
    (case z_dict => k_is)
    (case z_iter => k_is)
    (case z_isinstance => k_is)
    (case kP => k_keys)
    (case p_own => k_is)
    (case p_offer => k_is)
    (case p_pick => k_is)
    (case p_pay => k_is)
    (case p_cut => k_is)
    (case pgT => k_is)
    (case hdT => k_is)
    (case poT => k_is)
    (case saT => k_is)
    (case mkT => k_is)
    (case kcT => k_is)
    (case pgL => k_is)
    (case hdL => k_is)
    (case poL => k_is)
    (case saL => k_is)
    (case mkL => k_is)
    (case kcL => k_is)
    (case sfT => k_is)
    (case nTplays => k_is)
    (case nTrows => k_is)
    (case nTload => k_is)
    (case nLchanges => k_is)
    (case nLwords => k_is)
    (case nLmeetings => k_is)
    (case nLentries => k_is)
#print axioms PySem.Challenge.cw_heldanswers_k77_seam_large_plays_holds
