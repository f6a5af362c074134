import PyProof.Rows.All
import Wide.All
import OpenK.AllK
import Wide.FinOn
import HandS.ForMost
import HandS.Exc
import HandS.ExcOwn
import HandS.ExcInit
import HandS.ExcField
import HandS.WordsExc
import HandS.DictComp
import HandS.Flow
import PyProof.ReprRoads
import PyProof.ReprLen
import HandS.RaiseMore
import PySem.Challenge.RW_heldanswers_k76_seam_large_worlds
import HandS.Conv
import PyProof.Rows.ReprOcc
import PyProof.ReprText
set_option Elab.async false
set_option linter.all false
set_option maxRecDepth 100000
set_option maxHeartbeats 4000000
namespace HX
open PySem PySem.Spec PyProof.Rows L2
/-! ### B.__init__(self, ..) where B is an own class that has its __init__ from ValueError -/
section
variable {X : Cx} {CB : Addr} {x : Str} {e : Expr} {es : List Expr} {ta : TA} {p1 p2 pos : Pos}
theorem pe_baseInit {pl : Sem Bool} (gl : Gl X x) (mx : X.mg x = some (.ref CB)) (rd : PySem.W.readsIn X.K CB (.type "type") = true)
    (sp : PySem.W.specialIn X.K (.ref CB) "__getattribute__" = some (some (.builtin "type.__getattribute__")))
    (fc : PySem.W.findCls X.K (.ref CB) (.type "type") "__init__" = some (.val (.builtin "ValueError.__init__"))) (args : PA X (e :: es) ta)
    (ndb : (x == ("__debug__" : Str)) = false := by decide)
    (how : eval (.Call (.Attribute (.Name x p1) "__init__" p2) (e :: es) [] pos) X.env = (do
      let ov ← eval (.Name x p1) X.env
      standAt p2.atName
      let (f, first) ← holding [ov] (getMethod ov "__init__" pl)
      callWith pos f first (backTo pos (starEach (e :: es) X.env)) (backToKw pos (keywordEach [] X.env))) := by rfl)
    (hst : starEach (e :: es) X.env = (false, eval e X.env) :: starEach es X.env := by rfl) (hno : (backTo pos (starEach es X.env)).any (·.1) = false := by rfl) :
    PE X (.Call (.Attribute (.Name x p1) "__init__" p2) (e :: es) [] pos) (tVeI X.K ta) := by
  constructor
  intro pins s σ H Q I want
  refine PySem.W.methodCall_KW (ld_glob I gl mx ?_ ndb) how
  refine PySem.W.method_cls I.kIn sp (PySem.W.cls_value I.kIn rd fc (by decide) ?_)
  show wpAny _ _ (callWith pos (Value.builtin "ValueError.__init__") [] (backTo pos (starEach (e :: es) X.env)) []) _ _ _
  refine PyProof.Rows.callWith_method1 (thn (args.run pos pins _ σ H _ (I.tok _) want) fun us s1 got => ?_) hst hno
  obtain ⟨vs, H1, I1, r1, a, C, ws, ev, hl, T, ea, q⟩ := got
  subst ev
  cases r1 with
  | @cons _ u0 _ ur ra rest =>
    obtain rfl : u0 = Value.ref a := ra
    have len : ur.length ≤ sizeLine := by
      have e1 := Paired.length rest
      have e2 := sizeLine_eq
      omega
    exact oinit_ok T I1 ea len fun s' J => ⟨V.non, H1, J, rfl, q⟩
end
/-! ### len(o), o an instance of an own class with __len__ -/
section
variable {X : Cx} {CX : CXT} {k : Nat} {C g : Addr} {fd : FuncData} {sp : Sp} {E : XK}
theorem call_lenOwn (hs : PySem.W.findIn X.K (.ref C) "__len__" = some (some (.ref g))) (hf : PySem.W.isFn X.K (.ref g) = true)
    (F : FnOk X.prog X.w X.K X.mg X.base CX k g fd ["self"] sp) (hr : Room (k + 1) X.A) (hb : Binds X.K fd ["self"] []) (hx : Passes CX X E) :
    CallR X (.builtin "len") (fun vs H Q => ∃ (a dx : Addr) (fs : List (Str × V)), vs = [.ref a] ∧ H a = some (.ins C dx fs) ∧
      sp [.ref a] H (fun v H' => ∃ n : Int, v = .int n ∧ 0 ≤ n ∧ n < 2 ^ 63 ∧ Q (.int n) H') E) := by
  intro pins s σ H xs us Q I r h
  obtain ⟨a, dx, fs, rfl, ha, q⟩ := h
  obtain ⟨u, rfl, ru⟩ := vals1 r
  obtain rfl : u = Value.ref a := ru
  obtain ⟨mA, O, _, _, _, _⟩ := ins_get I.hok ha
  obtain ⟨od, J, _⟩ := O.look
  obtain ⟨m, fr⟩ := I.fr
  refine PySem.W.len_K fr I.ok.mod.kin J hs hf ?_
  refine wpAny_call (codeAny_mono (F.run X.A.in1 X.stack s H ⟨[.ref a], []⟩ [.ref a] [.ref a] _ E hr.in1 I.env0.in1 (by simpa using hb s [.ref a] I.kIn rfl) (.cons rfl .nil) q) fun r s' hq => ?_)
  cases r with
  | error er => exact hx pins σ H s er s' I hq
  | ok fl =>
    cases fl with
    | ret u =>
      obtain ⟨v, H', I3, rv, n, rfl, h0, h1, q3⟩ := I.after hq
      obtain ⟨t, rfl⟩ := rv
      exact ⟨⟨h0, h1⟩, .int n, H', I3.tok _, ⟨_, rfl⟩, q3⟩
    | next => exact False.elim hq
    | brk => exact False.elim hq
    | cont => exact False.elim hq
end
end HX
namespace HX
open PySem PySem.Spec PyProof.Rows L2
/-! ### a def's promise where it is known that no repr is under way around it -/
/-- as FnOk, asked only where the guards are known to be none -/
structure FnOkG (P : Program) (w : World) (K : PySem.W.Frag) (mg : Str → Option Value) (base : Heap) (CX : CXT) (k : Nat) (f : Addr) (fd : FuncData) (ps : List Str) (sp : Sp) : Prop where
  len : ∀ vs H Q E, sp vs H Q E → vs.length = ps.length
  go : ∀ (A : Around) (outer : List Env) (s : Shared) (H : Hp) (args : Args) (us : List Value) (vs : List V) (Q : VK) (E : XK), A.guards = some [] → Room k A →
    Env0 P w K mg base A outer s H → BindsTo s fd args (ps.zip us) → Vals vs us → sp vs H Q E → codeAny (model P w) A (.call (.ref f) args) (CR CX outer P w H s Q E) s
section
variable {P : Program} {w : World} {K : PySem.W.Frag} {mg : Str → Option Value} {base : Heap} {CX : CXT}
theorem FnOkG.of {k : Nat} {f : Addr} {fd : FuncData} {ps : List Str} {sp : Sp} (F : FnOk P w K mg base CX k f fd ps sp) : FnOkG P w K mg base CX k f fd ps sp :=
  ⟨F.len, fun A outer s H args us vs Q E _ hr he hb hv h => F.run A outer s H args us vs Q E hr he hb hv h⟩
theorem FnOkG.mono {j k : Nat} {f : Addr} {fd : FuncData} {ps : List Str} {sp : Sp} (F : FnOkG P w K mg base CX j f fd ps sp) (h : j ≤ k) : FnOkG P w K mg base CX k f fd ps sp :=
  ⟨F.len, fun A outer s H args us vs Q E hg hr => F.go A outer s H args us vs Q E hg (hr.mono h)⟩
/-- the rule for a def's body, with the guards told -/
theorem Fun.okG {x qual : Str} {st : Stmt} {f : Addr} {fd : FuncData} {N ps : List Str} {k : Nat} {sp : Sp} (F : Fun K x qual st f fd) (S : FnScope N ps (defScope st)) (len : ∀ vs H Q E, sp vs H Q E → vs.length = ps.length)
    (body : ∀ (cdv : Value) (A : Around) (outer : List Env) (s : Shared) (H : Hp) (vs : List V) (Q : VK) (E : XK), A.guards = some [] → Room k (A.deeper (envOfC qual (defScope st) s.heap.objs.size f cdv)) → sp vs H Q E →
      ∃ t, PSs (cxOf CX P w K mg base N qual (defScope st) f cdv A outer s H E) (defBody st) t ∧ t { nx := fun _ H' => Q .non H', rt := Q } (start N vs) H) : FnOkG P w K mg base CX (k + 1) f fd ps sp := by
  obtain ⟨oc, od, kV, doc, pm, an, cdv, ct, osl, rfl, lk, code⟩ := F.ex
  refine ⟨len, ?_⟩
  intro A outer s H args us vs Q E hg hr e0 hb r want
  have keeps : ∀ b o, base.get? b = some o → s.heap.get? b = some o := fun b o e => (e0.bs b o e).1
  have inK : K.In s.heap := e0.mod.kin.keeps keeps
  have many := len _ _ _ _ want
  have kinds : ∀ y ∈ ps.zip us, (defScope st).names.lookup y.1 = some .local ∨ ((defScope st).names.lookup y.1 = some .cell ∧ ((cellsFrom (s.heap.objs.size + 1) (defScope st).names []).lookup y.1).isSome = true) := by
    rintro ⟨n, v⟩ hy
    have hn : n ∈ ps := (List.of_mem_zip hy).1
    rcases S.par n hn with q | q
    · exact Or.inl q
    · exact Or.inr ⟨q, PySem.W.cellsFrom_some _ _ _ (Or.inl q)⟩
  refine codeAny_call_function hr.depth (inK _ _ lk) rfl S.co S.gen rfl (PySem.W.codeRec_of inK code) (hb _ _ _ _ ?_)
  refine wpAny_newFunctionEnv_cells S.kind kinds fun env he s1 x => ?_
  subst he
  refine ⟨(e0.mod.nolimit.keeps keeps).keeps x.toInCall.keep, codeAny_func ?_⟩
  obtain ⟨t, ht, hq⟩ := body cdv A outer s H vs Q E hg (hr.deeper _) want
  have I := inv_start (P := P) (CX := CX) (E := E) (qual := qual) S hr.hd e0 many r x
  refine wpAny_mono (ht.run [] s1 (start N vs) H _ I hq) (fun fl s' hs => ?_) fun e s' hs => hs
  cases fl with
  | next =>
    obtain ⟨σ', H', J, q⟩ := hs
    exact ⟨V.non, H', J.os, J.bare, J.base, J.hok, rfl, q⟩
  | ret u =>
    obtain ⟨v, σ', H', J, rv, q⟩ := hs
    exact ⟨v, H', J.os, J.bare, J.base, J.hok, rv, q⟩
  | brk =>
    obtain ⟨_, _, _, q⟩ := hs
    exact q.elim
  | cont =>
    obtain ⟨_, _, _, q⟩ := hs
    exact q.elim
end
section
variable {X : Cx} {CX : CXT} {k : Nat} {f : Addr} {fd : FuncData} {ps : List Str} {sp : Sp} {E : XK} {x : Str} {p pos : Pos} {e : Expr} {es : List Expr} {t : TA}
/-- f(e, ..), f's promise wanting that no repr is under way -/
theorem pe_callG (gd : X.A.guards = some []) (F : FnOkG X.prog X.w X.K X.mg X.base CX k f fd ps sp) (hr : Room k X.A) (gl : Gl X x) (mx : X.mg x = some (.ref f)) (kp : PySem.W.keepIn X.K (.ref f) = true) (hb : Binds X.K fd ps []) (hx : Passes CX X E)
    (args : PA X (e :: es) t) (ndb : (x == ("__debug__" : Str)) = false := by decide) (hst : starEach (e :: es) X.env = (false, eval e X.env) :: starEach es X.env := by rfl) (hno : (backTo pos (starEach es X.env)).any (·.1) = false := by rfl) :
    PE X (.Call (.Name x p) (e :: es) [] pos) (tCall sp [] E t) := by
  constructor
  intro pins s σ H Q I want
  refine wpAny_Call_Name_kw (ld_glob I gl mx ?_ ndb)
  refine PySem.W.callWith_K (h₀ := X.base) I.ok.mod.kin kp (thn (args.run pos pins s σ H _ I want) fun us s1 got => ?_) hst hno
  obtain ⟨vs, H1, I1, r, q⟩ := got
  rw [List.append_nil] at q
  refine ⟨I1.kIn, ?_⟩
  have many : us.length = ps.length := r.length.symm.trans (F.len _ _ _ _ q)
  have bd : BindsTo s1 fd ⟨us, []⟩ (ps.zip us) := by
    have b := hb s1 us I1.kIn (by rw [List.append_nil]; exact many)
    rwa [List.append_nil] at b
  refine wpAny_call (codeAny_mono (F.go X.A X.stack s1 H1 ⟨us, []⟩ us vs Q E gd hr I1.env0 bd r q) fun r' s' hq => ?_)
  cases r' with
  | error er => exact hx pins σ H1 s1 er s' I1 hq
  | ok fl =>
    cases fl with
    | ret u => exact I1.after hq
    | next => exact hq.elim
    | brk => exact hq.elim
    | cont => exact hq.elim
end
/-! ### the law's call from the caller of the claim -/
/-- the heap that tracks the script alone -/
def onlyAt (a : Addr) (o : Obj) (xs : List V) : Hp := fun b => if b = a then some (.frz o (.lst xs)) else none
theorem onlyAt_self {a : Addr} {o : Obj} {xs : List V} : onlyAt a o xs a = some (.frz o (.lst xs)) := if_pos rfl
theorem onlyAt_ne {a b : Addr} {o : Obj} {xs : List V} (h : b ≠ a) : onlyAt a o xs b = none := if_neg h
section
variable {P : Program} {w : World} {K : PySem.W.Frag} {mg mb : Str → Option Value} {CX : CXT} {k : Nat} {fa a : Addr} {fd : FuncData} {x : Str} {sp : Sp} {s : Shared} {vs : List Value} {ns : List Int}
/-- from an abstract heap H that fits the state -/
theorem law_from (H : Hp) (inK : K.In s.heap) (gm : s.heap.Ns mainGlobals mg) (gb : s.heap.Ns builtinsNs mb) (bb : ∀ x : Str, x ≠ "__name__" → mb x = bootBuiltins x) (lim : s.heap.NoLimit) (gens : s.gens = #[])
    (obj : s.heap.get? a = some { cls := .type "list", data := .seq vs.toArray }) (room : Room k callerA) (F : ∀ base : Heap, K.In base → base.Ns mainGlobals mg → FnOkG P w K mg base CX k fa fd [x] sp)
    (bind : ∀ (s : Shared) (u : Value), BindsTo s fd ⟨[u], []⟩ [(x, u)]) (want : sp [.ref a] H (fun v _ => v = .bl true) fun _ _ _ => False) (noX : ∀ e s', CX [] H s (fun _ _ _ => False) e s' → False)
    (hok : HOk P w H s.heap) (only : Only H) (atA : ∀ b, H b ≠ none → b = a) (notK : H a ≠ none → K.lookup a = none) :
    codeAny (model P w) callerA (.call (.ref fa) ⟨[.ref a], []⟩) (fun r s' => r = .ok (.ret (.bool true)) ∧ OldK s.heap s'.heap ∧ s'.os = s.os ∧ AllBare s'.gens) s := by
  -- a dict of the state is not tracked
  have dicts : ∀ {b : Addr} {m : Str → Option Value}, s.heap.Ns b m → (hidT s.heap H).Ns b m := by
    rintro b m ⟨o, es, ep, e, d, r⟩
    refine ⟨o, es, ep, hidT_get e ?_, d, r⟩
    cases q : H b with
    | none => rfl
    | some u =>
      have e1 : b = a := atA b (by rw [q]; exact fun z => nomatch z)
      subst e1
      rw [obj] at e
      cases e
      cases d
  have kin : K.In (hidT s.heap H) := by
    intro b o e
    refine hidT_get (inK b o e) ?_
    cases q : H b with
    | none => rfl
    | some u =>
      have e1 : b = a := atA b (by rw [q]; exact fun z => nomatch z)
      subst e1
      rw [notK (by rw [q]; exact fun z => nomatch z)] at e
      cases e
  have md : Mod K mg (hidT s.heap H) := ⟨kin, dicts gm, ⟨mb, dicts gb, bb⟩, (by obtain ⟨mc, h1, h2⟩ := lim; exact ⟨mc, dicts h1, h2⟩)⟩
  have env : Env0 P w K mg (hidT s.heap H) callerA [] s H :=
    { frames := rfl, mod := md, bs := fun b o e => of_hidT e, bsz := Nat.le_of_eq (hidT_size _ _), funs := trivial, frf := fun b hb => absurd hb List.not_mem_nil, hok := hok, bare := .of_eq gens }
  have run := (F _ kin (dicts gm)).go callerA [] s H ⟨[.ref a], []⟩ [.ref a] [.ref a] _ _ rfl room env (bind s (.ref a)) (.cons rfl .nil) want
  refine codeAny_mono run fun r s' h => ?_
  cases r with
  | error e => exact (noX e s' h).elim
  | ok fl =>
    cases fl with
    | next => exact h.elim
    | brk => exact h.elim
    | cont => exact h.elim
    | ret u =>
      obtain ⟨v, H', os, bare, un, hok', rv, q⟩ := h
      have e1 : v = .bl true := q
      subst e1
      obtain rfl : u = Value.bool true := rv
      refine ⟨rfl, OldK.of_keep fun b o e => ?_, os, bare⟩
      rcases only b with z | ⟨ob, xs, z⟩
      · exact un.keep b o e z List.not_mem_nil List.not_mem_nil
      · obtain ⟨e2, _⟩ := hok b _ z
        obtain ⟨e3, _⟩ := hok' b _ (un.frzs b ob _ z)
        rw [e] at e2
        cases e2
        exact e3
theorem law_callG (inK : K.In s.heap) (gm : s.heap.Ns mainGlobals mg) (gb : s.heap.Ns builtinsNs mb) (bb : ∀ x : Str, x ≠ "__name__" → mb x = bootBuiltins x) (lim : s.heap.NoLimit) (gens : s.gens = #[])
    (obj : s.heap.get? a = some { cls := .type "list", data := .seq vs.toArray }) (are : IntsAre vs ns) (short : ns.length ≤ sizeLine) (room : Room k callerA) (F : ∀ base : Heap, K.In base → base.Ns mainGlobals mg → FnOkG P w K mg base CX k fa fd [x] sp)
    (bind : ∀ (s : Shared) (u : Value), BindsTo s fd ⟨[u], []⟩ [(x, u)]) (want : ∀ H : Hp, Only H → SqL K H a (ns.map V.int) → sp [.ref a] H (fun v _ => v = .bl true) fun _ _ _ => False) (noX : ∀ H e s', CX [] H s (fun _ _ _ => False) e s' → False) :
    codeAny (model P w) callerA (.call (.ref fa) ⟨[.ref a], []⟩) (fun r s' => r = .ok (.ret (.bool true)) ∧ OldK s.heap s'.heap ∧ s'.os = s.os ∧ AllBare s'.gens) s := by
  have items : Vals (ns.map V.int) vs := vals_ints are
  have short' : (ns.map V.int).length ≤ sizeLine := by rw [List.length_map]; exact short
  cases hk : K.lookup a with
  | some o =>
    obtain rfl : { cls := .type "list", data := .seq vs.toArray } = o := Option.some.inj (obj.symm.trans (inK a o hk))
    have none0 : ∀ b, (fun _ => none : Hp) b = none := fun _ => rfl
    have sq : SqL K (fun _ => none) a (ns.map V.int) := Or.inr ⟨_, vs.toArray, _, hk, rfl, rfl, rfl, (by rw [List.size_toArray, ← items.length]; exact short'), by simpa using items⟩
    refine law_from (fun _ => none) inK gm gb bb lim gens obj room F bind (want _ (fun b => Or.inl rfl) sq) (fun e s' => noX _ e s') (fun b u z => nomatch z) (fun b => Or.inl rfl) (fun b z => absurd rfl z) fun z => absurd rfl z
  | none =>
    have sq : SqL K (onlyAt a { cls := .type "list", data := .seq vs.toArray } (ns.map V.int)) a (ns.map V.int) := Or.inl (Or.inr ⟨_, onlyAt_self⟩)
    have only : Only (onlyAt a { cls := .type "list", data := .seq vs.toArray } (ns.map V.int)) := fun b => by
      by_cases hb : b = a
      · subst hb
        exact Or.inr ⟨_, _, onlyAt_self⟩
      · exact Or.inl (onlyAt_ne hb)
    refine law_from _ inK gm gb bb lim gens obj room F bind (want _ only sq) (fun e s' => noX _ e s') (fun b u z => ?_) only (fun b z => ?_) fun _ => hk
    · by_cases hb : b = a
      · subst hb
        rw [onlyAt_self] at z
        cases z
        exact ⟨obj, short', vs, _, items, obj⟩
      · rw [onlyAt_ne hb] at z
        cases z
    · by_cases hb : b = a
      · exact hb
      · exact absurd (onlyAt_ne hb) z
end
/-- the goal that k_head leaves -/
theorem walk_ofG {l : PySem.W.OpenLaw} {n k : Nat} {q : Program} {loose : List Str} {XP : (Str → Option Value) → Heap → Prop} {YP : World → Heap → Prop} {d : DefRec} {K : Params → PySem.W.Frag} {CX : World → CXT} {sp : World → Sp} {x : Str}
    (hn : l.most = some n) (hn2 : n ≤ sizeLine) (hdf : d.params.defaults = []) (room : Room k callerA) (hY : ∀ (w : World) (h : Heap), YP w h → (K w.params).In h)
    (F : ∀ (w : World) (mg : Str → Option Value) (fa : Addr) (h : Heap), (K w.params).In h → h.Ns mainGlobals mg → mg d.name = some (.ref fa) →
      ∃ fd : FuncData, (∀ (s : Shared) (u : Value), BindsTo s fd ⟨[u], []⟩ [(x, u)]) ∧ ∀ base : Heap, (K w.params).In base → base.Ns mainGlobals mg → FnOkG l.prog w (K w.params) mg base (CX w) k fa fd [x] (sp w))
    (want : ∀ (w : World) (H : Hp) (a : Addr) (ns : List Int), ns.length ≤ n → Only H → SqL (K w.params) H a (ns.map V.int) → sp w [.ref a] H (fun v _ => v = .bl true) fun _ _ _ => False)
    (noX : ∀ (w : World) (H : Hp) (s : Shared) (e : Value) (s' : Shared), CX w [] H s (fun _ _ _ => False) e s' → False) :
    PySem.W.WalkO q loose XP YP l.row.toRowW d [] (fun f vs => PySem.call f vs) := by
  refine Att.attach_call hn hdf ?_
  intro w s₀ s₁ mg mb fa o pm cd doc a vs ns G Y ho hd hcd hmg hobj hints hlen hg
  have inK := hY w _ Y
  obtain ⟨fd, bind, ok⟩ := F w mg fa _ inK G.T.g hmg
  exact law_callG inK G.T.g G.T.b G.T.builtins G.T.nolimit hg hobj hints (Nat.le_trans hlen hn2) room ok bind (fun H h1 h2 => want w H a ns hlen h1 h2) fun H e s' => noX w H s₁ e s'
end HX
namespace HX
open PySem PySem.Spec PyProof.Rows L2
/-! ### repr -/
def keyD : Key → PyData
  | .inl i => .int i
  | .inr x => .str x
/-- the data of a dict's pairs -/
def pairsD : List (Key × V) → List PyData → List (PyData × PyData)
  | (k, _) :: r, d :: ds => (keyD k, d) :: pairsD r ds
  | _, _ => []
section
variable {X : Cx} {pins : List (Addr × Obj)} {σ : L2.St} {H : Hp} {s : Shared}
theorem keyD_reads {k : Key} {u : Value} {h : Heap} (e : keyIs k u = true) : Reads h u (keyD k) [] := by
  rcases keyIs_shape e with ⟨i, t, rfl, rfl⟩ | ⟨x, t, rfl, rfl⟩
  · exact Reads.int i t
  · exact Reads.str x t
theorem reads_keys {w : World} {P : Program} {h : Heap} : ∀ {kvs : List (Key × V)} {ds : List PyData} {vs : List (Key × Value)} {es : List DictEntry}, KV kvs vs → Pairs (mixKind P w) es vs → kvs.length = ds.length →
    ReadsAll h (es.map (·.key)) ((pairsD kvs ds).map (·.1)) []
  | [], [], _, _, .nil, .nil, _ => .nil
  | (k, v) :: r, d :: ds, _, _, .cons (a := _) (b := c) a b, .cons (e := en) p q t, hl => by
    have e : keyIs k en.key = true := by
      have e1 : k = c.1 := a.1
      rw [e1]
      exact p
    exact ReadsAll.cons (as := []) (bs := []) (keyD_reads e) (reads_keys b t (by simpa using hl))
  | [], _ :: _, _, _, _, _, hl => by simp at hl
  | _ :: _, [], _, _, _, _, hl => by simp at hl
theorem vals_of_pairs {w : World} {P : Program} : ∀ {kvs : List (Key × V)} {vs : List (Key × Value)} {es : List DictEntry}, KV kvs vs → Pairs (mixKind P w) es vs → Vals (kvs.map (·.2)) (es.map (·.val))
  | [], _, _, .nil, .nil => .nil
  | (k, v) :: r, _, _, .cons a b, .cons (e := en) p q t => .cons (by
      show RelV v en.val
      rw [q]
      exact a.2) (vals_of_pairs b t)
theorem pairsD_snd : ∀ {kvs : List (Key × V)} {ds : List PyData}, kvs.length = ds.length → (pairsD kvs ds).map (·.2) = ds
  | [], [], _ => rfl
  | (k, v) :: r, d :: ds, h => by
    show d :: (pairsD r ds).map (·.2) = d :: ds
    rw [pairsD_snd (by simpa using h)]
  | [], _ :: _, h => by simp at h
  | _ :: _, [], h => by simp at h
theorem DpAll.length {K : PySem.W.Frag} : ∀ {vs : List V} {ds : List PyData}, DpAll K H vs ds → vs.length = ds.length
  | _, _, .nil => rfl
  | _, _, .cons _ t => by rw [List.length_cons, List.length_cons, DpAll.length t]
theorem Dp.noDict {K : PySem.W.Frag} : ∀ {d : PyData} {v : V}, Dp K H v d → d.hasDict = false := fun {d} {v} h => by
  have all : ∀ d v, Dp K H v d → d.hasDict = false := by
    intro d v h
    induction h using Dp.rec (motive_2 := fun vs ds _ => PyData.hasDictAll ds = false) with
    | non => simp only [PyData.hasDict]
    | bl b => simp only [PyData.hasDict]
    | int i => simp only [PyData.hasDict]
    | str x => simp only [PyData.hasDict]
    | lst _ _ ih => simpa only [PyData.hasDict] using ih
    | tup _ _ ih => simpa only [PyData.hasDict] using ih
    | nil => simp only [PyData.hasDictAll]
    | cons _ _ i1 i2 => simp only [PyData.hasDictAll, i1, i2, Bool.or_self]
  exact all d v h
theorem DpAll.noDict {K : PySem.W.Frag} : ∀ {ds : List PyData} {vs : List V}, DpAll K H vs ds → PyData.hasDictAll ds = false
  | _, _, .nil => by simp only [PyData.hasDictAll]
  | _, _, .cons a t => by simp only [PyData.hasDictAll, Dp.noDict a, DpAll.noDict t, Bool.or_self]
/-- repr of a list or a tuple of data -/
theorem call_reprD (gd : X.A.guards = some []) {n : Nat} (hu : X.A.units + (n + 1) < cLine) :
    CallR X (.builtin "repr") (fun vs H Q => ∃ (a : Addr) (d : PyData), vs = [.ref a] ∧ Dp X.K H (.ref a) d ∧ d.showable = true ∧ d.depth ≤ n ∧ d.shown.length ≤ sizeLine ∧ Q (.str d.shown) H) := by
  intro pins s σ H xs us Q I r h
  obtain ⟨a, d, rfl, hd, hs, hn, hz, q⟩ := h
  obtain ⟨u, rfl, ru⟩ := vals1 r
  obtain rfl : u = Value.ref a := ru
  obtain ⟨as, rd⟩ := Dp.reads I d _ _ hd rfl
  exact repr_of_reads' rd hs (fun z => by rw [Dp.noDict hd] at z; cases z) gd (by omega) (fun _ _ e => e) (fun h' u tk k => ⟨.str d.shown, H, I.kept (t' := tk) k, ⟨u, rfl⟩, q⟩) hz
/-- repr of a dict whose values are data -/
theorem call_reprK (gd : X.A.guards = some []) {n : Nat} (hu : X.A.units + (n + 1) < cLine) :
    CallR X (.builtin "repr") (fun vs H Q => ∃ (a : Addr) (kvs : List (Key × V)) (ds : List PyData), vs = [.ref a] ∧ H a = some (.dK kvs) ∧ DpAll X.K H (kvs.map (·.2)) ds ∧
      PyData.showable (.dict (pairsD kvs ds)) = true ∧ PyData.depth (.dict (pairsD kvs ds)) ≤ n ∧ (PyData.shown (.dict (pairsD kvs ds))).length ≤ sizeLine ∧ Q (.str (PyData.shown (.dict (pairsD kvs ds)))) H) := by
  intro pins s σ H xs us Q I r h
  obtain ⟨a, kvs, ds, rfl, ha, hds, hs, hn, hz, q⟩ := h
  obtain ⟨u, rfl, ru⟩ := vals1 r
  obtain rfl : u = Value.ref a := ru
  obtain ⟨_, hsm, vs, rel, o, es, ep, ho, hx, hdat, _, prs, _⟩ := dk_of I.hok ha
  have hl : kvs.length = ds.length := by
    have e := DpAll.length hds
    rwa [List.length_map] at e
  obtain ⟨as, rv⟩ := Dp.readsAll I ds _ _ hds (vals_of_pairs rel prs)
  have rk : ReadsAll s.heap (es.toList.map (·.key)) ((pairsD kvs ds).map (·.1)) [] := reads_keys rel prs hl
  rw [← pairsD_snd hl] at rv
  have hc : o.cls = .type "dict" := hx.1
  have z' : (dictText (PyData.shownKv (pairsD kvs ds))).length ≤ sizeLine := by simpa only [PyData.shown] using hz
  obtain ⟨s1, s2⟩ := PyData.showableKv_split _ (by simpa [PyData.showable] using hs)
  have n1 : PyData.hasDictAll ((pairsD kvs ds).map (·.1)) = false := by
    have all : ∀ (kvs : List (Key × V)) (ds : List PyData), PyData.hasDictAll ((pairsD kvs ds).map (·.1)) = false := by
      intro kvs
      induction kvs with
      | nil => intro ds; simp only [pairsD, List.map_nil, PyData.hasDictAll]
      | cons p r ih =>
        intro ds
        cases ds with
        | nil => simp only [pairsD, List.map_nil, PyData.hasDictAll]
        | cons d ds =>
          obtain ⟨k, v⟩ := p
          show PyData.hasDictAll (keyD k :: (pairsD r ds).map (·.1)) = false
          have e : (keyD k).hasDict = false := by cases k <;> simp only [keyD, PyData.hasDict]
          simp only [PyData.hasDictAll, e, ih ds, Bool.or_self]
    exact all kvs ds
  have n2 : PyData.hasDictAll ((pairsD kvs ds).map (·.2)) = false := by
    rw [pairsD_snd hl]
    exact DpAll.noDict hds
  obtain ⟨b1, hb1, k1⟩ := ReprAllK.of_readsAll (prog := X.prog) (w := X.w) rk s1 (fun z => by rw [n1] at z; cases z) (fun t ht => let ⟨p, hp, hl⟩ := PyData.shownKv_key_le _ t ht; Nat.le_trans hl (Nat.le_trans (dictText_mem_le hp) z'))
  obtain ⟨b2, hb2, k2⟩ := ReprAllK.of_readsAll (prog := X.prog) (w := X.w) rv s2 (fun z => by rw [n2] at z; cases z) (fun t ht => let ⟨p, hp, hl⟩ := PyData.shownKv_val_le _ t ht; Nat.le_trans hl (Nat.le_trans (dictText_mem_le hp) z'))
  have hb : ReadAtMost s.heap (PyData.depthKv (pairsD kvs ds)) (b1 ++ b2) := (hb1.mono (PyData.depthAll_keys_le _)).append (hb2.mono (PyData.depthAll_vals_le _))
  have whole : Reads s.heap (.ref a) (.dict (pairsD kvs ds)) _ := Reads.dict ho hc hdat rk rv
  have na : a ∉ b1 ++ b2 := not_mem_of_deeper whole (by simp only [PyData.depth]; omega) hb
  have dep : PyData.depthKv (pairsD kvs ds) + 1 ≤ n := by simpa only [PyData.depth] using hn
  refine call_repr_slot (by omega) ⟨o, ho, hc⟩ F.slot_dict_repr ?_
  refine call_dict_reprK (d := PyData.depthKv (pairsD kvs ds)) ho hc hdat hsm na (ReprEntriesK.of_two es.toList _ _
      (k1.more_le (fun b hb => List.mem_append_left _ hb) (PyData.depthAll_keys_le _)) (k2.more_le (fun b hb => List.mem_append_right _ hb) (PyData.depthAll_vals_le _)))
    gd (fun b _ => Clear.nil b) (by show X.A.units + 1 + (PyData.depthKv (pairsD kvs ds) + 1) < cLine; omega) (fun _ _ e => e) (fun h' u tk k => ?_) (by rw [← PyData.shownKv_eq]; exact z')
  refine ⟨_, u, rfl, .str _, H, I.kept (t' := tk) k, ⟨u, rfl⟩, ?_⟩
  simpa only [PyData.shown, PyData.shownKv_eq] using q
/-- repr of a bool -/
theorem call_reprB : CallR X (.builtin "repr") (fun vs H Q => ∃ b : Bool, vs = [.bl b] ∧ Q (.str (if b = true then ("True" : Str) else ("False" : Str))) H) := by
  intro pins s σ H xs us Q I r h
  obtain ⟨b, rfl, q⟩ := h
  obtain ⟨u, rfl, ru⟩ := vals1 r
  obtain rfl : u = Value.bool b := ru
  exact PySem.P.repr_of_bool ⟨.str _, H, I.tok _, ⟨_, rfl⟩, q⟩
end
end HX
/-! The plain laws of tables, in plain Lean. -/
namespace W76
/-- the three products -/
def pr (form n a b : Nat) : Nat := if form = 0 then min (a + b) (n - 1) else if form = 1 then (a + b) % n else max a b
theorem pr_lt {form n a b : Nat} (hn : 0 < n) (ha : a < n) (hb : b < n) : pr form n a b < n := by
  unfold pr
  split
  · omega
  · split
    · exact Nat.mod_lt _ hn
    · omega
theorem pr_unit {form n b : Nat} (hb : b < n) : pr form n 0 b = b := by
  unfold pr
  split
  · omega
  · split
    · rw [Nat.zero_add, Nat.mod_eq_of_lt hb]
    · omega
theorem pr_comm {form n a b : Nat} : pr form n a b = pr form n b a := by
  unfold pr
  rw [Nat.add_comm a b, Nat.max_comm a b]
theorem pr_assoc {form n a b c : Nat} (ha : a < n) (hb : b < n) (hc : c < n) : pr form n (pr form n a b) c = pr form n a (pr form n b c) := by
  unfold pr
  split
  · omega
  · split
    · rw [Nat.mod_add_mod, Nat.add_mod_mod, Nat.add_assoc]
    · omega
/-! ### tables as lists of rows -/
abbrev Rows := List (List Nat)
def tab (n : Nat) (f : Nat → Nat → Nat) : Rows := (List.range n).map fun a => (List.range n).map (f a)
def at1 (r : List Nat) (j : Nat) : Nat := r[j]?.getD 0
def rowAt (rows : Rows) (i : Nat) : List Nat := rows[i]?.getD []
def at2 (rows : Rows) (i j : Nat) : Nat := at1 (rowAt rows i) j
def rowOk (n : Nat) (r : List Nat) : Bool := decide (r.length = n) && r.all fun k => decide (k < n)
def shapeB (rows : Rows) : Bool := rows.all (rowOk rows.length) && decide (0 < rows.length)
def unitB (rows : Rows) : Bool := decide (rowAt rows 0 = List.range rows.length)
def orderB (rows : Rows) : Bool := (List.range rows.length).all fun i => (List.range i).all fun j => decide (at2 rows i j = at2 rows j i)
def groupB (rows : Rows) : Bool := rows.all fun row => (List.range rows.length).all fun j => decide (rowAt rows (at1 row j) = (rowAt rows j).map (at1 row))
theorem tab_len (n : Nat) (f : Nat → Nat → Nat) : (tab n f).length = n := by simp [tab]
theorem tab_get {n : Nat} {f : Nat → Nat → Nat} {i : Nat} (h : i < n) : (tab n f)[i]? = some ((List.range n).map (f i)) := by
  simp [tab, List.getElem?_map, List.getElem?_range h]
theorem rowAt_tab {n : Nat} {f : Nat → Nat → Nat} {i : Nat} (h : i < n) : rowAt (tab n f) i = (List.range n).map (f i) := by
  unfold rowAt
  rw [tab_get h]
  rfl
theorem at1_map {n : Nat} {g : Nat → Nat} {j : Nat} (h : j < n) : at1 ((List.range n).map g) j = g j := by
  simp [at1, List.getElem?_map, List.getElem?_range h]
theorem at2_tab {n : Nat} {f : Nat → Nat → Nat} {i j : Nat} (h : i < n) (hj : j < n) : at2 (tab n f) i j = f i j := by
  unfold at2
  rw [rowAt_tab h, at1_map hj]
theorem mem_tab {n : Nat} {f : Nat → Nat → Nat} {r : List Nat} (h : r ∈ tab n f) : ∃ i, i < n ∧ r = (List.range n).map (f i) := by
  unfold tab at h
  obtain ⟨i, hi, e⟩ := List.mem_map.mp h
  exact ⟨i, List.mem_range.mp hi, e.symm⟩
/-- closed, with unit, commutative, associative on the first n numbers -/
structure Good (n : Nat) (f : Nat → Nat → Nat) : Prop where
  pos : 0 < n
  lt : ∀ a b, a < n → b < n → f a b < n
  unit : ∀ b, b < n → f 0 b = b
  comm : ∀ a b, a < n → b < n → f a b = f b a
  assoc : ∀ a b c, a < n → b < n → c < n → f (f a b) c = f a (f b c)
theorem pr_good {form n : Nat} (hn : 0 < n) : Good n (pr form n) :=
  ⟨hn, fun _ _ => pr_lt hn, fun _ => pr_unit, fun _ _ _ _ => pr_comm, fun _ _ _ => pr_assoc⟩
theorem shape_tab {n : Nat} {f : Nat → Nat → Nat} (hn : 0 < n) (hl : ∀ a b, a < n → b < n → f a b < n) : shapeB (tab n f) = true := by
  unfold shapeB
  rw [tab_len, decide_eq_true hn, Bool.and_true, List.all_eq_true]
  intro r hr
  obtain ⟨i, hi, rfl⟩ := mem_tab hr
  simp [rowOk]
  intro j hj
  exact hl i j hi hj
theorem unit_tab {n : Nat} {f : Nat → Nat → Nat} (hn : 0 < n) (hu : ∀ b, b < n → f 0 b = b) : unitB (tab n f) = true := by
  unfold unitB
  rw [tab_len, rowAt_tab hn, decide_eq_true_eq]
  apply List.ext_getElem
  · simp
  · intro i h1 h2
    simp at h1
    simp [hu i h1]
theorem order_tab {n : Nat} {f : Nat → Nat → Nat} (hc : ∀ a b, a < n → b < n → f a b = f b a) : orderB (tab n f) = true := by
  unfold orderB
  rw [tab_len]
  simp only [List.all_eq_true, List.mem_range, decide_eq_true_eq]
  intro i hi j hj
  have h2 : j < n := by omega
  rw [at2_tab hi h2, at2_tab h2 hi]
  exact hc i j hi h2
theorem group_tab {n : Nat} {f : Nat → Nat → Nat} (hl : ∀ a b, a < n → b < n → f a b < n) (ha : ∀ a b c, a < n → b < n → c < n → f (f a b) c = f a (f b c)) : groupB (tab n f) = true := by
  unfold groupB
  rw [tab_len]
  simp only [List.all_eq_true, List.mem_range, decide_eq_true_eq]
  intro r hr j hj
  obtain ⟨i, hi, rfl⟩ := mem_tab hr
  rw [at1_map hj, rowAt_tab (hl i j hi hj), rowAt_tab hj, List.map_map]
  apply List.map_congr_left
  intro c hc
  have hc := List.mem_range.mp hc
  show f (f i j) c = at1 _ (f j c)
  rw [at1_map (hl j c hj hc)]
  exact ha i j c hi hj hc
/-! ### spoilt tables -/
/-- another last row -/
theorem shape_badRow {rows : Rows} {r : List Nat} (hr : r ∈ rows) (hb : rowOk rows.length r = false) : shapeB rows = false := by
  unfold shapeB
  have : rows.all (rowOk rows.length) = false := by
    rw [List.all_eq_false]
    exact ⟨r, hr, by rw [hb]; exact Bool.false_ne_true⟩
  rw [this, Bool.false_and]
def upd2 (f : Nat → Nat → Nat) (i j v : Nat) : Nat → Nat → Nat := fun a b => if a = i ∧ b = j then v else f a b
theorem range_map_set {n j v : Nat} {g : Nat → Nat} : ((List.range n).map g).set j v = (List.range n).map fun b => if b = j then v else g b := by
  apply List.ext_getElem
  · simp
  · intro k h1 h2
    simp at h1
    by_cases hk : k = j
    · subst hk
      simp
    · have hk' : ¬ j = k := fun e => hk e.symm
      simp [List.getElem_set, hk, hk']
theorem tab_set {n i j v : Nat} {f : Nat → Nat → Nat} (hi : i < n) : (tab n f).set i (((List.range n).map (f i)).set j v) = tab n (upd2 f i j v) := by
  apply List.ext_getElem
  · simp [tab]
  · intro k h1 h2
    simp [tab] at h1
    rw [List.getElem_set]
    by_cases hk : i = k
    · subst hk
      rw [if_pos rfl, range_map_set]
      simp only [tab, List.getElem_map, List.getElem_range]
      apply List.map_congr_left
      intro b _
      simp [upd2]
    · rw [if_neg hk]
      simp only [tab, List.getElem_map, List.getElem_range]
      apply List.map_congr_left
      intro b _
      have hk' : ¬ k = i := fun e => hk e.symm
      simp [upd2, hk']
theorem unit_bad {n d : Nat} {f : Nat → Nat → Nat} (h1 : 1 < n) (hd : d < n - 1) : unitB (tab n (upd2 f 0 (n - 1) d)) = false := by
  unfold unitB
  rw [tab_len, rowAt_tab (by omega), decide_eq_false_iff_not]
  intro e
  have e1 := congrArg (fun l => l[n - 1]?) e
  simp only [List.getElem?_map, List.getElem?_range (show n - 1 < n by omega), Option.map_some, Option.some.injEq] at e1
  simp [upd2] at e1
  omega
theorem shape_upd {n i j v : Nat} {f : Nat → Nat → Nat} (hn : 0 < n) (hl : ∀ a b, a < n → b < n → f a b < n) (hv : v < n) : ∀ a b, a < n → b < n → upd2 f i j v a b < n := by
  intro a b ha hb
  unfold upd2
  split
  · exact hv
  · exact hl a b ha hb
theorem order_bad {n : Nat} {f : Nat → Nat → Nat} (h2 : 2 < n) (hc : f (n - 1) (n - 2) = f (n - 2) (n - 1)) (hl : f (n - 1) (n - 2) < n) : orderB (tab n (upd2 f (n - 1) (n - 2) ((f (n - 1) (n - 2) + 1) % n))) = false := by
  unfold orderB
  rw [tab_len]
  rw [List.all_eq_false]
  refine ⟨n - 1, List.mem_range.mpr (by omega), ?_⟩
  rw [Bool.not_eq_true, List.all_eq_false]
  refine ⟨n - 2, List.mem_range.mpr (by omega), ?_⟩
  rw [at2_tab (by omega) (by omega), at2_tab (by omega) (by omega)]
  have e1 : upd2 f (n - 1) (n - 2) ((f (n - 1) (n - 2) + 1) % n) (n - 1) (n - 2) = (f (n - 1) (n - 2) + 1) % n := by simp [upd2]
  have e2 : upd2 f (n - 1) (n - 2) ((f (n - 1) (n - 2) + 1) % n) (n - 2) (n - 1) = f (n - 1) (n - 2) := by
    have : ¬ (n - 2 = n - 1 ∧ n - 1 = n - 2) := by omega
    unfold upd2
    rw [if_neg this, hc]
  rw [e1, e2, decide_eq_true_eq]
  intro e
  by_cases h : f (n - 1) (n - 2) + 1 < n
  · rw [Nat.mod_eq_of_lt h] at e
    omega
  · have : f (n - 1) (n - 2) + 1 = n := by omega
    rw [this, Nat.mod_self] at e
    omega
/-- the product of the last two elements is 1 on both sides, where the product is the greater of two -/
def bent (n : Nat) : Nat → Nat → Nat := upd2 (upd2 (pr 2 n) (n - 1) (n - 2) 1) (n - 2) (n - 1) 1
theorem bent_at {n a b : Nat} : bent n a b = if a = n - 2 ∧ b = n - 1 then 1 else if a = n - 1 ∧ b = n - 2 then 1 else max a b := by
  simp [bent, upd2, pr]
theorem bent_unit {n b : Nat} (h : 4 < n) (hb : b < n) : bent n 0 b = b := by
  rw [bent_at, if_neg (by omega), if_neg (by omega)]
  omega
theorem bent_comm {n a b : Nat} : bent n a b = bent n b a := by
  rw [bent_at, bent_at]
  by_cases h1 : a = n - 2 ∧ b = n - 1
  · rw [if_pos h1]
    by_cases h2 : b = n - 2 ∧ a = n - 1
    · rw [if_pos h2]
    · rw [if_neg h2, if_pos ⟨h1.2, h1.1⟩]
  · rw [if_neg h1]
    by_cases h3 : a = n - 1 ∧ b = n - 2
    · rw [if_pos h3, if_pos ⟨h3.2, h3.1⟩]
    · rw [if_neg h3, if_neg (fun z => h3 ⟨z.2, z.1⟩), if_neg (fun z => h1 ⟨z.2, z.1⟩), Nat.max_comm]
theorem bent_lt {n a b : Nat} (h : 4 < n) (ha : a < n) (hb : b < n) : bent n a b < n := by
  rw [bent_at]
  split
  · omega
  · split
    · omega
    · omega
theorem group_bad {n : Nat} (h : 4 < n) : groupB (tab n (bent n)) = false := by
  unfold groupB
  rw [tab_len, List.all_eq_false]
  refine ⟨(List.range n).map (bent n (n - 1)), ?_, ?_⟩
  · exact List.mem_map.mpr ⟨n - 1, List.mem_range.mpr (by omega), rfl⟩
  · rw [Bool.not_eq_true, List.all_eq_false]
    refine ⟨n - 2, List.mem_range.mpr (by omega), ?_⟩
    rw [at1_map (by omega)]
    have e1 : bent n (n - 1) (n - 2) = 1 := by
      rw [bent_at, if_neg (by omega), if_pos ⟨rfl, rfl⟩]
    rw [e1, rowAt_tab (by omega), rowAt_tab (by omega), decide_eq_true_eq]
    intro e
    have e2 := congrArg (fun l => l[2]?) e
    simp only [List.getElem?_map, List.getElem?_range (show 2 < n by omega), Option.map_some, Option.some.injEq] at e2
    have e3 : bent n 1 2 = 2 := by
      rw [bent_at, if_neg (by omega), if_neg (by omega)]
      omega
    have e4 : bent n (n - 2) 2 = n - 2 := by
      rw [bent_at, if_neg (by omega), if_neg (by omega)]
      omega
    rw [e3, e4, at1_map (by omega), e1] at e2
    omega
end W76
namespace HX
open PySem PySem.Spec PyProof.Rows L2
/-! ### frozen data: a part G of the heap that never changes any more -/
theorem Same.tup {K : PySem.W.Frag} {H H' : Hp} {a : Addr} {xs : List V} (e : Same H H') (h : SqT K H a xs) : SqT K H' a xs := by
  rcases h with (h | ⟨o, h⟩) | h
  · exact .inl (.inl (e _ _ h))
  · exact .inl (.inr ⟨o, e _ _ h⟩)
  · exact .inr h
theorem Same.new {H : Hp} {a : Addr} {o : HO} (h : H a = none) : Same H (upd H a o) := fun b u e => by
  rw [upd_ne (ne_of_none e h)]
  exact e
theorem Same.put {G H : Hp} {a : Addr} {o : HO} (e : Same G H) (h : G a = none) : Same G (upd H a o) := fun b u q => by
  rw [upd_ne (ne_of_none q h)]
  exact e b u q
theorem Same.both {G H : Hp} {a : Addr} {o : HO} (e : Same G H) : Same (upd G a o) (upd H a o) := fun b u q => by
  by_cases hb : b = a
  · subst hb
    rw [upd_same] at q ⊢
    exact q
  · rw [upd_ne hb] at q ⊢
    exact e b u q
theorem Same.none {G H : Hp} {a : Addr} (e : Same G H) (h : H a = Option.none) : G a = Option.none := e.free h
/-- what a piece of code does: from the frozen part G and the heap H to G' and H'; m: what it may change -/
structure Stp (m : Addr → Prop) (G H G' H' : Hp) : Prop where
  gg : Same G G'
  gh : Same G' H'
  nw : ∀ a, G a = none → H a ≠ none → G' a = none
  un : ∀ a o, ¬ m a → H a = some o → H' a = some o
  th : ∀ a, H a ≠ none → H' a ≠ none
abbrev nom : Addr → Prop := fun _ => False
section
variable {m m' : Addr → Prop} {G H G1 H1 G2 H2 : Hp} {a : Addr} {o u : HO}
theorem Stp.refl (e : Same G H) : Stp m G H G H := ⟨Same.refl G, e, fun _ h _ => h, fun _ _ _ h => h, fun _ h => h⟩
theorem Stp.trans (s : Stp m G H G1 H1) (t : Stp m' G1 H1 G2 H2) (hm : ∀ a, m' a → m a ∨ H a = none) : Stp m G H G2 H2 := by
  refine ⟨s.gg.trans t.gg, t.gh, fun a h1 h2 => t.nw a (s.nw a h1 h2) (s.th a h2), fun a o h1 h2 => t.un a o (fun z => ?_) (s.un a o h1 h2), fun a h => t.th a (s.th a h)⟩
  rcases hm a z with q | q
  · exact h1 q
  · rw [h2] at q
    cases q
theorem Stp.tr0 (s : Stp m G H G1 H1) (t : Stp nom G1 H1 G2 H2) : Stp m G H G2 H2 := s.trans t fun _ z => z.elim
theorem Stp.tr (s : Stp m G H G1 H1) (t : Stp m G1 H1 G2 H2) : Stp m G H G2 H2 := s.trans t fun _ z => Or.inl z
theorem Stp.wide (s : Stp m G H G1 H1) (h : ∀ a, m a → m' a) : Stp m' G H G1 H1 := ⟨s.gg, s.gh, s.nw, fun a o z => s.un a o fun q => z (h a q), s.th⟩
/-- a new object that will not change -/
theorem Stp.newF (s : Stp m G H G1 H1) (h : H1 a = none) : Stp m G H (upd G1 a o) (upd H1 a o) := by
  have hH : H a = none := by
    cases q : H a with
    | none => rfl
    | some z => exact absurd h (s.th a (by rw [q]; exact fun z => nomatch z))
  refine ⟨s.gg.trans (Same.new (Same.none s.gh h)), Same.both s.gh, fun b h1 h2 => ?_, fun b u h1 h2 => ?_, fun b h2 => ?_⟩
  · have hb : b ≠ a := fun z => h2 (by rw [z]; exact hH)
    rw [upd_ne hb]
    exact s.nw b h1 h2
  · rw [upd_ne (ne_of_none h2 hH)]
    exact s.un b u h1 h2
  · have hb : b ≠ a := fun z => h2 (by rw [z]; exact hH)
    rw [upd_ne hb]
    exact s.th b h2
/-- a new object that may change yet -/
theorem Stp.newM (s : Stp m G H G1 H1) (h : H1 a = none) : Stp m G H G1 (upd H1 a o) := by
  have hH : H a = none := by
    cases q : H a with
    | none => rfl
    | some z => exact absurd h (s.th a (by rw [q]; exact fun z => nomatch z))
  refine ⟨s.gg, Same.put s.gh (Same.none s.gh h), s.nw, fun b u h1 h2 => ?_, fun b h2 => ?_⟩
  · rw [upd_ne (ne_of_none h2 hH)]
    exact s.un b u h1 h2
  · have hb : b ≠ a := fun z => h2 (by rw [z]; exact hH)
    rw [upd_ne hb]
    exact s.th b h2
/-- an object is changed -/
theorem Stp.put (s : Stp m G H G1 H1) (h : m a ∨ H a = none) (hg : G1 a = none) : Stp m G H G1 (upd H1 a o) := by
  refine ⟨s.gg, Same.put s.gh hg, s.nw, fun b u h1 h2 => ?_, fun b h2 => ?_⟩
  · have hb : b ≠ a := fun z => by
      subst z
      rcases h with h | h
      · exact h1 h
      · rw [h2] at h
        cases h
    rw [upd_ne hb]
    exact s.un b u h1 h2
  · by_cases hb : b = a
    · subst hb
      rw [upd_same]
      exact fun z => nomatch z
    · rw [upd_ne hb]
      exact s.th b h2
/-- an object of one's own will not change any more -/
theorem Stp.freeze (s : Stp m G H G1 H1) (h : H a = none) (hg : G1 a = none) (e : H1 a = some o) : Stp m G H (upd G1 a o) H1 := by
  refine ⟨s.gg.trans (Same.new hg), fun b u q => ?_, fun b h1 h2 => ?_, s.un, s.th⟩
  · by_cases hb : b = a
    · subst hb
      rw [upd_same] at q
      rw [e, ← q]
    · rw [upd_ne hb] at q
      exact s.gh b u q
  · have hb : b ≠ a := fun z => h2 (by rw [z]; exact h)
    rw [upd_ne hb]
    exact s.nw b h1 h2
theorem Stp.g0 (s : Stp m G H G1 H1) (h : G a = none) (e : H a = some o) : G1 a = none := s.nw a h (by rw [e]; exact fun z => nomatch z)
/-- what is new behind the step was not there -/
theorem Stp.was (s : Stp m G H G1 H1) (h : H1 a = none) : H a = none := by
  cases q : H a with
  | none => rfl
  | some z => exact absurd h (s.th a (by rw [q]; exact fun z => nomatch z))
end
/-! ### data in the frozen part -/
section
variable (K : PySem.W.Frag)
abbrev iv (k : Nat) : V := .int (k : Int)
def Nats (G : Hp) (v : V) (ns : List Nat) : Prop := ∃ a, v = .ref a ∧ SqL K G a (ns.map iv)
def Bools (G : Hp) (v : V) (bs : List Bool) : Prop := ∃ a, v = .ref a ∧ SqL K G a (bs.map V.bl)
def Strs (G : Hp) (v : V) (ss : List Str) : Prop := ∃ a, v = .ref a ∧ SqL K G a (ss.map V.str)
/-- a list of things, each known by a predicate -/
def Each {α : Type} (P : Hp → V → α → Prop) (G : Hp) (v : V) (ds : List α) : Prop := ∃ a xs, v = .ref a ∧ SqL K G a xs ∧ Paired (P G) xs ds
abbrev Table (G : Hp) (v : V) (rows : List (List Nat)) : Prop := Each K (Nats K) G v rows
end
section
variable {K : PySem.W.Frag} {G G' : Hp} {v : V}
theorem Nats.mono {ns : List Nat} (e : Same G G') (h : Nats K G v ns) : Nats K G' v ns := let ⟨a, h1, h2⟩ := h; ⟨a, h1, e.seq h2⟩
theorem Bools.mono {bs : List Bool} (e : Same G G') (h : Bools K G v bs) : Bools K G' v bs := let ⟨a, h1, h2⟩ := h; ⟨a, h1, e.seq h2⟩
theorem Strs.mono {ss : List Str} (e : Same G G') (h : Strs K G v ss) : Strs K G' v ss := let ⟨a, h1, h2⟩ := h; ⟨a, h1, e.seq h2⟩
theorem Each.mono {α : Type} {P : Hp → V → α → Prop} {ds : List α} (hP : ∀ v d, P G v d → P G' v d) (e : Same G G') (h : Each K P G v ds) : Each K P G' v ds :=
  let ⟨a, xs, h1, h2, h3⟩ := h; ⟨a, xs, h1, e.seq h2, Paired.mapP h3 hP⟩
theorem Table.mono {rows : List (List Nat)} (e : Same G G') (h : Table K G v rows) : Table K G' v rows := Each.mono (fun _ _ => Nats.mono e) e h
theorem Paired.get {α β : Type} {F : α → β → Prop} : ∀ {xs : List α} {ds : List β} {i : Nat} {d : β}, Paired F xs ds → ds[i]? = some d → ∃ x, xs[i]? = some x ∧ F x d
  | _, _, _, _, .nil, h => by simp at h
  | _, _, 0, d, .cons r _, h => by
    simp at h
    subst h
    exact ⟨_, rfl, r⟩
  | _, _, i + 1, d, .cons _ t, h => by
    obtain ⟨x, h1, h2⟩ := Paired.get (i := i) t (by simpa using h)
    exact ⟨x, by simpa using h1, h2⟩
theorem Paired.getL {α β : Type} {F : α → β → Prop} : ∀ {xs : List α} {ds : List β} {i : Nat} {x : α}, Paired F xs ds → xs[i]? = some x → ∃ d, ds[i]? = some d ∧ F x d
  | _, _, _, _, .nil, h => by simp at h
  | _, _, 0, d, .cons r _, h => by
    simp at h
    subst h
    exact ⟨_, rfl, r⟩
  | _, _, i + 1, d, .cons _ t, h => by
    obtain ⟨x, h1, h2⟩ := Paired.getL (i := i) t (by simpa using h)
    exact ⟨x, by simpa using h1, h2⟩
theorem Paired.len {α β : Type} {F : α → β → Prop} : ∀ {xs : List α} {ds : List β}, Paired F xs ds → xs.length = ds.length
  | _, _, .nil => rfl
  | _, _, .cons _ t => by rw [List.length_cons, List.length_cons, Paired.len t]
theorem Paired.snoc {α β : Type} {F : α → β → Prop} {x : α} {d : β} (h : F x d) : ∀ {xs : List α} {ds : List β}, Paired F xs ds → Paired F (xs ++ [x]) (ds ++ [d])
  | _, _, .nil => .cons h .nil
  | _, _, .cons r t => .cons r (Paired.snoc h t)
theorem nats_at {ns : List Nat} {i k : Nat} (h : ns[i]? = some k) : (ns.map iv)[i]? = some (iv k) := by
  rw [List.getElem?_map, h]
  rfl
theorem bools_at {bs : List Bool} {i : Nat} {b : Bool} (h : bs[i]? = some b) : (bs.map V.bl)[i]? = some (V.bl b) := by
  rw [List.getElem?_map, h]
  rfl
theorem strs_at {ss : List Str} {i : Nat} {x : Str} (h : ss[i]? = some x) : (ss.map V.str)[i]? = some (V.str x) := by
  rw [List.getElem?_map, h]
  rfl
theorem atN {xs : List V} {j : Nat} {v : V} (h : xs[j]? = some v) : atI xs (j : Int) = some v := atI_nat h
theorem range_at {α : Type} {n i : Nat} {f : Nat → α} (h : i < n) : ((List.range n).map f)[i]? = some (f i) := by
  rw [List.getElem?_map, List.getElem?_range h]
  rfl
theorem range_snoc {α : Type} {n : Nat} {f : Nat → α} : (List.range (n + 1)).map f = (List.range n).map f ++ [f n] := by
  rw [List.range_succ, List.map_append]
  rfl
end
theorem sz1 {n : Nat} (h : n ≤ 100000) : n ≤ sizeLine := Nat.le_trans h (by decide)
theorem sz2 {n : Nat} (h : n < 100000) : n < sizeLine := Nat.lt_of_lt_of_le h (by decide)
end HX
namespace HX
open PySem PySem.Spec PyProof.Rows L2
/-! ### lists of numbers as data -/
abbrev natD (k : Nat) : PyData := .int (k : Int)
abbrev natsD (ns : List Nat) : PyData := .list (ns.map natD)
theorem canLay_nats : ∀ ns : List Nat, PyData.canLayAll0 (ns.map natD) = true
  | [] => by simp only [List.map_nil, PyData.canLayAll0]
  | n :: ns => by simp only [List.map_cons, PyData.canLayAll0, PyData.canLay0, canLay_nats ns, Bool.and_self]
theorem depth_nats : ∀ ns : List Nat, PyData.depthAll (ns.map natD) = 0
  | [] => by simp only [List.map_nil, PyData.depthAll]
  | n :: ns => by simp only [List.map_cons, PyData.depthAll, PyData.depth, depth_nats ns, Nat.max_self]
theorem shaped_nats (ns : List Nat) : SeqAt.shaped (natsD ns) = true := by
  unfold SeqAt.shaped
  rw [Bool.and_eq_true]
  refine ⟨?_, ?_⟩
  · show PyData.canLay0 (.list (ns.map natD)) = true
    simp only [PyData.canLay0, canLay_nats]
  · rw [decide_eq_true_eq]
    simp only [PyData.depth, depth_nats]
    decide
theorem eqvAll_nats : ∀ (a b : List Nat), PyData.eqvAll (a.map natD) (b.map natD) = decide (a = b)
  | [], [] => by simp [PyData.eqvAll]
  | [], y :: b => by simp [PyData.eqvAll]
  | x :: a, [] => by simp [PyData.eqvAll]
  | x :: a, y :: b => by
    simp only [List.map_cons, PyData.eqvAll, PyData.eqv, eqvAll_nats a b]
    by_cases h : x = y
    · subst h
      by_cases h2 : a = b
      · simp [h2]
      · simp [h2]
    · have h' : ((x : Int) == (y : Int)) = false := by
        rw [beq_eq_false_iff_ne]
        omega
      simp [h, h']
theorem eqv_nats (a b : List Nat) : PyData.eqv (natsD a) (natsD b) = decide (a = b) := by
  show PyData.eqv (.list (a.map natD)) (.list (b.map natD)) = _
  simp only [PyData.eqv, eqvAll_nats]
section
variable {K : PySem.W.Frag} {H : Hp} {v : V}
theorem dpAll_nats : ∀ ns : List Nat, DpAll K H (ns.map iv) (ns.map natD)
  | [] => .nil
  | n :: ns => .cons (.int _) (dpAll_nats ns)
theorem dp_sq {a : Addr} {ns : List Nat} (h : SqL K H a (ns.map iv)) : Dp K H (.ref a) (natsD ns) := .lst h (dpAll_nats ns)
theorem dp_nats {ns : List Nat} (h : Nats K H v ns) : Dp K H v (natsD ns) := by
  obtain ⟨a, rfl, h⟩ := h
  exact dp_sq h
end
end HX
namespace HX
open PySem PySem.Spec PyProof.Rows L2
/-! ### the rules with the written part named, for use within a comprehension -/
section
variable {X : Cx} (K : PySem.W.Frag)
theorem ixL (h : X.K = K := by rfl) : IxR X (rIxL K) := by
  subst h
  exact ix_list
theorem ixT (h : X.K = K := by rfl) : IxR X (rIxT K) := by
  subst h
  exact ix_tup
theorem lenS (h : X.K = K := by rfl) : CallR X (.builtin "len") (fun vs H Q => ∃ p ys, vs = [.ref p] ∧ (SqL K H p ys ∨ SqT K H p ys) ∧ Q (.int ys.length) H) := by
  subst h
  exact call_len_seq
theorem listS (h : X.K = K := by rfl) : CallR X (.type "list") (fun vs H Q => ∃ p ys, vs = [.ref p] ∧ (SqL K H p ys ∨ SqT K H p ys) ∧ ∀ l, H l = none → Q (.ref l) (upd H l (.lst ys))) := by
  subst h
  exact call_list_of
theorem tupleS (h : X.K = K := by rfl) : CallR X (.type "tuple") (fun vs H Q => ∃ p ys, vs = [.ref p] ∧ ((SqL K H p ys ∧ ∀ l, H l = none → Q (.ref l) (upd H l (.tup ys))) ∨ (SqT K H p ys ∧ Q (.ref p) H))) := by
  subst h
  exact call_tuple_of
theorem inS (h : X.K = K := by rfl) : OpR X (compareOp .In) (rIn K false) := by
  subst h
  exact op_in_seq
theorem ninS (h : X.K = K := by rfl) : OpR X (compareOp .NotIn) (rIn K true) := by
  subst h
  exact op_notIn_seq
theorem eqD (hu : X.A.units + 64 < cLine) (h : X.K = K := by rfl) : OpR X (compareOp .Eq) (rEqD K) := by
  subst h
  exact op_eqD hu
theorem neD (hu : X.A.units + 64 < cLine) (h : X.K = K := by rfl) : OpR X (compareOp .NotEq) (rNeD K) := by
  subst h
  exact op_neD hu
theorem slL (h : X.K = K := by rfl) : SlR X (rSlL K) := by
  subst h
  exact sl_list
theorem slT (h : X.K = K := by rfl) : SlR X (rSlT K) := by
  subst h
  exact sl_tup
theorem piL {tg l : Expr} {tl : TE} (hl : PE X l tl) (h : X.K = K := by rfl) : PI X tg l (iList K tl) := by
  subst h
  exact pi_list hl
theorem piT {tg l : Expr} {tl : TE} (hl : PE X l tl) (h : X.K = K := by rfl) : PI X tg l (iTup K tl) := by
  subst h
  exact pi_tup hl
theorem pe_fldK {e : Expr} {f : Str} {ta : TE} {pos : Pos} (he : PE X e ta) (hb : attributeBase e f X.env (eval e X.env) = eval e X.env) (h : X.K = K := by rfl) : PE X (.Attribute e f pos) (tFld K ta f) := by
  subst h
  exact pe_fld he hb
theorem pt_truthK {a : Expr} {ta : TE} (ha : PE X a ta) (he : ∀ whole, isTrue a X.env whole = (do let v ← whole; standAt a.pos; holding [v] (truthy v))) (h : X.K = K := by rfl) :
    PT X a (fun σ H Q => ta σ H fun x H' => ∃ k, TruV K x H' k ∧ Q k H') := by
  subst h
  exact pt_truth ha he
end
end HX
namespace HX
open PySem PySem.Spec PyProof.Rows L2
section
variable {X : Cx}
/-- name = {..} by a comprehension on one line, the name a local -/
theorem ps_setDc {i : Nat} {y : Str} {py : Pos} {kx vx tg iter : Expr} {ifs : List Expr} {scope : Scope} {own : List (Str × Nat)} {pos spos : Pos} {wi : TI} {g : TG} {tt : TT} {tk tv : TE} (calm : X.calm = true) (nd : X.N.Nodup) (at_ : X.N[i]? = some y)
    (loc : X.env.scope.names.lookup y = some .local) (sw : swapsWith (.DictComp kx vx [⟨tg, iter, ifs, 0⟩] scope pos) (some (.Name y py)) spos.line X.env = pure true) (walk : PI X tg iter wi) (ok : BlkOk X.N X.env.scope scope own)
    (hg : ∀ (s : Shared) (H : Hp) (C : Addr) (cl : List (Str × Addr)) (fp : List Addr), PG (X.blk s H scope (compEnvC scope cl C X.env) fp) tg g)
    (ht : ∀ (s : Shared) (H : Hp) (C : Addr) (cl : List (Str × Addr)) (fp : List Addr), PTs (X.blk s H scope (compEnvC scope cl C X.env) fp) ifs tt)
    (hk : ∀ (s : Shared) (H : Hp) (C : Addr) (cl : List (Str × Addr)) (fp : List Addr), PE (X.blk s H scope (compEnvC scope cl C X.env) fp) kx tk)
    (hv : ∀ (s : Shared) (H : Hp) (C : Addr) (cl : List (Str × Addr)) (fp : List Addr), PE (X.blk s H scope (compEnvC scope cl C X.env) fp) vx tv) (hs : ∀ x, foldedSetIterable iter X.env x = pure x := by intro _; rfl) :
    PS X (.Assign [.Name y py] (.DictComp kx vx [⟨tg, iter, ifs, 0⟩] scope pos) spos) (tAsg (tDc wi g tt tk tv (own.map (·.2))) (gName i)) := by
  constructor
  intro pins s σ H D I want
  rw [exec_Assign_Name_used _ _ _ _ sw]
  refine wpAny_bind (wpAny_standAt (wpAny_bind ?_))
  show wpAny _ X.A (do let _ ← comprehension (.DictComp kx vx [⟨tg, iter, ifs, 0⟩] scope pos) scope X.env (firstIterPos [⟨tg, iter, ifs, 0⟩] pos) newDict false (eval iter X.env) (some (assign (.Name y py) X.env))) _ _ s
  have want' : tDc wi g tt tk tv (own.map (·.2)) σ H (fun x H1 => gName i x σ H1 D.nx) := want
  refine wpAny_bind (thn (Q := fun _ s' => SP X pins D .next s') (dc_core calm nd I walk ok hg ht hk hv hs want' ?_) fun _ s' hq => wpAny_pure (wpAny_pure hq))
  intro L C s' m H' I' q hn f
  show wpAny _ _ (assign (.Name y py) X.env (.ref L)) _ _ _
  refine wpAny_assign_Name (store_ok2 (v := V.ref L) I' nd at_ (.inl loc) rfl (fun s2 I2 got => ?_) (.inr loc))
  obtain ⟨a, sb, ha⟩ := got
  obtain ⟨f0, f1, f2, f3, f4, f5⟩ := f
  have other : C ≠ a := by
    rcases ha with z | z
    · rw [z]
      exact f1
    · exact fun e => f4 y a z e.symm
  refine ⟨m, hn.sameBut sb other, fun h3 sb3 => ⟨_, H', ?_, q⟩⟩
  exact I2.turned (t' := s2.toks) (fun b o hb e => (sb3.2 b hb).trans e) f0 f1 f3 f4 f5
theorem sw_trueD {kx vx : Expr} {gs : List Comprehension} {scope : Scope} {pos py : Pos} {y : Str} {l : Nat} {env : Env} (hk : env.scope.kind = .function) (hy : env.scope.names.lookup y = some .local) (hl : (py.line == pos.line) = true)
    (ha : (scope.names.any fun (n, k) => n == y && (k == .local || k == .cell)) = false) : swapsWith (.DictComp kx vx gs scope pos) (some (.Name y py)) l env = pure true := by
  have e1 : env.kindOf y = some .local := hy
  have e2 : env.blockKind = .function := by
    unfold Env.blockKind
    rw [hk] <;> rfl
  unfold swapsWith
  simp only [e2, e1, ha, Expr.pos, hl] <;> rfl
end
end HX
namespace HX
open PySem PySem.Spec PyProof.Rows L2
/-- a predicate that keeps in a greater frozen part -/
def Mono {α : Type} (P : Hp → V → α → Prop) : Prop := ∀ G G' v d, Same G G' → P G v d → P G' v d
theorem mono_nats {K : PySem.W.Frag} : Mono (Nats K) := fun _ _ _ _ e h => Nats.mono e h
theorem mono_bools {K : PySem.W.Frag} : Mono (Bools K) := fun _ _ _ _ e h => Bools.mono e h
theorem mono_each {α : Type} {K : PySem.W.Frag} {P : Hp → V → α → Prop} (h : Mono P) : Mono (Each K P) := fun _ _ _ _ e q => Each.mono (fun v d => h _ _ v d e) e q
/-- a list that is being built at D, not frozen yet: its items are known -/
structure Build {α : Type} (P : Hp → V → α → Prop) (m : Addr → Prop) (G H : Hp) (D : Addr) (ds : List α) (G' H' : Hp) : Prop where
  stp : Stp m G H G' H'
  new : H D = none
  nog : G' D = none
  lst : ∃ ys, H' D = some (.lst ys) ∧ Paired (P G') ys ds
section
variable {α : Type} {P : Hp → V → α → Prop} {m m' : Addr → Prop} {G H G1 H1 G2 H2 : Hp} {D : Addr} {ds : List α}
theorem Build.start (s : Stp m G H G1 H1) (h : H1 D = none) : Build P m G H D [] G1 (upd H1 D (.lst [])) :=
  ⟨s.newM h, s.was h, Same.none s.gh h, [], upd_same, .nil⟩
theorem Build.step (b : Build P m G H D ds G1 H1) (mono : Mono P) (s : Stp m' G1 H1 G2 H2) (hm : ∀ a, m' a → m a ∨ H a = none) (nD : ¬ m' D) : Build P m G H D ds G2 H2 := by
  obtain ⟨ys, e, hp⟩ := b.lst
  refine ⟨b.stp.trans s hm, b.new, s.g0 b.nog e, ys, s.un D _ nD e, Paired.mapP hp fun v d => mono _ _ v d s.gg⟩
theorem Build.step0 (b : Build P m G H D ds G1 H1) (mono : Mono P) (s : Stp nom G1 H1 G2 H2) : Build P m G H D ds G2 H2 := b.step mono s (fun _ z => z.elim) fun z => z
/-- a new item -/
theorem Build.snoc (b : Build P m G H D ds G1 H1) {y : V} {d : α} (h : P G1 y d) : ∃ ys, H1 D = some (.lst ys) ∧ ys.length = ds.length ∧ Build P m G H D (ds ++ [d]) G1 (upd H1 D (.lst (ys ++ [y]))) := by
  obtain ⟨ys, e, hp⟩ := b.lst
  exact ⟨ys, e, Paired.len hp, b.stp.put (Or.inr b.new) b.nog, b.new, b.nog, ys ++ [y], upd_same, Paired.snoc h hp⟩
/-- it is frozen -/
theorem Build.done {K : PySem.W.Frag} (b : Build P m G H D ds G1 H1) (mono : Mono P) : ∃ G2, Stp m G H G2 H1 ∧ Same G1 G2 ∧ Each K P G2 (.ref D) ds := by
  obtain ⟨ys, e, hp⟩ := b.lst
  have s := b.stp.freeze b.new b.nog e
  exact ⟨upd G1 D (.lst ys), s, Same.new b.nog, D, ys, rfl, SqL.of upd_same, Paired.mapP hp fun v d => mono _ _ v d (Same.new b.nog)⟩
/-- .. and the address is told to be new -/
theorem Build.done' {K : PySem.W.Frag} (b : Build P m G H D ds G1 H1) (mono : Mono P) : ∃ G2, Stp m G H G2 H1 ∧ Same G1 G2 ∧ Each K P G2 (.ref D) ds ∧ ∀ a, a ≠ D → G2 a = G1 a := by
  obtain ⟨ys, e, hp⟩ := b.lst
  have s := b.stp.freeze b.new b.nog e
  exact ⟨upd G1 D (.lst ys), s, Same.new b.nog, ⟨D, ys, rfl, SqL.of upd_same, Paired.mapP hp fun v d => mono _ _ v d (Same.new b.nog)⟩, fun a h => upd_ne h⟩
end
/-- a new object beside -/
theorem stp_newF {m : Addr → Prop} {G H : Hp} {a : Addr} {o : HO} (e : Same G H) (h : H a = none) : Stp m G H (upd G a o) (upd H a o) := (Stp.refl e).newF h
theorem stp_newM {m : Addr → Prop} {G H : Hp} {a : Addr} {o : HO} (e : Same G H) (h : H a = none) : Stp m G H G (upd H a o) := (Stp.refl e).newM h
theorem nats_new {K : PySem.W.Frag} {G : Hp} {a : Addr} {ns : List Nat} : Nats K (upd G a (.lst (ns.map iv))) (.ref a) ns := ⟨a, rfl, SqL.of upd_same⟩
/-- scalars as items -/
def IsV (_ : Hp) (v : V) (d : V) : Prop := v = d
theorem mono_isV : Mono IsV := fun _ _ _ _ _ h => h
theorem isV_all {G : Hp} : ∀ {xs ds : List V}, Paired (IsV G) xs ds → xs = ds
  | _, _, .nil => rfl
  | _, _, .cons h t => by rw [show _ = _ from h, isV_all t]
theorem Build.vals {m : Addr → Prop} {G H G1 H1 : Hp} {D : Addr} {ds : List V} (b : Build IsV m G H D ds G1 H1) : H1 D = some (.lst ds) := by
  obtain ⟨ys, e, hp⟩ := b.lst
  rw [e, isV_all hp]
end HX
namespace W76
open PySem PySem.Spec PyProof.Rows L2 HX
/-! ### the text -/
def topS (i : Nat) : Stmt := PySem.Challenge.pw_heldanswers_k76_seam_large_worlds.main.body.getD i (.Pass ⟨0, 0, 0, 0⟩)
abbrev s_BadWorld__init : Stmt := (inClass (topS 2) 0)
theorem sc_BadWorld__init : FnScope ["self", "reason"] ["self", "reason"] (defScope s_BadWorld__init) := ⟨rfl, rfl, rfl, by decide +kernel, rfl, by decide +kernel, by decide +kernel⟩
abbrev s_sides : Stmt := (topS 5)
theorem sc_sides : FnScope ["sentence"] ["sentence"] (defScope s_sides) := ⟨rfl, rfl, rfl, by decide +kernel, rfl, by decide +kernel, by decide +kernel⟩
abbrev s_is_all_once : Stmt := (topS 7)
theorem sc_is_all_once : FnScope ["sentence", "side"] ["sentence"] (defScope s_is_all_once) := ⟨rfl, rfl, rfl, by decide +kernel, rfl, by decide +kernel, by decide +kernel⟩
abbrev s_is_claim_once : Stmt := (topS 8)
theorem sc_is_claim_once : FnScope ["claim", "hold"] ["claim"] (defScope s_is_claim_once) := ⟨rfl, rfl, rfl, by decide +kernel, rfl, by decide +kernel, by decide +kernel⟩
abbrev s_has_shape : Stmt := (topS 9)
theorem sc_has_shape : FnScope ["products", "count", "row", "item"] ["products"] (defScope s_has_shape) := ⟨rfl, rfl, rfl, by decide +kernel, rfl, by decide +kernel, by decide +kernel⟩
abbrev s_keeps_order : Stmt := (topS 10)
theorem sc_keeps_order : FnScope ["products", "first", "second"] ["products"] (defScope s_keeps_order) := ⟨rfl, rfl, rfl, by decide +kernel, rfl, by decide +kernel, by decide +kernel⟩
abbrev s_keeps_grouping : Stmt := (topS 11)
theorem sc_keeps_grouping : FnScope ["products", "row", "second", "item"] ["products"] (defScope s_keeps_grouping) := ⟨rfl, rfl, rfl, by decide +kernel, rfl, by decide +kernel, by decide +kernel⟩
abbrev s_fault_of : Stmt := (topS 12)
theorem sc_fault_of : FnScope ["products", "facts", "name", "element"] ["products", "facts"] (defScope s_fault_of) := ⟨rfl, rfl, rfl, by decide +kernel, rfl, by decide +kernel, by decide +kernel⟩
abbrev s_is_true_for : Stmt := (topS 13)
theorem sc_is_true_for : FnScope ["truths", "row", "givers", "giver"] ["truths", "row", "givers"] (defScope s_is_true_for) := ⟨rfl, rfl, rfl, by decide +kernel, rfl, by decide +kernel, by decide +kernel⟩
abbrev s_World__init : Stmt := (inClass (topS 14) 0)
theorem sc_World__init : FnScope ["self", "products", "facts", "rows", "places", "reason", "row", "name"] ["self", "products", "facts"] (defScope s_World__init) := ⟨rfl, rfl, rfl, by decide +kernel, rfl, by decide +kernel, by decide +kernel⟩
abbrev s_World__len : Stmt := (inClass (topS 14) 1)
theorem sc_World__len : FnScope ["self"] ["self"] (defScope s_World__len) := ⟨rfl, rfl, rfl, by decide +kernel, rfl, by decide +kernel, by decide +kernel⟩
abbrev s_World_product : Stmt := (inClass (topS 14) 2)
theorem sc_World_product : FnScope ["self", "a", "b"] ["self", "a", "b"] (defScope s_World_product) := ⟨rfl, rfl, rfl, by decide +kernel, rfl, by decide +kernel, by decide +kernel⟩
abbrev s_World_has : Stmt := (inClass (topS 14) 3)
theorem sc_World_has : FnScope ["self", "element", "sentence"] ["self", "element", "sentence"] (defScope s_World_has) := ⟨rfl, rfl, rfl, by decide +kernel, rfl, by decide +kernel, by decide +kernel⟩
abbrev s_World_fails : Stmt := (inClass (topS 14) 4)
theorem sc_World_fails : FnScope ["self", "claim", "places", "holds", "goal", "total", "index"] ["self", "claim", "places"] (defScope s_World_fails) := ⟨rfl, rfl, rfl, by decide +kernel, rfl, by decide +kernel, by decide +kernel⟩
abbrev s_World_truths : Stmt := (inClass (topS 14) 5)
theorem sc_World_truths : FnScope ["self", "sentence", "found", "first", "second", "givers", "element", "row"] ["self", "sentence"] (defScope s_World_truths) := ⟨rfl, rfl, rfl, by decide +kernel, rfl, by decide +kernel, by decide +kernel⟩
abbrev s_law_cell : Stmt := (topS 16)
theorem sc_law_cell : FnScope ["script", "k"] ["script", "k"] (defScope s_law_cell) := ⟨rfl, rfl, rfl, by decide +kernel, rfl, by decide +kernel, by decide +kernel⟩
abbrev s_law_pool : Stmt := (topS 17)
theorem sc_law_pool : FnScope ["script", "k", "cell"] ["script", "k"] (defScope s_law_pool) := ⟨rfl, rfl, rfl, by decide +kernel, rfl, by decide +kernel, by decide +kernel⟩
abbrev s_law_next : Stmt := (topS 18)
theorem sc_law_next : FnScope ["pool", "many", "digit", "mixed"] ["pool", "many"] (defScope s_law_next) := ⟨rfl, rfl, rfl, by decide +kernel, rfl, by decide +kernel, by decide +kernel⟩
abbrev s_law_names : Stmt := (topS 19)
theorem sc_law_names : FnScope ["pool", "many", "names", "k", "name", "j"] ["pool", "many"] (defScope s_law_names) := ⟨rfl, rfl, rfl, by decide +kernel, rfl, by decide +kernel, by decide +kernel⟩
abbrev s_law_product : Stmt := (topS 20)
theorem sc_law_product : FnScope ["form", "many", "a", "b"] ["form", "many", "a", "b"] (defScope s_law_product) := ⟨rfl, rfl, rfl, by decide +kernel, rfl, by decide +kernel, by decide +kernel⟩
abbrev s_law_table : Stmt := (topS 21)
theorem sc_law_table : FnScope ["form", "many", "a", "b"] ["form", "many"] (defScope s_law_table) := ⟨rfl, rfl, rfl, by decide +kernel, rfl, by decide +kernel, by decide +kernel⟩
abbrev s_law_facts : Stmt := (topS 22)
theorem sc_law_facts : FnScope ["pool", "many", "words", "facts", "word", "pick", "first", "k"] ["pool", "many", "words"] (defScope s_law_facts) := ⟨rfl, rfl, rfl, by decide +kernel, rfl, by decide +kernel, by decide +kernel⟩
abbrev s_law_sentence : Stmt := (topS 23)
theorem sc_law_sentence : FnScope ["pool", "words", "depth", "sentence", "k", "other", "pick"] ["pool", "words", "depth"] (defScope s_law_sentence) := ⟨rfl, rfl, rfl, by decide +kernel, rfl, by decide +kernel, by decide +kernel⟩
abbrev s_law_true : Stmt := (topS 24)
theorem sc_law_true : FnScope ["table", "facts", "sentence", "many", "found", "one", "two", "givers", "k", "v"] ["table", "facts", "sentence"] (defScope s_law_true) := ⟨rfl, rfl, rfl, by decide +kernel, rfl, by decide +kernel, by decide +kernel⟩
abbrev s_law_refused : Stmt := (topS 25)
theorem sc_law_refused : FnScope ["table", "facts", "e"] ["table", "facts"] (defScope s_law_refused) := ⟨rfl, rfl, rfl, by decide +kernel, rfl, by decide +kernel, by decide +kernel⟩
abbrev s_law_spoilt : Stmt := (topS 26)
theorem sc_law_spoilt : FnScope ["pool", "form", "table", "facts", "many", "rows", "places", "word", "pick", "due", "before", "row", "k"] ["pool", "form", "table", "facts"] (defScope s_law_spoilt) := ⟨rfl, rfl, rfl, by decide +kernel, rfl, by decide +kernel, by decide +kernel⟩
abbrev s_law_picks : Stmt := (topS 27)
theorem sc_law_picks : FnScope ["pool", "lists", "able", "count", "k"] ["pool", "lists"] (defScope s_law_picks) := ⟨rfl, rfl, rfl, by decide +kernel, rfl, by decide +kernel, by decide +kernel⟩
abbrev s_law_places : Stmt := (topS 28)
theorem sc_law_places : FnScope ["pool", "truths", "many", "places", "row", "able", "k"] ["pool", "truths", "many"] (defScope s_law_places) := ⟨rfl, rfl, rfl, by decide +kernel, rfl, by decide +kernel, by decide +kernel⟩
abbrev s_law_judged : Stmt := (topS 29)
theorem sc_law_judged : FnScope ["pool", "world", "table", "facts", "sentences", "names", "many", "lists", "k", "at", "picks", "places", "total", "good", "goal", "claim", "given", "one"] ["pool", "world", "table", "facts", "sentences", "names"] (defScope s_law_judged) := ⟨rfl, rfl, rfl, by decide +kernel, rfl, by decide +kernel, by decide +kernel⟩
abbrev s_law : Stmt := (topS 30)
theorem sc_law : FnScope ["script", "pool", "form", "many", "words", "names", "table", "facts", "world", "other", "k", "a", "b", "count", "depths", "sentences", "depth"] ["script"] (defScope s_law) := ⟨rfl, rfl, rfl, by decide +kernel, rfl, by decide +kernel, by decide +kernel⟩
/-- what the top has written -/
structure Tx (K : PySem.W.Frag) (mg : Str → Option Value) where
  a_BadWorld__init : Addr
  d_BadWorld__init : FuncData
  F_BadWorld__init : Fun K "__init__" "BadWorld.__init__" s_BadWorld__init a_BadWorld__init d_BadWorld__init
  b_BadWorld__init : Binds K d_BadWorld__init ["self", "reason"] []
  a_sides : Addr
  d_sides : FuncData
  F_sides : Fun K "sides" "sides" s_sides a_sides d_sides
  b_sides : Binds K d_sides ["sentence"] []
  m_sides : mg "sides" = some (.ref a_sides)
  a_is_all_once : Addr
  d_is_all_once : FuncData
  F_is_all_once : Fun K "is_all_once" "is_all_once" s_is_all_once a_is_all_once d_is_all_once
  b_is_all_once : Binds K d_is_all_once ["sentence"] []
  m_is_all_once : mg "is_all_once" = some (.ref a_is_all_once)
  a_is_claim_once : Addr
  d_is_claim_once : FuncData
  F_is_claim_once : Fun K "is_claim_once" "is_claim_once" s_is_claim_once a_is_claim_once d_is_claim_once
  b_is_claim_once : Binds K d_is_claim_once ["claim"] []
  m_is_claim_once : mg "is_claim_once" = some (.ref a_is_claim_once)
  a_has_shape : Addr
  d_has_shape : FuncData
  F_has_shape : Fun K "has_shape" "has_shape" s_has_shape a_has_shape d_has_shape
  b_has_shape : Binds K d_has_shape ["products"] []
  m_has_shape : mg "has_shape" = some (.ref a_has_shape)
  a_keeps_order : Addr
  d_keeps_order : FuncData
  F_keeps_order : Fun K "keeps_order" "keeps_order" s_keeps_order a_keeps_order d_keeps_order
  b_keeps_order : Binds K d_keeps_order ["products"] []
  m_keeps_order : mg "keeps_order" = some (.ref a_keeps_order)
  a_keeps_grouping : Addr
  d_keeps_grouping : FuncData
  F_keeps_grouping : Fun K "keeps_grouping" "keeps_grouping" s_keeps_grouping a_keeps_grouping d_keeps_grouping
  b_keeps_grouping : Binds K d_keeps_grouping ["products"] []
  m_keeps_grouping : mg "keeps_grouping" = some (.ref a_keeps_grouping)
  a_fault_of : Addr
  d_fault_of : FuncData
  F_fault_of : Fun K "fault_of" "fault_of" s_fault_of a_fault_of d_fault_of
  b_fault_of : Binds K d_fault_of ["products", "facts"] []
  m_fault_of : mg "fault_of" = some (.ref a_fault_of)
  a_is_true_for : Addr
  d_is_true_for : FuncData
  F_is_true_for : Fun K "is_true_for" "is_true_for" s_is_true_for a_is_true_for d_is_true_for
  b_is_true_for : Binds K d_is_true_for ["truths", "row", "givers"] []
  m_is_true_for : mg "is_true_for" = some (.ref a_is_true_for)
  a_World__init : Addr
  d_World__init : FuncData
  F_World__init : Fun K "__init__" "World.__init__" s_World__init a_World__init d_World__init
  b_World__init : Binds K d_World__init ["self", "products", "facts"] []
  a_World__len : Addr
  d_World__len : FuncData
  F_World__len : Fun K "__len__" "World.__len__" s_World__len a_World__len d_World__len
  b_World__len : Binds K d_World__len ["self"] []
  a_World_product : Addr
  d_World_product : FuncData
  F_World_product : Fun K "product" "World.product" s_World_product a_World_product d_World_product
  b_World_product : Binds K d_World_product ["self", "a", "b"] []
  a_World_has : Addr
  d_World_has : FuncData
  F_World_has : Fun K "has" "World.has" s_World_has a_World_has d_World_has
  b_World_has : Binds K d_World_has ["self", "element", "sentence"] []
  a_World_fails : Addr
  d_World_fails : FuncData
  F_World_fails : Fun K "fails" "World.fails" s_World_fails a_World_fails d_World_fails
  b_World_fails : Binds K d_World_fails ["self", "claim", "places"] []
  a_World_truths : Addr
  d_World_truths : FuncData
  F_World_truths : Fun K "_truths" "World._truths" s_World_truths a_World_truths d_World_truths
  b_World_truths : Binds K d_World_truths ["self", "sentence"] []
  a_law_cell : Addr
  d_law_cell : FuncData
  F_law_cell : Fun K "_law_cell" "_law_cell" s_law_cell a_law_cell d_law_cell
  b_law_cell : Binds K d_law_cell ["script", "k"] []
  m_law_cell : mg "_law_cell" = some (.ref a_law_cell)
  a_law_pool : Addr
  d_law_pool : FuncData
  F_law_pool : Fun K "_law_pool" "_law_pool" s_law_pool a_law_pool d_law_pool
  b_law_pool : Binds K d_law_pool ["script", "k"] []
  m_law_pool : mg "_law_pool" = some (.ref a_law_pool)
  a_law_next : Addr
  d_law_next : FuncData
  F_law_next : Fun K "_law_next" "_law_next" s_law_next a_law_next d_law_next
  b_law_next : Binds K d_law_next ["pool", "many"] []
  m_law_next : mg "_law_next" = some (.ref a_law_next)
  a_law_names : Addr
  d_law_names : FuncData
  F_law_names : Fun K "_law_names" "_law_names" s_law_names a_law_names d_law_names
  b_law_names : Binds K d_law_names ["pool", "many"] []
  m_law_names : mg "_law_names" = some (.ref a_law_names)
  a_law_product : Addr
  d_law_product : FuncData
  F_law_product : Fun K "_law_product" "_law_product" s_law_product a_law_product d_law_product
  b_law_product : Binds K d_law_product ["form", "many", "a", "b"] []
  m_law_product : mg "_law_product" = some (.ref a_law_product)
  a_law_table : Addr
  d_law_table : FuncData
  F_law_table : Fun K "_law_table" "_law_table" s_law_table a_law_table d_law_table
  b_law_table : Binds K d_law_table ["form", "many"] []
  m_law_table : mg "_law_table" = some (.ref a_law_table)
  a_law_facts : Addr
  d_law_facts : FuncData
  F_law_facts : Fun K "_law_facts" "_law_facts" s_law_facts a_law_facts d_law_facts
  b_law_facts : Binds K d_law_facts ["pool", "many", "words"] []
  m_law_facts : mg "_law_facts" = some (.ref a_law_facts)
  a_law_sentence : Addr
  d_law_sentence : FuncData
  F_law_sentence : Fun K "_law_sentence" "_law_sentence" s_law_sentence a_law_sentence d_law_sentence
  b_law_sentence : Binds K d_law_sentence ["pool", "words", "depth"] []
  m_law_sentence : mg "_law_sentence" = some (.ref a_law_sentence)
  a_law_true : Addr
  d_law_true : FuncData
  F_law_true : Fun K "_law_true" "_law_true" s_law_true a_law_true d_law_true
  b_law_true : Binds K d_law_true ["table", "facts", "sentence"] []
  m_law_true : mg "_law_true" = some (.ref a_law_true)
  a_law_refused : Addr
  d_law_refused : FuncData
  F_law_refused : Fun K "_law_refused" "_law_refused" s_law_refused a_law_refused d_law_refused
  b_law_refused : Binds K d_law_refused ["table", "facts"] []
  m_law_refused : mg "_law_refused" = some (.ref a_law_refused)
  a_law_spoilt : Addr
  d_law_spoilt : FuncData
  F_law_spoilt : Fun K "_law_spoilt" "_law_spoilt" s_law_spoilt a_law_spoilt d_law_spoilt
  b_law_spoilt : Binds K d_law_spoilt ["pool", "form", "table", "facts"] []
  m_law_spoilt : mg "_law_spoilt" = some (.ref a_law_spoilt)
  a_law_picks : Addr
  d_law_picks : FuncData
  F_law_picks : Fun K "_law_picks" "_law_picks" s_law_picks a_law_picks d_law_picks
  b_law_picks : Binds K d_law_picks ["pool", "lists"] []
  m_law_picks : mg "_law_picks" = some (.ref a_law_picks)
  a_law_places : Addr
  d_law_places : FuncData
  F_law_places : Fun K "_law_places" "_law_places" s_law_places a_law_places d_law_places
  b_law_places : Binds K d_law_places ["pool", "truths", "many"] []
  m_law_places : mg "_law_places" = some (.ref a_law_places)
  a_law_judged : Addr
  d_law_judged : FuncData
  F_law_judged : Fun K "_law_judged" "_law_judged" s_law_judged a_law_judged d_law_judged
  b_law_judged : Binds K d_law_judged ["pool", "world", "table", "facts", "sentences", "names"] []
  m_law_judged : mg "_law_judged" = some (.ref a_law_judged)
  a_law : Addr
  d_law : FuncData
  F_law : Fun K "law" "law" s_law a_law d_law
  b_law : Binds K d_law ["script"] []
  m_law : mg "law" = some (.ref a_law)
  z_len : mg "len" = none
  z_range : mg "range" = none
  z_int : mg "int" = none
  z_abs : mg "abs" = none
  z_str : mg "str" = none
  z_min : mg "min" = none
  z_max : mg "max" = none
  z_list : mg "list" = none
  z_tuple : mg "tuple" = none
  z_repr : mg "repr" = none
  C_World : Addr
  cl_World : Cls K C_World
  c_World : mg "World" = some (.ref C_World)
  k_World : Mk K C_World a_World__init
  n_products : NoAttr K C_World "_products"
  n_facts : NoAttr K C_World "_facts"
  mt_World_product : Meth K C_World "product" a_World_product
  mt_World_has : Meth K C_World "has" a_World_has
  mt_World_fails : Meth K C_World "fails" a_World_fails
  mt_World_truths : Meth K C_World "_truths" a_World_truths
  len_World : PySem.W.findIn K (.ref C_World) "__len__" = some (some (.ref a_World__len))
  mt_World__len_fn : PySem.W.isFn K (.ref a_World__len) = true
  C_Held : Addr
  c_Held : mg "HeldError" = some (.ref C_Held)
  rd_Held : PySem.W.readsIn K C_Held (.type "type") = true
  sp_Held : PySem.W.specialIn K (.ref C_Held) "__getattribute__" = some (some (.builtin "type.__getattribute__"))
  fc_Held : PySem.W.findCls K (.ref C_Held) (.type "type") "__init__" = some (.val (.builtin "ValueError.__init__"))
  C_Bad : Addr
  c_Bad : mg "BadWorld" = some (.ref C_Bad)
  ox_Bad : OexC K C_Bad
  xf_Bad : XfC K C_Bad
  i_Bad : PySem.W.findIn K (.ref C_Bad) "__init__" = some (some (.ref a_BadWorld__init))
  t_Bad : PySem.W.typeIn K (.ref a_BadWorld__init) = some (.type "function")
  n_Bad : PySem.W.findIn K (.ref C_Bad) "reason" = some none
  em_Bad : PySem.W.exmOne K (.ref C_Bad) (.ref C_Bad) = some true
end W76
namespace W76
open PySem PySem.Spec PyProof.Rows L2 HX
section
variable {P : Program} {w : World} {K : PySem.W.Frag} {mg : Str → Option Value} {base : Heap}
/-! ### the pool of draws: only its form matters -/
def Pool (l : List V) : Prop := ∃ a b c : Int, l = [.int a, .int b, .int c] ∧ 0 ≤ a
def spCell (K : PySem.W.Frag) : Sp := fun vs H Q _ => ∃ (a : Addr) (ns : List Int) (k : Int), vs = [.ref a, .int k] ∧ SqL K H a (ns.map V.int) ∧ ns.length ≤ 63 ∧ 0 ≤ k ∧ ∀ c : Int, 0 ≤ c → Q (.int c) H
theorem ok_law_cell {k : Nat} (T : Tx K mg) : FnOk P w K mg base CX0 (k + 1) T.a_law_cell T.d_law_cell ["script", "k"] (spCell K) := by
  refine T.F_law_cell.ok sc_law_cell (fun vs H Q E h => ?_) (fun cdv A outer s H vs Q E hr h => ?_)
  · obtain ⟨a, ns, k, rfl, _⟩ := h
    rfl
  obtain ⟨a, ns, i, rfl, hS, h63, h0, q⟩ := h
  refine ⟨_, (pss_cons (ps_if (pt_cmpR op_lt (pv 1) (pe_callB (lenS K) (by rfl) T.z_len PySem.boot_len (pa_cons (pv 0) pa_nil)) (nomark _)) (pss_one (ps_ret (pe_callB call_abs (by rfl) T.z_abs (by decide +kernel) (pa_cons (pe_ix (ixL K) (pv 0) (pv 1) (fun _ _ => rfl)) pa_nil)))) pss_nil)
      (pss_one (ps_ret pe_int))), ?_⟩
  refine ⟨_, rfl, _, rfl, a, _, rfl, .inl hS, _, _, rfl, rfl, _, rfl, ?_⟩
  refine ite2 (fun c => ?_) (fun c => ?_)
  · have c' := of_decide_eq_true c
    rw [List.length_map] at c'
    have hi : i.toNat < ns.length := by omega
    have e : i = ((i.toNat : Nat) : Int) := by omega
    have g : atI (ns.map V.int) i = some (.int ns[i.toNat]) := by
      refine at_of e ?_
      rw [List.getElem?_map, List.getElem?_eq_getElem hi]
      rfl
    refine ⟨_, rfl, _, rfl, a, _, _, _, rfl, rfl, hS, g, _, rfl, ?_⟩
    exact q _ (by split <;> omega)
  · exact q 0 (Int.le_refl 0)
def spPool (K : PySem.W.Frag) : Sp := fun vs H Q _ => ∃ (a : Addr) (ns : List Int) (k : Int), vs = [.ref a, .int k] ∧ SqL K H a (ns.map V.int) ∧ ns.length ≤ 63 ∧ 0 ≤ k ∧ ∀ p l, H p = none → Pool l → Q (.ref p) (upd H p (.lst l))
theorem ok_law_pool {k : Nat} (T : Tx K mg) (G_law_cell : FnOk P w K mg base CX0 k T.a_law_cell T.d_law_cell ["script", "k"] (spCell K)) : FnOk P w K mg base CX0 (k + 1) T.a_law_pool T.d_law_pool ["script", "k"] (spPool K) := by
  refine T.F_law_pool.ok sc_law_pool (fun vs H Q E h => ?_) (fun cdv A outer s H vs Q E hr h => ?_)
  · obtain ⟨a, ns, k, rfl, _⟩ := h
    rfl
  obtain ⟨a, ns, i, rfl, hS, h63, h0, q⟩ := h
  refine ⟨_, (pss_cons (ps_set (i := 2) sc_law_pool.nd rfl (Or.inl rfl) (pe_call G_law_cell hr (by rfl) T.m_law_cell T.F_law_cell.kp T.b_law_cell .nil pass0 (pa_cons (pv 0) (pa_cons (pv 1) pa_nil))))
      (pss_cons (ps_if (pt_cmpR op_ge (pv 2) (pe_op op_pow pe_int pe_int) (nomark _)) (pss_one (ps_ret (pe_lst (pa_cons (pv 2) (pa_cons pe_int (pa_cons (pe_op op_mod (pe_callTy call_int1 (by rfl) T.z_int (by decide +kernel) (pa_cons (pv 2) pa_nil)) pe_int) pa_nil)))))) pss_nil)
      (pss_one (ps_ret (pe_lst (pa_cons pe_int (pa_cons pe_int (pa_cons (pv 2) pa_nil)))))))), ?_⟩
  refine ⟨_, rfl, _, rfl, a, ns, i, rfl, hS, h63, h0, fun c hc => ?_⟩
  refine ⟨_, rfl, 10, 18, rfl, rfl, ⟨by decide, by decide, by decide⟩, _, _, rfl, rfl, _, rfl, ?_⟩
  refine ite2 (fun _ => ?_) (fun _ => ?_)
  · refine ⟨_, rfl, _, rfl, .inl ⟨c, rfl, c, 1000003, rfl, rfl, (by show (0 : Int) < 1000003; decide), (by show 3 ≤ sizeLine; decide), fun p hp => ?_⟩⟩
    exact q p _ hp ⟨_, _, _, rfl, hc⟩
  · refine ⟨_, rfl, (by show 3 ≤ sizeLine; decide), fun p hp => ?_⟩
    exact q p _ hp ⟨_, _, _, rfl, Int.le_refl 0⟩
theorem small_mod {x m : Int} (h : 0 < m) (h2 : m < 2 ^ 64) : -(2 ^ 64) < x % m ∧ x % m < 2 ^ 64 := by
  have e1 := Int.emod_nonneg x (show m ≠ 0 by omega)
  have e2 := Int.emod_lt_of_pos x h
  omega
def spNext : Sp := fun vs H Q _ => ∃ (p : Addr) (l : List V) (n : Int), vs = [.ref p, .int n] ∧ H p = some (.lst l) ∧ Pool l ∧ 0 < n ∧ n < 1000000 ∧ ∀ (d : Nat) l', Pool l' → (d : Int) < n → Q (.int d) (upd H p (.lst l'))
theorem ok_law_next {k : Nat} (T : Tx K mg) : FnOk P w K mg base CX0 (k + 1) T.a_law_next T.d_law_next ["pool", "many"] spNext := by
  refine T.F_law_next.ok sc_law_next (fun vs H Q E h => ?_) (fun cdv A outer s H vs Q E hr h => ?_)
  · obtain ⟨p, l, n, rfl, _⟩ := h
    rfl
  obtain ⟨p, l, n, rfl, hp, ⟨a, b, c, rfl, ha⟩, h0, h1, q⟩ := h
  refine ⟨_, (pss_cons (ps_if (pt_cmpR op_gt (pe_ix (ixL K) (pv 0) pe_int (fun _ _ => rfl)) pe_int (nomark _)) (pss_cons (ps_set (i := 2) sc_law_next.nd rfl (Or.inl rfl) (pe_op op_modN (pe_callTy call_int1 (by rfl) T.z_int (by decide +kernel) (pa_cons (pe_ix (ixL K) (pv 0) pe_int (fun _ _ => rfl)) pa_nil)) (pv 1)))
      (pss_cons (ps_asg (pe_op op_fdivN (pe_ix (ixL K) (pv 0) pe_int (fun _ _ => rfl)) (pv 1)) (pg_sub (pv 0) pe_int set_list))
      (pss_one (ps_ret (pv 2))))) pss_nil)
      (pss_cons (ps_asg (pe_op op_add (pe_ix (ixL K) (pv 0) pe_int (fun _ _ => rfl)) pe_int) (pg_sub (pv 0) pe_int set_list))
      (pss_cons (ps_set (i := 3) sc_law_next.nd rfl (Or.inl rfl) (pe_op op_mod (pe_callTy call_int1 (by rfl) T.z_int (by decide +kernel) (pa_cons (pe_op op_add (pe_op op_add (pe_ix (ixL K) (pv 0) pe_int (fun _ _ => rfl)) (pe_op op_mul pe_int (pe_ix (ixL K) (pv 0) pe_int (fun _ _ => rfl)))) pe_int) pa_nil)) pe_int))
      (pss_cons (ps_set (i := 3) sc_law_next.nd rfl (Or.inl rfl) (pe_op op_mod (pe_callTy call_int1 (by rfl) T.z_int (by decide +kernel) (pa_cons (pe_op op_mul (pv 3) (pe_op op_add (pv 3) pe_int)) pa_nil)) pe_int))
      (pss_cons (ps_set (i := 3) sc_law_next.nd rfl (Or.inl rfl) (pe_op op_mod (pe_callTy call_int1 (by rfl) T.z_int (by decide +kernel) (pa_cons (pe_op op_add (pe_op op_mul (pv 3) (pe_op op_add (pv 3) pe_int)) (pe_op op_mul pe_int (pe_ix (ixL K) (pv 0) pe_int (fun _ _ => rfl)))) pa_nil)) pe_int))
      (pss_one (ps_ret (pe_op op_modN (pe_callTy call_int1 (by rfl) T.z_int (by decide +kernel) (pa_cons (pe_op op_fdiv (pv 3) pe_int) pa_nil)) (pv 1))))))))), ?_⟩
  have fin : ∀ (m : Int) (l' : List V), Pool l' → Q (.int (m.fmod n)) (upd H p (.lst l')) := fun m l' hl => by
    have e1 : 0 ≤ m.fmod n := Int.fmod_nonneg_of_pos _ h0
    have e2 : m.fmod n < n := Int.fmod_lt_of_pos _ h0
    have e3 : m.fmod n = (((m.fmod n).toNat : Nat) : Int) := by omega
    rw [e3]
    exact q _ l' hl (by omega)
  have sq : SqL K H p [.int a, .int b, .int c] := SqL.of hp
  refine ⟨_, rfl, p, _, 0, _, rfl, rfl, sq, rfl, _, _, rfl, rfl, _, rfl, ?_⟩
  refine ite2 (fun _ => ?_) (fun _ => ?_)
  · refine ⟨_, rfl, p, _, 0, _, rfl, rfl, sq, rfl, .inl ⟨a, rfl, _, rfl, a, n, rfl, rfl, by omega, ?_⟩⟩
    refine ⟨_, rfl, p, _, 0, _, rfl, rfl, sq, rfl, _, rfl, a, n, rfl, rfl, ⟨by omega, by omega⟩, _, rfl, p, _, 0, 0, rfl, rfl, hp, rfl, ?_⟩
    refine ⟨_, rfl, fin a _ ⟨_, _, _, rfl, ?_⟩⟩
    rw [Int.fdiv_eq_ediv_of_nonneg _ (by omega)]
    exact Int.ediv_nonneg ha (by omega)
  · refine ⟨_, rfl, p, _, 1, _, rfl, rfl, sq, rfl, _, _, rfl, rfl, _, rfl, p, _, 1, 1, rfl, rfl, hp, rfl, ?_⟩
    have sq2 : SqL K (upd H p (.lst [.int a, .int (b + 1), .int c])) p [.int a, .int (b + 1), .int c] := SqL.of upd_same
    refine ⟨_, rfl, p, _, 2, _, rfl, rfl, sq2, rfl, _, rfl, p, _, 1, _, rfl, rfl, sq2, rfl, _, _, rfl, rfl, .inl ⟨by decide, by decide⟩, _, _, rfl, rfl, _, _, rfl, rfl, .inl ⟨_, rfl, _, _, rfl, rfl, (by show (0 : Int) < 2147483647; decide), ?_⟩⟩
    refine ⟨_, rfl, _, rfl, _, _, rfl, rfl, _, _, rfl, rfl, .inl (small_mod (by decide) (by decide)), .inl ⟨_, rfl, _, _, rfl, rfl, (by show (0 : Int) < 2147483629; decide), ?_⟩⟩
    refine ⟨_, rfl, _, rfl, _, _, rfl, rfl, _, _, rfl, rfl, .inl (small_mod (by decide) (by decide)), _, rfl, p, _, 1, _, rfl, rfl, sq2, rfl, _, _, rfl, rfl, .inl ⟨by decide, by decide⟩, _, _, rfl, rfl, .inl ⟨_, rfl, _, _, rfl, rfl, (by show (0 : Int) < 2147483647; decide), ?_⟩⟩
    refine ⟨_, rfl, _, _, rfl, rfl, ⟨by decide, by decide⟩, .inl ⟨_, rfl, _, rfl, _, _, rfl, rfl, by omega, ?_⟩⟩
    exact fin _ _ ⟨_, _, _, rfl, ha⟩
def spProduct : Sp := fun vs H Q _ => ∃ form n a b : Nat, vs = [iv form, iv n, iv a, iv b] ∧ 0 < n ∧ Q (iv (pr form n a b)) H
theorem ok_law_product {k : Nat} (T : Tx K mg) : FnOk P w K mg base CX0 (k + 1) T.a_law_product T.d_law_product ["form", "many", "a", "b"] spProduct := by
  refine T.F_law_product.ok sc_law_product (fun vs H Q E h => ?_) (fun cdv A outer s H vs Q E hr h => ?_)
  · obtain ⟨f, n, a, b, rfl, _⟩ := h
    rfl
  obtain ⟨f, n, a, b, rfl, hn, q⟩ := h
  refine ⟨_, (pss_cons (ps_if (pt_cmpR op_eq (pv 0) pe_int (nomark _)) (pss_one (ps_ret (pe_callB (call_min2 rfl) (by rfl) T.z_min (by decide +kernel) (pa_cons (pe_op op_add (pv 2) (pv 3)) (pa_cons (pe_op op_sub (pv 1) pe_int) pa_nil))))) pss_nil)
      (pss_cons (ps_if (pt_cmpR op_eq (pv 0) pe_int (nomark _)) (pss_one (ps_ret (pe_op op_modN (pe_callTy call_int1 (by rfl) T.z_int (by decide +kernel) (pa_cons (pe_op op_add (pv 2) (pv 3)) pa_nil)) (pv 1)))) pss_nil)
      (pss_one (ps_ret (pe_callB (call_max2 rfl) (by rfl) T.z_max (by decide +kernel) (pa_cons (pv 2) (pa_cons (pv 3) pa_nil))))))), ?_⟩
  refine ⟨_, rfl, rfl, _, rfl, ?_⟩
  refine ite2 (fun c => ?_) (fun c => ?_)
  · have c1 : (f : Int) = 0 := V.int.inj (of_decide_eq_true c)
    have c2 : f = 0 := by omega
    refine ⟨_, rfl, _, rfl, _, _, rfl, rfl, _, rfl, _, _, rfl, rfl, _, _, rfl, ?_⟩
    have e : (if (n : Int) - 1 < (a : Int) + (b : Int) then (n : Int) - 1 else (a : Int) + (b : Int)) = ((pr f n a b : Nat) : Int) := by
      unfold pr
      rw [if_pos c2]
      split <;> omega
    show Q (V.int (if (n : Int) - 1 < (a : Int) + (b : Int) then (n : Int) - 1 else (a : Int) + (b : Int))) H
    rw [e]
    exact q
  · have c0 : ¬ f = 0 := fun z => c (by subst z; rfl)
    refine ⟨_, rfl, rfl, _, rfl, ?_⟩
    refine ite2 (fun d => ?_) (fun d => ?_)
    · have d1 : (f : Int) = 1 := V.int.inj (of_decide_eq_true d)
      have d2 : f = 1 := by omega
      refine ⟨_, rfl, _, rfl, _, _, rfl, rfl, .inl ⟨_, rfl, _, rfl, _, _, rfl, rfl, by omega, ?_⟩⟩
      have e : ((a : Int) + (b : Int)).fmod (n : Int) = ((pr f n a b : Nat) : Int) := by
        unfold pr
        rw [if_neg c0, if_pos d2, Int.fmod_eq_emod_of_nonneg _ (by omega), Int.natCast_emod, Int.natCast_add]
      show Q (V.int (((a : Int) + (b : Int)).fmod (n : Int))) H
      rw [e]
      exact q
    · have d0 : ¬ f = 1 := fun z => d (by subst z; rfl)
      refine ⟨_, rfl, _, rfl, _, _, rfl, ?_⟩
      have e : (if (b : Int) > (a : Int) then (b : Int) else (a : Int)) = ((pr f n a b : Nat) : Int) := by
        unfold pr
        rw [if_neg c0, if_neg d0]
        split <;> omega
      show Q (V.int (if (b : Int) > (a : Int) then (b : Int) else (a : Int))) H
      rw [e]
      exact q
end
end W76
namespace W76
open PySem PySem.Spec PyProof.Rows L2 HX
/-! ### lists of numbers, rows -/
theorem all_take_succ {α : Type} {l : List α} {f : α → Bool} {i : Nat} {x : α} (h : l[i]? = some x) : (l.take (i + 1)).all f = ((l.take i).all f && f x) := by
  obtain ⟨hi, e⟩ := List.getElem?_eq_some_iff.mp h
  rw [List.take_succ_eq_append_getElem hi, List.all_append, e]
  simp
theorem all_false_of {α : Type} {l : List α} {f : α → Bool} {i : Nat} {x : α} (h : l[i]? = some x) (hf : f x = false) : l.all f = false := by
  rw [List.all_eq_false]
  exact ⟨x, List.mem_of_getElem? h, by rw [hf]; exact Bool.false_ne_true⟩
theorem nats_of {ns : List Nat} {i : Nat} {x : V} (h : (ns.map iv)[i]? = some x) : ∃ k, ns[i]? = some k ∧ x = iv k := by
  rw [List.getElem?_map] at h
  cases e : ns[i]? with
  | none =>
    rw [e] at h
    cases h
  | some k =>
    rw [e] at h
    exact ⟨k, rfl, (Option.some.inj h).symm⟩
section
variable {P : Program} {w : World} {K : PySem.W.Frag} {mg : Str → Option Value} {base : Heap}
def spShape (K : PySem.W.Frag) : Sp := fun vs H Q _ => ∃ (v : V) (rows : Rows), vs = [v] ∧ Table K H v rows ∧ Q (.bl (shapeB rows)) H
theorem ok_has_shape {k : Nat} (T : Tx K mg) : FnOk P w K mg base CX0 (k + 1) T.a_has_shape T.d_has_shape ["products"] (spShape K) := by
  refine T.F_has_shape.ok sc_has_shape (fun vs H Q E h => ?_) (fun cdv A outer s H vs Q E hr h => ?_)
  · obtain ⟨v, rows, rfl, _⟩ := h
    rfl
  obtain ⟨v, rows, rfl, ⟨a, xs, rfl, hS, hp⟩, q⟩ := h
  refine ⟨_, (pss_cons (ps_set (i := 1) sc_has_shape.nd rfl (Or.inl rfl) (pe_callB (lenS K) (by rfl) T.z_len PySem.boot_len (pa_cons (pv 0) pa_nil)))
      (pss_cons (ps_for PassesOwn.never rfl (piL K (pv 0)) (pg_name (i := 2) sc_has_shape.nd rfl (Or.inl rfl)) (pss_cons (ps_if (pt_cmpR op_ne (pe_callB (lenS K) (by rfl) T.z_len PySem.boot_len (pa_cons (pv 2) pa_nil)) (pv 1) (nomark _)) (pss_one (ps_ret pe_bl)) pss_nil)
      (pss_one (ps_for PassesOwn.never rfl (piL K (pv 2)) (pg_name (i := 3) sc_has_shape.nd rfl (Or.inl rfl)) (pss_one (ps_if (pt_not (pt_chain op_le op_lt pe_int (pv 3) (pv 1))) (pss_one (ps_ret pe_bl)) pss_nil))))))
      (pss_one (ps_ret (pe_cmpR op_gt (pv 1) pe_int (nomark _)))))), ?_⟩
  have hlen : xs.length = rows.length := Paired.len hp
  refine ⟨_, rfl, a, _, rfl, .inl hS, ?_⟩
  refine ⟨_, rfl, a, rfl, ⟨_, hS⟩, for_list (K := K) (a := a) (xs := xs) (fun i σ' H' => H' = H ∧ (rows.take i).all (rowOk rows.length) = true ∧ ∃ y z, σ' = [some (.ref a), some (.int (xs.length : Int)), y, z]) ⟨rfl, rfl, none, none, rfl⟩ (fun i σ' H' _ h => by rw [h.1]; exact hS) ?_ ?_⟩
  · rintro i x σ' H' hx ⟨rfl, hall, y, z, rfl⟩
    obtain ⟨r, hr1, b, rfl, hb⟩ := Paired.getL hp hx
    refine ⟨_, rfl, b, _, rfl, .inl hb, _, rfl, rfl, _, rfl, ?_⟩
    rw [List.length_map, hlen]
    refine ite2 (fun c => ?_) (fun c => ?_)
    · -- a row of another length
      have hb : rowOk rows.length r = false := by
        unfold rowOk
        have : ¬ r.length = rows.length := fun z => by simp [z] at c
        rw [decide_eq_false this, Bool.false_and]
      have e := shape_badRow (List.mem_of_getElem? hr1) hb
      rw [e] at q
      exact q
    · have hl : r.length = rows.length := by
        have c2 : decide (V.int (r.length : Int) = V.int (rows.length : Int)) = true := by
          cases h : decide (V.int (r.length : Int) = V.int (rows.length : Int)) with
          | true => rfl
          | false => exact absurd (by rw [h]; rfl) c
        have c3 := V.int.inj (of_decide_eq_true c2)
        omega
      refine ⟨_, rfl, b, rfl, ⟨_, hb⟩, for_list (K := K) (a := b) (xs := r.map iv) (fun j σ' H'' => H'' = H' ∧ (r.take j).all (fun k => decide (k < rows.length)) = true ∧ ∃ z, σ' = [some (.ref a), some (.int (rows.length : Int)), some (.ref b), z]) ⟨rfl, rfl, z, rfl⟩ (fun j σ' H' _ h => by rw [h.1]; exact hb) ?_ ?_⟩
      · rintro j x σ' H'' hx ⟨rfl, hall2, z, rfl⟩
        obtain ⟨k, hk, rfl⟩ := nats_of hx
        refine ⟨_, rfl, _, _, rfl, rfl, _, rfl, ?_⟩
        rw [decide_eq_true (show (0 : Int) ≤ (k : Int) by omega)]
        refine ⟨_, rfl, _, _, rfl, rfl, _, rfl, ?_⟩
        by_cases hlt : k < rows.length
        · rw [decide_eq_true (show (k : Int) < (rows.length : Int) by omega)]
          exact ⟨rfl, by rw [all_take_succ hk, hall2, decide_eq_true hlt]; rfl, _, rfl⟩
        · rw [decide_eq_false (show ¬ (k : Int) < (rows.length : Int) by omega)]
          have hb : rowOk rows.length r = false := by
            unfold rowOk
            rw [all_false_of hk (decide_eq_false hlt), Bool.and_false]
          have e := shape_badRow (List.mem_of_getElem? hr1) hb
          rw [e] at q
          exact q
      · rintro σ' H'' ⟨rfl, hall2, z, rfl⟩
        rw [List.length_map, List.take_length] at hall2
        refine ⟨rfl, ?_, some (.ref b), z, by first | rfl | rw [hlen]⟩
        rw [all_take_succ hr1, hall]
        unfold rowOk
        rw [hl, decide_eq_true rfl, hall2]
        rfl
  · rintro σ' H' ⟨rfl, hall, y, z, rfl⟩
    rw [hlen, List.take_length] at hall
    refine ⟨_, rfl, _, _, rfl, rfl, ?_⟩
    have e : shapeB rows = decide (0 < (xs.length : Int)) := by
      unfold shapeB
      rw [hall, Bool.true_and, hlen]
      exact decide_eq_decide.mpr (by omega)
    rw [e] at q
    exact q
/-! ### rows of a table of the right shape -/
theorem at1_get {r : List Nat} {j : Nat} (h : j < r.length) : r[j]? = some (at1 r j) := by
  unfold at1
  rw [List.getElem?_eq_getElem h]
  rfl
theorem shape_row {rows : Rows} (h : shapeB rows = true) {i : Nat} {r : List Nat} (hi : rows[i]? = some r) : r.length = rows.length ∧ ∀ k, k ∈ r → k < rows.length := by
  unfold shapeB at h
  rw [Bool.and_eq_true, List.all_eq_true] at h
  have h1 := h.1 r (List.mem_of_getElem? hi)
  unfold rowOk at h1
  rw [Bool.and_eq_true, List.all_eq_true] at h1
  exact ⟨of_decide_eq_true h1.1, fun k hk => of_decide_eq_true (h1.2 k hk)⟩
theorem shape_pos {rows : Rows} (h : shapeB rows = true) : 0 < rows.length := by
  unfold shapeB at h
  rw [Bool.and_eq_true] at h
  exact of_decide_eq_true h.2
theorem row_of {rows : Rows} {i : Nat} (h : i < rows.length) : rows[i]? = some (rowAt rows i) := by
  unfold rowAt
  rw [List.getElem?_eq_getElem h]
  rfl
/-- the i-th row of a table -/
theorem tab_row {H : Hp} {xs : List V} {rows : Rows} {i : Nat} (hp : Paired (Nats K H) xs rows) (h : i < rows.length) : ∃ b, xs[i]? = some (.ref b) ∧ SqL K H b ((rowAt rows i).map iv) := by
  obtain ⟨x, h1, b, rfl, hb⟩ := Paired.get hp (row_of h)
  exact ⟨b, h1, hb⟩
def spOrder (K : PySem.W.Frag) : Sp := fun vs H Q _ => ∃ (v : V) (rows : Rows), vs = [v] ∧ Table K H v rows ∧ shapeB rows = true ∧ rows.length ≤ 1000 ∧ Q (.bl (orderB rows)) H
theorem ok_keeps_order {k : Nat} (T : Tx K mg) : FnOk P w K mg base CX0 (k + 1) T.a_keeps_order T.d_keeps_order ["products"] (spOrder K) := by
  refine T.F_keeps_order.ok sc_keeps_order (fun vs H Q E h => ?_) (fun cdv A outer s H vs Q E hr h => ?_)
  · obtain ⟨v, rows, rfl, _⟩ := h
    rfl
  obtain ⟨v, rows, rfl, ⟨a, xs, rfl, hS, hp⟩, hsh, hsz, q⟩ := h
  refine ⟨_, (pss_cons (ps_for PassesOwn.never rfl (pi_range1 (by rfl) T.z_range (pa_cons (pe_callB (lenS K) (by rfl) T.z_len PySem.boot_len (pa_cons (pv 0) pa_nil)) pa_nil)) (pg_name (i := 1) sc_keeps_order.nd rfl (Or.inl rfl)) (pss_one (ps_for PassesOwn.never rfl (pi_range1 (by rfl) T.z_range (pa_cons (pv 1) pa_nil)) (pg_name (i := 2) sc_keeps_order.nd rfl (Or.inl rfl)) (pss_one (ps_if (pt_cmpR op_ne (pe_ix (ixL K) (pe_ix (ixL K) (pv 0) (pv 1) (fun _ _ => rfl)) (pv 2) (fun _ _ => rfl)) (pe_ix (ixL K) (pe_ix (ixL K) (pv 0) (pv 2) (fun _ _ => rfl)) (pv 1) (fun _ _ => rfl)) (nomark _)) (pss_one (ps_ret pe_bl)) pss_nil)))))
      (pss_one (ps_ret pe_bl))), ?_⟩
  have hlen : xs.length = rows.length := Paired.len hp
  refine ⟨_, rfl, a, _, rfl, .inl hS, ?_⟩
  rw [hlen]
  refine ⟨_, rfl, by omega, by omega, for_range (lo := 0) (n := rows.length) (fun i σ' H' => H' = H ∧ ((List.range i).all fun i => (List.range i).all fun j => decide (at2 rows i j = at2 rows j i)) = true ∧ ∃ y z, σ' = [some (.ref a), y, z]) ⟨rfl, rfl, none, none, rfl⟩ ?_ ?_⟩
  · rintro i σ' H' hi ⟨rfl, hall, y, z, rfl⟩
    rw [Int.zero_add]
    refine ⟨_, rfl, _, rfl, by omega, by omega, for_range (lo := 0) (n := i) (fun j σ' H'' => H'' = H' ∧ ((List.range j).all fun j => decide (at2 rows i j = at2 rows j i)) = true ∧ ∃ z, σ' = [some (.ref a), some (iv i), z]) ⟨rfl, rfl, z, rfl⟩ ?_ ?_⟩
    · rintro j σ' H'' hj ⟨rfl, hall2, z, rfl⟩
      rw [Int.zero_add]
      obtain ⟨b, hb1, hb⟩ := tab_row hp hi
      obtain ⟨c, hc1, hc⟩ := tab_row hp (show j < rows.length by omega)
      have l1 := (shape_row hsh (row_of hi)).1
      have l2 := (shape_row hsh (row_of (show j < rows.length by omega))).1
      have g1 : ((rowAt rows i).map iv)[j]? = some (iv (at2 rows i j)) := nats_at (at1_get (by omega))
      have g2 : ((rowAt rows j).map iv)[i]? = some (iv (at2 rows j i)) := nats_at (at1_get (by omega))
      refine ⟨_, rfl, _, rfl, a, _, _, _, rfl, rfl, hS, atN hb1, _, rfl, b, _, _, _, rfl, rfl, hb, atN g1, _, rfl, _, rfl, a, _, _, _, rfl, rfl, hS, atN hc1, _, rfl, c, _, _, _, rfl, rfl, hc, atN g2, rfl, _, rfl, ?_⟩
      by_cases heq : at2 rows i j = at2 rows j i
      · rw [decide_eq_true (show iv (at2 rows i j) = iv (at2 rows j i) by rw [heq])]
        refine ⟨rfl, ?_, _, rfl⟩
        rw [List.range_succ, List.all_append, hall2]
        simp [heq]
      · rw [decide_eq_false (show ¬ iv (at2 rows i j) = iv (at2 rows j i) from fun z => heq (by have := V.int.inj z; omega))]
        have e : orderB rows = false := by
          unfold orderB
          rw [List.all_eq_false]
          refine ⟨i, List.mem_range.mpr hi, ?_⟩
          rw [Bool.not_eq_true, List.all_eq_false]
          exact ⟨j, List.mem_range.mpr hj, by simp [heq]⟩
        rw [e] at q
        exact q
    · rintro σ' H'' ⟨rfl, hall2, z, rfl⟩
      refine ⟨rfl, ?_, _, _, rfl⟩
      rw [List.range_succ, List.all_append, hall]
      simp only [List.all_cons, List.all_nil, Bool.and_true, Bool.true_and]
      exact hall2
  · rintro σ' H' ⟨rfl, hall, y, z, rfl⟩
    have e : orderB rows = true := hall
    rw [e] at q
    exact q
def spGroup (K : PySem.W.Frag) : Sp := fun vs H Q _ => ∃ (v : V) (rows : Rows), vs = [v] ∧ Table K H v rows ∧ shapeB rows = true ∧ rows.length ≤ 1000 ∧ ∀ H', Same H H' → Q (.bl (groupB rows)) H'
theorem ok_keeps_grouping {k : Nat} (T : Tx K mg) : FnOk P w K mg base CX0 (k + 1) T.a_keeps_grouping T.d_keeps_grouping ["products"] (spGroup K) := by
  refine T.F_keeps_grouping.ok sc_keeps_grouping (fun vs H Q E h => ?_) (fun cdv A outer s H vs Q E hr h => ?_)
  · obtain ⟨v, rows, rfl, _⟩ := h
    rfl
  obtain ⟨v, rows, rfl, ⟨a, xs, rfl, hS, hp⟩, hsh, hsz, q⟩ := h
  refine ⟨_, (pss_cons (ps_for PassesOwn.never rfl (piL K (pv 0)) (pg_name (i := 1) sc_keeps_grouping.nd rfl (Or.inr rfl)) (pss_one (ps_for PassesOwn.never rfl (pi_range1 (by rfl) T.z_range (pa_cons (pe_callB (lenS K) (by rfl) T.z_len PySem.boot_len (pa_cons (pv 0) pa_nil)) pa_nil)) (pg_name (i := 2) sc_keeps_grouping.nd rfl (Or.inl rfl)) (pss_one (ps_if (pt_cmpR (neD K hr.units) (pe_ix (ixL K) (pv 0) (pe_ix (ixL K) (pv 1) (pv 2) (fun _ _ => rfl)) (fun _ _ => rfl)) (pe_lc (own := [("item", 3)]) (g := gName 3) (by rfl) sc_keeps_grouping.nd (piL K (pe_ix (ixL K) (pv 0) (pv 2) (fun _ _ => rfl))) (blkOk_by (own := [("item", 3)]) (N := ["products", "row", "second", "item"]) (sc := defScope s_keeps_grouping) (by decide +kernel)) (fun _ _ _ _ _ => (pg_name (i := 3) sc_keeps_grouping.nd rfl (Or.inl rfl))) (fun _ _ _ _ _ => pts_nil) (fun _ _ _ _ _ => (pe_ix (ixL K) (pv 1) (pv 3) (fun _ _ => rfl)))) (nomark _)) (pss_one (ps_ret pe_bl)) pss_nil)))))
      (pss_one (ps_ret pe_bl))), ?_⟩
  have hlen : xs.length = rows.length := Paired.len hp
  have mono : ∀ {H' : Hp}, Same H H' → Paired (Nats K H') xs rows := fun e => Paired.mapP hp fun _ _ => Nats.mono e
  refine ⟨_, rfl, a, rfl, ⟨_, hS⟩, for_list (K := K) (a := a) (xs := xs) (fun i σ' H' => Same H H' ∧ ((rows.take i).all fun row => (List.range rows.length).all fun j => decide (rowAt rows (at1 row j) = (rowAt rows j).map (at1 row))) = true ∧ ∃ y z, σ' = [some (.ref a), y, z, none])
    ⟨Same.refl H, rfl, none, none, rfl⟩ (fun i σ' H' _ h => h.1.seq hS) ?_ ?_⟩
  · rintro i x σ' H' hx ⟨sm, hall, y, z, rfl⟩
    obtain ⟨r, hr1, b, rfl, hb0⟩ := Paired.getL hp hx
    have hi : i < rows.length := (List.getElem?_eq_some_iff.mp hr1).1
    obtain ⟨lr, br⟩ := shape_row hsh hr1
    refine ⟨_, rfl, a, _, rfl, .inl (sm.seq hS), ?_⟩
    rw [hlen]
    refine ⟨_, rfl, by omega, by omega, for_range (lo := 0) (n := rows.length) (fun j σ' H'' => Same H H'' ∧ ((List.range j).all fun j => decide (rowAt rows (at1 r j) = (rowAt rows j).map (at1 r))) = true ∧ ∃ z, σ' = [some (.ref a), some (.ref b), z, none]) ⟨sm, rfl, z, rfl⟩ ?_ ?_⟩
    · rintro j σ' H'' hj ⟨sm2, hall2, z, rfl⟩
      rw [Int.zero_add]
      have g1 : (r.map iv)[j]? = some (iv (at1 r j)) := nats_at (at1_get (by omega))
      have hrj : at1 r j < rows.length := br _ (List.mem_of_getElem? (at1_get (by omega)))
      obtain ⟨c, hc1, hc⟩ := tab_row (mono sm2) hrj
      obtain ⟨d, hd1, hd⟩ := tab_row (mono sm2) hj
      obtain ⟨lj, bj⟩ := shape_row hsh (row_of hj)
      have hb : SqL K H'' b (r.map iv) := sm2.seq hb0
      refine ⟨_, rfl, _, rfl, _, rfl, b, _, _, _, rfl, rfl, hb, atN g1, a, _, _, _, rfl, rfl, sm2.seq hS, atN hc1, ?_⟩
      refine ⟨_, rfl, _, rfl, a, _, _, _, rfl, rfl, sm2.seq hS, atN hd1, d, rfl, ⟨_, hd⟩, fun D nD => ?_⟩
      refine lc_list (K := K) (a := d) (xs := (rowAt rows j).map iv) (fun i H' => Same H'' H' ∧ H' D = some (.lst (((rowAt rows j).take i).map fun k => iv (at1 r k)))) ⟨Same.new nD, by rw [upd_same]; rfl⟩ (fun i H' _ h => h.1.seq hd) ?_ ?_
      · rintro t x H' hx ⟨sm3, hD⟩
        obtain ⟨k, hk, rfl⟩ := nats_of hx
        have hkl : k < rows.length := bj k (List.mem_of_getElem? hk)
        have g2 : (r.map iv)[k]? = some (iv (at1 r k)) := nats_at (at1_get (by omega))
        refine ⟨rfl, ?_⟩
        refine ⟨_, rfl, _, rfl, b, _, _, _, rfl, rfl, sm3.seq hb, atN g2, _, hD, ?_, fun b' u hb' => ?_, ?_⟩
        · rw [List.length_map]
          have := (List.getElem?_eq_some_iff.mp hk).1
          exact Nat.lt_of_le_of_lt (List.length_take_le _ _) (sz2 (by omega))
        · have nb : b' ≠ D := ne_of_none hb' nD
          rw [upd_ne nb]
          exact sm3 _ _ hb'
        · rw [upd_same, List.take_succ, hk, List.map_append]
          rfl
      · rintro H' ⟨sm3, hD⟩
        rw [List.length_map, List.take_length] at hD
        have e1 : Dp K H' (.ref c) (natsD (rowAt rows (at1 r j))) := dp_sq (sm3.seq hc)
        have hD2 : SqL K H' D (((rowAt rows j).map (at1 r)).map iv) := SqL.of (by rw [hD, List.map_map]; rfl)
        refine ⟨_, _, e1, dp_sq hD2, shaped_nats _, shaped_nats _, _, rfl, ?_⟩
        rw [eqv_nats]
        have sm4 : Same H H' := sm2.trans sm3
        by_cases heq : rowAt rows (at1 r j) = (rowAt rows j).map (at1 r)
        · rw [decide_eq_true heq]
          refine ⟨sm4, ?_, _, rfl⟩
          rw [List.range_succ, List.all_append, hall2]
          simp [heq]
        · rw [decide_eq_false heq]
          have e : groupB rows = false := by
            unfold groupB
            rw [List.all_eq_false]
            refine ⟨r, List.mem_of_getElem? hr1, ?_⟩
            rw [Bool.not_eq_true, List.all_eq_false]
            exact ⟨j, List.mem_range.mpr hj, by simp [heq]⟩
          have q' := q H' sm4
          rw [e] at q'
          exact q'
    · rintro σ' H'' ⟨sm2, hall2, z, rfl⟩
      refine ⟨sm2, ?_, _, _, rfl⟩
      rw [all_take_succ hr1, hall]
      exact hall2
  · rintro σ' H' ⟨sm, hall, y, z, rfl⟩
    rw [hlen, List.take_length] at hall
    have e : groupB rows = true := hall
    have q' := q H' sm
    rw [e] at q'
    exact q'
/-! ### is every giver's product true -/
def spTrueFor (K : PySem.W.Frag) : Sp := fun vs H Q _ => ∃ (t r g : V) (bs : List Bool) (row gs : List Nat), vs = [t, r, g] ∧ Bools K H t bs ∧ Nats K H r row ∧ Nats K H g gs ∧ (∀ k, k ∈ gs → k < row.length) ∧ (∀ k, k ∈ row → k < bs.length) ∧
  Q (.bl (gs.all fun v => bs.getD (at1 row v) false)) H
theorem ok_is_true_for {k : Nat} (T : Tx K mg) : FnOk P w K mg base CX0 (k + 1) T.a_is_true_for T.d_is_true_for ["truths", "row", "givers"] (spTrueFor K) := by
  refine T.F_is_true_for.ok sc_is_true_for (fun vs H Q E h => ?_) (fun cdv A outer s H vs Q E hr h => ?_)
  · obtain ⟨t, r, g, _, _, _, rfl, _⟩ := h
    rfl
  obtain ⟨_, _, _, bs, row, gs, rfl, ⟨ta, rfl, hT⟩, ⟨ra, rfl, hR⟩, ⟨ga, rfl, hG⟩, hg, hrow, q⟩ := h
  refine ⟨_, (pss_cons (ps_for PassesOwn.never rfl (piL K (pv 2)) (pg_name (i := 3) sc_is_true_for.nd rfl (Or.inl rfl)) (pss_one (ps_if (pt_not (pt_val (pe_ix (ixL K) (pv 0) (pe_ix (ixL K) (pv 1) (pv 3) (fun _ _ => rfl)) (fun _ _ => rfl)))) (pss_one (ps_ret pe_bl)) pss_nil)))
      (pss_one (ps_ret pe_bl))), ?_⟩
  refine ⟨_, rfl, ga, rfl, ⟨_, hG⟩, for_list (K := K) (a := ga) (xs := gs.map iv) (fun i σ' H' => H' = H ∧ ((gs.take i).all fun v => bs.getD (at1 row v) false) = true ∧ ∃ y, σ' = [some (.ref ta), some (.ref ra), some (.ref ga), y])
    ⟨rfl, rfl, none, rfl⟩ (fun i σ' H' _ h => by rw [h.1]; exact hG) ?_ ?_⟩
  · rintro i x σ' H' hx ⟨rfl, hall, y, rfl⟩
    obtain ⟨k, hk, rfl⟩ := nats_of hx
    have hkl := hg k (List.mem_of_getElem? hk)
    have g1 : (row.map iv)[k]? = some (iv (at1 row k)) := nats_at (at1_get hkl)
    have hb := hrow _ (List.mem_of_getElem? (at1_get hkl))
    have g2 : (bs.map V.bl)[at1 row k]? = some (V.bl (bs.getD (at1 row k) false)) := bools_at (by rw [List.getD_eq_getElem?_getD, List.getElem?_eq_getElem hb]; rfl)
    refine ⟨_, rfl, _, rfl, _, rfl, ra, _, _, _, rfl, rfl, hR, atN g1, ta, _, _, _, rfl, rfl, hT, atN g2, _, rfl, ?_⟩
    cases hv : bs.getD (at1 row k) false with
    | true =>
      exact ⟨rfl, by rw [all_take_succ hk, hall, hv]; rfl, _, rfl⟩
    | false =>
      rw [all_false_of hk hv] at q
      exact q
  · rintro σ' H' ⟨rfl, hall, y, rfl⟩
    rw [List.length_map, List.take_length] at hall
    rw [hall] at q
    exact q
end
end W76
namespace HX
open PySem PySem.Spec PyProof.Rows L2
theorem upd_id {H : Hp} {a : Addr} {o : HO} (h : H a = some o) : upd H a o = H := by
  funext b
  by_cases hb : b = a
  · subst hb
    rw [upd_same, h]
  · rw [upd_ne hb]
/-- for k in d, the dict locked -/
theorem for_keys {d : Addr} {o : Obj} {kvs : List (Key × V)} {g : TG} {tb : TS} {D : Ends} {σ : L2.St} {H : Hp} (Pv : Nat → L2.St → Hp → Prop) (h0 : Pv 0 σ H) (hl : ∀ i σ H, Pv i σ H → H d = some (.frz o (.dK kvs)))
    (hs : ∀ i k v σ H, kvs[i]? = some (k, v) → Pv i σ H → g (kV k) σ H fun σ2 H2 => tb { D with nx := Pv (i + 1), ct := Pv (i + 1), bk := D.nx } σ2 H2) (hd : ∀ σ H, Pv kvs.length σ H → D.nx σ H) :
    ∃ W : Nat → Nat → L2.St → Hp → Prop, (∃ m, W 0 m σ H) ∧ ∀ i m σ H, W i m σ H →
      ((Itk d o kvs).stop i H ∧ D.nx σ H) ∨ ((Itk d o kvs).go i H ∧ ∃ N : L2.St → Hp → Prop, (∀ σ' H', N σ' H' → ∃ m', m' < m ∧ W (i + 1) m' σ' H') ∧ ∀ x H', (Itk d o kvs).yld i H x H' → g x σ H' fun σ2 H2 => tb { D with nx := N, ct := N, bk := D.nx } σ2 H2) := by
  refine ⟨fun i m σ H => i + m = kvs.length ∧ Pv i σ H, ⟨kvs.length, by omega, h0⟩, ?_⟩
  rintro i m σ H ⟨hm, p⟩
  have q := hl i σ H p
  by_cases hlt : i < kvs.length
  · refine Or.inr ⟨⟨q, hlt⟩, Pv (i + 1), fun σ' H' p' => ⟨m - 1, by omega, by omega, p'⟩, fun x H' y => ?_⟩
    obtain ⟨rfl, k, v, e, rfl⟩ := y
    exact hs i k v σ _ e p
  · have e : i = kvs.length := by omega
    subst e
    exact Or.inl ⟨⟨q, Nat.le_refl _⟩, hd σ H p⟩
/-- {..: .. for k in d} -/
theorem dc_keys {d : Addr} {o : Obj} {kvs : List (Key × V)} {g : TG} {tt : TT} {tk tv : TE} {vs : List Nat} {σ : L2.St} {H1 : Hp} {D : Addr} {Qd : Hp → Prop} (Pv : Nat → Hp → Prop) (h0 : Pv 0 (upd H1 D (.dK []))) (hl : ∀ i H, Pv i H → H d = some (.frz o (.dK kvs)))
    (hs : ∀ i k v H, kvs[i]? = some (k, v) → Pv i H → g (kV k) (wipe σ vs) H fun σ2 H2 => wipe σ2 vs = wipe σ vs ∧ tt σ2 H2 fun b H3 =>
      if b = true then tk σ2 H3 fun y H4 => tv σ2 H4 fun z H5 => ∃ ks k, y = kV k ∧ H5 D = some (.dK ks) ∧ ks.length < sizeLine ∧ Pv (i + 1) (upd H5 D (.dK (putK ks k z))) else Pv (i + 1) H3) (hd : ∀ H, Pv kvs.length H → Qd H) :
    ∃ W : Nat → Nat → Hp → Prop, (∃ m, W 0 m (upd H1 D (.dK []))) ∧ ∀ i m H, W i m H →
      ((Itk d o kvs).stop i H ∧ Qd H) ∨ ((Itk d o kvs).go i H ∧ ∃ Nx : Hp → Prop, (∀ H', Nx H' → ∃ m', m' < m ∧ W (i + 1) m' H') ∧ ∀ x H', (Itk d o kvs).yld i H x H' → g x (wipe σ vs) H' fun σ2 H2 => wipe σ2 vs = wipe σ vs ∧ tt σ2 H2 fun b H3 =>
        if b = true then tk σ2 H3 fun y H4 => tv σ2 H4 fun z H5 => ∃ ks k, y = kV k ∧ H5 D = some (.dK ks) ∧ ks.length < sizeLine ∧ Nx (upd H5 D (.dK (putK ks k z))) else Nx H3) := by
  refine ⟨fun i m H => i + m = kvs.length ∧ Pv i H, ⟨kvs.length, by omega, h0⟩, ?_⟩
  rintro i m H ⟨hm, p⟩
  have q := hl i H p
  by_cases hlt : i < kvs.length
  · refine Or.inr ⟨⟨q, hlt⟩, Pv (i + 1), fun H' p' => ⟨m - 1, by omega, by omega, p'⟩, fun x H' y => ?_⟩
    obtain ⟨rfl, k, v, e, rfl⟩ := y
    exact hs i k v _ e p
  · have e : i = kvs.length := by omega
    subst e
    exact Or.inl ⟨⟨q, Nat.le_refl _⟩, hd H p⟩
/-- a dict whose keys are texts and whose values are lists of numbers in the frozen part; ns: the list by the key -/
structure FactsL (K : PySem.W.Frag) (G : Hp) (kvs : List (Key × V)) (ns : Str → List Nat) : Prop where
  few : kvs.length ≤ 7
  nd : (kvs.map (·.1)).Nodup
  keys : ∀ p, p ∈ kvs → ∃ x : Str, p.1 = Sum.inr x ∧ x.length ≤ 12 ∧ ∀ c, c ∈ x.cps.toList → c < 128
  val : ∀ (x : Str) (v : V), valV kvs (Sum.inr x : Key) = some v → Nats K G v (ns x) ∧ (ns x).length ≤ 50 ∧ ∀ j, j ∈ ns x → j < 64
  non : ∀ x : Str, valV kvs (Sum.inr x : Key) = none → ns x = []
theorem FactsL.mono {K : PySem.W.Frag} {G G' : Hp} {kvs : List (Key × V)} {ns : Str → List Nat} (e : Same G G') (h : FactsL K G kvs ns) : FactsL K G' kvs ns :=
  ⟨h.few, h.nd, h.keys, fun x v q => ⟨Nats.mono e (h.val x v q).1, (h.val x v q).2⟩, h.non⟩
theorem nodup_putK {ks : List (Key × V)} (k : Key) (v : V) (h : (ks.map (·.1)).Nodup) : ((putK ks k v).map (·.1)).Nodup := by
  cases e : valV ks k with
  | none => exact nd_putK v h e
  | some u =>
    have any : (ks.any fun kv => decide (kv.1 = k)) = true := by
      rw [valV_any, e]
      rfl
    unfold putK
    rw [if_pos any, List.map_map]
    have : ((fun x : Key × V => x.1) ∘ fun kv => if kv.1 = k then (kv.1, v) else kv) = fun x => x.1 := by
      funext x
      show (if x.1 = k then (x.1, v) else x).1 = x.1
      split <;> rfl
    rw [this]
    exact h
theorem mem_putK {ks : List (Key × V)} {k : Key} {v : V} {p : Key × V} (h : p ∈ putK ks k v) : p = (k, v) ∨ p ∈ ks := by
  unfold putK at h
  split at h
  · obtain ⟨q, hq, e⟩ := List.mem_map.mp h
    split at e
    · rename_i hk
      exact Or.inl (by rw [← e, hk])
    · exact Or.inr (by rw [← e]; exact hq)
  · rcases List.mem_append.mp h with h | h
    · exact Or.inr h
    · exact Or.inl (List.mem_singleton.mp h)
theorem valV_mem {kvs : List (Key × V)} {k : Key} {v : V} (h : valV kvs k = some v) : (k, v) ∈ kvs := by
  unfold valV at h
  cases e : kvs.find? (fun kv => decide (kv.1 = k)) with
  | none =>
    rw [e] at h
    cases h
  | some p =>
    rw [e] at h
    have e1 : p.1 = k := of_decide_eq_true (by simpa using List.find?_some e)
    have e2 : p.2 = v := Option.some.inj h
    rw [← e1, ← e2]
    exact List.mem_of_find?_eq_some e
theorem valV_there {kvs : List (Key × V)} {i : Nat} {k : Key} {v : V} (h : kvs[i]? = some (k, v)) : ∃ u, valV kvs k = some u := by
  cases e : valV kvs k with
  | some u => exact ⟨u, rfl⟩
  | none => exact absurd (List.mem_map.mpr ⟨_, List.mem_of_getElem? h, rfl⟩) (valV_not e)
end HX
namespace W76
open PySem PySem.Spec PyProof.Rows L2 HX
/-- are all facts elements -/
def factB (n : Nat) (kvs : List (Key × V)) (ns : Str → List Nat) : Bool := kvs.all fun p => match p.1 with
  | .inr x => (ns x).all fun k => decide (k < n)
  | .inl _ => true
def fault (rows : Rows) (kvs : List (Key × V)) (ns : Str → List Nat) : Option Str :=
  if shapeB rows = false then some "shape" else if unitB rows = false then some "unit" else if orderB rows = false then some "order" else if groupB rows = false then some "grouping" else if factB rows.length kvs ns = false then some "fact" else none
def optV : Option Str → V
  | some x => .str x
  | none => .non
section
variable {P : Program} {w : World} {K : PySem.W.Frag} {mg : Str → Option Value} {base : Heap}
def spFault (K : PySem.W.Frag) : Sp := fun vs H Q _ => ∃ (v : V) (f : Addr) (G : Hp) (rows : Rows) (kvs : List (Key × V)) (ns : Str → List Nat), vs = [v, .ref f] ∧ Same G H ∧ G f = none ∧ H f = some (.dK kvs) ∧ Table K G v rows ∧ FactsL K G kvs ns ∧ rows.length ≤ 1000 ∧
  ∀ H', Same H H' → Q (optV (fault rows kvs ns)) H'
theorem ok_fault_of {k : Nat} (T : Tx K mg) (G_has_shape : FnOk P w K mg base CX0 k T.a_has_shape T.d_has_shape ["products"] (spShape K)) (G_keeps_order : FnOk P w K mg base CX0 k T.a_keeps_order T.d_keeps_order ["products"] (spOrder K))
    (G_keeps_grouping : FnOk P w K mg base CX0 k T.a_keeps_grouping T.d_keeps_grouping ["products"] (spGroup K)) : FnOk P w K mg base CX0 (k + 1) T.a_fault_of T.d_fault_of ["products", "facts"] (spFault K) := by
  refine T.F_fault_of.ok sc_fault_of (fun vs H Q E h => ?_) (fun cdv A outer s H vs Q E hr h => ?_)
  · obtain ⟨v, f, _, _, _, _, rfl, _⟩ := h
    rfl
  obtain ⟨v, f, G, rows, kvs, ns, rfl, sGH, hGf, hf, hT0, hF, hsz, q⟩ := h
  have hu := hu_of hr
  refine ⟨_, (pss_cons (ps_if (pt_not (pt_val (pe_call G_has_shape hr (by rfl) T.m_has_shape T.F_has_shape.kp T.b_has_shape .nil pass0 (pa_cons (pv 0) pa_nil)))) (pss_one (ps_ret pe_str)) pss_nil)
      (pss_cons (ps_if (pt_cmpR (neD K hr.units) (pe_ix (ixL K) (pv 0) pe_int (fun _ _ => rfl)) (pe_listRg rfl (by rfl) T.z_list (prg_1 (by rfl) T.z_range (pe_callB (lenS K) (by rfl) T.z_len PySem.boot_len (pa_cons (pv 0) pa_nil)))) (nomark _)) (pss_one (ps_ret pe_str)) pss_nil)
      (pss_cons (ps_if (pt_not (pt_val (pe_call G_keeps_order hr (by rfl) T.m_keeps_order T.F_keeps_order.kp T.b_keeps_order .nil pass0 (pa_cons (pv 0) pa_nil)))) (pss_one (ps_ret pe_str)) pss_nil)
      (pss_cons (ps_if (pt_not (pt_val (pe_call G_keeps_grouping hr (by rfl) T.m_keeps_grouping T.F_keeps_grouping.kp T.b_keeps_grouping .nil pass0 (pa_cons (pv 0) pa_nil)))) (pss_one (ps_ret pe_str)) pss_nil)
      (pss_cons (ps_lock (ps_for PassesOwn.never rfl (pi_keys (pv 1)) (pg_name (i := 2) sc_fault_of.nd rfl (Or.inl rfl)) (pss_one (ps_for PassesOwn.never rfl (piL K (pe_dget hu (pv 1) (pv 2) (fun _ _ => rfl))) (pg_name (i := 3) sc_fault_of.nd rfl (Or.inl rfl)) (pss_one (ps_if (pt_not (pt_chain op_le op_lt pe_int (pv 3) (pe_callB (lenS K) (by rfl) T.z_len PySem.boot_len (pa_cons (pv 0) pa_nil)))) (pss_one (ps_ret pe_str)) pss_nil))))))
      (pss_one (ps_ret pe_non))))))), ?_⟩
  have hT : Table K H v rows := Table.mono sGH hT0
  have fin : ∀ x, fault rows kvs ns = x → ∀ H', Same H H' → Q (optV x) H' := fun x e => by rw [← e]; exact q
  refine ⟨_, rfl, v, rows, rfl, hT, _, rfl, ?_⟩
  cases h1 : shapeB rows with
  | false => exact fin (some "shape") (by unfold fault; rw [if_pos h1]) H (Same.refl H)
  | true =>
  have n1 : ¬ shapeB rows = false := by rw [h1]; decide
  have hpos := shape_pos h1
  obtain ⟨a, xs, rfl, hS0, hp0⟩ := id hT0
  have hS : SqL K H a xs := sGH.seq hS0
  have hp : Paired (Nats K H) xs rows := Paired.mapP hp0 fun _ _ => Nats.mono sGH
  have hlen : xs.length = rows.length := Paired.len hp
  obtain ⟨b, hb1, hb⟩ := tab_row hp hpos
  refine ⟨_, rfl, a, _, _, _, rfl, rfl, hS, atI_nat hb1, _, rfl, a, _, rfl, .inl hS, _, rfl, RgOk.of_le (by omega) (by omega) (by omega) (by omega), fun p np => ?_⟩
  have s1 : Same H (upd H p (.lst (rgV 0 (xs.length : Int)))) := Same.new np
  have er : rgV 0 (xs.length : Int) = (List.range rows.length).map iv := by
    unfold rgV
    rw [hlen]
    show (List.range ((rows.length : Int) - 0).toNat).map _ = _
    have : ((rows.length : Int) - 0).toNat = rows.length := by omega
    rw [this]
    apply List.map_congr_left
    intro i _
    show V.int (0 + (i : Int)) = V.int (i : Int)
    rw [Int.zero_add]
  have hL : SqL K (upd H p (.lst (rgV 0 (xs.length : Int)))) p ((List.range rows.length).map iv) := SqL.of (by rw [upd_same, er])
  refine ⟨_, _, dp_sq (s1.seq hb), dp_sq hL, shaped_nats _, shaped_nats _, _, rfl, ?_⟩
  rw [eqv_nats]
  cases h2 : unitB rows with
  | false =>
    have h2' : ¬ rowAt rows 0 = List.range rows.length := of_decide_eq_false h2
    rw [decide_eq_false h2']
    exact fin (some "unit") (by unfold fault; rw [if_neg n1, if_pos h2]) _ s1
  | true =>
  have h2' : rowAt rows 0 = List.range rows.length := of_decide_eq_true h2
  have n2 : ¬ unitB rows = false := by rw [h2]; decide
  rw [decide_eq_true h2']
  refine ⟨_, rfl, _, rows, rfl, Table.mono s1 hT, h1, hsz, _, rfl, ?_⟩
  cases h3 : orderB rows with
  | false => exact fin (some "order") (by unfold fault; rw [if_neg n1, if_neg n2, if_pos h3]) _ s1
  | true =>
  have n3 : ¬ orderB rows = false := by rw [h3]; decide
  refine ⟨_, rfl, _, rows, rfl, Table.mono s1 hT, h1, hsz, fun H2 s2 => ⟨_, rfl, ?_⟩⟩
  have sm : Same H H2 := s1.trans s2
  cases h4 : groupB rows with
  | false => exact fin (some "grouping") (by unfold fault; rw [if_neg n1, if_neg n2, if_neg n3, if_pos h4]) _ sm
  | true =>
  have n4 : ¬ groupB rows = false := by rw [h4]; decide
  -- the facts, the dict locked
  have hf2 : H2 f = some (.dK kvs) := sm _ _ hf
  have sG2 : Same G H2 := sGH.trans sm
  refine ⟨f, .dK kvs, hf2, trivial, fun od => ?_⟩
  have sGl : Same G (upd H2 f (.frz od (.dK kvs))) := Same.put sG2 hGf
  have back : upd (upd H2 f (.frz od (.dK kvs))) f (.dK kvs) = H2 := by rw [upd_upd, upd_id hf2]
  refine ⟨_, rfl, f, od, rfl, .inl ⟨kvs, upd_same, for_keys (fun i σ' H' => H' = upd H2 f (.frz od (.dK kvs)) ∧ (factB rows.length (kvs.take i) ns = true) ∧ ∃ y z, σ' = [some (.ref a), some (.ref f), y, z]) ⟨rfl, rfl, none, none, rfl⟩ (fun i σ' H' h => by rw [h.1]; exact upd_same) ?_ ?_⟩⟩
  · rintro i key v σ' H' hi ⟨rfl, hall, y, z, rfl⟩
    obtain ⟨x, ex, _⟩ := hF.keys _ (List.mem_of_getElem? hi)
    have ex' : key = Sum.inr x := ex
    subst ex'
    obtain ⟨u, hu⟩ := valV_there hi
    obtain ⟨⟨l, rfl, hl⟩, _⟩ := hF.val x u hu
    refine ⟨_, rfl, _, rfl, f, _, rfl, ?_, l, rfl, ⟨_, sGl.seq hl⟩, ?_⟩
    · exact .inl ⟨kvs, Sum.inr x, .inr ⟨od, upd_same⟩, rfl, hu.symm⟩
    refine for_list (K := K) (a := l) (xs := (ns x).map iv) (fun j σ' H' => H' = upd H2 f (.frz od (.dK kvs)) ∧ ((ns x).take j).all (fun k => decide (k < rows.length)) = true ∧ ∃ z, σ' = [some (.ref a), some (.ref f), some (.str x), z]) ⟨rfl, rfl, z, rfl⟩ (fun j σ' H' _ h => by rw [h.1]; exact sGl.seq hl) ?_ ?_
    · rintro j t σ' H' ht ⟨rfl, hall2, z, rfl⟩
      obtain ⟨k, hk, rfl⟩ := nats_of ht
      have hSl : SqL K (upd H2 f (.frz od (.dK kvs))) a xs := sGl.seq hS0
      refine ⟨_, rfl, _, _, rfl, rfl, _, rfl, ?_⟩
      rw [decide_eq_true (show (0 : Int) ≤ (k : Int) by omega)]
      refine ⟨_, rfl, a, _, rfl, .inl hSl, _, _, rfl, rfl, _, rfl, ?_⟩
      rw [hlen]
      by_cases hlt : k < rows.length
      · rw [decide_eq_true (show (k : Int) < (rows.length : Int) by omega)]
        exact ⟨rfl, by rw [all_take_succ hk, hall2, decide_eq_true hlt]; rfl, _, rfl⟩
      · rw [decide_eq_false (show ¬ (k : Int) < (rows.length : Int) by omega)]
        have e : factB rows.length kvs ns = false := by
          unfold factB
          refine all_false_of hi ?_
          show (ns x).all _ = false
          exact all_false_of hk (decide_eq_false hlt)
        refine ⟨upd_same, ?_⟩
        rw [back]
        exact fin (some "fact") (by unfold fault; rw [if_neg n1, if_neg n2, if_neg n3, if_neg n4, if_pos e]) _ sm
    · rintro σ' H' ⟨rfl, hall2, z, rfl⟩
      rw [List.length_map, List.take_length] at hall2
      refine ⟨rfl, ?_, _, _, rfl⟩
      unfold factB at hall ⊢
      rw [all_take_succ hi, hall]
      exact hall2
  · rintro σ' H' ⟨rfl, hall, y, z, rfl⟩
    rw [List.take_length] at hall
    refine ⟨upd_same, ?_⟩
    rw [back]
    exact fin none (by unfold fault; rw [if_neg n1, if_neg n2, if_neg n3, if_neg n4, if_neg (by rw [hall]; decide)]) _ sm
end
end W76
namespace W76
open PySem PySem.Spec PyProof.Rows L2 HX
section
variable {P : Program} {w : World} {K : PySem.W.Frag} {mg : Str → Option Value} {base : Heap}
/-! ### the error -/
def spBad (CB : Addr) : Sp := fun vs H Q _ => ∃ (a : Addr) (x : Str), vs = [.ref a, .str x] ∧ H a = some (exo a CB none) ∧ ∀ d, H d = none → d ≠ a → Q .non (upd (upd H d (exd d [("reason", .str x)])) a (exo a CB (some d)))
theorem ok_BadWorld__init {k : Nat} (T : Tx K mg) : FnOk P w K mg base CX0 (k + 1) T.a_BadWorld__init T.d_BadWorld__init ["self", "reason"] (spBad T.C_Bad) := by
  refine T.F_BadWorld__init.ok sc_BadWorld__init (fun vs H Q E h => ?_) (fun cdv A outer s H vs Q E hr h => ?_)
  · obtain ⟨a, x, rfl, _⟩ := h
    rfl
  obtain ⟨a, x, rfl, ha, q⟩ := h
  refine ⟨_, (pss_cons (ps_expr (pe_baseInit (by rfl) T.c_Held T.rd_Held T.sp_Held T.fc_Held (pa_cons (pv 0) (pa_cons pe_str pa_nil))))
      (pss_one (ps_ost (pv 0) (pv 1)))), ?_⟩
  refine ⟨_, rfl, a, T.C_Bad, _, rfl, (by decide), T.ox_Bad, ha, ?_⟩
  refine ⟨_, rfl, _, rfl, a, T.C_Bad, rfl, T.ox_Bad, T.n_Bad, .inl ⟨ha, fun d nd ne => ?_⟩⟩
  exact q d nd ne
/-! ### a world -/
def wf (r f : Addr) : List (Str × V) := [("_products", .ref r), ("_facts", .ref f)]
def spInit (K : PySem.W.Frag) (C CB : Addr) : Sp := fun vs H Q E => ∃ (x dx : Addr) (v : V) (f : Addr) (G : Hp) (rows : Rows) (kvs : List (Key × V)) (ns : Str → List Nat),
  vs = [.ref x, v, .ref f] ∧ H x = some (.ins C dx []) ∧ Same G H ∧ G x = none ∧ G f = none ∧ H f = some (.dK kvs) ∧ Table K G v rows ∧ FactsL K G kvs ns ∧ rows.length ≤ 1000 ∧
  (fault rows kvs ns = none → ∀ G' H' r f' kvs', Stp (fun a => a = x) G H G' H' → H' x = some (.ins C dx (wf r f')) → Table K G' (.ref r) rows → H' f' = some (.dK kvs') → G' f' = none → FactsL K G' kvs' ns → Q .non H') ∧
  (∀ z, fault rows kvs ns = some z → ∀ d H', Same G H' → (∀ a o, H a = some o → H' a = some o) → H' d = some (.xd [("reason", .str z)]) → E (.ref CB) (some d) H')
theorem ok_World__init {k : Nat} (T : Tx K mg) (G_fault_of : FnOk P w K mg base CX0 (k + 1) T.a_fault_of T.d_fault_of ["products", "facts"] (spFault K)) (G_BadWorld__init : FnOk P w K mg base CX0 k T.a_BadWorld__init T.d_BadWorld__init ["self", "reason"] (spBad T.C_Bad)) :
    FnOk P w K mg base (L2.CX P w) (k + 2) T.a_World__init T.d_World__init ["self", "products", "facts"] (spInit K T.C_World T.C_Bad) := by
  refine T.F_World__init.okX sc_World__init (fun vs H Q E h => ?_) (fun cdv A outer s H vs Q E hr h => ?_)
  · obtain ⟨_, _, _, _, _, _, _, _, rfl, _⟩ := h
    rfl
  obtain ⟨x, dx, v, f, G, rows, kvs, ns, rfl, hx, sGH, hGx, hGf, hf, ⟨a, xs, rfl, hS, hp⟩, hF, hsz, qok, qbad⟩ := h
  have hu := hu_of hr
  refine ⟨_, (pss_cons (ps_setLc (i := 3) (own := [("row", 6)]) (g := gName 6) (by rfl) sc_World__init.nd rfl rfl (sw_true rfl rfl rfl (by decide +kernel)) (piL K (pv 1)) (blkOk_by (own := [("row", 6)]) (N := ["self", "products", "facts", "rows", "places", "reason", "row", "name"]) (sc := defScope s_World__init) (by decide +kernel)) (fun _ _ _ _ _ => (pg_name (i := 6) sc_World__init.nd rfl (Or.inl rfl))) (fun _ _ _ _ _ => pts_nil) (fun _ _ _ _ _ => (pe_callTy (listS K) (by rfl) T.z_list (by decide +kernel) (pa_cons (pv 6) pa_nil))))
      (pss_cons (ps_lock (ps_setDc (i := 4) (own := [("name", 7)]) (g := gName 7) (by rfl) sc_World__init.nd rfl rfl (sw_trueD rfl rfl rfl (by decide +kernel)) (pi_keys (pv 2)) (blkOk_by (own := [("name", 7)]) (N := ["self", "products", "facts", "rows", "places", "reason", "row", "name"]) (sc := defScope s_World__init) (by decide +kernel)) (fun _ _ _ _ _ => (pg_name (i := 7) sc_World__init.nd rfl (Or.inl rfl))) (fun _ _ _ _ _ => pts_nil) (fun _ _ _ _ _ => (pv 7)) (fun _ _ _ _ _ => (pe_callTy (listS K) (by rfl) T.z_list (by decide +kernel) (pa_cons (pe_dget hu (pv 2) (pv 7) (fun _ _ => rfl)) pa_nil)))))
      (pss_cons (ps_set (i := 5) sc_World__init.nd rfl (Or.inl rfl) (pe_call G_fault_of hr (by rfl) T.m_fault_of T.F_fault_of.kp T.b_fault_of .nil pass0 (pa_cons (pv 3) (pa_cons (pv 4) pa_nil))))
      (pss_cons (ps_if (pt_cmpR op_notN (pv 5) pe_non (nomark _)) (pss_one (ps_raise rfl (takes_of rfl rfl rfl rfl) (pmk_oex T.ox_Bad T.i_Bad T.t_Bad G_BadWorld__init hr T.b_BadWorld__init .nil (fun _ _ _ _ _ _ _ h => h.elim) (by rfl) T.c_Bad (pa_cons (pv 5) pa_nil)))) pss_nil)
      (pss_cons (ps_fld (pv 0) (pv 3) rfl)
      (pss_one (ps_fld (pv 0) (pv 4) rfl))))))), ?_⟩
  have hlen : xs.length = rows.length := Paired.len hp
  -- rows = [list(row) for row in products]
  refine ⟨_, rfl, a, rfl, ⟨_, sGH.seq hS⟩, fun D nD => ?_⟩
  refine lc_list (K := K) (a := a) (xs := xs) (fun i H' => ∃ G', Build (Nats K) nom G H D (rows.take i) G' H') ⟨G, Build.start (Stp.refl sGH) nD⟩ (fun i H' _ h => by
    obtain ⟨G', b⟩ := h
    exact (b.stp.gg.trans b.stp.gh).seq hS) ?_ ?_
  · rintro i x' H' hx' ⟨G', b⟩
    obtain ⟨r, hr1, c, rfl, hc⟩ := Paired.getL hp hx'
    have hc' : SqL K H' c (r.map iv) := (b.stp.gg.trans b.stp.gh).seq hc
    refine ⟨rfl, ?_⟩
    refine ⟨_, rfl, c, _, rfl, .inl hc', fun l nl => ?_⟩
    have b2 := b.step0 mono_nats (stp_newF b.stp.gh nl (o := .lst (r.map iv)))
    obtain ⟨ys, e, hl, b3⟩ := b2.snoc (d := r) nats_new
    refine ⟨ys, e, ?_, upd G' l (.lst (r.map iv)), ?_⟩
    · rw [hl, List.length_take]
      exact sz2 (by omega)
    · rw [List.take_succ, hr1]
      exact b3
  rintro H1 ⟨G1', b⟩
  rw [hlen, List.take_length] at b
  obtain ⟨G1, s1, _, ht⟩ := b.done (K := K) mono_nats
  have hf1 : H1 f = some (.dK kvs) := s1.un f _ (fun z => z) hf
  have hGf1 : G1 f = none := s1.g0 hGf hf
  have hGx1 : G1 x = none := s1.g0 hGx hx
  have hF1 : FactsL K G1 kvs ns := hF.mono s1.gg
  -- places = {name: list(facts[name]) for name in facts}
  refine ⟨f, .dK kvs, hf1, trivial, fun od => ?_⟩
  have sl : Same G1 (upd H1 f (.frz od (.dK kvs))) := Same.put s1.gh hGf1
  refine ⟨_, rfl, f, od, rfl, .inl ⟨kvs, upd_same, fun E0 nE => ?_⟩⟩
  have nEf : E0 ≠ f := fun z => by
    rw [z, upd_same] at nE
    cases nE
  have nE1 : H1 E0 = none := by rwa [upd_ne nEf] at nE
  refine dc_keys (fun i H' => ∃ G' ks, Stp nom G1 H1 G' (upd H' f (.dK kvs)) ∧ H' f = some (.frz od (.dK kvs)) ∧ H' E0 = some (.dK ks) ∧ G' E0 = none ∧ G' f = none ∧ Same G' H' ∧ ks.length ≤ i ∧
      (ks.map (·.1)).Nodup ∧ (∀ p, p ∈ ks → ∃ x : Str, p.1 = Sum.inr x ∧ x.length ≤ 12 ∧ ∀ c, c ∈ x.cps.toList → c < 128) ∧ (∀ (x : Str) (v : V), valV ks (Sum.inr x : Key) = some v → Nats K G' v (ns x) ∧ (ns x).length ≤ 50 ∧ ∀ j, j ∈ ns x → j < 64) ∧
      (∀ p, p ∈ kvs.take i → ∃ u, valV ks p.1 = some u)) ?_ (fun i H' h => by
    obtain ⟨_, _, _, h, _⟩ := h
    exact h) ?_ ?_
  · refine ⟨G1, [], ?_, ?_, upd_same, Same.none s1.gh nE1, hGf1, Same.put sl (Same.none s1.gh nE1), Nat.le_refl _, List.nodup_nil, fun p z => (by cases z), fun x v z => (by cases z), fun p z => (by cases z)⟩
    · have e : upd (upd (upd H1 f (.frz od (.dK kvs))) E0 (.dK [])) f (.dK kvs) = upd H1 E0 (.dK []) := by
        funext b
        by_cases h1 : b = f
        · subst h1
          rw [upd_same, upd_ne (Ne.symm nEf), hf1]
        · rw [upd_ne h1]
          by_cases h2 : b = E0
          · subst h2
            rw [upd_same, upd_same]
          · rw [upd_ne h2, upd_ne h2, upd_ne h1]
      rw [e]
      exact stp_newM s1.gh nE1
    · rw [upd_ne (Ne.symm nEf), upd_same]
  · rintro i key v' H' hi ⟨G', ks, st, hfz, hE, nG', nGf, sG, hk, hnd, hkeys, hval, hin⟩
    obtain ⟨x', ex, hx1, hx2⟩ := hF1.keys _ (List.mem_of_getElem? hi)
    have ex' : key = Sum.inr x' := ex
    subst ex'
    obtain ⟨u, hu'⟩ := valV_there hi
    obtain ⟨⟨l, rfl, hl⟩, hll⟩ := hF1.val x' u hu'
    refine ⟨rfl, ?_⟩
    refine ⟨_, rfl, _, rfl, _, rfl, f, .ref l, rfl, .inl ⟨kvs, Sum.inr x', .inr ⟨od, hfz⟩, rfl, hu'.symm⟩, l, _, rfl, .inl ((st.gg.trans sG).seq hl), fun q nq => ?_⟩
    have nqE : E0 ≠ q := ne_of_none hE nq
    have nqf : f ≠ q := ne_of_none hfz nq
    have nGq : G' q = none := Same.none sG nq
    have nl : Nats K (upd G' q (.lst ((ns x').map iv))) (.ref q) (ns x') := nats_new
    have up : Same G' (upd G' q (.lst ((ns x').map iv))) := Same.new nGq
    refine ⟨ks, Sum.inr x', rfl, by rw [upd_ne nqE]; exact hE, sz2 (by have := hF.few; have := (List.getElem?_eq_some_iff.mp hi).1; omega), upd G' q (.lst ((ns x').map iv)), _, ?_, ?_, upd_same, ?_, ?_, ?_, ?_, nodup_putK _ _ hnd, ?_, ?_, ?_⟩
    · have e : upd (upd (upd H' q (.lst ((ns x').map iv))) E0 (.dK (putK ks (Sum.inr x') (.ref q)))) f (.dK kvs) = upd (upd (upd H' f (.dK kvs)) q (.lst ((ns x').map iv))) E0 (.dK (putK ks (Sum.inr x') (.ref q))) := by
        funext b
        by_cases h1 : b = f
        · subst h1
          rw [upd_same, upd_ne (Ne.symm nEf), upd_ne nqf, upd_same]
        · rw [upd_ne h1]
          by_cases h2 : b = E0
          · subst h2
            rw [upd_same, upd_same]
          · rw [upd_ne h2, upd_ne h2]
            by_cases h3 : b = q
            · subst h3
              rw [upd_same, upd_same]
            · rw [upd_ne h3, upd_ne h3, upd_ne h1]
      rw [e]
      refine Stp.put (Stp.newF st ?_) (Or.inr nE1) ?_
      · rw [upd_ne (Ne.symm nqf)]
        exact nq
      · rw [upd_ne nqE]
        exact nG'
    · rw [upd_ne (Ne.symm nEf), upd_ne nqf]
      exact hfz
    · rw [upd_ne nqE]
      exact nG'
    · rw [upd_ne nqf]
      exact nGf
    · exact Same.put (Same.both sG) (by rw [upd_ne nqE]; exact nG')
    · have := length_putK ks (Sum.inr x' : Key) (.ref q)
      omega
    · intro p hp
      rcases mem_putK hp with e | hp
      · subst e
        exact ⟨x', rfl, hx1, hx2⟩
      · exact hkeys p hp
    · intro y v hy
      rw [valV_put] at hy
      by_cases e : (Sum.inr y : Key) = Sum.inr x'
      · rw [if_pos e] at hy
        cases hy
        cases e
        exact ⟨nl, hll⟩
      · rw [if_neg e] at hy
        exact ⟨Nats.mono up (hval y v hy).1, (hval y v hy).2⟩
    · intro p hp
      rw [List.take_succ, hi] at hp
      rw [valV_put]
      by_cases e : p.1 = (Sum.inr x' : Key)
      · exact ⟨_, if_pos e⟩
      · rw [if_neg e]
        rcases List.mem_append.mp hp with hp | hp
        · exact hin p hp
        · have e2 : p = (Sum.inr x', v') := List.mem_singleton.mp hp
          exact absurd (by rw [e2]) e
  · rintro H2' ⟨G2, ks, st, hfz, hE, nG', nGf, sG, hk, hnd, hkeys, hval, hin⟩
    rw [List.take_length] at hin
    refine ⟨hfz, ?_⟩
    generalize hH2 : upd H2' f (.dK kvs) = H2 at st
    have hE2 : H2 E0 = some (.dK ks) := by
      rw [← hH2, upd_ne nEf]
      exact hE
    have hF2 : FactsL K G2 ks ns := by
      refine ⟨by have := hF.few; omega, hnd, hkeys, hval, fun y hy => ?_⟩
      refine hF.non y ?_
      cases e : valV kvs (Sum.inr y : Key) with
      | none => rfl
      | some u =>
        obtain ⟨z, hz⟩ := hin _ (valV_mem e)
        rw [hy] at hz
        cases hz
    have ht2 : Table K G2 (.ref D) rows := Table.mono st.gg ht
    have s2 : Stp nom G H G2 H2 := s1.tr0 st
    -- reason = fault_of(rows, places)
    refine ⟨_, rfl, _, rfl, .ref D, E0, G2, rows, ks, ns, rfl, st.gh, nG', hE2, ht2, hF2, hsz, fun H3 s3 => ?_⟩
    have hfault : fault rows ks ns = fault rows kvs ns := by
      have e : factB rows.length ks ns = factB rows.length kvs ns := by
        rw [Bool.eq_iff_iff]
        unfold factB
        rw [List.all_eq_true, List.all_eq_true]
        refine ⟨fun h p hp => ?_, fun h p hp => ?_⟩
        · obtain ⟨z, hz⟩ := hin p hp
          have := h _ (valV_mem hz)
          exact this
        · obtain ⟨y, ey, _⟩ := hkeys p hp
          rw [ey]
          cases e : valV kvs (Sum.inr y : Key) with
          | none =>
            show (ns y).all _ = true
            rw [hF.non y e]
            rfl
          | some u => exact h _ (valV_mem e)
      unfold fault
      rw [e]
    rw [hfault]
    have hx1 : H1 x = some (.ins T.C_World dx []) := s1.un x _ (fun z => z) hx
    have nxf : x ≠ f := ne_of hx hf (by intro z; cases z)
    have hx2 : H2 x = some (.ins T.C_World dx []) := st.un x _ (fun z => z) hx1
    have hx3 : H3 x = some (.ins T.C_World dx []) := s3 _ _ hx2
    refine ⟨_, rfl, rfl, _, rfl, ?_⟩
    cases hft : fault rows kvs ns with
    | some z =>
      rw [decide_eq_false (show ¬ optV (some z) = V.non from fun e => by cases e)]
      refine ⟨_, rfl, (by show 1 ≤ 1000; decide), fun e ne => ?_⟩
      refine ⟨e, z, rfl, upd_same, fun d nd nde => ⟨rfl, d, [("reason", .str z)], upd_same, ?_, ?_, ?_⟩⟩
      · rw [upd_ne nde, upd_same]
      · rwa [upd_ne nde] at nd
      · have nd3 : H3 d = none := by rwa [upd_ne nde] at nd
        have keep : ∀ {G0 : Hp} {b : Addr} {o : HO}, G0 b = some o → Same G0 H3 → upd (del (upd (upd (upd H3 e (exo e T.C_Bad none)) d (exd d [("reason", .str z)])) e (exo e T.C_Bad (some d))) e) d (.xd [("reason", .str z)]) b = some o := by
          intro G0 b o hb hs
          have h3 := hs _ _ hb
          have n1 : b ≠ d := ne_of_none h3 nd3
          have n2 : b ≠ e := ne_of_none h3 ne
          rw [upd_ne n1, del_ne n2, upd_ne n2, upd_ne n1, upd_ne n2]
          exact h3
        refine qbad z hft d _ (fun b o hb => keep hb (sGH.trans (fun b o q => s3 _ _ (s2.un b o (fun z => z) q)))) (fun b o hb => keep hb (fun b o q => s3 _ _ (s2.un b o (fun z => z) q))) upd_same
    | none =>
      rw [decide_eq_true (show optV none = V.non from rfl)]
      refine ⟨_, rfl, _, rfl, x, T.C_World, dx, _, rfl, hx3, T.cl_World, T.n_products, (by decide), ?_⟩
      refine ⟨_, rfl, _, rfl, x, T.C_World, dx, _, rfl, upd_same, T.cl_World, T.n_facts, (by show 1 < 1000; decide), ?_⟩
      have nxE : x ≠ E0 := ne_of hx2 hE2 (by intro z; cases z)
      have gx2 : G2 x = none := s2.g0 hGx hx
      have st3 : Stp nom G2 H2 G2 H3 := ⟨Same.refl _, st.gh.trans s3, fun _ h _ => h, fun b o _ q => s3 b o q, fun b q => by
        cases h : H2 b with
        | none => exact absurd h q
        | some o =>
          rw [s3 b o h]
          exact fun z => nomatch z⟩
      have fin := ((s2.tr0 st3).wide (m' := fun a => a = x) fun _ z => z.elim)
      refine qok hft G2 _ D E0 ks (Stp.put (Stp.put fin (Or.inl rfl) gx2) (Or.inl rfl) gx2) ?_ ht2 ?_ nG' hF2
      · rw [upd_same]
        rfl
      · rw [upd_ne (Ne.symm nxE), upd_ne (Ne.symm nxE)]
        exact s3 _ _ hE2
/-! ### sentences -/
inductive Sen where
  | word (x : Str)
  | menu (s t : Sen)
  | trade (s t : Sen)
def Sen.depth : Sen → Nat
  | .word _ => 0
  | .menu s t => max s.depth t.depth + 1
  | .trade s t => max s.depth t.depth + 1
def SenAt (K : PySem.W.Frag) (G : Hp) : V → Sen → Prop
  | v, .word x => ∃ a, v = .ref a ∧ SqT K G a [.str "word", .str x]
  | v, .menu s t => ∃ a x y, v = .ref a ∧ SqT K G a [.str "menu", x, y] ∧ SenAt K G x s ∧ SenAt K G y t
  | v, .trade s t => ∃ a x y, v = .ref a ∧ SqT K G a [.str "trade", .str "once", x, y] ∧ SenAt K G x s ∧ SenAt K G y t
theorem SenAt.mono {K : PySem.W.Frag} {G G' : Hp} (e : Same G G') : ∀ {s : Sen} {v : V}, SenAt K G v s → SenAt K G' v s
  | .word _, _, h => by
    obtain ⟨a, h1, h2⟩ := h
    exact ⟨a, h1, Same.tup e h2⟩
  | .menu s t, _, h => by
    obtain ⟨a, x, y, h1, h2, h3, h4⟩ := h
    exact ⟨a, x, y, h1, Same.tup e h2, SenAt.mono e h3, SenAt.mono e h4⟩
  | .trade s t, _, h => by
    obtain ⟨a, x, y, h1, h2, h3, h4⟩ := h
    exact ⟨a, x, y, h1, Same.tup e h2, SenAt.mono e h3, SenAt.mono e h4⟩
theorem mono_sen {K : PySem.W.Frag} : Mono (SenAt K) := fun _ _ _ _ e h => SenAt.mono e h
def Sen.kids : Sen → List Sen
  | .word _ => []
  | .menu s t => [s, t]
  | .trade s t => [s, t]
def spSides (K : PySem.W.Frag) : Sp := fun vs H Q _ => ∃ (v : V) (s : Sen), vs = [v] ∧ SenAt K H v s ∧ ∀ p ys, H p = none → Paired (SenAt K H) ys s.kids → Q (.ref p) (upd H p (.lst ys))
theorem ok_sides {k : Nat} (T : Tx K mg) : FnOk P w K mg base CX0 (k + 1) T.a_sides T.d_sides ["sentence"] (spSides K) := by
  refine T.F_sides.ok sc_sides (fun vs H Q E h => ?_) (fun cdv A outer s H vs Q E hr h => ?_)
  · obtain ⟨v, _, rfl, _⟩ := h
    rfl
  obtain ⟨v, t, rfl, hv, q⟩ := h
  refine ⟨_, (pss_cons (ps_if (pt_cmpR op_eq (pe_ix (ixT K) (pv 0) pe_int (fun _ _ => rfl)) pe_str (nomark _)) (pss_one (ps_ret (pe_lst pa_nil))) pss_nil)
      (pss_cons (ps_if (pt_cmpR op_eq (pe_ix (ixT K) (pv 0) pe_int (fun _ _ => rfl)) pe_str (nomark _)) (pss_one (ps_ret (pe_lst (pa_cons (pe_ix (ixT K) (pv 0) pe_int (fun _ _ => rfl)) (pa_cons (pe_ix (ixT K) (pv 0) pe_int (fun _ _ => rfl)) pa_nil))))) pss_nil)
      (pss_one (ps_ret (pe_lst (pa_cons (pe_ix (ixT K) (pv 0) pe_int (fun _ _ => rfl)) (pa_cons (pe_ix (ixT K) (pv 0) pe_int (fun _ _ => rfl)) pa_nil))))))), ?_⟩
  cases t with
  | word x =>
    obtain ⟨a, rfl, ha⟩ := hv
    refine ⟨_, rfl, a, _, 0, _, rfl, rfl, ha, rfl, rfl, _, rfl, ?_⟩
    refine iteT ?_
    exact ⟨(by show 0 ≤ sizeLine; decide), fun p np => q p [] np .nil⟩
  | menu s1 s2 =>
    obtain ⟨a, x, y, rfl, ha, hx, hy⟩ := hv
    refine ⟨_, rfl, a, _, 0, _, rfl, rfl, ha, rfl, rfl, _, rfl, iteF ?_⟩
    refine ⟨_, rfl, a, _, 0, _, rfl, rfl, ha, rfl, rfl, _, rfl, iteT ?_⟩
    refine ⟨_, rfl, a, _, 1, _, rfl, rfl, ha, rfl, _, rfl, a, _, 2, _, rfl, rfl, ha, rfl, (by show 2 ≤ sizeLine; decide), fun p np => q p [x, y] np (.cons hx (.cons hy .nil))⟩
  | trade s1 s2 =>
    obtain ⟨a, x, y, rfl, ha, hx, hy⟩ := hv
    refine ⟨_, rfl, a, _, 0, _, rfl, rfl, ha, rfl, rfl, _, rfl, iteF ?_⟩
    refine ⟨_, rfl, a, _, 0, _, rfl, rfl, ha, rfl, rfl, _, rfl, iteF ?_⟩
    refine ⟨_, rfl, a, _, 2, _, rfl, rfl, ha, rfl, _, rfl, a, _, 3, _, rfl, rfl, ha, rfl, (by show 2 ≤ sizeLine; decide), fun p np => q p [x, y] np (.cons hx (.cons hy .nil))⟩
def spOnce (K : PySem.W.Frag) (n : Nat) : Sp := fun vs H Q _ => ∃ (v : V) (s : Sen) (G : Hp), vs = [v] ∧ SenAt K G v s ∧ Same G H ∧ s.depth < n ∧ ∀ H', Same H H' → Q (.bl true) H'
theorem kid_depth {s t : Sen} (h : t ∈ s.kids) : t.depth < s.depth := by
  cases s with
  | word x => cases h
  | menu a b =>
    show t.depth < max a.depth b.depth + 1
    have h : t ∈ [a, b] := h
    rcases List.mem_cons.mp h with e | h
    · rw [e]
      omega
    · rw [List.mem_singleton.mp h]
      omega
  | trade a b =>
    show t.depth < max a.depth b.depth + 1
    have h : t ∈ [a, b] := h
    rcases List.mem_cons.mp h with e | h
    · rw [e]
      omega
    · rw [List.mem_singleton.mp h]
      omega
theorem step_all_once {k n : Nat} (T : Tx K mg) (G_sides : FnOk P w K mg base CX0 k T.a_sides T.d_sides ["sentence"] (spSides K)) (G_is_all_once : FnOk P w K mg base CX0 k T.a_is_all_once T.d_is_all_once ["sentence"] (spOnce K n)) :
    FnOk P w K mg base CX0 (k + 1) T.a_is_all_once T.d_is_all_once ["sentence"] (spOnce K (n + 1)) := by
  refine T.F_is_all_once.ok sc_is_all_once (fun vs H Q E h => ?_) (fun cdv A outer s H vs Q E hr h => ?_)
  · obtain ⟨v, _, _, rfl, _⟩ := h
    rfl
  obtain ⟨v, t, G, rfl, hv, sG, hd, q⟩ := h
  refine ⟨_, (pss_cons (ps_if (PW.pt (pw_and (pt_cmpR op_eq (pe_ix (ixT K) (pv 0) pe_int (fun _ _ => rfl)) pe_str (nomark _)) (pw_and1 (pt_cmpR op_ne (pe_ix (ixT K) (pv 0) pe_int (fun _ _ => rfl)) pe_str (nomark _))))) (pss_one (ps_ret pe_bl)) pss_nil)
      (pss_cons (ps_for PassesOwn.never rfl (piL K (pe_call G_sides hr (by rfl) T.m_sides T.F_sides.kp T.b_sides .nil pass0 (pa_cons (pv 0) pa_nil))) (pg_name (i := 1) sc_is_all_once.nd rfl (Or.inl rfl)) (pss_one (ps_if (pt_not (pt_val (pe_call G_is_all_once hr (by rfl) T.m_is_all_once T.F_is_all_once.kp T.b_is_all_once .nil pass0 (pa_cons (pv 1) pa_nil)))) (pss_one (ps_ret pe_bl)) pss_nil)))
      (pss_one (ps_ret pe_bl)))), ?_⟩
  have rest : ∀ H', H' = H → (tSeq (tFor (iList K (tCall (spSides K) [] E0 (tCons (tVar 0) tNil))) (gName 1) (tIfS (tNot (tB (tCall (spOnce K n) [] E0 (tCons (tVar 1) tNil)))) (tRet (tC (.bl false))) tNext)) (tRet (tC (.bl true)))) { nx := fun _ H' => Q .non H', rt := Q } (start ["sentence", "side"] [v]) H' := by
    rintro H' rfl
    refine ⟨_, rfl, v, t, rfl, SenAt.mono sG hv, fun p ys np hp => ?_⟩
    have s1 : Same H' (upd H' p (.lst ys)) := Same.new np
    refine ⟨p, rfl, ⟨ys, SqL.of upd_same⟩, for_list (K := K) (a := p) (xs := ys) (fun i σ' H2 => Same (upd H' p (.lst ys)) H2 ∧ ∃ y, σ' = [some v, y]) ⟨Same.refl _, none, rfl⟩ (fun i σ' H2 _ h => SqL.of (h.1 _ _ upd_same)) ?_ ?_⟩
    · rintro i x σ' H2 hx ⟨sm, y, rfl⟩
      obtain ⟨u, hu, hxu⟩ := Paired.getL hp hx
      refine ⟨_, rfl, x, u, H', rfl, hxu, s1.trans sm, ?_, fun H3 s3 => ⟨_, rfl, ?_⟩⟩
      · have := kid_depth (List.mem_of_getElem? hu)
        omega
      · refine iteF ?_
        exact ⟨sm.trans s3, _, rfl⟩
    · rintro σ' H2 ⟨sm, y, rfl⟩
      exact q H2 (s1.trans sm)
  cases t with
  | word x =>
    obtain ⟨a, rfl, ha⟩ := id hv
    have ha' := Same.tup sG ha
    refine ⟨_, rfl, a, _, 0, _, rfl, rfl, ha', rfl, rfl, _, rfl, ?_⟩
    exact rest H rfl
  | menu s1 s2 =>
    obtain ⟨a, x, y, rfl, ha, _⟩ := id hv
    have ha' := Same.tup sG ha
    refine ⟨_, rfl, a, _, 0, _, rfl, rfl, ha', rfl, rfl, _, rfl, ?_⟩
    exact rest H rfl
  | trade s1 s2 =>
    obtain ⟨a, x, y, rfl, ha, _⟩ := id hv
    have ha' := Same.tup sG ha
    refine ⟨_, rfl, a, _, 0, _, rfl, rfl, ha', rfl, rfl, _, rfl, ?_⟩
    refine ⟨_, rfl, a, _, 1, _, rfl, rfl, ha', rfl, rfl, _, rfl, ?_⟩
    exact rest H rfl
theorem zero_all_once (T : Tx K mg) : FnOk P w K mg base CX0 0 T.a_is_all_once T.d_is_all_once ["sentence"] (spOnce K 0) := by
  have no : ∀ vs H Q E, ¬ spOnce K 0 vs H Q E := fun vs H Q E h => by
    obtain ⟨_, _, _, _, _, _, h, _⟩ := h
    omega
  exact ⟨fun vs H Q E h => absurd h (no vs H Q E), fun A outer s H args us vs Q E _ _ _ _ h => absurd h (no vs H Q E)⟩
theorem ok_is_all_once (T : Tx K mg) : ∀ n : Nat, FnOk P w K mg base CX0 (n + 1) T.a_is_all_once T.d_is_all_once ["sentence"] (spOnce K n)
  | 0 => (zero_all_once T).mono (Nat.zero_le _)
  | n + 1 => step_all_once T ((ok_sides (k := 0) T).mono (by omega)) (ok_is_all_once T n)
end
end W76
namespace W76
open PySem PySem.Spec PyProof.Rows L2 HX
/-- where a sentence is true -/
def tr (n : Nat) (f : Nat → Nat → Nat) (ns : Str → List Nat) : Sen → Nat → Bool
  | .word x, k => decide (k ∈ ns x)
  | .menu s t, k => tr n f ns s k && tr n f ns t k
  | .trade s t, k => (List.range n).all fun v => !tr n f ns s v || tr n f ns t (f k v)
abbrev trs (n : Nat) (f : Nat → Nat → Nat) (ns : Str → List Nat) (s : Sen) : List Bool := (List.range n).map (tr n f ns s)
theorem inV_nats (k : Nat) (ns : List Nat) : inV (iv k) (ns.map iv) = decide (k ∈ ns) := by
  unfold inV
  rw [List.any_map, Bool.eq_iff_iff, List.any_eq_true, decide_eq_true_eq]
  constructor
  · rintro ⟨j, hj, e⟩
    have e1 : ((j : Int) == (k : Int)) = true := e
    have e2 := eq_of_beq e1
    have : j = k := by omega
    rw [← this]
    exact hj
  · intro h
    exact ⟨k, h, by show ((k : Int) == (k : Int)) = true; exact beq_self_eq_true _⟩
theorem flat_nats (ns : List Nat) : (ns.map iv).all flatV = true := by
  rw [List.all_eq_true]
  intro x hx
  obtain ⟨k, _, rfl⟩ := List.mem_map.mp hx
  rfl
theorem all_filter {n : Nat} {p q : Nat → Bool} : (((List.range n).filter p).all q) = (List.range n).all fun v => !p v || q v := by
  rw [Bool.eq_iff_iff, List.all_eq_true, List.all_eq_true]
  constructor
  · intro h v hv
    cases hp : p v with
    | false => rfl
    | true => exact h v (List.mem_filter.mpr ⟨hv, hp⟩)
  · intro h v hv
    obtain ⟨h1, h2⟩ := List.mem_filter.mp hv
    have := h v h1
    rw [h2] at this
    exact this
theorem take_range_map {α : Type} {n i : Nat} {f : Nat → α} (h : i ≤ n) : (List.range i).map f = ((List.range n).map f).take i := by
  rw [← List.map_take, List.take_range, Nat.min_eq_left h]
section
variable {P : Program} {w : World} {K : PySem.W.Frag} {mg : Str → Option Value} {base : Heap}
/-- a world of the class at C at x -/
structure WorldAt (K : PySem.W.Frag) (C : Addr) (G H : Hp) (x : Addr) (n : Nat) (f : Nat → Nat → Nat) (ns : Str → List Nat) : Prop where
  at_ : ∃ dx r fa kvs, H x = some (.ins C dx (wf r fa)) ∧ Table K G (.ref r) (tab n f) ∧ H fa = some (.dK kvs) ∧ FactsL K G kvs ns
theorem WorldAt.step {C : Addr} {G H G' H' : Hp} {x : Addr} {n : Nat} {f : Nat → Nat → Nat} {ns : Str → List Nat} (h : WorldAt K C G H x n f ns) (s : Stp nom G H G' H') : WorldAt K C G' H' x n f ns := by
  obtain ⟨dx, r, fa, kvs, h1, h2, h3, h4⟩ := h.at_
  exact ⟨dx, r, fa, kvs, s.un _ _ (fun z => z) h1, Table.mono s.gg h2, s.un _ _ (fun z => z) h3, h4.mono s.gg⟩
theorem wf_p {r f : Addr} : (wf r f).lookup ("_products" : Str) = some (V.ref r) := rfl
theorem wf_f {r f : Addr} : (wf r f).lookup ("_facts" : Str) = some (V.ref f) := by
  have e : (("_facts" : Str) == ("_products" : Str)) = false := by decide +kernel
  unfold wf
  rw [List.lookup_cons, e, List.lookup_cons, beq_self_eq_true]
theorem wf_no {r f : Addr} {m : Str} (h1 : (m == ("_products" : Str)) = false) (h2 : (m == ("_facts" : Str)) = false) : (wf r f).lookup m = none := by
  unfold wf
  rw [List.lookup_cons, h1, List.lookup_cons, h2]
  rfl
def spTruths (K : PySem.W.Frag) (C : Addr) (d : Nat) : Sp := fun vs H Q _ => ∃ (x : Addr) (v : V) (G : Hp) (n : Nat) (f : Nat → Nat → Nat) (ns : Str → List Nat) (s : Sen), vs = [.ref x, v] ∧ Same G H ∧ WorldAt K C G H x n f ns ∧ SenAt K G v s ∧ s.depth < d ∧ n ≤ 1000 ∧ (∀ a b, a < n → b < n → f a b < n) ∧
  ∀ G' H' r, Stp nom G H G' H' → Bools K G' r (trs n f ns s) → Q r H'
theorem zero_truths (T : Tx K mg) : FnOk P w K mg base CX0 0 T.a_World_truths T.d_World_truths ["self", "sentence"] (spTruths K T.C_World 0) := by
  have no : ∀ vs H Q E, ¬ spTruths K T.C_World 0 vs H Q E := fun vs H Q E h => by
    obtain ⟨_, _, _, _, _, _, _, _, _, _, _, h, _⟩ := h
    omega
  exact ⟨fun vs H Q E h => absurd h (no vs H Q E), fun A outer s H args us vs Q E _ _ _ _ h => absurd h (no vs H Q E)⟩
theorem step_truths {k d : Nat} (T : Tx K mg) (G_is_true_for : FnOk P w K mg base CX0 k T.a_is_true_for T.d_is_true_for ["truths", "row", "givers"] (spTrueFor K)) (G_World_truths : FnOk P w K mg base CX0 k T.a_World_truths T.d_World_truths ["self", "sentence"] (spTruths K T.C_World d)) :
    FnOk P w K mg base CX0 (k + 1) T.a_World_truths T.d_World_truths ["self", "sentence"] (spTruths K T.C_World (d + 1)) := by
  refine T.F_World_truths.ok sc_World_truths (fun vs H Q E h => ?_) (fun cdv A outer s H vs Q E hr h => ?_)
  · obtain ⟨_, _, _, _, _, _, _, rfl, _⟩ := h
    rfl
  obtain ⟨x, v, G, n, f, ns, t, rfl, sG, hW, hv, hd, hn, hcl, q⟩ := h
  have hu := hu_of hr
  refine ⟨_, (pss_cons (ps_if (pt_cmpR op_eq (pe_ix (ixT K) (pv 1) pe_int (fun _ _ => rfl)) pe_str (nomark _)) (pss_cons (ps_set (i := 2) sc_World_truths.nd rfl (Or.inr rfl) (pe_dget2 hu (pe_fldK K (pv 0) rfl) (pe_ix (ixT K) (pv 1) pe_int (fun _ _ => rfl)) (pe_lst pa_nil) ⟨rfl, rfl, rfl, rfl⟩))
      (pss_one (ps_ret (pe_lc (own := [("element", 6)]) (g := gName 6) (by rfl) sc_World_truths.nd (pi_range1 (by rfl) T.z_range (pa_cons (pe_callB (lenS K) (by rfl) T.z_len PySem.boot_len (pa_cons (pe_fldK K (pv 0) rfl) pa_nil)) pa_nil)) (blkOk_by (own := [("element", 6)]) (N := ["self", "sentence", "found", "first", "second", "givers", "element", "row"]) (sc := defScope s_World_truths) (by decide +kernel)) (fun _ _ _ _ _ => (pg_name (i := 6) sc_World_truths.nd rfl (Or.inl rfl))) (fun _ _ _ _ _ => pts_nil) (fun _ _ _ _ _ => (pe_cmpR (inS K) (pv 6) (pv 2) (by rfl))))))) pss_nil)
      (pss_cons (ps_set (i := 3) sc_World_truths.nd rfl (Or.inr rfl) (pe_meth (pv 0) T.cl_World T.mt_World_truths G_World_truths hr T.b_World_truths .nil pass0 (pa_cons (pe_ix (ixT K) (pv 1) (pe_op op_sub (pe_callB (lenS K) (by rfl) T.z_len PySem.boot_len (pa_cons (pv 1) pa_nil)) pe_int) (fun _ _ => rfl)) pa_nil)))
      (pss_cons (ps_set (i := 4) sc_World_truths.nd rfl (Or.inr rfl) (pe_meth (pv 0) T.cl_World T.mt_World_truths G_World_truths hr T.b_World_truths .nil pass0 (pa_cons (pe_ix (ixT K) (pv 1) (pe_op op_sub (pe_callB (lenS K) (by rfl) T.z_len PySem.boot_len (pa_cons (pv 1) pa_nil)) pe_int) (fun _ _ => rfl)) pa_nil)))
      (pss_cons (ps_if (pt_cmpR op_eq (pe_ix (ixT K) (pv 1) pe_int (fun _ _ => rfl)) pe_str (nomark _)) (pss_one (ps_ret (pe_lc (own := [("element", 6)]) (g := gName 6) (by rfl) sc_World_truths.nd (pi_range1 (by rfl) T.z_range (pa_cons (pe_callB (lenS K) (by rfl) T.z_len PySem.boot_len (pa_cons (pv 3) pa_nil)) pa_nil)) (blkOk_by (own := [("element", 6)]) (N := ["self", "sentence", "found", "first", "second", "givers", "element", "row"]) (sc := defScope s_World_truths) (by decide +kernel)) (fun _ _ _ _ _ => (pg_name (i := 6) sc_World_truths.nd rfl (Or.inl rfl))) (fun _ _ _ _ _ => pts_nil) (fun _ _ _ _ _ => (pe_and (pe_ix (ixL K) (pv 3) (pv 6) (fun _ _ => rfl)) (pe_one (pe_ix (ixL K) (pv 4) (pv 6) (fun _ _ => rfl)))))))) pss_nil)
      (pss_cons (ps_set (i := 5) sc_World_truths.nd rfl (Or.inr rfl) (pe_lc (own := [("element", 6)]) (g := gName 6) (by rfl) sc_World_truths.nd (pi_range1 (by rfl) T.z_range (pa_cons (pe_callB (lenS K) (by rfl) T.z_len PySem.boot_len (pa_cons (pv 3) pa_nil)) pa_nil)) (blkOk_by (own := [("element", 6)]) (N := ["self", "sentence", "found", "first", "second", "givers", "element", "row"]) (sc := defScope s_World_truths) (by decide +kernel)) (fun _ _ _ _ _ => (pg_name (i := 6) sc_World_truths.nd rfl (Or.inl rfl))) (fun _ _ _ _ _ => (pts_one (pt_val (pe_ix (ixL K) (pv 3) (pv 6) (fun _ _ => rfl))))) (fun _ _ _ _ _ => (pv 6))))
      (pss_one (ps_ret (pe_lc (own := [("row", 7)]) (g := gName 7) (by rfl) sc_World_truths.nd (piL K (pe_fldK K (pv 0) rfl)) (blkOk_by (own := [("row", 7)]) (N := ["self", "sentence", "found", "first", "second", "givers", "element", "row"]) (sc := defScope s_World_truths) (by decide +kernel)) (fun _ _ _ _ _ => (pg_name (i := 7) sc_World_truths.nd rfl (Or.inl rfl))) (fun _ _ _ _ _ => pts_nil) (fun _ _ _ _ _ => (pe_call G_is_true_for hr (by rfl) T.m_is_true_for T.F_is_true_for.kp T.b_is_true_for .nil pass0 (pa_cons (pv 4) (pa_cons (pv 7) (pa_cons (pv 5) pa_nil))))))))))))), ?_⟩
  obtain ⟨dx, r, fa, kvs, hx, hT, hfa, hF⟩ := id hW.at_
  have two : ∀ (s1 s2 : Sen) (y1 y2 : V) (tail : TS), SenAt K G y1 s1 → SenAt K G y2 s2 → s1.depth < d → s2.depth < d → True := fun _ _ _ _ _ _ _ _ _ => trivial
  cases t with
  | word z =>
    obtain ⟨a, rfl, ha⟩ := id hv
    have ha' := Same.tup sG ha
    refine ⟨_, rfl, a, _, 0, _, rfl, rfl, ha', rfl, rfl, _, rfl, iteT ?_⟩
    refine ⟨_, rfl, x, T.C_World, dx, _, _, rfl, hx, T.cl_World, T.n_facts, wf_f, fa, rfl, .inl ⟨kvs, .inl hfa⟩, _, rfl, a, _, 1, _, rfl, rfl, ha', rfl, (by show 0 ≤ sizeLine; decide), fun p np => ?_⟩
    have s1 : Stp nom G H (upd G p (.lst [])) (upd H p (.lst [])) := stp_newF sG np
    have nfp : fa ≠ p := ne_of_none hfa np
    refine ⟨_, .inl ⟨kvs, Sum.inr z, .inl (by rw [upd_ne nfp]; exact hfa), rfl, rfl⟩, ?_⟩
    -- found: the word's list
    have hfound : ∃ l, (valV kvs (Sum.inr z : Key)).getD (.ref p) = .ref l ∧ SqL K (upd G p (.lst [])) l ((ns z).map iv) := by
      cases e : valV kvs (Sum.inr z : Key) with
      | none => exact ⟨p, rfl, by rw [hF.non z e]; exact SqL.of upd_same⟩
      | some u =>
        obtain ⟨⟨l, rfl, hl⟩, _⟩ := hF.val z u e
        exact ⟨l, rfl, s1.gg.seq hl⟩
    obtain ⟨l, el, hl⟩ := hfound
    rw [el]
    obtain ⟨ra, rxs, er, hra, hrp⟩ := id hT
    cases er
    have hlen : rxs.length = n := (Paired.len hrp).trans (tab_len n f)
    have hx1 : (upd H p (.lst [])) x = some (.ins T.C_World dx (wf r fa)) := s1.un _ _ (fun z => z) hx
    refine ⟨_, rfl, x, T.C_World, dx, _, _, rfl, hx1, T.cl_World, T.n_products, wf_p, r, _, rfl, .inl ((sG.trans (Same.new np)).seq hra), ?_⟩
    rw [hlen]
    refine ⟨_, rfl, by omega, by omega, fun D nD => ?_⟩
    refine lc_range (lo := 0) (n := n) (fun i H' => ∃ G', Build IsV nom G H D ((List.range i).map fun k => V.bl (decide (k ∈ ns z))) G' H' ∧ Same (upd G p (.lst [])) G') ⟨_, Build.start s1 nD, Same.refl _⟩ ?_ ?_
    · rintro i H' hi ⟨G', b, sg⟩
      rw [Int.zero_add]
      refine ⟨rfl, ?_⟩
      obtain ⟨ys, e, hl2, b2⟩ := b.snoc (y := V.bl (decide (i ∈ ns z))) rfl
      refine ⟨_, rfl, _, rfl, l, _, rfl, .inl ((sg.trans b.stp.gh).seq hl), rfl, flat_nats _, ?_⟩
      rw [inV_nats]
      refine ⟨ys, e, ?_, G', ?_, sg⟩
      · rw [hl2, List.length_map, List.length_range]
        exact sz2 (by omega)
      · rw [range_snoc]
        exact b2
    · rintro H' ⟨G', b, sg⟩
      have hD := b.vals
      have fr := b.stp.freeze b.new b.nog hD
      refine q _ H' (.ref D) fr ⟨D, rfl, SqL.of ?_⟩
      rw [upd_same, List.map_map]
      rfl
  | menu s1 s2 =>
    obtain ⟨a, y1, y2, rfl, ha, hy1, hy2⟩ := id hv
    have ha' := Same.tup sG ha
    have hd' : max s1.depth s2.depth + 1 < d + 1 := hd
    refine ⟨_, rfl, a, _, 0, _, rfl, rfl, ha', rfl, rfl, _, rfl, iteF ?_⟩
    refine ⟨_, rfl, x, dx, _, rfl, hx, wf_no (by decide +kernel) (by decide +kernel), _, rfl, _, rfl, a, _, rfl, .inr ha', _, _, rfl, rfl, a, _, _, _, rfl, rfl, ha', rfl, x, y1, G, n, f, ns, s1, rfl, sG, hW, hy1, by omega, hn, hcl, fun G1 H1 r1 st1 hb1 => ?_⟩
    have ha1 := Same.tup (st1.gg.trans st1.gh) ha
    have hx1 := st1.un _ _ (fun z => z) hx
    refine ⟨_, rfl, x, dx, _, rfl, hx1, wf_no (by decide +kernel) (by decide +kernel), _, rfl, _, rfl, a, _, rfl, .inr ha1, _, _, rfl, rfl, a, _, _, _, rfl, rfl, ha1, rfl, x, y2, G1, n, f, ns, s2, rfl, st1.gh, hW.step st1, SenAt.mono st1.gg hy2, by omega, hn, hcl, fun G2 H2 r2 st2 hb2 => ?_⟩
    have st : Stp nom G H G2 H2 := st1.tr0 st2
    have ha2 := Same.tup (st.gg.trans st.gh) ha
    refine ⟨_, rfl, a, _, 0, _, rfl, rfl, ha2, rfl, rfl, _, rfl, iteT ?_⟩
    obtain ⟨p1, rfl, q1⟩ := Bools.mono st2.gg hb1
    obtain ⟨p2, rfl, q2⟩ := hb2
    refine ⟨_, rfl, p1, _, rfl, .inl (st2.gh.seq q1), ?_⟩
    rw [List.length_map, List.length_map, List.length_range]
    refine ⟨_, rfl, by omega, by omega, fun D nD => ?_⟩
    refine lc_range (lo := 0) (n := n) (fun i H' => ∃ G', Build IsV nom G H D ((List.range i).map fun k => V.bl (tr n f ns s1 k && tr n f ns s2 k)) G' H' ∧ Same G2 G') ⟨_, Build.start st nD, Same.refl _⟩ ?_ ?_
    · rintro i H' hi ⟨G', b, sg⟩
      rw [Int.zero_add]
      refine ⟨rfl, ?_⟩
      obtain ⟨ys, e, hl2, b2⟩ := b.snoc (y := V.bl (tr n f ns s1 i && tr n f ns s2 i)) rfl
      have hs : Same G2 H' := sg.trans b.stp.gh
      have hsz : ys.length < sizeLine := by
        rw [hl2, List.length_map, List.length_range]
        exact sz2 (by omega)
      have g1 : ((trs n f ns s1).map V.bl)[i]? = some (V.bl (tr n f ns s1 i)) := bools_at (range_at hi)
      have g2 : ((trs n f ns s2).map V.bl)[i]? = some (V.bl (tr n f ns s2 i)) := bools_at (range_at hi)
      refine ⟨_, rfl, _, rfl, p1, _, _, _, rfl, rfl, hs.seq q1, atN g1, _, rfl, ?_⟩
      cases h1 : tr n f ns s1 i with
      | true =>
        rw [if_pos rfl]
        rw [h1, Bool.true_and] at b2
        refine ⟨_, rfl, _, rfl, p2, _, _, _, rfl, rfl, hs.seq q2, atN g2, ys, e, hsz, G', ?_, sg⟩
        rw [range_snoc, h1, Bool.true_and]
        exact b2
      | false =>
        rw [if_neg Bool.false_ne_true]
        rw [h1, Bool.false_and] at b2
        refine ⟨ys, e, hsz, G', ?_, sg⟩
        rw [range_snoc, h1, Bool.false_and]
        exact b2
    · rintro H' ⟨G', b, sg⟩
      have hD := b.vals
      have fr := b.stp.freeze b.new b.nog hD
      refine q _ H' (.ref D) fr ⟨D, rfl, SqL.of ?_⟩
      rw [upd_same, List.map_map]
      rfl
  | trade s1 s2 =>
    obtain ⟨a, y1, y2, rfl, ha, hy1, hy2⟩ := id hv
    have ha' := Same.tup sG ha
    have hd' : max s1.depth s2.depth + 1 < d + 1 := hd
    refine ⟨_, rfl, a, _, 0, _, rfl, rfl, ha', rfl, rfl, _, rfl, iteF ?_⟩
    refine ⟨_, rfl, x, dx, _, rfl, hx, wf_no (by decide +kernel) (by decide +kernel), _, rfl, _, rfl, a, _, rfl, .inr ha', _, _, rfl, rfl, a, _, _, _, rfl, rfl, ha', rfl, x, y1, G, n, f, ns, s1, rfl, sG, hW, hy1, by omega, hn, hcl, fun G1 H1 r1 st1 hb1 => ?_⟩
    have ha1 := Same.tup (st1.gg.trans st1.gh) ha
    have hx1 := st1.un _ _ (fun z => z) hx
    refine ⟨_, rfl, x, dx, _, rfl, hx1, wf_no (by decide +kernel) (by decide +kernel), _, rfl, _, rfl, a, _, rfl, .inr ha1, _, _, rfl, rfl, a, _, _, _, rfl, rfl, ha1, rfl, x, y2, G1, n, f, ns, s2, rfl, st1.gh, hW.step st1, SenAt.mono st1.gg hy2, by omega, hn, hcl, fun G2 H2 r2 st2 hb2 => ?_⟩
    have st : Stp nom G H G2 H2 := st1.tr0 st2
    have ha2 := Same.tup (st.gg.trans st.gh) ha
    refine ⟨_, rfl, a, _, 0, _, rfl, rfl, ha2, rfl, rfl, _, rfl, iteF ?_⟩
    obtain ⟨p1, rfl, q1⟩ := Bools.mono st2.gg hb1
    obtain ⟨p2, rfl, q2⟩ := hb2
    -- givers
    refine ⟨_, rfl, p1, _, rfl, .inl (st2.gh.seq q1), ?_⟩
    rw [List.length_map, List.length_map, List.length_range]
    refine ⟨_, rfl, by omega, by omega, fun D nD => ?_⟩
    refine lc_range (lo := 0) (n := n) (fun i H' => ∃ G', Build IsV nom G H D (((List.range i).filter (tr n f ns s1)).map iv) G' H' ∧ Same G2 G') ⟨_, Build.start st nD, Same.refl _⟩ ?_ ?_
    · rintro i H' hi ⟨G', b, sg⟩
      rw [Int.zero_add]
      refine ⟨rfl, ?_⟩
      obtain ⟨ys, e, hl2, b2⟩ := b.snoc (y := iv i) rfl
      have hs : Same G2 H' := sg.trans b.stp.gh
      have g1 : ((trs n f ns s1).map V.bl)[i]? = some (V.bl (tr n f ns s1 i)) := bools_at (range_at hi)
      refine ⟨_, rfl, _, rfl, p1, _, _, _, rfl, rfl, hs.seq q1, atN g1, _, rfl, ?_⟩
      cases h1 : tr n f ns s1 i with
      | true =>
        rw [if_pos rfl]
        refine ⟨_, rfl, ys, e, ?_, G', ?_, sg⟩
        · rw [hl2, List.length_map]
          have := List.length_filter_le (tr n f ns s1) (List.range i)
          rw [List.length_range] at this
          exact sz2 (by omega)
        · have e2 : (List.range (i + 1)).filter (tr n f ns s1) = (List.range i).filter (tr n f ns s1) ++ [i] := by
            rw [List.range_succ, List.filter_append]
            simp [h1]
          rw [e2, List.map_append]
          exact b2
      | false =>
        rw [if_neg Bool.false_ne_true]
        refine ⟨G', ?_, sg⟩
        have e2 : (List.range (i + 1)).filter (tr n f ns s1) = (List.range i).filter (tr n f ns s1) := by
          rw [List.range_succ, List.filter_append]
          simp [h1]
        rw [e2]
        exact b
    rintro H3 ⟨G3', b, sg⟩
    have hD := b.vals
    have st3 := b.stp.freeze b.new b.nog hD
    have sg3 : Same G2 (upd G3' D (.lst (((List.range n).filter (tr n f ns s1)).map iv))) := sg.trans (Same.new b.nog)
    have hgv : SqL K (upd G3' D (.lst (((List.range n).filter (tr n f ns s1)).map iv))) D (((List.range n).filter (tr n f ns s1)).map iv) := SqL.of upd_same
    generalize upd G3' D (.lst (((List.range n).filter (tr n f ns s1)).map iv)) = G3 at st3 sg3 hgv
    -- the rows
    obtain ⟨ra, rxs, er, hra, hrp⟩ := id hT
    cases er
    have hlen : rxs.length = n := (Paired.len hrp).trans (tab_len n f)
    have hx3 := st3.un _ _ (fun z => z) hx
    refine ⟨_, rfl, x, T.C_World, dx, _, _, rfl, hx3, T.cl_World, T.n_products, wf_p, r, rfl, ⟨_, (st3.gg.trans st3.gh).seq hra⟩, fun D2 nD2 => ?_⟩
    refine lc_list (K := K) (a := r) (xs := rxs) (fun i H' => ∃ G', Build IsV nom G H D2 ((List.range i).map fun k => V.bl (tr n f ns (.trade s1 s2) k)) G' H' ∧ Same G3 G') ⟨_, Build.start st3 nD2, Same.refl _⟩ (fun i H' _ h => by
      obtain ⟨G', b, _⟩ := h
      exact (b.stp.gg.trans b.stp.gh).seq hra) ?_ ?_
    · rintro i y H' hy ⟨G', b, sg'⟩
      obtain ⟨row, hrow, c, rfl, hc⟩ := Paired.getL hrp hy
      have hi : i < n := by
        have := (List.getElem?_eq_some_iff.mp hy).1
        omega
      have erow : row = (List.range n).map (f i) := by
        rw [tab_get hi] at hrow
        exact (Option.some.inj hrow).symm
      subst erow
      refine ⟨rfl, ?_⟩
      have hs3 : Same G3 H' := sg'.trans b.stp.gh
      refine ⟨_, rfl, _, rfl, _, rfl, .ref p2, .ref c, .ref D, trs n f ns s2, (List.range n).map (f i), (List.range n).filter (tr n f ns s1), rfl, ⟨p2, rfl, (sg3.trans hs3).seq q2⟩, ⟨c, rfl, (b.stp.gg.trans b.stp.gh).seq hc⟩, ⟨D, rfl, hs3.seq hgv⟩, fun k hk => ?_, fun k hk => ?_, ?_⟩
      · rw [List.length_map, List.length_range]
        exact List.mem_range.mp (List.mem_filter.mp hk).1
      · rw [List.length_map, List.length_range]
        obtain ⟨j, hj, rfl⟩ := List.mem_map.mp hk
        exact hcl i j hi (List.mem_range.mp hj)
      · have ev : ((List.range n).filter (tr n f ns s1)).all (fun v => (trs n f ns s2).getD (at1 ((List.range n).map (f i)) v) false) = tr n f ns (.trade s1 s2) i := by
          rw [all_filter]
          show _ = (List.range n).all fun v => !tr n f ns s1 v || tr n f ns s2 (f i v)
          rw [Bool.eq_iff_iff, List.all_eq_true, List.all_eq_true]
          have same : ∀ v, v ∈ List.range n → (!tr n f ns s1 v || (trs n f ns s2).getD (at1 ((List.range n).map (f i)) v) false) = (!tr n f ns s1 v || tr n f ns s2 (f i v)) := fun v hv => by
            have hv := List.mem_range.mp hv
            rw [at1_map hv, List.getD_eq_getElem?_getD, range_at (hcl i v hi hv)]
            rfl
          exact ⟨fun h v hv => by rw [← same v hv]; exact h v hv, fun h v hv => by rw [same v hv]; exact h v hv⟩
        rw [ev]
        obtain ⟨ys, e, hl2, b2⟩ := b.snoc (y := V.bl (tr n f ns (.trade s1 s2) i)) rfl
        refine ⟨ys, e, ?_, G', ?_, sg'⟩
        · rw [hl2, List.length_map, List.length_range]
          exact sz2 (by omega)
        · rw [range_snoc]
          exact b2
    · rintro H' ⟨G', b, sg'⟩
      rw [hlen] at b
      have hD2 := b.vals
      have fr := b.stp.freeze b.new b.nog hD2
      refine q _ H' (.ref D2) fr ⟨D2, rfl, SqL.of ?_⟩
      rw [upd_same, List.map_map]
      rfl
theorem ok_truths (T : Tx K mg) : ∀ d : Nat, FnOk P w K mg base CX0 (d + 1) T.a_World_truths T.d_World_truths ["self", "sentence"] (spTruths K T.C_World d)
  | 0 => (zero_truths T).mono (Nat.zero_le _)
  | d + 1 => step_truths T ((ok_is_true_for (k := 0) T).mono (by omega)) (ok_truths T d)
/-! ### claims -/
def HoldAt (K : PySem.W.Frag) (G : Hp) (v : V) (h : Str × Sen) : Prop := ∃ a y, v = .ref a ∧ SqT K G a [.str h.1, .str "once", y] ∧ SenAt K G y h.2
theorem HoldAt.mono {G G' : Hp} {v : V} {h : Str × Sen} (e : Same G G') (q : HoldAt K G v h) : HoldAt K G' v h := let ⟨a, y, h1, h2, h3⟩ := q; ⟨a, y, h1, Same.tup e h2, SenAt.mono e h3⟩
theorem mono_hold : Mono (HoldAt K) := fun _ _ _ _ e h => HoldAt.mono e h
def ClaimAt (K : PySem.W.Frag) (G : Hp) (v : V) (hs : List (Str × Sen)) (goal : Sen) : Prop := ∃ a b y xs, v = .ref a ∧ SqT K G a [.ref b, y] ∧ SqT K G b xs ∧ Paired (HoldAt K G) xs hs ∧ SenAt K G y goal
theorem ClaimAt.mono {G G' : Hp} {v : V} {hs : List (Str × Sen)} {g : Sen} (e : Same G G') (q : ClaimAt K G v hs g) : ClaimAt K G' v hs g :=
  let ⟨a, b, y, xs, h1, h2, h3, h4, h5⟩ := q; ⟨a, b, y, xs, h1, Same.tup e h2, Same.tup e h3, Paired.mapP h4 fun _ _ => HoldAt.mono e, SenAt.mono e h5⟩
def spClaimOnce (K : PySem.W.Frag) (n : Nat) : Sp := fun vs H Q _ => ∃ (v : V) (hs : List (Str × Sen)) (g : Sen) (G : Hp), vs = [v] ∧ Same G H ∧ ClaimAt K G v hs g ∧ (∀ h, h ∈ hs → h.2.depth < n) ∧ g.depth < n ∧ ∀ H', Same H H' → Q (.bl true) H'
theorem ok_is_claim_once {k n : Nat} (T : Tx K mg) (G_is_all_once : FnOk P w K mg base CX0 k T.a_is_all_once T.d_is_all_once ["sentence"] (spOnce K n)) : FnOk P w K mg base CX0 (k + 1) T.a_is_claim_once T.d_is_claim_once ["claim"] (spClaimOnce K n) := by
  refine T.F_is_claim_once.ok sc_is_claim_once (fun vs H Q E h => ?_) (fun cdv A outer s H vs Q E hr h => ?_)
  · obtain ⟨v, _, _, _, rfl, _⟩ := h
    rfl
  obtain ⟨v, hs, g, G, rfl, sG, ⟨a, b, y, xs, rfl, ha, hb, hp, hy⟩, hd, hg, q⟩ := h
  refine ⟨_, (pss_cons (ps_for PassesOwn.never rfl (piT K (pe_ix (ixT K) (pv 0) pe_int (fun _ _ => rfl))) (pg_name (i := 1) sc_is_claim_once.nd rfl (Or.inl rfl)) (pss_one (ps_if (PW.pt (pw_or (pt_cmpR op_ne (pe_ix (ixT K) (pv 1) pe_int (fun _ _ => rfl)) pe_str (nomark _)) (pw_or1 (pt_not (pt_val (pe_call G_is_all_once hr (by rfl) T.m_is_all_once T.F_is_all_once.kp T.b_is_all_once .nil pass0 (pa_cons (pe_ix (ixT K) (pv 1) pe_int (fun _ _ => rfl)) pa_nil))))))) (pss_one (ps_ret pe_bl)) pss_nil)))
      (pss_one (ps_ret (pe_call G_is_all_once hr (by rfl) T.m_is_all_once T.F_is_all_once.kp T.b_is_all_once .nil pass0 (pa_cons (pe_ix (ixT K) (pv 0) pe_int (fun _ _ => rfl)) pa_nil))))), ?_⟩
  refine ⟨_, rfl, a, _, 0, _, rfl, rfl, Same.tup sG ha, rfl, b, rfl, ⟨_, Same.tup sG hb⟩, for_tup (K := K) (a := b) (xs := xs) (fun i σ' H' => Same H H' ∧ ∃ y, σ' = [some (.ref a), y]) ⟨Same.refl H, none, rfl⟩ (fun i σ' H' _ h => Same.tup (sG.trans h.1) hb) ?_ ?_⟩
  · rintro i x σ' H' hx ⟨sm, z, rfl⟩
    obtain ⟨h, hh, c, u, rfl, hc, hu⟩ := Paired.getL hp hx
    have hc' := Same.tup (sG.trans sm) hc
    refine ⟨_, rfl, c, _, 1, _, rfl, rfl, hc', rfl, rfl, _, rfl, ?_⟩
    refine ⟨_, rfl, c, _, 2, _, rfl, rfl, hc', rfl, u, h.2, G, rfl, hu, sG.trans sm, hd h (List.mem_of_getElem? hh), fun H2 s2 => ⟨_, rfl, ?_⟩⟩
    exact ⟨sm.trans s2, _, rfl⟩
  · rintro σ' H' ⟨sm, z, rfl⟩
    exact ⟨_, rfl, a, _, 1, _, rfl, rfl, Same.tup (sG.trans sm) ha, rfl, y, g, G, rfl, hy, sG.trans sm, hg, fun H2 s2 => q H2 (sm.trans s2)⟩
end
end W76
namespace HX
open PySem PySem.Spec PyProof.Rows L2
theorem Stp.same {G H H' : Hp} (e : Same G H) (s : Same H H') : Stp nom G H G H' := ⟨Same.refl _, e.trans s, fun _ h _ => h, fun b o _ q => s b o q, fun b q => by
  cases h : H b with
  | none => exact absurd h q
  | some o =>
    rw [s b o h]
    exact fun z => nomatch z⟩
end HX
namespace W76
open PySem PySem.Spec PyProof.Rows L2 HX
/-- the product of the first i places -/
def tot (f : Nat → Nat → Nat) (pl : Nat → Nat) : Nat → Nat
  | 0 => 0
  | i + 1 => f (tot f pl i) (pl i)
theorem tot_lt {n : Nat} {f : Nat → Nat → Nat} {pl : Nat → Nat} (h0 : 0 < n) (hc : ∀ a b, a < n → b < n → f a b < n) : ∀ {m : Nat}, (∀ i, i < m → pl i < n) → tot f pl m < n
  | 0, _ => h0
  | m + 1, h => hc _ _ (tot_lt h0 hc fun i hi => h i (by omega)) (h m (by omega))
/-- do the first i hold -/
def gd (n : Nat) (f : Nat → Nat → Nat) (ns : Str → List Nat) (sen : Nat → Sen) (pl : Nat → Nat) : Nat → Bool
  | 0 => true
  | i + 1 => gd n f ns sen pl i && tr n f ns (sen i) (pl i)
theorem gd_false {n : Nat} {f : Nat → Nat → Nat} {ns : Str → List Nat} {sen : Nat → Sen} {pl : Nat → Nat} {i : Nat} (h : tr n f ns (sen i) (pl i) = false) : ∀ {m : Nat}, i < m → gd n f ns sen pl m = false
  | m + 1, hm => by
    show (gd n f ns sen pl m && tr n f ns (sen m) (pl m)) = false
    by_cases e : i = m
    · rw [← e, h, Bool.and_false]
    · rw [gd_false h (m := m) (by omega), Bool.false_and]
section
variable {P : Program} {w : World} {K : PySem.W.Frag} {mg : Str → Option Value} {base : Heap}
def spLen (K : PySem.W.Frag) (C : Addr) : Sp := fun vs H Q _ => ∃ (x : Addr) (G : Hp) (n : Nat) (f : Nat → Nat → Nat) (ns : Str → List Nat), vs = [.ref x] ∧ Same G H ∧ WorldAt K C G H x n f ns ∧ Q (iv n) H
theorem ok_World__len {k : Nat} (T : Tx K mg) : FnOk P w K mg base CX0 (k + 1) T.a_World__len T.d_World__len ["self"] (spLen K T.C_World) := by
  refine T.F_World__len.ok sc_World__len (fun vs H Q E h => ?_) (fun cdv A outer s H vs Q E hr h => ?_)
  · obtain ⟨_, _, _, _, _, rfl, _⟩ := h
    rfl
  obtain ⟨x, G, n, f, ns, rfl, sG, hW, q⟩ := h
  refine ⟨_, (pss_one (ps_ret (pe_callB (lenS K) (by rfl) T.z_len PySem.boot_len (pa_cons (pe_fldK K (pv 0) rfl) pa_nil)))), ?_⟩
  obtain ⟨dx, r, fa, kvs, hx, hT, hfa, hF⟩ := id hW.at_
  obtain ⟨ra, rxs, er, hra, hrp⟩ := id hT
  cases er
  have hlen : rxs.length = n := (Paired.len hrp).trans (tab_len n f)
  refine ⟨_, rfl, x, T.C_World, dx, _, _, rfl, hx, T.cl_World, T.n_products, wf_p, r, _, rfl, .inl (sG.seq hra), ?_⟩
  rw [hlen]
  exact q
def spWProduct (K : PySem.W.Frag) (C : Addr) : Sp := fun vs H Q _ => ∃ (x : Addr) (a b : Nat) (G : Hp) (n : Nat) (f : Nat → Nat → Nat) (ns : Str → List Nat), vs = [.ref x, iv a, iv b] ∧ Same G H ∧ WorldAt K C G H x n f ns ∧ a < n ∧ b < n ∧ Q (iv (f a b)) H
theorem tab_at {G : Hp} {r : Addr} {n : Nat} {f : Nat → Nat → Nat} {a b : Nat} (hT : Table K G (.ref r) (tab n f)) (ha : a < n) (hb : b < n) : ∃ xs c ys, SqL K G r xs ∧ atI xs (a : Int) = some (.ref c) ∧ SqL K G c ys ∧ atI ys (b : Int) = some (iv (f a b)) := by
  obtain ⟨ra, rxs, er, hra, hrp⟩ := id hT
  cases er
  obtain ⟨v, hv, c, rfl, hc⟩ := Paired.get hrp (tab_get ha)
  exact ⟨rxs, c, _, hra, atN hv, hc, atN (nats_at (range_at hb))⟩
theorem ok_World_product {k : Nat} (T : Tx K mg) : FnOk P w K mg base CX0 (k + 1) T.a_World_product T.d_World_product ["self", "a", "b"] (spWProduct K T.C_World) := by
  refine T.F_World_product.ok sc_World_product (fun vs H Q E h => ?_) (fun cdv A outer s H vs Q E hr h => ?_)
  · obtain ⟨_, _, _, _, _, _, _, rfl, _⟩ := h
    rfl
  obtain ⟨x, a, b, G, n, f, ns, rfl, sG, hW, ha, hb, q⟩ := h
  refine ⟨_, (pss_one (ps_ret (pe_ix (ixL K) (pe_ix (ixL K) (pe_fldK K (pv 0) rfl) (pv 1) (fun _ _ => rfl)) (pv 2) (fun _ _ => rfl)))), ?_⟩
  obtain ⟨dx, r, fa, kvs, hx, hT, hfa, hF⟩ := id hW.at_
  obtain ⟨xs, c, ys, h1, h2, h3, h4⟩ := tab_at (Table.mono sG hT) ha hb
  exact ⟨_, rfl, x, T.C_World, dx, _, _, rfl, hx, T.cl_World, T.n_products, wf_p, _, rfl, r, _, _, _, rfl, rfl, h1, h2, _, rfl, c, _, _, _, rfl, rfl, h3, h4, q⟩
def spHas (K : PySem.W.Frag) (C : Addr) (d : Nat) : Sp := fun vs H Q _ => ∃ (x : Addr) (e : Nat) (v : V) (G : Hp) (n : Nat) (f : Nat → Nat → Nat) (ns : Str → List Nat) (s : Sen), vs = [.ref x, iv e, v] ∧ Same G H ∧ WorldAt K C G H x n f ns ∧ SenAt K G v s ∧ s.depth < d ∧ n ≤ 1000 ∧ (∀ a b, a < n → b < n → f a b < n) ∧ e < n ∧
  ∀ G' H', Stp nom G H G' H' → Q (.bl (tr n f ns s e)) H'
theorem ok_World_has {k d : Nat} (T : Tx K mg) (G_is_all_once : FnOk P w K mg base CX0 k T.a_is_all_once T.d_is_all_once ["sentence"] (spOnce K d)) (G_World_truths : FnOk P w K mg base CX0 k T.a_World_truths T.d_World_truths ["self", "sentence"] (spTruths K T.C_World d)) :
    FnOk P w K mg base CX0 (k + 1) T.a_World_has T.d_World_has ["self", "element", "sentence"] (spHas K T.C_World d) := by
  refine T.F_World_has.ok sc_World_has (fun vs H Q E h => ?_) (fun cdv A outer s H vs Q E hr h => ?_)
  · obtain ⟨_, _, _, _, _, _, _, _, rfl, _⟩ := h
    rfl
  obtain ⟨x, e, v, G, n, f, ns, t, rfl, sG, hW, hv, hd, hn, hcl, he, q⟩ := h
  refine ⟨_, (pss_cons (ps_if (pt_not (pt_val (pe_call G_is_all_once hr (by rfl) T.m_is_all_once T.F_is_all_once.kp T.b_is_all_once .nil pass0 (pa_cons (pv 2) pa_nil)))) (pss_one ps_never) pss_nil)
      (pss_one (ps_ret (pe_ix (ixL K) (pe_meth (pv 0) T.cl_World T.mt_World_truths G_World_truths hr T.b_World_truths .nil pass0 (pa_cons (pv 2) pa_nil)) (pv 1) (fun _ _ => rfl))))), ?_⟩
  refine ⟨_, rfl, v, t, G, rfl, hv, sG, hd, fun H1 s1 => ⟨_, rfl, iteF ?_⟩⟩
  have st1 : Stp nom G H G H1 := Stp.same sG s1
  obtain ⟨dx, r, fa, kvs, hx, _⟩ := id (hW.step st1).at_
  refine ⟨_, rfl, x, dx, _, rfl, hx, wf_no (by decide +kernel) (by decide +kernel), _, rfl, x, v, G, n, f, ns, t, rfl, st1.gh, hW.step st1, hv, hd, hn, hcl, fun G2 H2 r2 st2 hb => ?_⟩
  obtain ⟨p, rfl, hp⟩ := hb
  exact ⟨_, rfl, p, _, _, _, rfl, rfl, st2.gh.seq hp, atN (bools_at (range_at he)), q _ _ (st1.tr0 st2)⟩
def spFails (K : PySem.W.Frag) (C : Addr) (d : Nat) : Sp := fun vs H Q _ => ∃ (x : Addr) (v wv : V) (G : Hp) (n : Nat) (f : Nat → Nat → Nat) (ns : Str → List Nat) (m : Nat) (nm : Nat → Str) (sen : Nat → Sen) (pl : Nat → Nat) (g : Sen), vs = [.ref x, v, wv] ∧ Same G H ∧ WorldAt K C G H x n f ns ∧
  ClaimAt K G v ((List.range m).map fun i => (nm i, sen i)) g ∧ Nats K G wv ((List.range m).map pl) ∧ (∀ i, i < m → (sen i).depth < d ∧ pl i < n) ∧ g.depth < d ∧ 0 < n ∧ n ≤ 1000 ∧ m ≤ 1000 ∧ (∀ a b, a < n → b < n → f a b < n) ∧
  ∀ G' H', Stp nom G H G' H' → Q (.bl (gd n f ns sen pl m && !tr n f ns g (tot f pl m))) H'
theorem ok_World_fails {k d : Nat} (T : Tx K mg) (G_is_claim_once : FnOk P w K mg base CX0 k T.a_is_claim_once T.d_is_claim_once ["claim"] (spClaimOnce K d)) (G_World_truths : FnOk P w K mg base CX0 k T.a_World_truths T.d_World_truths ["self", "sentence"] (spTruths K T.C_World d)) :
    FnOk P w K mg base CX0 (k + 1) T.a_World_fails T.d_World_fails ["self", "claim", "places"] (spFails K T.C_World d) := by
  refine T.F_World_fails.ok sc_World_fails (fun vs H Q E h => ?_) (fun cdv A outer s H vs Q E hr h => ?_)
  · obtain ⟨_, _, _, _, _, _, _, _, _, _, _, _, rfl, _⟩ := h
    rfl
  obtain ⟨x, v, wv, G, n, f, ns, m, nm, sen, pl, g, rfl, sG, hW, hC, hP, hi, hg, hn0, hn, hm, hcl, q⟩ := h
  refine ⟨_, (pss_cons (ps_if (pt_not (pt_val (pe_call G_is_claim_once hr (by rfl) T.m_is_claim_once T.F_is_claim_once.kp T.b_is_claim_once .nil pass0 (pa_cons (pv 1) pa_nil)))) (pss_one ps_never) pss_nil)
      (pss_cons (ps_asg (pv 1) (pg_tup rfl (pgs_cons (pg_name (i := 3) sc_World_fails.nd rfl (Or.inl rfl)) (pgs_cons (pg_name (i := 4) sc_World_fails.nd rfl (Or.inl rfl)) pgs_nil))))
      (pss_cons (ps_set (i := 5) sc_World_fails.nd rfl (Or.inl rfl) pe_int)
      (pss_cons (ps_for PassesOwn.never rfl (pi_range1 (by rfl) T.z_range (pa_cons (pe_callB (lenS K) (by rfl) T.z_len PySem.boot_len (pa_cons (pv 3) pa_nil)) pa_nil)) (pg_name (i := 6) sc_World_fails.nd rfl (Or.inl rfl)) (pss_cons (ps_if (pt_not (pt_val (pe_ix (ixL K) (pe_meth (pv 0) T.cl_World T.mt_World_truths G_World_truths hr T.b_World_truths .nil pass0 (pa_cons (pe_ix (ixT K) (pe_ix (ixT K) (pv 3) (pv 6) (fun _ _ => rfl)) pe_int (fun _ _ => rfl)) pa_nil)) (pe_ix (ixL K) (pv 2) (pv 6) (fun _ _ => rfl)) (fun _ _ => rfl)))) (pss_one (ps_ret pe_bl)) pss_nil)
      (pss_one (ps_set (i := 5) sc_World_fails.nd rfl (Or.inl rfl) (pe_ix (ixL K) (pe_ix (ixL K) (pe_fldK K (pv 0) rfl) (pv 5) (fun _ _ => rfl)) (pe_ix (ixL K) (pv 2) (pv 6) (fun _ _ => rfl)) (fun _ _ => rfl))))))
      (pss_one (ps_ret (pe_not (pe_ix (ixL K) (pe_meth (pv 0) T.cl_World T.mt_World_truths G_World_truths hr T.b_World_truths .nil pass0 (pa_cons (pv 4) pa_nil)) (pv 5) (fun _ _ => rfl))))))))), ?_⟩
  refine ⟨_, rfl, v, _, g, G, rfl, sG, hC, fun h hh => ?_, hg, fun H1 s1 => ⟨_, rfl, iteF ?_⟩⟩
  · obtain ⟨i, hi', rfl⟩ := List.mem_map.mp hh
    exact (hi i (List.mem_range.mp hi')).1
  have st1 : Stp nom G H G H1 := Stp.same sG s1
  obtain ⟨a, b, y, xs, rfl, ha, hb, hp, hy⟩ := id hC
  obtain ⟨c, rfl, hc⟩ := id hP
  have hxl : xs.length = m := (Paired.len hp).trans (by rw [List.length_map, List.length_range])
  -- holds, goal = claim
  refine ⟨_, rfl, a, _, rfl, Same.tup st1.gh ha, rfl, .ref b, _, rfl, y, _, rfl, rfl, ?_⟩
  refine ⟨_, rfl, b, _, rfl, .inr (Same.tup st1.gh hb), ?_⟩
  rw [hxl]
  refine ⟨_, rfl, by omega, by omega, ?_⟩
  refine for_range (lo := 0) (n := m) (fun i σ' H' => ∃ G' z, Stp nom G H G' H' ∧ gd n f ns sen pl i = true ∧ σ' = [some (.ref x), some (.ref a), some (.ref c), some (.ref b), some y, some (iv (tot f pl i)), z]) ⟨G, none, st1, rfl, rfl⟩ ?_ ?_
  · rintro i σ' H' hi' ⟨G', z, st, hgd, rfl⟩
    rw [Int.zero_add]
    obtain ⟨dx, r, fa, kvs, hx, _⟩ := id (hW.step st).at_
    obtain ⟨u, hu, uc, uy, rfl, huc, huy⟩ := Paired.get hp (range_at hi')
    have st' := st.gg.trans st.gh
    refine ⟨_, rfl, x, dx, _, rfl, hx, wf_no (by decide +kernel) (by decide +kernel), _, rfl, _, rfl, b, _, _, _, rfl, rfl, Same.tup st' hb, atN hu, uc, _, 2, _, rfl, rfl, Same.tup st' huc, rfl, x, uy, G', n, f, ns, sen i, rfl, st.gh, hW.step st, SenAt.mono st.gg huy, (hi i hi').1, hn, hcl, fun G2 H2 r2 st2 hb2 => ?_⟩
    obtain ⟨p, rfl, hp2⟩ := hb2
    have st3 := st.tr0 st2
    have st3' := st3.gg.trans st3.gh
    refine ⟨_, rfl, _, rfl, c, _, _, _, rfl, rfl, st3'.seq hc, atN (nats_at (range_at hi')), p, _, _, _, rfl, rfl, st2.gh.seq hp2, atN (bools_at (range_at (hi i hi').2)), _, rfl, ?_⟩
    cases ht : tr n f ns (sen i) (pl i) with
    | false =>
      refine iteT ?_
      have e := q G2 H2 st3
      rw [gd_false ht hi', Bool.false_and] at e
      exact e
    | true =>
      refine iteF ?_
      obtain ⟨dx, r, fa, kvs, hx, hT, hfa, hF⟩ := id (hW.step st3).at_
      obtain ⟨xs1, c1, ys1, h1, h2, h3, h4⟩ := tab_at (Table.mono st3.gh hT) (tot_lt (m := i) hn0 hcl fun j hj => (hi j (by omega)).2) (hi i hi').2
      refine ⟨_, rfl, x, T.C_World, dx, _, _, rfl, hx, T.cl_World, T.n_products, wf_p, _, rfl, r, _, _, _, rfl, rfl, h1, h2, _, rfl, _, rfl, c, _, _, _, rfl, rfl, st3'.seq hc, atN (nats_at (range_at hi')), c1, _, _, _, rfl, rfl, h3, h4, ?_⟩
      refine ⟨G2, _, st3, ?_, rfl⟩
      show (gd n f ns sen pl i && tr n f ns (sen i) (pl i)) = true
      rw [hgd, ht]
      rfl
  · rintro σ' H' ⟨G', z, st, hgd, rfl⟩
    obtain ⟨dx, r, fa, kvs, hx, _⟩ := id (hW.step st).at_
    refine ⟨_, rfl, x, dx, _, rfl, hx, wf_no (by decide +kernel) (by decide +kernel), _, rfl, x, y, G', n, f, ns, g, rfl, st.gh, hW.step st, SenAt.mono st.gg hy, hg, hn, hcl, fun G2 H2 r2 st2 hb2 => ?_⟩
    obtain ⟨p, rfl, hp2⟩ := hb2
    refine ⟨_, rfl, p, _, _, _, rfl, rfl, st2.gh.seq hp2, atN (bools_at (range_at (tot_lt hn0 hcl fun j hj => (hi j hj).2))), _, rfl, ?_⟩
    have e := q G2 H2 (st.tr0 st2)
    rw [hgd, Bool.true_and] at e
    exact e
end
end W76
namespace W76
open PySem PySem.Spec PyProof.Rows L2 HX
/-! ### steps that draw from the pool at p -/
abbrev isP (p : Addr) : Addr → Prop := fun a => a = p
structure Pst (p : Addr) (G H G' H' : Hp) : Prop where
  stp : Stp (isP p) G H G' H'
  nog : G' p = none
  at_ : ∃ l, H' p = some (.lst l) ∧ Pool l
section
variable {p D a : Addr} {G H G1 H1 G2 H2 : Hp} {o : HO} {l : List V}
theorem Pst.start (e : Same G H) (h : G p = none) (h1 : H p = some (.lst l)) (h2 : Pool l) : Pst p G H G H := ⟨Stp.refl e, h, l, h1, h2⟩
theorem Pst.next (b : Pst p G H G1 H1) (h : Pool l) : Pst p G H G1 (upd H1 p (.lst l)) := ⟨b.stp.put (Or.inl rfl) b.nog, b.nog, l, upd_same, h⟩
theorem Pst.step (b : Pst p G H G1 H1) (s : Stp nom G1 H1 G2 H2) : Pst p G H G2 H2 := by
  obtain ⟨l, h, hl⟩ := b.at_
  exact ⟨b.stp.tr0 s, s.g0 b.nog h, l, s.un _ _ (fun z => z) h, hl⟩
theorem Pst.tr (b : Pst p G H G1 H1) (s : Pst p G1 H1 G2 H2) : Pst p G H G2 H2 := ⟨b.stp.tr s.stp, s.nog, s.at_⟩
theorem Pst.re (b : Pst p G H G1 H1) : Pst p G1 H1 G1 H1 := ⟨Stp.refl b.stp.gh, b.nog, b.at_⟩
theorem Pst.newF (b : Pst p G H G1 H1) (h : H1 a = none) : Pst p G H (upd G1 a o) (upd H1 a o) := b.step (stp_newF b.stp.gh h)
theorem Pst.newM (b : Pst p G H G1 H1) (h : H1 a = none) : Pst p G H G1 (upd H1 a o) := b.step (stp_newM b.stp.gh h)
theorem Pst.gh (b : Pst p G H G1 H1) : Same G1 H1 := b.stp.gh
theorem Pst.gg (b : Pst p G H G1 H1) : Same G G1 := b.stp.gg
theorem Pst.all (b : Pst p G H G1 H1) : Same G H1 := b.stp.gg.trans b.stp.gh
end
/-- a list that is built at D while one draws -/
structure PB {α : Type} (P : Hp → V → α → Prop) (p : Addr) (G H : Hp) (D : Addr) (ds : List α) (G' H' : Hp) : Prop where
  bld : Build P (isP p) G H D ds G' H'
  nog : G' p = none
  at_ : ∃ l, H' p = some (.lst l) ∧ Pool l
  ne : D ≠ p
section
variable {α : Type} {P : Hp → V → α → Prop} {p D a : Addr} {G H G1 H1 G2 H2 : Hp} {o : HO} {l : List V} {ds : List α}
theorem PB.start (b : Pst p G H G1 H1) (h : H1 D = none) : PB P p G H D [] G1 (upd H1 D (.lst [])) := by
  obtain ⟨l, e, hl⟩ := b.at_
  have ne : p ≠ D := ne_of_none e h
  exact ⟨Build.start b.stp h, b.nog, ⟨l, by rw [upd_ne ne]; exact e, hl⟩, Ne.symm ne⟩
theorem PB.pst (b : PB P p G H D ds G1 H1) : Pst p G H G1 H1 := ⟨b.bld.stp, b.nog, b.at_⟩
theorem PB.re (b : PB P p G H D ds G1 H1) : Pst p G1 H1 G1 H1 := b.pst.re
theorem PB.next (b : PB P p G H D ds G1 H1) (h : Pool l) : PB P p G H D ds G1 (upd H1 p (.lst l)) := by
  obtain ⟨ys, e, hp⟩ := b.bld.lst
  exact ⟨⟨b.bld.stp.put (Or.inl rfl) b.nog, b.bld.new, b.bld.nog, ys, by rw [upd_ne b.ne]; exact e, hp⟩, b.nog, ⟨l, upd_same, h⟩, b.ne⟩
theorem PB.tr (b : PB P p G H D ds G1 H1) (mono : Mono P) (s : Pst p G1 H1 G2 H2) : PB P p G H D ds G2 H2 :=
  ⟨b.bld.step mono s.stp (fun _ z => Or.inl z) b.ne, s.nog, s.at_, b.ne⟩
theorem PB.step (b : PB P p G H D ds G1 H1) (mono : Mono P) (s : Stp nom G1 H1 G2 H2) : PB P p G H D ds G2 H2 := b.tr mono (b.re.step s)
theorem PB.snoc (b : PB P p G H D ds G1 H1) {y : V} {d : α} (h : P G1 y d) : ∃ ys, H1 D = some (.lst ys) ∧ ys.length = ds.length ∧ PB P p G H D (ds ++ [d]) G1 (upd H1 D (.lst (ys ++ [y]))) := by
  obtain ⟨ys, e, hl, b2⟩ := b.bld.snoc h
  obtain ⟨l, e2, hl2⟩ := b.at_
  exact ⟨ys, e, hl, b2, b.nog, ⟨l, by rw [upd_ne (Ne.symm b.ne)]; exact e2, hl2⟩, b.ne⟩
theorem PB.done {K : PySem.W.Frag} (b : PB P p G H D ds G1 H1) (mono : Mono P) : ∃ G2, Pst p G H G2 H1 ∧ Same G1 G2 ∧ Each K P G2 (.ref D) ds := by
  obtain ⟨ys, e, hp⟩ := b.bld.lst
  have s := b.bld.stp.freeze b.bld.new b.bld.nog e
  exact ⟨upd G1 D (.lst ys), ⟨s, by rw [upd_ne (Ne.symm b.ne)]; exact b.nog, b.at_⟩, Same.new b.bld.nog, D, ys, rfl, SqL.of upd_same, Paired.mapP hp fun v d => mono _ _ v d (Same.new b.bld.nog)⟩
theorem PB.vals {ds : List V} (b : PB IsV p G H D ds G1 H1) : H1 D = some (.lst ds) := b.bld.vals
/-- a list of scalars, frozen -/
theorem PB.fin {ds : List V} (b : PB IsV p G H D ds G1 H1) : Pst p G H (upd G1 D (.lst ds)) H1 := by
  have s := b.bld.stp.freeze b.bld.new b.bld.nog b.vals
  exact ⟨s, by rw [upd_ne (Ne.symm b.ne)]; exact b.nog, b.at_⟩
end
/-! ### names -/
def Nm (x : Str) : Prop := x.length ≤ 12 ∧ ∀ c, c ∈ x.cps.toList → c < 128
theorem alpha_at {z : Str} {n d : Nat} (hz : z.length = n) (ha : z.cps.toList.all (fun c => decide (c < 128)) = true) (hd : (d : Int) < (n : Int)) : ∃ c, atI z.cps.toList (d : Int) = some c ∧ c < 128 := by
  have hl : z.cps.toList.length = n := by
    rw [← hz]
    simp [Str.length]
  have hd' : d < z.cps.toList.length := by omega
  refine ⟨z.cps.toList[d], atI_nat (List.getElem?_eq_getElem hd'), ?_⟩
  rw [List.all_eq_true] at ha
  exact of_decide_eq_true (ha _ (List.getElem_mem hd'))
theorem nm_one {c : Nat} (h : c < 128) : (⟨#[c]⟩ : Str).length = 1 ∧ ∀ b, b ∈ (⟨#[c]⟩ : Str).cps.toList → b < 128 := ⟨rfl, fun b hb => by
  rw [List.mem_singleton.mp (by simpa using hb : b ∈ [c])]
  exact h⟩
theorem spare_ok : ∀ j : Fin 64, Nm (("spare" : Str) ++ (toString (j.val : Int) : String)) := by
  have h : ∀ j : Fin 64, (decide ((("spare" : Str) ++ (toString (j.val : Int) : String) : Str).length ≤ 12) && (("spare" : Str) ++ (toString (j.val : Int) : String) : Str).cps.toList.all (fun c => decide (c < 128))) = true := by decide +kernel
  intro j
  have := h j
  rw [Bool.and_eq_true, List.all_eq_true] at this
  exact ⟨of_decide_eq_true this.1, fun c hc => of_decide_eq_true (this.2 c hc)⟩
section
variable {P : Program} {w : World} {K : PySem.W.Frag} {mg : Str → Option Value} {base : Heap}
def spNames (K : PySem.W.Frag) : Sp := fun vs H Q _ => ∃ (p : Addr) (n : Nat) (G : Hp), vs = [.ref p, iv n] ∧ 0 < n ∧ n ≤ 40 ∧ Pst p G H G H ∧ ∀ G' H' r ss, Pst p G H G' H' → Strs K G' r ss → ss.length = n → (∀ x, x ∈ ss → Nm x) → Q r H'
theorem ok_law_names {k : Nat} (T : Tx K mg) (G_law_next : FnOk P w K mg base CX0 k T.a_law_next T.d_law_next ["pool", "many"] spNext) : FnOk P w K mg base CX0 (k + 1) T.a_law_names T.d_law_names ["pool", "many"] (spNames K) := by
  refine T.F_law_names.ok sc_law_names (fun vs H Q E h => ?_) (fun cdv A outer s H vs Q E hr h => ?_)
  · obtain ⟨_, _, _, rfl, _⟩ := h
    rfl
  obtain ⟨p, n, G, rfl, hn0, hn, hP, q⟩ := h
  refine ⟨_, (pss_cons (ps_set (i := 2) sc_law_names.nd rfl (Or.inl rfl) (pe_lst pa_nil))
      (pss_cons (ps_for PassesOwn.never rfl (pi_range1 (by rfl) T.z_range (pa_cons (pv 1) pa_nil)) (pg_name (i := 3) sc_law_names.nd rfl (Or.inl rfl)) (pss_cons (ps_set (i := 4) sc_law_names.nd rfl (Or.inl rfl) (pe_ix ix_str pe_str (pe_call G_law_next hr (by rfl) T.m_law_next T.F_law_next.kp T.b_law_next .nil pass0 (pa_cons (pv 0) (pa_cons pe_int pa_nil))) (fun _ _ => rfl)))
      (pss_cons (ps_for PassesOwn.never rfl (pi_range1 (by rfl) T.z_range (pa_cons (pe_call G_law_next hr (by rfl) T.m_law_next T.F_law_next.kp T.b_law_next .nil pass0 (pa_cons (pv 0) (pa_cons pe_int pa_nil))) pa_nil)) (pg_name (i := 5) sc_law_names.nd rfl (Or.inl rfl)) (pss_one (ps_set (i := 4) sc_law_names.nd rfl (Or.inl rfl) (pe_op op_add_str (pv 4) (pe_ix ix_str pe_str (pe_call G_law_next hr (by rfl) T.m_law_next T.F_law_next.kp T.b_law_next .nil pass0 (pa_cons (pv 0) (pa_cons pe_int pa_nil))) (fun _ _ => rfl))))))
      (pss_cons (ps_for PassesOwn.never rfl (pi_range1 (by rfl) T.z_range (pa_cons (pe_op op_add (pv 1) pe_int) pa_nil)) (pg_name (i := 5) sc_law_names.nd rfl (Or.inl rfl)) (pss_one (ps_if (pt_cmpR (inS K) (pv 4) (pv 2) (by rfl)) (pss_one (ps_set (i := 4) sc_law_names.nd rfl (Or.inl rfl) (pe_op op_add_str pe_str (pe_callTy call_str_int (by rfl) T.z_str (by decide +kernel) (pa_cons (pv 5) pa_nil))))) pss_nil)))
      (pss_one (ps_expr (pe_bm PySem.F.plainAttrs_list PySem.F.slot_list_append PySem.F.type_list_append mt_append (pv 2) (pa_cons (pv 4) pa_nil))))))))
      (pss_one (ps_ret (pv 2))))), ?_⟩
  refine ⟨Nat.zero_le _, fun D nD => ?_⟩
  refine ⟨_, rfl, _, rfl, by omega, by omega, ?_⟩
  refine for_range (lo := 0) (n := n) (fun i σ' H' => ∃ ss z1 z2 z3, PB IsV p G H D (ss.map V.str) G H' ∧ ss.length = i ∧ (∀ x, x ∈ ss → Nm x) ∧ σ' = [some (.ref p), some (iv n), some (.ref D), z1, z2, z3]) ⟨[], none, none, none, PB.start hP nD, rfl, fun x hx => (by cases hx), rfl⟩ ?_ ?_
  · rintro i σ' H' hi ⟨ss, z1, z2, z3, b, hl, hnm, rfl⟩
    rw [Int.zero_add]
    obtain ⟨l, hpl, hl1⟩ := b.at_
    refine ⟨_, rfl, p, l, 26, rfl, hpl, hl1, by decide, by decide, fun d l' hl' hd => ?_⟩
    have b1 := b.next hl'
    obtain ⟨c, hc1, hc2⟩ := alpha_at (z := "abcdefghijklmnopqrstuvwxyz") (n := 26) (by decide +kernel) (by decide +kernel) hd
    refine ⟨_, _, c, rfl, rfl, (by show 26 ≤ sizeLine; decide), hc1, ?_⟩
    obtain ⟨l2, hpl2, hl2⟩ := b1.at_
    refine ⟨_, rfl, p, l2, 12, rfl, hpl2, hl2, by decide, by decide, fun d2 l3 hl3 hd2 => ?_⟩
    have b2 := b1.next hl3
    refine ⟨_, rfl, by omega, by omega, ?_⟩
    refine for_range (lo := 0) (n := d2) (fun j σ' H' => ∃ x z1, PB IsV p G H D (ss.map V.str) G H' ∧ x.length ≤ 1 + j ∧ (∀ c, c ∈ x.cps.toList → c < 128) ∧ σ' = [some (.ref p), some (iv n), some (.ref D), some (iv i), some (.str x), z1]) ⟨_, z3, b2, Nat.le_refl _, (nm_one hc2).2, rfl⟩ ?_ ?_
    · rintro j σ' H' hj ⟨x, z1, b, hx1, hx2, rfl⟩
      rw [Int.zero_add]
      obtain ⟨l, hpl, hl1⟩ := b.at_
      refine ⟨_, rfl, _, rfl, p, l, 36, rfl, hpl, hl1, by decide, by decide, fun d l' hl' hd => ?_⟩
      obtain ⟨c, hc1, hc2⟩ := alpha_at (z := "abcdefghijklmnopqrstuvwxyz0123456789") (n := 36) (by decide +kernel) (by decide +kernel) hd
      have len : (x ++ (⟨#[c]⟩ : Str)).length = x.length + 1 := Str.length_append _ _
      have hj' : j < 12 := by omega
      refine ⟨_, _, c, rfl, rfl, (by show 36 ≤ sizeLine; decide), hc1, _, _, rfl, rfl, ?_, x ++ ⟨#[c]⟩, _, b.next hl', by rw [len]; omega, fun e he => ?_, rfl⟩
      · show x.length + 1 ≤ sizeLine
        exact sz1 (by omega)
      · rcases mem_cps_append.mp he with he | he
        · exact hx2 e he
        · exact (nm_one hc2).2 e he
    rintro σ' H2 ⟨x, z1, b3, hx1, hx2, rfl⟩
    have hnx : Nm x := ⟨by omega, hx2⟩
    refine ⟨_, rfl, _, _, rfl, rfl, _, rfl, by omega, by omega, ?_⟩
    refine for_range (lo := 0) (n := n + 1) (fun j σ' H' => H' = H2 ∧ ∃ x z1, Nm x ∧ σ' = [some (.ref p), some (iv n), some (.ref D), some (iv i), some (.str x), z1]) ⟨rfl, x, _, hnx, rfl⟩ ?_ ?_
    · rintro j σ' H' hj ⟨rfl, x, z1, hx, rfl⟩
      rw [Int.zero_add]
      refine ⟨_, rfl, _, rfl, D, _, rfl, .inl (SqL.of b3.vals), rfl, ?_, _, rfl, ?_⟩
      · rw [List.all_eq_true]
        intro v hv
        obtain ⟨y, _, rfl⟩ := List.mem_map.mp hv
        rfl
      · cases hb : inV (.str x) (ss.map V.str) with
        | true =>
          have e : Nm (("spare" : Str) ++ (toString (j : Int) : String)) := spare_ok ⟨j, by omega⟩
          refine ⟨_, rfl, _, rfl, ?_, _, _, rfl, rfl, ?_, rfl, _, _, e, rfl⟩
          · show (j : Int).natAbs.log2 < 1920
            have h1 : (j : Int).natAbs ≠ 0 → (j : Int).natAbs.log2 ≤ (j : Int).natAbs := fun h => Nat.log2_le_self _
            by_cases h0 : (j : Int).natAbs = 0
            · rw [h0]
              decide
            · have := h1 h0
              omega
          · have := e.1
            rw [Str.length_append] at this
            exact sz1 (by omega)
        | false => exact ⟨rfl, x, _, hx, rfl⟩
    rintro σ' H3 ⟨rfl, x, z1, hx, rfl⟩
    obtain ⟨ys, e, hl2, b4⟩ := b3.snoc (y := V.str x) rfl
    refine ⟨_, rfl, .inl ⟨rfl, _, SqL.of e⟩, _, rfl, D, ys, _, rfl, rfl, e, sz2 (by rw [hl2, List.length_map]; omega), ?_⟩
    refine ⟨ss ++ [x], _, _, _, ?_, ?_, ?_, rfl⟩
    · rw [List.map_append]
      exact b4
    · rw [List.length_append, hl]
      rfl
    · intro y hy
      rcases List.mem_append.mp hy with hy | hy
      · exact hnm y hy
      · rw [List.mem_singleton.mp hy]
        exact hx
  · rintro σ' H' ⟨ss, z1, z2, z3, b, hl, hnm, rfl⟩
    exact ⟨_, rfl, q _ H' (.ref D) ss b.fin ⟨D, rfl, SqL.of upd_same⟩ hl hnm⟩
/-! ### the table -/
def spTable (K : PySem.W.Frag) : Sp := fun vs H Q _ => ∃ (form n : Nat) (G : Hp), vs = [iv form, iv n] ∧ 0 < n ∧ n ≤ 1000 ∧ Same G H ∧ ∀ G' H' r, Stp nom G H G' H' → Table K G' r (tab n (pr form n)) → Q r H'
theorem ok_law_table {k : Nat} (T : Tx K mg) (G_law_product : FnOk P w K mg base CX0 k T.a_law_product T.d_law_product ["form", "many", "a", "b"] spProduct) : FnOk P w K mg base CX0 (k + 1) T.a_law_table T.d_law_table ["form", "many"] (spTable K) := by
  refine T.F_law_table.ok sc_law_table (fun vs H Q E h => ?_) (fun cdv A outer s H vs Q E hr h => ?_)
  · obtain ⟨_, _, _, rfl, _⟩ := h
    rfl
  obtain ⟨form, n, G, rfl, hn0, hn, sG, q⟩ := h
  refine ⟨_, (pss_one (ps_ret (pe_lc (own := [("a", 2)]) (g := gName 2) (by rfl) sc_law_table.nd (pi_range1 (by rfl) T.z_range (pa_cons (pv 1) pa_nil)) (blkOk_by (own := [("a", 2)]) (N := ["form", "many", "a", "b"]) (sc := defScope s_law_table) (by decide +kernel)) (fun _ _ _ _ _ => (pg_name (i := 2) sc_law_table.nd rfl (Or.inr rfl))) (fun _ _ _ _ _ => pts_nil) (fun _ _ _ _ _ => (pe_lc (own := [("b", 3)]) (g := gName 3) (by rfl) sc_law_table.nd (pi_range1 (by rfl) T.z_range (pa_cons (pv 1) pa_nil)) (blkOk_by (own := [("b", 3)]) (by first | rfl | decide +kernel | kernel_rfl)) (fun _ _ _ _ _ => (pg_name (i := 3) sc_law_table.nd rfl (Or.inl rfl))) (fun _ _ _ _ _ => pts_nil) (fun _ _ _ _ _ => (pe_call G_law_product hr (by rfl) T.m_law_product T.F_law_product.kp T.b_law_product .nil pass0 (pa_cons (pv 0) (pa_cons (pv 1) (pa_cons (pv 2) (pa_cons (pv 3) pa_nil))))))))))), ?_⟩
  refine ⟨_, rfl, _, rfl, by omega, by omega, fun D nD => ?_⟩
  refine lc_range (lo := 0) (n := n) (fun i H' => ∃ G', Build (Nats K) nom G H D ((List.range i).map fun a => (List.range n).map (pr form n a)) G' H') ⟨G, Build.start (Stp.refl sG) nD⟩ ?_ ?_
  · rintro i H' hi ⟨G', b⟩
    rw [Int.zero_add]
    refine ⟨rfl, ?_⟩
    refine ⟨_, rfl, _, rfl, by omega, by omega, fun D2 nD2 => ?_⟩
    refine lc_range (lo := 0) (n := n) (fun j H2 => Build IsV nom G' H' D2 ((List.range j).map fun c => iv (pr form n i c)) G' H2) (Build.start (Stp.refl b.stp.gh) nD2) ?_ ?_
    · rintro j H2 hj b2
      rw [Int.zero_add]
      refine ⟨rfl, ?_⟩
      refine ⟨_, rfl, _, rfl, _, rfl, _, rfl, form, n, i, j, rfl, hn0, ?_⟩
      obtain ⟨ys, e, hl, b3⟩ := b2.snoc (y := iv (pr form n i j)) rfl
      refine ⟨ys, e, ?_, ?_⟩
      · rw [hl, List.length_map, List.length_range]
        exact sz2 (by omega)
      · rw [range_snoc]
        exact b3
    · intro H2 b2
      have hD := b2.vals
      have fr := b2.stp.freeze b2.new b2.nog hD
      have b3 := b.step0 mono_nats fr
      have hN : Nats K (upd G' D2 (.lst ((List.range n).map fun c => iv (pr form n i c)))) (.ref D2) ((List.range n).map (pr form n i)) := ⟨D2, rfl, SqL.of (by rw [upd_same, List.map_map]; rfl)⟩
      obtain ⟨ys, e, hl, b4⟩ := b3.snoc (y := V.ref D2) hN
      refine ⟨ys, e, ?_, upd G' D2 (.lst ((List.range n).map fun c => iv (pr form n i c))), ?_⟩
      · rw [hl, List.length_map, List.length_range]
        exact sz2 (by omega)
      · rw [range_snoc]
        exact b4
  · rintro H' ⟨G', b⟩
    obtain ⟨G2, s, _, ht⟩ := b.done (K := K) mono_nats
    exact q G2 H' _ s ht
end
end W76
namespace HX
open PySem PySem.Spec PyProof.Rows L2
theorem FactsL.nil {K : PySem.W.Frag} {G : Hp} : FactsL K G [] (fun _ => []) := ⟨by decide, List.nodup_nil, fun p z => (by cases z), fun x v z => (by cases z), fun _ _ => rfl⟩
def putN (ns : Str → List Nat) (x : Str) (l : List Nat) : Str → List Nat := fun y => if y = x then l else ns y
theorem FactsL.put {K : PySem.W.Frag} {G : Hp} {kvs : List (Key × V)} {ns : Str → List Nat} {x : Str} {v : V} {l : List Nat} (h : FactsL K G kvs ns) (few : kvs.length ≤ 6) (hx : x.length ≤ 12 ∧ ∀ c, c ∈ x.cps.toList → c < 128) (hv : Nats K G v l) (hl : l.length ≤ 50) (ha : ∀ j, j ∈ l → j < 64) :
    FactsL K G (putK kvs (Sum.inr x) v) (putN ns x l) := by
  refine ⟨?_, nodup_putK _ _ h.nd, ?_, ?_, ?_⟩
  · have := length_putK kvs (Sum.inr x : Key) v
    omega
  · intro p hp
    rcases mem_putK hp with e | hp
    · subst e
      exact ⟨x, rfl, hx⟩
    · exact h.keys p hp
  · intro y u hy
    rw [valV_put] at hy
    unfold putN
    by_cases e : y = x
    · subst e
      rw [if_pos rfl] at hy ⊢
      cases hy
      exact ⟨hv, hl, ha⟩
    · rw [if_neg (fun z => e (Sum.inr.inj z))] at hy
      rw [if_neg e]
      exact h.val y u hy
  · intro y hy
    rw [valV_put] at hy
    unfold putN
    by_cases e : y = x
    · subst e
      rw [if_pos rfl] at hy
      cases hy
    · rw [if_neg (fun z => e (Sum.inr.inj z))] at hy
      rw [if_neg e]
      exact h.non y hy
end HX
namespace W76
open PySem PySem.Spec PyProof.Rows L2 HX
/-- a dict of lists that is built at F while one draws -/
structure FD (K : PySem.W.Frag) (p : Addr) (G H : Hp) (F : Addr) (kvs : List (Key × V)) (ns : Str → List Nat) (G' H' : Hp) : Prop where
  pst : Pst p G H G' H'
  new : H F = none
  nog : G' F = none
  ne : F ≠ p
  at_ : H' F = some (.dK kvs)
  facts : FactsL K G' kvs ns
section
variable {K : PySem.W.Frag} {p F : Addr} {G H G1 H1 G2 H2 : Hp} {kvs : List (Key × V)} {ns : Str → List Nat}
theorem FD.start (b : Pst p G H G1 H1) (h : H1 F = none) : FD K p G H F [] (fun _ => []) G1 (upd H1 F (.dK [])) := by
  obtain ⟨l, e, hl⟩ := b.at_
  have ne : p ≠ F := ne_of_none e h
  exact ⟨b.newM h, b.stp.was h, Same.none b.gh h, Ne.symm ne, upd_same, FactsL.nil⟩
theorem FD.tr (b : FD K p G H F kvs ns G1 H1) (s : Pst p G1 H1 G2 H2) : FD K p G H F kvs ns G2 H2 :=
  ⟨b.pst.tr s, b.new, s.stp.g0 b.nog b.at_, b.ne, s.stp.un F _ b.ne b.at_, b.facts.mono s.gg⟩
theorem FD.put (b : FD K p G H F kvs ns G1 H1) {x : Str} {v : V} {l : List Nat} (few : kvs.length ≤ 6) (hx : Nm x) (hv : Nats K G1 v l) (hl : l.length ≤ 50) (ha : ∀ j, j ∈ l → j < 64) :
    FD K p G H F (putK kvs (Sum.inr x) v) (putN ns x l) G1 (upd H1 F (.dK (putK kvs (Sum.inr x) v))) := by
  obtain ⟨l', e, hl'⟩ := b.pst.at_
  exact ⟨⟨b.pst.stp.put (Or.inr b.new) b.nog, b.pst.nog, l', by rw [upd_ne (Ne.symm b.ne)]; exact e, hl'⟩, b.new, b.nog, b.ne, upd_same, b.facts.put few hx hv hl ha⟩
end
section
variable {P : Program} {w : World} {K : PySem.W.Frag} {mg : Str → Option Value} {base : Heap}
theorem strs_of {ss : List Str} {i : Nat} {v : V} (h : (ss.map V.str)[i]? = some v) : ∃ x, ss[i]? = some x ∧ v = V.str x := by
  rw [List.getElem?_map] at h
  cases e : ss[i]? with
  | none =>
    rw [e] at h
    cases h
  | some x =>
    rw [e] at h
    exact ⟨x, rfl, (Option.some.inj h).symm⟩
def spFacts (K : PySem.W.Frag) : Sp := fun vs H Q _ => ∃ (p : Addr) (n : Nat) (wv : V) (ss : List Str) (G : Hp), vs = [.ref p, iv n, wv] ∧ 0 < n ∧ n ≤ 50 ∧ Pst p G H G H ∧ Strs K G wv ss ∧ ss.length ≤ 6 ∧ (∀ x, x ∈ ss → Nm x) ∧
  ∀ F G' H' kvs ns, FD K p G H F kvs ns G' H' → (∀ x j, j ∈ ns x → j < n) → kvs.length ≤ 6 → Q (.ref F) H'
theorem ok_law_facts {k : Nat} (T : Tx K mg) (G_law_next : FnOk P w K mg base CX0 k T.a_law_next T.d_law_next ["pool", "many"] spNext) : FnOk P w K mg base CX0 (k + 1) T.a_law_facts T.d_law_facts ["pool", "many", "words"] (spFacts K) := by
  refine T.F_law_facts.ok sc_law_facts (fun vs H Q E h => ?_) (fun cdv A outer s H vs Q E hr h => ?_)
  · obtain ⟨_, _, _, _, _, rfl, _⟩ := h
    rfl
  obtain ⟨p, n, wv, ss, G, rfl, hn0, hn, hP, ⟨wa, rfl, hw⟩, hs6, hnm, q⟩ := h
  have hu := hu_of hr
  refine ⟨_, (pss_cons (ps_set (i := 3) sc_law_facts.nd rfl (Or.inl rfl) pe_dnewK)
      (pss_cons (ps_for PassesOwn.never rfl (piL K (pv 2)) (pg_name (i := 4) sc_law_facts.nd rfl (Or.inl rfl)) (pss_cons (ps_set (i := 5) sc_law_facts.nd rfl (Or.inl rfl) (pe_call G_law_next hr (by rfl) T.m_law_next T.F_law_next.kp T.b_law_next .nil pass0 (pa_cons (pv 0) (pa_cons pe_int pa_nil))))
      (pss_cons (ps_set (i := 6) sc_law_facts.nd rfl (Or.inr rfl) (pe_call G_law_next hr (by rfl) T.m_law_next T.F_law_next.kp T.b_law_next .nil pass0 (pa_cons (pv 0) (pa_cons (pv 1) pa_nil))))
      (pss_one (ps_if (pt_cmpR op_eq (pv 5) pe_int (nomark _)) (pss_one (ps_dput hu (pv 3) (pv 4) (pe_lc (own := [("k", 7)]) (g := gName 7) (by rfl) sc_law_facts.nd (pi_range1 (by rfl) T.z_range (pa_cons (pv 1) pa_nil)) (blkOk_by (own := [("k", 7)]) (N := ["pool", "many", "words", "facts", "word", "pick", "first", "k"]) (sc := defScope s_law_facts) (by decide +kernel)) (fun _ _ _ _ _ => (pg_name (i := 7) sc_law_facts.nd rfl (Or.inl rfl))) (fun _ _ _ _ _ => (pts_one (pt_cmpR op_ge (pv 7) (pv 6) (nomark _)))) (fun _ _ _ _ _ => (pv 7))) rfl)) (pss_one (ps_if (pt_cmpR op_eq (pv 5) pe_int (nomark _)) (pss_one (ps_dput hu (pv 3) (pv 4) (pe_lc (own := [("k", 7)]) (g := gName 7) (by rfl) sc_law_facts.nd (pi_range1 (by rfl) T.z_range (pa_cons (pv 1) pa_nil)) (blkOk_by (own := [("k", 7)]) (N := ["pool", "many", "words", "facts", "word", "pick", "first", "k"]) (sc := defScope s_law_facts) (by decide +kernel)) (fun _ _ _ _ _ => (pg_name (i := 7) sc_law_facts.nd rfl (Or.inl rfl))) (fun _ _ _ _ _ => (pts_one (pt_cmpR op_ne (pv 7) (pv 6) (nomark _)))) (fun _ _ _ _ _ => (pe_op op_sub (pe_op op_sub (pv 1) pe_int) (pv 7)))) rfl)) (pss_one (ps_if (pt_cmpR op_eq (pv 5) pe_int (nomark _)) (pss_one (ps_dput hu (pv 3) (pv 4) (pe_lc (own := [("k", 7)]) (g := gName 7) (by rfl) sc_law_facts.nd (pi_range1 (by rfl) T.z_range (pa_cons (pv 1) pa_nil)) (blkOk_by (own := [("k", 7)]) (N := ["pool", "many", "words", "facts", "word", "pick", "first", "k"]) (sc := defScope s_law_facts) (by decide +kernel)) (fun _ _ _ _ _ => (pg_name (i := 7) sc_law_facts.nd rfl (Or.inl rfl))) (fun _ _ _ _ _ => (pts_one (pt_cmpR op_gt (pe_call G_law_next hr (by rfl) T.m_law_next T.F_law_next.kp T.b_law_next .nil pass0 (pa_cons (pv 0) (pa_cons pe_int pa_nil))) pe_int (nomark _)))) (fun _ _ _ _ _ => (pv 7))) rfl)) pss_nil)))))))))
      (pss_one (ps_ret (pv 3))))), ?_⟩
  refine fun F nF => ?_
  refine ⟨_, rfl, wa, rfl, ⟨_, (FD.start (K := K) hP nF).pst.all.seq hw⟩, ?_⟩
  refine for_list (K := K) (a := wa) (xs := ss.map V.str) (fun i σ' H' => ∃ G' kvs ns z1 z2 z3 z4, FD K p G H F kvs ns G' H' ∧ (∀ x j, j ∈ ns x → j < n) ∧ kvs.length ≤ i ∧ σ' = [some (.ref p), some (iv n), some (.ref wa), some (.ref F), z1, z2, z3, z4])
    ⟨G, [], _, none, none, none, none, FD.start hP nF, fun x j z => (by cases z), Nat.le_refl _, rfl⟩ (fun i σ' H' _ h => by
      obtain ⟨G', _, _, _, _, _, _, b, _⟩ := h
      exact b.pst.all.seq hw) ?_ ?_
  · rintro i v σ' H' hi ⟨G', kvs, ns, z1, z2, z3, z4, b, hall, hk, rfl⟩
    obtain ⟨x, hx, rfl⟩ := strs_of hi
    have hxm := hnm x (List.mem_of_getElem? hx)
    have hi6 : i < ss.length := (List.getElem?_eq_some_iff.mp hx).1
    obtain ⟨l, hp, hl⟩ := b.pst.at_
    refine ⟨_, rfl, p, l, 4, rfl, hp, hl, by decide, by decide, fun d l1 hl1 hd => ?_⟩
    have b1 := b.tr (b.pst.re.next hl1)
    obtain ⟨l2, hp2, hl2⟩ := b1.pst.at_
    refine ⟨_, rfl, _, rfl, p, l2, n, rfl, hp2, hl2, by omega, by omega, fun d2 l3 hl3 hd2 => ?_⟩
    have b2 := b1.tr (b1.pst.re.next hl3)
    generalize upd (upd H' p (.lst l1)) p (.lst l3) = H2 at b2
    -- the put
    have fin : ∀ (ls : List Nat) (D : Addr) (G3 H3 : Hp), PB IsV p G' H2 D (ls.map iv) G3 H3 → ls.length ≤ n → (∀ j, j ∈ ls → j < n) → ∃ G4 kvs2 ns2, DPut H3 F (.str x) (.ref D) (upd H3 F (.dK kvs2)) ∧ FD K p G H F kvs2 ns2 G4 (upd H3 F (.dK kvs2)) ∧ (∀ x j, j ∈ ns2 x → j < n) ∧ kvs2.length ≤ i + 1 := by
      intro ls D G3 H3 pb h1 h2
      have b3 := b2.tr pb.fin
      refine ⟨_, putK kvs (Sum.inr x) (.ref D), putN ns x ls, .inl ⟨kvs, Sum.inr x, b3.at_, rfl, sz2 (by omega), rfl⟩, b3.put (by omega) hxm ⟨D, rfl, SqL.of upd_same⟩ (by omega) (fun j hj => by have := h2 j hj; omega), fun y j hj => ?_, ?_⟩
      · unfold putN at hj
        split at hj
        · exact h2 j hj
        · exact hall y j hj
      · have := length_putK kvs (Sum.inr x : Key) (.ref D)
        omega
    have step : ∀ (i0 j : Nat) (ls : List Nat) (D : Addr) (G3 H3 : Hp), PB IsV p G' H2 D (ls.map iv) G3 H3 → ls.length ≤ i0 → i0 < n → ∃ ys, H3 D = some (.lst ys) ∧ ys.length < sizeLine ∧ PB IsV p G' H2 D ((ls ++ [j]).map iv) G3 (upd H3 D (.lst (ys ++ [iv j]))) := by
      intro i0 j ls D G3 H3 pb h1 h2
      obtain ⟨ys, e, hl, b3⟩ := pb.snoc (y := iv j) rfl
      refine ⟨ys, e, ?_, ?_⟩
      · rw [hl, List.length_map]
        exact sz2 (by omega)
      · rw [List.map_append]
        exact b3
    have snoc : ∀ (i0 j : Nat) (ls : List Nat), i0 < n → j < n → ls.length ≤ i0 → (∀ j, j ∈ ls → j < n) → (ls ++ [j]).length ≤ i0 + 1 ∧ ∀ k, k ∈ ls ++ [j] → k < n := by
      intro i0 j ls h0 h1 h2 h3
      refine ⟨by rw [List.length_append, List.length_singleton]; omega, fun k hk => ?_⟩
      rcases List.mem_append.mp hk with hk | hk
      · exact h3 k hk
      · rw [List.mem_singleton.mp hk]
        exact h1
    refine ⟨_, rfl, rfl, _, rfl, ?_⟩
    refine ite2 (fun _ => ?_) (fun _ => ?_)
    · refine ⟨_, rfl, _, rfl, by omega, by omega, fun D nD => ?_⟩
      refine lc_range (lo := 0) (n := n) (fun i0 H' => ∃ G3 ls, PB IsV p G' H2 D (ls.map iv) G3 H' ∧ ls.length ≤ i0 ∧ ∀ j, j ∈ ls → j < n) ⟨G', [], PB.start b2.pst.re nD, Nat.le_refl _, fun j z => (by cases z)⟩ ?_ ?_
      · rintro i0 H' hi0 ⟨G3, ls, pb, h1, h2⟩
        rw [Int.zero_add]
        refine ⟨rfl, ?_⟩
        refine ⟨_, rfl, _, rfl, _, _, rfl, rfl, _, rfl, ?_⟩
        refine ite2 (fun _ => ?_) (fun _ => ?_)
        · obtain ⟨ys, e, hsz, pb2⟩ := step i0 i0 ls D G3 H' pb h1 hi0
          obtain ⟨s1, s2⟩ := snoc i0 i0 ls hi0 hi0 h1 h2
          exact ⟨_, rfl, ys, e, hsz, G3, _, pb2, s1, s2⟩
        · exact ⟨G3, ls, pb, by omega, h2⟩
      · rintro H3 ⟨G3, ls, pb, h1, h2⟩
        obtain ⟨G4, kvs2, ns2, dp, fd, h3, h4⟩ := fin ls D G3 H3 pb h1 h2
        exact ⟨_, rfl, _, rfl, F, _, rfl, dp, G4, kvs2, ns2, _, _, _, _, fd, h3, h4, rfl⟩
    refine ⟨_, rfl, rfl, _, rfl, ?_⟩
    refine ite2 (fun _ => ?_) (fun _ => ?_)
    · refine ⟨_, rfl, _, rfl, by omega, by omega, fun D nD => ?_⟩
      refine lc_range (lo := 0) (n := n) (fun i0 H' => ∃ G3 ls, PB IsV p G' H2 D (ls.map iv) G3 H' ∧ ls.length ≤ i0 ∧ ∀ j, j ∈ ls → j < n) ⟨G', [], PB.start b2.pst.re nD, Nat.le_refl _, fun j z => (by cases z)⟩ ?_ ?_
      · rintro i0 H' hi0 ⟨G3, ls, pb, h1, h2⟩
        rw [Int.zero_add]
        refine ⟨rfl, ?_⟩
        refine ⟨_, rfl, _, rfl, rfl, _, rfl, ?_⟩
        refine ite2 (fun _ => ?_) (fun _ => ?_)
        · have hlt : n - 1 - i0 < n := by omega
          obtain ⟨ys, e, hsz, pb2⟩ := step i0 (n - 1 - i0) ls D G3 H' pb h1 hi0
          obtain ⟨s1, s2⟩ := snoc i0 (n - 1 - i0) ls hi0 hlt h1 h2
          refine ⟨_, rfl, _, _, rfl, rfl, _, rfl, _, _, rfl, rfl, ?_⟩
          refine ⟨ys, e, hsz, G3, ls ++ [n - 1 - i0], ?_, s1, s2⟩
          show PB IsV p G' H2 D ((ls ++ [n - 1 - i0]).map iv) G3 (upd H' D (.lst (ys ++ [V.int ((n : Int) - 1 - (i0 : Int))])))
          rw [show (n : Int) - 1 - (i0 : Int) = ((n - 1 - i0 : Nat) : Int) by omega]
          exact pb2
        · exact ⟨G3, ls, pb, by omega, h2⟩
      · rintro H3 ⟨G3, ls, pb, h1, h2⟩
        obtain ⟨G4, kvs2, ns2, dp, fd, h3, h4⟩ := fin ls D G3 H3 pb h1 h2
        exact ⟨_, rfl, _, rfl, F, _, rfl, dp, G4, kvs2, ns2, _, _, _, _, fd, h3, h4, rfl⟩
    refine ⟨_, rfl, rfl, _, rfl, ?_⟩
    refine ite2 (fun _ => ?_) (fun _ => ?_)
    · refine ⟨_, rfl, _, rfl, by omega, by omega, fun D nD => ?_⟩
      refine lc_range (lo := 0) (n := n) (fun i0 H' => ∃ G3 ls, PB IsV p G' H2 D (ls.map iv) G3 H' ∧ ls.length ≤ i0 ∧ ∀ j, j ∈ ls → j < n) ⟨G', [], PB.start b2.pst.re nD, Nat.le_refl _, fun j z => (by cases z)⟩ ?_ ?_
      · rintro i0 H' hi0 ⟨G3, ls, pb, h1, h2⟩
        rw [Int.zero_add]
        refine ⟨rfl, ?_⟩
        obtain ⟨l, hp, hl⟩ := pb.at_
        refine ⟨_, rfl, p, l, 3, rfl, hp, hl, by decide, by decide, fun d3 l4 hl4 _ => ?_⟩
        have pb := pb.next hl4
        refine ⟨_, _, rfl, rfl, _, rfl, ?_⟩
        refine ite2 (fun _ => ?_) (fun _ => ?_)
        · obtain ⟨ys, e, hsz, pb2⟩ := step i0 i0 ls D G3 _ pb h1 hi0
          obtain ⟨s1, s2⟩ := snoc i0 i0 ls hi0 hi0 h1 h2
          exact ⟨_, rfl, ys, e, hsz, G3, _, pb2, s1, s2⟩
        · exact ⟨G3, ls, pb, by omega, h2⟩
      · rintro H3 ⟨G3, ls, pb, h1, h2⟩
        obtain ⟨G4, kvs2, ns2, dp, fd, h3, h4⟩ := fin ls D G3 H3 pb h1 h2
        exact ⟨_, rfl, _, rfl, F, _, rfl, dp, G4, kvs2, ns2, _, _, _, _, fd, h3, h4, rfl⟩
    · exact ⟨G', kvs, ns, _, _, _, _, b2, hall, by omega, rfl⟩
  · rintro σ' H' ⟨G', kvs, ns, z1, z2, z3, z4, b, hall, hk, rfl⟩
    rw [List.length_map] at hk
    exact ⟨_, rfl, q F G' H' kvs ns b hall (by omega)⟩
end
end W76
namespace W76
open PySem PySem.Spec PyProof.Rows L2 HX
section
variable {P : Program} {w : World} {K : PySem.W.Frag} {mg : Str → Option Value} {base : Heap}
theorem strs_get {ss : List Str} {d : Nat} (h : (d : Int) < (((ss.map V.str).length : Nat) : Int)) : ∃ x, x ∈ ss ∧ atI (ss.map V.str) (d : Int) = some (.str x) := by
  rw [List.length_map] at h
  have hd : d < ss.length := by omega
  exact ⟨ss[d], List.getElem_mem hd, atN (strs_at (List.getElem?_eq_getElem hd))⟩
def spSentence (K : PySem.W.Frag) : Sp := fun vs H Q _ => ∃ (p : Addr) (wv : V) (d : Nat) (ss : List Str) (G : Hp), vs = [.ref p, wv, iv d] ∧ Pst p G H G H ∧ Strs K G wv ss ∧ 0 < ss.length ∧ ss.length ≤ 6 ∧ d ≤ 1000 ∧ ∀ G' H' v s, Pst p G H G' H' → SenAt K G' v s → s.depth ≤ d → Q v H'
theorem ok_law_sentence {k : Nat} (T : Tx K mg) (G_law_next : FnOk P w K mg base CX0 k T.a_law_next T.d_law_next ["pool", "many"] spNext) : FnOk P w K mg base CX0 (k + 1) T.a_law_sentence T.d_law_sentence ["pool", "words", "depth"] (spSentence K) := by
  refine T.F_law_sentence.ok sc_law_sentence (fun vs H Q E h => ?_) (fun cdv A outer s H vs Q E hr h => ?_)
  · obtain ⟨_, _, _, _, _, rfl, _⟩ := h
    rfl
  obtain ⟨p, wv, d, ss, G, rfl, hP, ⟨wa, rfl, hw⟩, hs0, hs6, hd, q⟩ := h
  refine ⟨_, (pss_cons (ps_set (i := 3) sc_law_sentence.nd rfl (Or.inl rfl) (pe_tup (pa_cons pe_str (pa_cons (pe_ix (ixL K) (pv 1) (pe_call G_law_next hr (by rfl) T.m_law_next T.F_law_next.kp T.b_law_next .nil pass0 (pa_cons (pv 0) (pa_cons (pe_callB (lenS K) (by rfl) T.z_len PySem.boot_len (pa_cons (pv 1) pa_nil)) pa_nil))) (fun _ _ => rfl)) pa_nil))))
      (pss_cons (ps_for PassesOwn.never rfl (pi_range1 (by rfl) T.z_range (pa_cons (pv 2) pa_nil)) (pg_name (i := 4) sc_law_sentence.nd rfl (Or.inl rfl)) (pss_cons (ps_set (i := 5) sc_law_sentence.nd rfl (Or.inl rfl) (pe_tup (pa_cons pe_str (pa_cons (pe_ix (ixL K) (pv 1) (pe_call G_law_next hr (by rfl) T.m_law_next T.F_law_next.kp T.b_law_next .nil pass0 (pa_cons (pv 0) (pa_cons (pe_callB (lenS K) (by rfl) T.z_len PySem.boot_len (pa_cons (pv 1) pa_nil)) pa_nil))) (fun _ _ => rfl)) pa_nil))))
      (pss_cons (ps_set (i := 6) sc_law_sentence.nd rfl (Or.inl rfl) (pe_call G_law_next hr (by rfl) T.m_law_next T.F_law_next.kp T.b_law_next .nil pass0 (pa_cons (pv 0) (pa_cons pe_int pa_nil))))
      (pss_one (ps_if (pt_cmpR op_eq (pv 6) pe_int (nomark _)) (pss_one (ps_set (i := 3) sc_law_sentence.nd rfl (Or.inl rfl) (pe_tup (pa_cons pe_str (pa_cons (pv 3) (pa_cons (pv 5) pa_nil)))))) (pss_one (ps_if (pt_cmpR op_eq (pv 6) pe_int (nomark _)) (pss_one (ps_set (i := 3) sc_law_sentence.nd rfl (Or.inl rfl) (pe_tup (pa_cons pe_str (pa_cons (pv 5) (pa_cons (pv 3) pa_nil)))))) (pss_one (ps_if (pt_cmpR op_eq (pv 6) pe_int (nomark _)) (pss_one (ps_set (i := 3) sc_law_sentence.nd rfl (Or.inl rfl) (pe_tup (pa_cons pe_str (pa_cons pe_str (pa_cons (pv 5) (pa_cons (pv 3) pa_nil))))))) (pss_one (ps_if (pt_cmpR op_eq (pv 6) pe_int (nomark _)) (pss_one (ps_set (i := 3) sc_law_sentence.nd rfl (Or.inl rfl) (pe_tup (pa_cons pe_str (pa_cons pe_str (pa_cons (pv 3) (pa_cons (pv 5) pa_nil))))))) (pss_cons (ps_set (i := 3) sc_law_sentence.nd rfl (Or.inl rfl) (pe_tup (pa_cons pe_str (pa_cons pe_str (pa_cons (pv 3) (pa_cons (pv 3) pa_nil))))))
      (pss_one (ps_if (pt_cmpR op_gt (pv 2) pe_int (nomark _)) (pss_one (ps_set (i := 3) sc_law_sentence.nd rfl (Or.inl rfl) (pe_tup (pa_cons pe_str (pa_cons pe_str (pa_cons (pv 5) (pa_cons (pe_ix (ixT K) (pv 3) pe_int (fun _ _ => rfl)) pa_nil))))))) pss_nil))))))))))))))
      (pss_one (ps_ret (pv 3))))), ?_⟩
  have hpos : (0 : Int) < (((ss.map V.str).length : Nat) : Int) ∧ (((ss.map V.str).length : Nat) : Int) < 1000000 := by
    rw [List.length_map]
    omega
  obtain ⟨l, hp, hl⟩ := hP.at_
  refine ⟨_, rfl, _, rfl, _, rfl, wa, _, rfl, .inl (hP.all.seq hw), p, l, _, rfl, hp, hl, hpos.1, hpos.2, fun d1 l1 hl1 hd1 => ?_⟩
  have b1 := hP.next hl1
  obtain ⟨x, hx, hxa⟩ := strs_get hd1
  refine ⟨wa, _, _, _, rfl, rfl, b1.all.seq hw, hxa, (by show 2 ≤ sizeLine; decide), fun t nt => ?_⟩
  refine ⟨_, rfl, _, rfl, by omega, by omega, ?_⟩
  refine for_range (lo := 0) (n := d) (fun i σ' H' => ∃ G' v s z1 z2 z3, Pst p G H G' H' ∧ SenAt K G' v s ∧ s.depth ≤ i ∧ σ' = [some (.ref p), some (.ref wa), some (iv d), some v, z1, z2, z3])
    ⟨_, .ref t, .word x, none, none, none, b1.newF nt, ⟨t, rfl, .inl (.inl upd_same)⟩, Nat.le_refl _, rfl⟩ ?_ ?_
  · rintro i σ' H' hi ⟨G', v, s, z1, z2, z3, b, hv, hsd, rfl⟩
    rw [Int.zero_add]
    obtain ⟨l, hp, hl⟩ := b.at_
    refine ⟨_, rfl, _, rfl, _, rfl, wa, _, rfl, .inl (b.all.seq hw), p, l, _, rfl, hp, hl, hpos.1, hpos.2, fun d1 l1 hl1 hd1 => ?_⟩
    have b1 := b.next hl1
    obtain ⟨x, hx, hxa⟩ := strs_get hd1
    refine ⟨wa, _, _, _, rfl, rfl, b1.all.seq hw, hxa, (by show 2 ≤ sizeLine; decide), fun t nt => ?_⟩
    have b2 := b1.newF (o := .tup [.str "word", .str x]) nt
    have sg2 : Same G' (upd G' t (.tup [.str "word", .str x])) := Same.new (Same.none b1.gh nt)
    have hv2 := SenAt.mono sg2 hv
    have ht2 : SenAt K (upd G' t (.tup [.str "word", .str x])) (.ref t) (.word x) := ⟨t, rfl, .inl (.inl upd_same)⟩
    obtain ⟨l2, hp2, hl2⟩ := b2.at_
    refine ⟨_, rfl, p, l2, 5, rfl, hp2, hl2, by decide, by decide, fun d2 l3 hl3 hd2 => ?_⟩
    have b3 := b2.next hl3
    generalize upd (upd (upd H' p (.lst l1)) t (.tup [.str "word", .str x])) p (.lst l3) = H3 at b3
    generalize upd G' t (.tup [.str "word", .str x]) = G3 at b3 hv2 ht2
    refine ⟨_, rfl, rfl, _, rfl, ?_⟩
    refine ite2 (fun _ => ?_) (fun _ => ?_)
    · refine ⟨_, rfl, _, rfl, (by show 3 ≤ sizeLine; decide), fun u nu => ?_⟩
      have sg := Same.new (o := .tup [.str "menu", v, .ref t]) (Same.none b3.gh nu)
      exact ⟨_, .ref u, .menu s (.word x), _, _, _, b3.newF nu, ⟨u, v, .ref t, rfl, .inl (.inl upd_same), SenAt.mono sg hv2, SenAt.mono sg ht2⟩, (by show max s.depth 0 + 1 ≤ i + 1; omega), rfl⟩
    refine ⟨_, rfl, rfl, _, rfl, ?_⟩
    refine ite2 (fun _ => ?_) (fun _ => ?_)
    · refine ⟨_, rfl, _, rfl, (by show 3 ≤ sizeLine; decide), fun u nu => ?_⟩
      have sg := Same.new (o := .tup [.str "menu", .ref t, v]) (Same.none b3.gh nu)
      exact ⟨_, .ref u, .menu (.word x) s, _, _, _, b3.newF nu, ⟨u, .ref t, v, rfl, .inl (.inl upd_same), SenAt.mono sg ht2, SenAt.mono sg hv2⟩, (by show max 0 s.depth + 1 ≤ i + 1; omega), rfl⟩
    refine ⟨_, rfl, rfl, _, rfl, ?_⟩
    refine ite2 (fun _ => ?_) (fun _ => ?_)
    · refine ⟨_, rfl, _, rfl, (by show 4 ≤ sizeLine; decide), fun u nu => ?_⟩
      have sg := Same.new (o := .tup [.str "trade", .str "once", .ref t, v]) (Same.none b3.gh nu)
      exact ⟨_, .ref u, .trade (.word x) s, _, _, _, b3.newF nu, ⟨u, .ref t, v, rfl, .inl (.inl upd_same), SenAt.mono sg ht2, SenAt.mono sg hv2⟩, (by show max 0 s.depth + 1 ≤ i + 1; omega), rfl⟩
    refine ⟨_, rfl, rfl, _, rfl, ?_⟩
    refine ite2 (fun _ => ?_) (fun _ => ?_)
    · refine ⟨_, rfl, _, rfl, (by show 4 ≤ sizeLine; decide), fun u nu => ?_⟩
      have sg := Same.new (o := .tup [.str "trade", .str "once", v, .ref t]) (Same.none b3.gh nu)
      exact ⟨_, .ref u, .trade s (.word x), _, _, _, b3.newF nu, ⟨u, v, .ref t, rfl, .inl (.inl upd_same), SenAt.mono sg hv2, SenAt.mono sg ht2⟩, (by show max s.depth 0 + 1 ≤ i + 1; omega), rfl⟩
    refine ⟨_, rfl, _, rfl, (by show 4 ≤ sizeLine; decide), fun u nu => ?_⟩
    have sg := Same.new (o := .tup [.str "trade", .str "once", v, v]) (Same.none b3.gh nu)
    have b4 := b3.newF (o := .tup [.str "trade", .str "once", v, v]) nu
    have hv3 := SenAt.mono sg hv2
    have ht3 := SenAt.mono sg ht2
    refine ⟨_, rfl, _, _, rfl, rfl, _, rfl, ?_⟩
    refine ite2 (fun _ => ?_) (fun _ => ?_)
    · refine ⟨_, rfl, _, rfl, u, _, 3, _, rfl, rfl, .inl (.inl upd_same), rfl, (by show 4 ≤ sizeLine; decide), fun r nr => ?_⟩
      have sg2 := Same.new (o := .tup [.str "trade", .str "once", .ref t, v]) (Same.none b4.gh nr)
      exact ⟨_, .ref r, .trade (.word x) s, _, _, _, b4.newF nr, ⟨r, .ref t, v, rfl, .inl (.inl upd_same), SenAt.mono sg2 ht3, SenAt.mono sg2 hv3⟩, (by show max 0 s.depth + 1 ≤ i + 1; omega), rfl⟩
    · exact ⟨_, .ref u, .trade s s, _, _, _, b4, ⟨u, v, v, rfl, .inl (.inl upd_same), hv3, hv3⟩, (by show max s.depth s.depth + 1 ≤ i + 1; omega), rfl⟩
  · rintro σ' H' ⟨G', v, s, z1, z2, z3, b, hv, hsd, rfl⟩
    exact ⟨_, rfl, q G' H' v s b hv hsd⟩
end
end W76
namespace W76
open PySem PySem.Spec PyProof.Rows L2 HX
theorem filter_none {n : Nat} {p q : Nat → Bool} : (((((List.range n).filter p).filter fun v => !q v).map iv).length = 0) ↔ ((List.range n).all fun v => !p v || q v) = true := by
  rw [List.length_map, List.length_eq_zero_iff, List.filter_eq_nil_iff, List.all_eq_true]
  constructor
  · intro h v hv
    cases hp : p v with
    | false => rfl
    | true =>
      have := h v (List.mem_filter.mpr ⟨hv, hp⟩)
      cases hq : q v with
      | true => rfl
      | false =>
        rw [hq] at this
        exact absurd rfl this
  · intro h v hv
    obtain ⟨h1, h2⟩ := List.mem_filter.mp hv
    have := h v h1
    rw [h2] at this
    cases hq : q v with
    | true => exact Bool.false_ne_true
    | false =>
      rw [hq] at this
      cases this
section
variable {P : Program} {w : World} {K : PySem.W.Frag} {mg : Str → Option Value} {base : Heap}
def spTrue (K : PySem.W.Frag) (d : Nat) : Sp := fun vs H Q _ => ∃ (tv : V) (fa : Addr) (v : V) (G : Hp) (n : Nat) (f : Nat → Nat → Nat) (kvs : List (Key × V)) (ns : Str → List Nat) (s : Sen), vs = [tv, .ref fa, v] ∧ Same G H ∧ Table K G tv (tab n f) ∧ H fa = some (.dK kvs) ∧ FactsL K G kvs ns ∧ SenAt K G v s ∧ s.depth < d ∧ n ≤ 1000 ∧ (∀ a b, a < n → b < n → f a b < n) ∧
  ∀ G' H' r, Stp nom G H G' H' → Bools K G' r (trs n f ns s) → Q r H'
theorem zero_true (T : Tx K mg) : FnOk P w K mg base CX0 0 T.a_law_true T.d_law_true ["table", "facts", "sentence"] (spTrue K 0) := by
  have no : ∀ vs H Q E, ¬ spTrue K 0 vs H Q E := fun vs H Q E h => by
    obtain ⟨_, _, _, _, _, _, _, _, _, _, _, _, _, _, _, h, _⟩ := h
    omega
  exact ⟨fun vs H Q E h => absurd h (no vs H Q E), fun A outer s H args us vs Q E _ _ _ _ h => absurd h (no vs H Q E)⟩
theorem step_true {k d : Nat} (T : Tx K mg) (G_law_true : FnOk P w K mg base CX0 k T.a_law_true T.d_law_true ["table", "facts", "sentence"] (spTrue K d)) : FnOk P w K mg base CX0 (k + 1) T.a_law_true T.d_law_true ["table", "facts", "sentence"] (spTrue K (d + 1)) := by
  refine T.F_law_true.ok sc_law_true (fun vs H Q E h => ?_) (fun cdv A outer s H vs Q E hr h => ?_)
  · obtain ⟨_, _, _, _, _, _, _, _, _, rfl, _⟩ := h
    rfl
  obtain ⟨tv, fa, v, G, n, f, kvs, ns, t, rfl, sG, hT, hfa, hF, hv, hd, hn, hcl, q⟩ := h
  have hu := hu_of hr
  refine ⟨_, (pss_cons (ps_set (i := 3) sc_law_true.nd rfl (Or.inl rfl) (pe_callB (lenS K) (by rfl) T.z_len PySem.boot_len (pa_cons (pv 0) pa_nil)))
      (pss_cons (ps_if (pt_cmpR op_eq (pe_ix (ixT K) (pv 2) pe_int (fun _ _ => rfl)) pe_str (nomark _)) (pss_cons (ps_set (i := 4) sc_law_true.nd rfl (Or.inr rfl) (pe_dget2 hu (pv 1) (pe_ix (ixT K) (pv 2) pe_int (fun _ _ => rfl)) (pe_lst pa_nil) ⟨rfl, rfl, rfl, rfl⟩))
      (pss_one (ps_ret (pe_lc (own := [("k", 8)]) (g := gName 8) (by rfl) sc_law_true.nd (pi_range1 (by rfl) T.z_range (pa_cons (pv 3) pa_nil)) (blkOk_by (own := [("k", 8)]) (N := ["table", "facts", "sentence", "many", "found", "one", "two", "givers", "k", "v"]) (sc := defScope s_law_true) (by decide +kernel)) (fun _ _ _ _ _ => (pg_name (i := 8) sc_law_true.nd rfl (Or.inl rfl))) (fun _ _ _ _ _ => pts_nil) (fun _ _ _ _ _ => (pe_cmpR (inS K) (pv 8) (pv 4) (by rfl))))))) pss_nil)
      (pss_cons (ps_set (i := 5) sc_law_true.nd rfl (Or.inr rfl) (pe_call G_law_true hr (by rfl) T.m_law_true T.F_law_true.kp T.b_law_true .nil pass0 (pa_cons (pv 0) (pa_cons (pv 1) (pa_cons (pe_ix (ixT K) (pv 2) (pe_un un_neg pe_int) (fun _ _ => rfl)) pa_nil)))))
      (pss_cons (ps_set (i := 6) sc_law_true.nd rfl (Or.inr rfl) (pe_call G_law_true hr (by rfl) T.m_law_true T.F_law_true.kp T.b_law_true .nil pass0 (pa_cons (pv 0) (pa_cons (pv 1) (pa_cons (pe_ix (ixT K) (pv 2) (pe_un un_neg pe_int) (fun _ _ => rfl)) pa_nil)))))
      (pss_cons (ps_if (pt_cmpR op_eq (pe_ix (ixT K) (pv 2) pe_int (fun _ _ => rfl)) pe_str (nomark _)) (pss_one (ps_ret (pe_lc (own := [("k", 8)]) (g := gName 8) (by rfl) sc_law_true.nd (pi_range1 (by rfl) T.z_range (pa_cons (pv 3) pa_nil)) (blkOk_by (own := [("k", 8)]) (N := ["table", "facts", "sentence", "many", "found", "one", "two", "givers", "k", "v"]) (sc := defScope s_law_true) (by decide +kernel)) (fun _ _ _ _ _ => (pg_name (i := 8) sc_law_true.nd rfl (Or.inl rfl))) (fun _ _ _ _ _ => pts_nil) (fun _ _ _ _ _ => (pe_and (pe_ix (ixL K) (pv 5) (pv 8) (fun _ _ => rfl)) (pe_one (pe_ix (ixL K) (pv 6) (pv 8) (fun _ _ => rfl)))))))) pss_nil)
      (pss_cons (ps_set (i := 7) sc_law_true.nd rfl (Or.inr rfl) (pe_lc (own := [("k", 8)]) (g := gName 8) (by rfl) sc_law_true.nd (pi_range1 (by rfl) T.z_range (pa_cons (pv 3) pa_nil)) (blkOk_by (own := [("k", 8)]) (N := ["table", "facts", "sentence", "many", "found", "one", "two", "givers", "k", "v"]) (sc := defScope s_law_true) (by decide +kernel)) (fun _ _ _ _ _ => (pg_name (i := 8) sc_law_true.nd rfl (Or.inl rfl))) (fun _ _ _ _ _ => (pts_one (pt_val (pe_ix (ixL K) (pv 5) (pv 8) (fun _ _ => rfl))))) (fun _ _ _ _ _ => (pv 8))))
      (pss_one (ps_ret (pe_lc (own := [("k", 8)]) (g := gName 8) (by rfl) sc_law_true.nd (pi_range1 (by rfl) T.z_range (pa_cons (pv 3) pa_nil)) (blkOk_by (own := [("k", 8)]) (N := ["table", "facts", "sentence", "many", "found", "one", "two", "givers", "k", "v"]) (sc := defScope s_law_true) (by decide +kernel)) (fun _ _ _ _ _ => (pg_name (i := 8) sc_law_true.nd rfl (Or.inr rfl))) (fun _ _ _ _ _ => pts_nil) (fun _ _ _ _ _ => (pe_cmpR op_eq (pe_callB (lenS K) (by rfl) T.z_len PySem.boot_len (pa_cons (pe_lc (own := [("v", 9)]) (g := gName 9) (by rfl) sc_law_true.nd (piL K (pv 7)) (blkOk_by (own := [("v", 9)]) (by first | rfl | decide +kernel | kernel_rfl)) (fun _ _ _ _ _ => (pg_name (i := 9) sc_law_true.nd rfl (Or.inl rfl))) (fun _ _ _ _ _ => (pts_one (pt_not (pt_val (pe_ix (ixL K) (pv 6) (pe_ix (ixL K) (pe_ix (ixL K) (pv 0) (pv 8) (fun _ _ => rfl)) (pv 9) (fun _ _ => rfl)) (fun _ _ => rfl)))))) (fun _ _ _ _ _ => (pv 9))) pa_nil)) pe_int (nomark _)))))))))))), ?_⟩
  obtain ⟨ra, rxs, rfl, hra, hrp⟩ := id hT
  have hlen : rxs.length = n := (Paired.len hrp).trans (tab_len n f)
  refine ⟨_, rfl, ra, _, rfl, .inl (sG.seq hra), ?_⟩
  rw [hlen]
  cases t with
  | word z =>
    obtain ⟨a, rfl, ha⟩ := id hv
    have ha' := Same.tup sG ha
    refine ⟨_, rfl, a, _, 0, _, rfl, rfl, ha', rfl, rfl, _, rfl, iteT ?_⟩
    refine ⟨_, rfl, fa, rfl, .inl ⟨kvs, .inl hfa⟩, _, rfl, a, _, 1, _, rfl, rfl, ha', rfl, (by show 0 ≤ sizeLine; decide), fun p np => ?_⟩
    have s1 : Stp nom G H (upd G p (.lst [])) (upd H p (.lst [])) := stp_newF sG np
    have nfp : fa ≠ p := ne_of_none hfa np
    refine ⟨_, .inl ⟨kvs, Sum.inr z, .inl (by rw [upd_ne nfp]; exact hfa), rfl, rfl⟩, ?_⟩
    have hfound : ∃ l, (valV kvs (Sum.inr z : Key)).getD (.ref p) = .ref l ∧ SqL K (upd G p (.lst [])) l ((ns z).map iv) := by
      cases e : valV kvs (Sum.inr z : Key) with
      | none => exact ⟨p, rfl, by rw [hF.non z e]; exact SqL.of upd_same⟩
      | some u =>
        obtain ⟨⟨l, rfl, hl⟩, _⟩ := hF.val z u e
        exact ⟨l, rfl, s1.gg.seq hl⟩
    obtain ⟨l, el, hl⟩ := hfound
    rw [el]
    refine ⟨_, rfl, _, rfl, by omega, by omega, fun D nD => ?_⟩
    refine lc_range (lo := 0) (n := n) (fun i H' => ∃ G', Build IsV nom G H D ((List.range i).map fun k => V.bl (decide (k ∈ ns z))) G' H' ∧ Same (upd G p (.lst [])) G') ⟨_, Build.start s1 nD, Same.refl _⟩ ?_ ?_
    · rintro i H' hi ⟨G', b, sg⟩
      rw [Int.zero_add]
      refine ⟨rfl, ?_⟩
      obtain ⟨ys, e, hl2, b2⟩ := b.snoc (y := V.bl (decide (i ∈ ns z))) rfl
      refine ⟨_, rfl, _, rfl, l, _, rfl, .inl ((sg.trans b.stp.gh).seq hl), rfl, flat_nats _, ?_⟩
      rw [inV_nats]
      refine ⟨ys, e, ?_, G', ?_, sg⟩
      · rw [hl2, List.length_map, List.length_range]
        exact sz2 (by omega)
      · rw [range_snoc]
        exact b2
    · rintro H' ⟨G', b, sg⟩
      have hD := b.vals
      have fr := b.stp.freeze b.new b.nog hD
      refine q _ H' (.ref D) fr ⟨D, rfl, SqL.of ?_⟩
      rw [upd_same, List.map_map]
      rfl
  | menu s1 s2 =>
    obtain ⟨a, y1, y2, rfl, ha, hy1, hy2⟩ := id hv
    have ha' := Same.tup sG ha
    have hd' : max s1.depth s2.depth + 1 < d + 1 := hd
    refine ⟨_, rfl, a, _, 0, _, rfl, rfl, ha', rfl, rfl, _, rfl, iteF ?_⟩
    refine ⟨_, rfl, _, rfl, _, rfl, _, rfl, a, _, _, _, rfl, rfl, ha', rfl, .ref ra, fa, y1, G, n, f, kvs, ns, s1, rfl, sG, hT, hfa, hF, hy1, by omega, hn, hcl, fun G1 H1 r1 st1 hb1 => ?_⟩
    have ha1 := Same.tup (st1.gg.trans st1.gh) ha
    have hfa1 := st1.un _ _ (fun z => z) hfa
    refine ⟨_, rfl, _, rfl, _, rfl, _, rfl, a, _, _, _, rfl, rfl, ha1, rfl, .ref ra, fa, y2, G1, n, f, kvs, ns, s2, rfl, st1.gh, Table.mono st1.gg hT, hfa1, hF.mono st1.gg, SenAt.mono st1.gg hy2, by omega, hn, hcl, fun G2 H2 r2 st2 hb2 => ?_⟩
    have st : Stp nom G H G2 H2 := st1.tr0 st2
    have ha2 := Same.tup (st.gg.trans st.gh) ha
    refine ⟨_, rfl, a, _, 0, _, rfl, rfl, ha2, rfl, rfl, _, rfl, iteT ?_⟩
    obtain ⟨p1, rfl, q1⟩ := Bools.mono st2.gg hb1
    obtain ⟨p2, rfl, q2⟩ := hb2
    refine ⟨_, rfl, _, rfl, by omega, by omega, fun D nD => ?_⟩
    refine lc_range (lo := 0) (n := n) (fun i H' => ∃ G', Build IsV nom G H D ((List.range i).map fun k => V.bl (tr n f ns s1 k && tr n f ns s2 k)) G' H' ∧ Same G2 G') ⟨_, Build.start st nD, Same.refl _⟩ ?_ ?_
    · rintro i H' hi ⟨G', b, sg⟩
      rw [Int.zero_add]
      refine ⟨rfl, ?_⟩
      obtain ⟨ys, e, hl2, b2⟩ := b.snoc (y := V.bl (tr n f ns s1 i && tr n f ns s2 i)) rfl
      have hs : Same G2 H' := sg.trans b.stp.gh
      have hsz : ys.length < sizeLine := by
        rw [hl2, List.length_map, List.length_range]
        exact sz2 (by omega)
      have g1 : ((trs n f ns s1).map V.bl)[i]? = some (V.bl (tr n f ns s1 i)) := bools_at (range_at hi)
      have g2 : ((trs n f ns s2).map V.bl)[i]? = some (V.bl (tr n f ns s2 i)) := bools_at (range_at hi)
      refine ⟨_, rfl, _, rfl, p1, _, _, _, rfl, rfl, hs.seq q1, atN g1, _, rfl, ?_⟩
      cases h1 : tr n f ns s1 i with
      | true =>
        rw [if_pos rfl]
        rw [h1, Bool.true_and] at b2
        refine ⟨_, rfl, _, rfl, p2, _, _, _, rfl, rfl, hs.seq q2, atN g2, ys, e, hsz, G', ?_, sg⟩
        rw [range_snoc, h1, Bool.true_and]
        exact b2
      | false =>
        rw [if_neg Bool.false_ne_true]
        rw [h1, Bool.false_and] at b2
        refine ⟨ys, e, hsz, G', ?_, sg⟩
        rw [range_snoc, h1, Bool.false_and]
        exact b2
    · rintro H' ⟨G', b, sg⟩
      have hD := b.vals
      have fr := b.stp.freeze b.new b.nog hD
      refine q _ H' (.ref D) fr ⟨D, rfl, SqL.of ?_⟩
      rw [upd_same, List.map_map]
      rfl
  | trade s1 s2 =>
    obtain ⟨a, y1, y2, rfl, ha, hy1, hy2⟩ := id hv
    have ha' := Same.tup sG ha
    have hd' : max s1.depth s2.depth + 1 < d + 1 := hd
    refine ⟨_, rfl, a, _, 0, _, rfl, rfl, ha', rfl, rfl, _, rfl, iteF ?_⟩
    refine ⟨_, rfl, _, rfl, _, rfl, _, rfl, a, _, _, _, rfl, rfl, ha', rfl, .ref ra, fa, y1, G, n, f, kvs, ns, s1, rfl, sG, hT, hfa, hF, hy1, by omega, hn, hcl, fun G1 H1 r1 st1 hb1 => ?_⟩
    have ha1 := Same.tup (st1.gg.trans st1.gh) ha
    have hfa1 := st1.un _ _ (fun z => z) hfa
    refine ⟨_, rfl, _, rfl, _, rfl, _, rfl, a, _, _, _, rfl, rfl, ha1, rfl, .ref ra, fa, y2, G1, n, f, kvs, ns, s2, rfl, st1.gh, Table.mono st1.gg hT, hfa1, hF.mono st1.gg, SenAt.mono st1.gg hy2, by omega, hn, hcl, fun G2 H2 r2 st2 hb2 => ?_⟩
    have st : Stp nom G H G2 H2 := st1.tr0 st2
    have ha2 := Same.tup (st.gg.trans st.gh) ha
    refine ⟨_, rfl, a, _, 0, _, rfl, rfl, ha2, rfl, rfl, _, rfl, iteF ?_⟩
    obtain ⟨p1, rfl, q1⟩ := Bools.mono st2.gg hb1
    obtain ⟨p2, rfl, q2⟩ := hb2
    -- givers
    refine ⟨_, rfl, _, rfl, by omega, by omega, fun D nD => ?_⟩
    refine lc_range (lo := 0) (n := n) (fun i H' => ∃ G', Build IsV nom G H D (((List.range i).filter (tr n f ns s1)).map iv) G' H' ∧ Same G2 G') ⟨_, Build.start st nD, Same.refl _⟩ ?_ ?_
    · rintro i H' hi ⟨G', b, sg⟩
      rw [Int.zero_add]
      refine ⟨rfl, ?_⟩
      obtain ⟨ys, e, hl2, b2⟩ := b.snoc (y := iv i) rfl
      have hs : Same G2 H' := sg.trans b.stp.gh
      have g1 : ((trs n f ns s1).map V.bl)[i]? = some (V.bl (tr n f ns s1 i)) := bools_at (range_at hi)
      refine ⟨_, rfl, _, rfl, p1, _, _, _, rfl, rfl, hs.seq q1, atN g1, _, rfl, ?_⟩
      cases h1 : tr n f ns s1 i with
      | true =>
        rw [if_pos rfl]
        refine ⟨_, rfl, ys, e, ?_, G', ?_, sg⟩
        · rw [hl2, List.length_map]
          have := List.length_filter_le (tr n f ns s1) (List.range i)
          rw [List.length_range] at this
          exact sz2 (by omega)
        · have e2 : (List.range (i + 1)).filter (tr n f ns s1) = (List.range i).filter (tr n f ns s1) ++ [i] := by
            rw [List.range_succ, List.filter_append]
            simp [h1]
          rw [e2, List.map_append]
          exact b2
      | false =>
        rw [if_neg Bool.false_ne_true]
        refine ⟨G', ?_, sg⟩
        have e2 : (List.range (i + 1)).filter (tr n f ns s1) = (List.range i).filter (tr n f ns s1) := by
          rw [List.range_succ, List.filter_append]
          simp [h1]
        rw [e2]
        exact b
    rintro H3 ⟨G3', b, sg⟩
    have hD := b.vals
    have st3 := b.stp.freeze b.new b.nog hD
    have sg3 : Same G2 (upd G3' D (.lst (((List.range n).filter (tr n f ns s1)).map iv))) := sg.trans (Same.new b.nog)
    have hgv : SqL K (upd G3' D (.lst (((List.range n).filter (tr n f ns s1)).map iv))) D (((List.range n).filter (tr n f ns s1)).map iv) := SqL.of upd_same
    generalize upd G3' D (.lst (((List.range n).filter (tr n f ns s1)).map iv)) = G3 at st3 sg3 hgv
    -- the rows
    refine ⟨_, rfl, _, rfl, by omega, by omega, fun D2 nD2 => ?_⟩
    refine lc_range (lo := 0) (n := n) (fun i H' => ∃ G', Build IsV nom G H D2 ((List.range i).map fun k => V.bl (tr n f ns (.trade s1 s2) k)) G' H' ∧ Same G3 G') ⟨_, Build.start st3 nD2, Same.refl _⟩ ?_ ?_
    · rintro i H' hi ⟨G', b, sg'⟩
      rw [Int.zero_add]
      refine ⟨rfl, ?_⟩
      have hs3 : Same G3 H' := sg'.trans b.stp.gh
      refine ⟨_, rfl, D, rfl, ⟨_, hs3.seq hgv⟩, fun D3 nD3 => ?_⟩
      refine lc_list (K := K) (a := D) (xs := ((List.range n).filter (tr n f ns s1)).map iv) (fun j H2 => ∃ G'', Build IsV nom G' H' D3 ((((((List.range n).filter (tr n f ns s1)).take j).filter fun v => !tr n f ns s2 (f i v))).map iv) G'' H2)
        ⟨G', Build.start (Stp.refl b.stp.gh) nD3⟩ (fun j H' _ h => by
          obtain ⟨G'', b3⟩ := h
          exact (sg'.trans (b3.stp.gg.trans b3.stp.gh)).seq hgv) ?_ ?_
      · rintro j y H2 hy ⟨G'', b3⟩
        obtain ⟨c, hc, rfl⟩ := nats_of hy
        have hcm := List.mem_of_getElem? hc
        have hcn : c < n := List.mem_range.mp (List.mem_filter.mp hcm).1
        have hs4 : Same G' H2 := b3.stp.gg.trans b3.stp.gh
        have hs2 : Same G3 H2 := sg'.trans hs4
        have hs0 : Same G H2 := b.stp.gg.trans hs4
        obtain ⟨xs1, c1, ys1, h1, h2, h3, h4⟩ := tab_at (Table.mono hs0 hT) hi hcn
        refine ⟨rfl, ?_⟩
        refine ⟨_, rfl, _, rfl, _, rfl, ra, _, _, _, rfl, rfl, h1, h2, _, rfl, c1, _, _, _, rfl, rfl, h3, h4, p2, _, _, _, rfl, rfl, (sg3.trans hs2).seq q2, atN (bools_at (range_at (hcl i c hi hcn))), _, rfl, ?_⟩
        rw [List.take_succ, hc, List.filter_append]
        cases ht : tr n f ns s2 (f i c) with
        | true =>
          refine iteF ⟨G'', ?_⟩
          simpa [ht] using b3
        | false =>
          obtain ⟨ys, e, hl2, b4⟩ := b3.snoc (y := iv c) rfl
          refine iteT ⟨_, rfl, ys, e, ?_, G'', ?_⟩
          · rw [hl2, List.length_map]
            have h1 := List.length_filter_le (fun v => !tr n f ns s2 (f i v)) (((List.range n).filter (tr n f ns s1)).take j)
            have h3 := List.length_filter_le (tr n f ns s1) (List.range n)
            have h4 := List.length_take_le' j ((List.range n).filter (tr n f ns s1))
            rw [List.length_range] at h3
            exact sz2 (by omega)
          · simpa [ht] using b4
      · rintro H2 ⟨G'', b3⟩
        rw [List.length_map, List.take_length] at b3
        have hD3 := b3.vals
        have fr := b3.stp.freeze b3.new b3.nog hD3
        have sgf : Same G3 (upd G'' D3 (.lst ((((List.range n).filter (tr n f ns s1)).filter fun v => !tr n f ns s2 (f i v)).map iv))) := sg'.trans (b3.stp.gg.trans (Same.new b3.nog))
        generalize upd G'' D3 (.lst ((((List.range n).filter (tr n f ns s1)).filter fun v => !tr n f ns s2 (f i v)).map iv)) = G5 at fr sgf
        have b5 := b.step0 mono_isV fr
        refine ⟨D3, _, rfl, .inl (SqL.of hD3), rfl, ?_⟩
        have ev : decide (V.int (((((((List.range n).filter (tr n f ns s1)).filter fun v => !tr n f ns s2 (f i v))).map iv).length : Nat) : Int) = V.int 0) = tr n f ns (.trade s1 s2) i := by
          show _ = (List.range n).all fun v => !tr n f ns s1 v || tr n f ns s2 (f i v)
          rw [Bool.eq_iff_iff, decide_eq_true_eq, ← filter_none]
          constructor
          · intro h
            have := V.int.inj h
            omega
          · intro h
            rw [h]
            rfl
        obtain ⟨ys, e, hl2, b6⟩ := b5.snoc (y := V.bl (tr n f ns (.trade s1 s2) i)) rfl
        show ∃ ys, H2 D2 = some (.lst ys) ∧ ys.length < sizeLine ∧ ∃ G', Build IsV nom G H D2 ((List.range (i + 1)).map fun k => V.bl (tr n f ns (.trade s1 s2) k)) G' (upd H2 D2 (.lst (ys ++ [V.bl (decide (V.int (((((((List.range n).filter (tr n f ns s1)).filter fun v => !tr n f ns s2 (f i v))).map iv).length : Nat) : Int) = V.int 0))]))) ∧ Same G3 G'
        rw [ev]
        refine ⟨ys, e, ?_, G5, ?_, sgf⟩
        · rw [hl2, List.length_map, List.length_range]
          exact sz2 (by omega)
        · rw [range_snoc]
          exact b6
    · rintro H' ⟨G', b, sg'⟩
      have hD2 := b.vals
      have fr := b.stp.freeze b.new b.nog hD2
      refine q _ H' (.ref D2) fr ⟨D2, rfl, SqL.of ?_⟩
      rw [upd_same, List.map_map]
      rfl
theorem ok_law_true (T : Tx K mg) : ∀ d : Nat, FnOk P w K mg base CX0 d T.a_law_true T.d_law_true ["table", "facts", "sentence"] (spTrue K d)
  | 0 => zero_true T
  | d + 1 => step_true T (ok_law_true T d)
end
end W76
namespace HX
open PySem PySem.Spec PyProof.Rows L2
/-- what holds wherever a statement ends, from where the rest goes on -/
theorem seq_rest {t1 t2 : TS} {D : Ends} {σ : L2.St} {H : Hp} (I : L2.St → Hp → Prop) (h2 : ∀ σ' H', I σ' H' → t2 D σ' H') (h1 : (∀ σ' H', I σ' H' → t2 D σ' H') → t1 { D with nx := t2 D } σ H) : tSeq t1 t2 D σ H := h1 h2
end HX
namespace W76
open PySem PySem.Spec PyProof.Rows L2 HX
theorem flat_bools (bs : List Bool) : (bs.map V.bl).all flatV = true := by
  rw [List.all_eq_true]
  intro x hx
  obtain ⟨k, _, rfl⟩ := List.mem_map.mp hx
  rfl
section
variable {P : Program} {w : World} {K : PySem.W.Frag} {mg : Str → Option Value} {base : Heap}
/-- a list of numbers under m, at most c of them -/
def Idx (m c : Nat) (l : List Nat) : Prop := l.length ≤ c ∧ ∀ j, j ∈ l → j < m
theorem Idx.snoc {m c : Nat} {l : List Nat} {j : Nat} (h : Idx m c l) (hj : j < m) : Idx m (c + 1) (l ++ [j]) := by
  refine ⟨by rw [List.length_append, List.length_singleton]; have := h.1; omega, fun k hk => ?_⟩
  rcases List.mem_append.mp hk with hk | hk
  · exact h.2 k hk
  · rw [List.mem_singleton.mp hk]
    exact hj
theorem Idx.nil {m c : Nat} : Idx m c [] := ⟨Nat.zero_le _, fun j z => (by cases z)⟩
theorem idx_at {m c : Nat} {l : List Nat} {d : Nat} (h : Idx m c l) (hd : (d : Int) < (((l.map iv).length : Nat) : Int)) : ∃ j, j < m ∧ atI (l.map iv) (d : Int) = some (iv j) := by
  rw [List.length_map] at hd
  have hd : d < l.length := by omega
  exact ⟨l[d], h.2 _ (List.getElem_mem hd), atN (nats_at (List.getElem?_eq_getElem hd))⟩
theorem PB.put1 {p D : Addr} {G H G3 H3 : Hp} {ls : List Nat} (pb : PB IsV p G H D (ls.map iv) G3 H3) (j : Nat) (h : ls.length < 90000) : ∃ ys, H3 D = some (.lst ys) ∧ ys.length < sizeLine ∧ PB IsV p G H D ((ls ++ [j]).map iv) G3 (upd H3 D (.lst (ys ++ [iv j]))) := by
  obtain ⟨ys, e, hl, b3⟩ := pb.snoc (y := iv j) rfl
  refine ⟨ys, e, ?_, ?_⟩
  · rw [hl, List.length_map]
    exact sz2 (by omega)
  · rw [List.map_append]
    exact b3
def spPicks (K : PySem.W.Frag) : Sp := fun vs H Q _ => ∃ (p : Addr) (lv : V) (bss : List (List Bool)) (G : Hp), vs = [.ref p, lv] ∧ Pst p G H G H ∧ Each K (Bools K) G lv bss ∧ 0 < bss.length ∧ bss.length ≤ 1000 ∧ ∀ G' H' r pk, Pst p G H G' H' → Nats K G' r pk → Idx bss.length 24 pk → Q r H'
theorem ok_law_picks {k : Nat} (T : Tx K mg) (G_law_next : FnOk P w K mg base CX0 k T.a_law_next T.d_law_next ["pool", "many"] spNext) : FnOk P w K mg base CX0 (k + 1) T.a_law_picks T.d_law_picks ["pool", "lists"] (spPicks K) := by
  refine T.F_law_picks.ok sc_law_picks (fun vs H Q E h => ?_) (fun cdv A outer s H vs Q E hr h => ?_)
  · obtain ⟨_, _, _, _, rfl, _⟩ := h
    rfl
  obtain ⟨p, lv, bss, G, rfl, hP, ⟨la, xs, rfl, hx, hxp⟩, hm0, hm, q⟩ := h
  refine ⟨_, (pss_cons (ps_set (i := 2) sc_law_picks.nd rfl (Or.inr rfl) (pe_lc (own := [("k", 4)]) (g := gName 4) (by rfl) sc_law_picks.nd (pi_range1 (by rfl) T.z_range (pa_cons (pe_callB (lenS K) (by rfl) T.z_len PySem.boot_len (pa_cons (pv 1) pa_nil)) pa_nil)) (blkOk_by (own := [("k", 4)]) (N := ["pool", "lists", "able", "count", "k"]) (sc := defScope s_law_picks) (by decide +kernel)) (fun _ _ _ _ _ => (pg_name (i := 4) sc_law_picks.nd rfl (Or.inl rfl))) (fun _ _ _ _ _ => (pts_one (pt_cmpR (inS K) pe_bl (pe_ix (ixL K) (pv 1) (pv 4) (fun _ _ => rfl)) (by rfl)))) (fun _ _ _ _ _ => (pv 4))))
      (pss_cons (ps_if (PW.pt (pw_or (pt_not (pt_truthK K (pv 2) (by intro _; rfl))) (pw_or1 (pt_cmpR op_eq (pe_call G_law_next hr (by rfl) T.m_law_next T.F_law_next.kp T.b_law_next .nil pass0 (pa_cons (pv 0) (pa_cons pe_int pa_nil))) pe_int (nomark _))))) (pss_one (ps_set (i := 2) sc_law_picks.nd rfl (Or.inr rfl) (pe_lc (own := [("k", 4)]) (g := gName 4) (by rfl) sc_law_picks.nd (pi_range1 (by rfl) T.z_range (pa_cons (pe_callB (lenS K) (by rfl) T.z_len PySem.boot_len (pa_cons (pv 1) pa_nil)) pa_nil)) (blkOk_by (own := [("k", 4)]) (N := ["pool", "lists", "able", "count", "k"]) (sc := defScope s_law_picks) (by decide +kernel)) (fun _ _ _ _ _ => (pg_name (i := 4) sc_law_picks.nd rfl (Or.inl rfl))) (fun _ _ _ _ _ => pts_nil) (fun _ _ _ _ _ => (pv 4))))) pss_nil)
      (pss_cons (ps_set (i := 3) sc_law_picks.nd rfl (Or.inl rfl) (pe_call G_law_next hr (by rfl) T.m_law_next T.F_law_next.kp T.b_law_next .nil pass0 (pa_cons (pv 0) (pa_cons pe_int pa_nil))))
      (pss_cons (ps_if (pt_cmpR op_eq (pe_call G_law_next hr (by rfl) T.m_law_next T.F_law_next.kp T.b_law_next .nil pass0 (pa_cons (pv 0) (pa_cons pe_int pa_nil))) pe_int (nomark _)) (pss_one (ps_set (i := 3) sc_law_picks.nd rfl (Or.inl rfl) (pe_op op_add pe_int (pe_call G_law_next hr (by rfl) T.m_law_next T.F_law_next.kp T.b_law_next .nil pass0 (pa_cons (pv 0) (pa_cons pe_int pa_nil)))))) pss_nil)
      (pss_one (ps_ret (pe_lc (own := [("k", 4)]) (g := gName 4) (by rfl) sc_law_picks.nd (pi_range1 (by rfl) T.z_range (pa_cons (pv 3) pa_nil)) (blkOk_by (own := [("k", 4)]) (N := ["pool", "lists", "able", "count", "k"]) (sc := defScope s_law_picks) (by decide +kernel)) (fun _ _ _ _ _ => (pg_name (i := 4) sc_law_picks.nd rfl (Or.inl rfl))) (fun _ _ _ _ _ => pts_nil) (fun _ _ _ _ _ => (pe_ix (ixL K) (pv 2) (pe_call G_law_next hr (by rfl) T.m_law_next T.F_law_next.kp T.b_law_next .nil pass0 (pa_cons (pv 0) (pa_cons (pe_callB (lenS K) (by rfl) T.z_len PySem.boot_len (pa_cons (pv 2) pa_nil)) pa_nil))) (fun _ _ => rfl)))))))))), ?_⟩
  have hlen : xs.length = bss.length := Paired.len hxp
  refine ⟨_, rfl, la, _, rfl, .inl (hP.all.seq hx), ?_⟩
  rw [hlen]
  refine ⟨_, rfl, by omega, by omega, fun D nD => ?_⟩
  refine lc_range (lo := 0) (n := bss.length) (fun i H' => ∃ G' ls, PB IsV p G H D (ls.map iv) G' H' ∧ Idx bss.length i ls) ⟨G, [], PB.start hP nD, Idx.nil⟩ ?_ ?_
  · rintro i H' hi ⟨G', ls, pb, hI⟩
    rw [Int.zero_add]
    refine ⟨rfl, ?_⟩
    obtain ⟨bs, hbs⟩ : ∃ bs, bss[i]? = some bs := ⟨_, List.getElem?_eq_getElem hi⟩
    obtain ⟨v, hv, c, rfl, hc⟩ := Paired.get hxp hbs
    refine ⟨_, rfl, _, rfl, la, _, _, _, rfl, rfl, pb.pst.all.seq hx, atN hv, c, _, rfl, .inl (pb.pst.all.seq hc), rfl, flat_bools _, _, rfl, ?_⟩
    refine ite2 (fun _ => ?_) (fun _ => ?_)
    · obtain ⟨ys, e, hsz, pb2⟩ := pb.put1 i (by have := hI.1; omega)
      exact ⟨_, rfl, ys, e, hsz, G', _, pb2, hI.snoc hi⟩
    · exact ⟨G', ls, pb, by have := hI.1; omega, hI.2⟩
  rintro H1 ⟨G1, ls, pb, hI⟩
  dsimp only
  refine seq_rest (fun σ' H' => ∃ G' ab able z1 z2, Pst p G H G' H' ∧ SqL K G' ab (able.map iv) ∧ Idx bss.length bss.length able ∧ 0 < able.length ∧ σ' = [some (.ref p), some (.ref la), some (.ref ab), z1, z2]) ?_ (fun rest => ?_)
  · rintro σ' H' ⟨G', ab, able, z1, z2, b, hab, hI, hpos, rfl⟩
    obtain ⟨l, hp, hl⟩ := b.at_
    refine ⟨_, rfl, p, l, 4, rfl, hp, hl, by decide, by decide, fun d l1 hl1 hd => ?_⟩
    have b1 := b.next hl1
    dsimp only
    refine seq_rest (fun σ' H' => ∃ (c : Nat) (z2 : Option V), Pst p G H G' H' ∧ c ≤ 24 ∧ σ' = [some (.ref p), some (.ref la), some (.ref ab), some (iv c), z2]) ?_ (fun rest => ?_)
    · rintro σ' H2 ⟨c, z3, b2, hc, rfl⟩
      refine ⟨_, rfl, _, rfl, by omega, by omega, fun D2 nD2 => ?_⟩
      refine lc_range (lo := 0) (n := c) (fun i H' => ∃ ls, PB IsV p G H D2 (ls.map iv) G' H' ∧ Idx bss.length i ls) ⟨[], PB.start b2 nD2, Idx.nil⟩ ?_ ?_
      · rintro i H' hi ⟨ls, pb, hI2⟩
        rw [Int.zero_add]
        refine ⟨rfl, ?_⟩
        obtain ⟨l, hp, hl⟩ := pb.at_
        refine ⟨_, rfl, _, rfl, _, rfl, ab, _, rfl, .inl (pb.pst.gh.seq hab), p, l, _, rfl, hp, hl, ?_, ?_, fun d l1 hl1 hd => ?_⟩
        · rw [List.length_map]
          omega
        · rw [List.length_map]
          have := hI.1
          omega
        have pb1 := pb.next hl1
        obtain ⟨j, hj, hja⟩ := idx_at hI hd
        obtain ⟨ys, e, hsz, pb2⟩ := pb1.put1 j (by have := hI2.1; omega)
        exact ⟨ab, _, _, _, rfl, rfl, pb1.pst.gh.seq hab, hja, ys, e, hsz, _, pb2, hI2.snoc hj⟩
      · rintro H' ⟨ls, pb, hI2⟩
        exact q _ H' (.ref D2) ls pb.fin ⟨D2, rfl, SqL.of upd_same⟩ ⟨by have := hI2.1; omega, hI2.2⟩
    · obtain ⟨l, hp, hl⟩ := b1.at_
      refine ⟨_, rfl, p, l, 2, rfl, hp, hl, by decide, by decide, fun d2 l2 hl2 hd2 => ?_⟩
      have b2 := b1.next hl2
      refine ⟨rfl, _, rfl, ?_⟩
      refine ite2 (fun _ => ?_) (fun _ => ?_)
      · obtain ⟨l, hp, hl⟩ := b2.at_
        refine ⟨_, rfl, p, l, 13, rfl, hp, hl, by decide, by decide, fun d3 l3 hl3 hd3 => ?_⟩
        have b3 := b2.next hl3
        refine ⟨_, _, rfl, rfl, rest _ _ ⟨12 + d3, z2, b3, by omega, ?_⟩⟩
        show [some (.ref p), some (.ref la), some (.ref ab), some (V.int ((12 : Int) + (d3 : Int))), z2] = _
        rw [show (12 : Int) + (d3 : Int) = ((12 + d3 : Nat) : Int) by omega]
      · exact rest _ _ ⟨d, _, b2, by omega, rfl⟩
  · refine ⟨_, rfl, _, .inl ⟨_, SqL.of pb.vals, rfl⟩, ?_⟩
    cases ls with
    | nil =>
      refine iteT (iteT ?_)
      refine ⟨_, rfl, la, _, rfl, .inl (pb.pst.all.seq hx), ?_⟩
      rw [hlen]
      refine ⟨_, rfl, by omega, by omega, fun D2 nD2 => ?_⟩
      refine lc_range (lo := 0) (n := bss.length) (fun i H' => ∃ G' ls, PB IsV p G H D2 (ls.map iv) G' H' ∧ Idx bss.length i ls ∧ ls.length = i) ⟨_, [], PB.start pb.pst nD2, Idx.nil, rfl⟩ ?_ ?_
      · rintro i H' hi ⟨G', ls, pb, hI, hl⟩
        rw [Int.zero_add]
        refine ⟨rfl, ?_⟩
        obtain ⟨ys, e, hsz, pb2⟩ := pb.put1 i (by have := hI.1; omega)
        exact ⟨_, rfl, ys, e, hsz, G', _, pb2, hI.snoc hi, by rw [List.length_append, hl]; rfl⟩
      · rintro H' ⟨G', ls, pb, hI, hl⟩
        exact rest _ _ ⟨_, D2, ls, _, _, pb.fin, SqL.of upd_same, hI, by omega, rfl⟩
    | cons j0 ls0 =>
      refine iteF ?_
      obtain ⟨l, hp, hl⟩ := pb.at_
      refine ⟨_, rfl, p, l, 8, rfl, hp, hl, by decide, by decide, fun d l1 hl1 hd => ?_⟩
      have pb := pb.next hl1
      refine ⟨rfl, _, rfl, ?_⟩
      refine ite2 (fun _ => ?_) (fun _ => ?_)
      · refine ⟨_, rfl, la, _, rfl, .inl (pb.pst.all.seq hx), ?_⟩
        rw [hlen]
        refine ⟨_, rfl, by omega, by omega, fun D2 nD2 => ?_⟩
        refine lc_range (lo := 0) (n := bss.length) (fun i H' => ∃ G' ls, PB IsV p G H D2 (ls.map iv) G' H' ∧ Idx bss.length i ls ∧ ls.length = i) ⟨_, [], PB.start pb.pst nD2, Idx.nil, rfl⟩ ?_ ?_
        · rintro i H' hi ⟨G', ls, pb, hI, hl⟩
          rw [Int.zero_add]
          refine ⟨rfl, ?_⟩
          obtain ⟨ys, e, hsz, pb2⟩ := pb.put1 i (by have := hI.1; omega)
          exact ⟨_, rfl, ys, e, hsz, G', _, pb2, hI.snoc hi, by rw [List.length_append, hl]; rfl⟩
        · rintro H' ⟨G', ls, pb, hI, hl⟩
          exact rest _ _ ⟨_, D2, ls, _, _, pb.fin, SqL.of upd_same, hI, by omega, rfl⟩
  
      · exact rest _ _ ⟨_, D, j0 :: ls0, _, _, pb.fin, SqL.of upd_same, hI, by rw [List.length_cons]; omega, rfl⟩
theorem ixN_last {n : Nat} (h : 0 < n) : ixN n (-1) = some (n - 1) := by
  unfold ixN
  rw [if_neg (by decide), if_pos (by omega)]
  congr 1
  omega
theorem PB.set1 {p D : Addr} {G H G3 H3 : Hp} {ls : List Nat} (pb : PB IsV p G H D (ls.map iv) G3 H3) (i j : Nat) : PB IsV p G H D ((ls.set i j).map iv) G3 (upd H3 D (.lst ((ls.map iv).set i (iv j)))) := by
  obtain ⟨l, e2, hl2⟩ := pb.at_
  refine ⟨⟨pb.bld.stp.put (Or.inr pb.bld.new) pb.bld.nog, pb.bld.new, pb.bld.nog, _, upd_same, ?_⟩, pb.nog, ⟨l, by rw [upd_ne (Ne.symm pb.ne)]; exact e2, hl2⟩, pb.ne⟩
  have all : ∀ l : List V, Paired (IsV G3) l l := fun l => by
    induction l with
    | nil => exact .nil
    | cons a r ih => exact .cons rfl ih
  rw [List.map_set]
  exact all _
def spPlaces (K : PySem.W.Frag) : Sp := fun vs H Q _ => ∃ (p : Addr) (tv : V) (n : Nat) (bss : List (List Bool)) (G : Hp), vs = [.ref p, tv, iv n] ∧ Pst p G H G H ∧ Each K (Bools K) G tv bss ∧ (∀ r, r ∈ bss → r.length = n) ∧ 0 < n ∧ n ≤ 1000 ∧ bss.length ≤ 1000 ∧
  ∀ G' H' r pl, Pst p G H G' H' → Nats K G' r pl → pl.length = bss.length → (∀ j, j ∈ pl → j < n) → Q r H'
theorem ok_law_places {k : Nat} (T : Tx K mg) (G_law_next : FnOk P w K mg base CX0 k T.a_law_next T.d_law_next ["pool", "many"] spNext) : FnOk P w K mg base CX0 (k + 1) T.a_law_places T.d_law_places ["pool", "truths", "many"] (spPlaces K) := by
  refine T.F_law_places.ok sc_law_places (fun vs H Q E h => ?_) (fun cdv A outer s H vs Q E hr h => ?_)
  · obtain ⟨_, _, _, _, _, rfl, _⟩ := h
    rfl
  obtain ⟨p, tv, n, bss, G, rfl, hP, ⟨ta, xs, rfl, hx, hxp⟩, hrow, hn0, hn, hm, q⟩ := h
  refine ⟨_, (pss_cons (ps_set (i := 3) sc_law_places.nd rfl (Or.inl rfl) (pe_lst pa_nil))
      (pss_cons (ps_for PassesOwn.never rfl (piL K (pv 1)) (pg_name (i := 4) sc_law_places.nd rfl (Or.inr rfl)) (pss_cons (ps_setLc (i := 5) (own := [("k", 6)]) (g := gName 6) (by rfl) sc_law_places.nd rfl rfl (sw_true rfl rfl rfl (by decide +kernel)) (pi_range1 (by rfl) T.z_range (pa_cons (pv 2) pa_nil)) (blkOk_by (own := [("k", 6)]) (N := ["pool", "truths", "many", "places", "row", "able", "k"]) (sc := defScope s_law_places) (by decide +kernel)) (fun _ _ _ _ _ => (pg_name (i := 6) sc_law_places.nd rfl (Or.inl rfl))) (fun _ _ _ _ _ => (pts_one (pt_val (pe_ix (ixL K) (pv 4) (pv 6) (fun _ _ => rfl))))) (fun _ _ _ _ _ => (pv 6)))
      (pss_cons (ps_if (pt_not (pt_truthK K (pv 5) (by intro _; rfl))) (pss_one (ps_setLc (i := 5) (own := [("k", 6)]) (g := gName 6) (by rfl) sc_law_places.nd rfl rfl (sw_true rfl rfl rfl (by decide +kernel)) (pi_range1 (by rfl) T.z_range (pa_cons (pv 2) pa_nil)) (blkOk_by (own := [("k", 6)]) (N := ["pool", "truths", "many", "places", "row", "able", "k"]) (sc := defScope s_law_places) (by decide +kernel)) (fun _ _ _ _ _ => (pg_name (i := 6) sc_law_places.nd rfl (Or.inl rfl))) (fun _ _ _ _ _ => pts_nil) (fun _ _ _ _ _ => (pv 6)))) pss_nil)
      (pss_one (ps_expr (pe_bm PySem.F.plainAttrs_list PySem.F.slot_list_append PySem.F.type_list_append mt_append (pv 3) (pa_cons (pe_ix (ixL K) (pv 5) (pe_call G_law_next hr (by rfl) T.m_law_next T.F_law_next.kp T.b_law_next .nil pass0 (pa_cons (pv 0) (pa_cons (pe_callB (lenS K) (by rfl) T.z_len PySem.boot_len (pa_cons (pv 5) pa_nil)) pa_nil))) (fun _ _ => rfl)) pa_nil)))))))
      (pss_cons (ps_if (PW.pt (pw_and (pt_truthK K (pv 3) (by intro _; rfl)) (pw_and1 (pt_cmpR op_eq (pe_call G_law_next hr (by rfl) T.m_law_next T.F_law_next.kp T.b_law_next .nil pass0 (pa_cons (pv 0) (pa_cons pe_int pa_nil))) pe_int (nomark _))))) (pss_one (ps_asg (pe_call G_law_next hr (by rfl) T.m_law_next T.F_law_next.kp T.b_law_next .nil pass0 (pa_cons (pv 0) (pa_cons (pv 2) pa_nil))) (pg_sub (pv 3) (pe_un un_neg pe_int) set_list))) pss_nil)
      (pss_one (ps_ret (pv 3)))))), ?_⟩
  refine ⟨Nat.zero_le _, fun D nD => ?_⟩
  have b0 := PB.start (P := IsV) hP nD
  refine ⟨_, rfl, ta, rfl, ⟨_, b0.pst.all.seq hx⟩, ?_⟩
  refine for_list (K := K) (a := ta) (xs := xs) (fun i σ' H' => ∃ G' ls z1 z2 z3, PB IsV p G H D (ls.map iv) G' H' ∧ ls.length = i ∧ (∀ j, j ∈ ls → j < n) ∧ σ' = [some (.ref p), some (.ref ta), some (iv n), some (.ref D), z1, z2, z3])
    ⟨G, [], none, none, none, b0, rfl, fun j z => (by cases z), rfl⟩ (fun i σ' H' _ h => by
      obtain ⟨G', _, _, _, _, b, _⟩ := h
      exact b.pst.all.seq hx) ?_ ?_
  · rintro i v σ' H' hi ⟨G', ls, z1, z2, z3, pb, hl, hall, rfl⟩
    obtain ⟨bs, hbs, c, rfl, hc⟩ := Paired.getL hxp hi
    have hbl := hrow bs (List.mem_of_getElem? hbs)
    have him : i < bss.length := (List.getElem?_eq_some_iff.mp hbs).1
    refine ⟨_, rfl, _, rfl, by omega, by omega, fun D2 nD2 => ?_⟩
    refine lc_range (lo := 0) (n := n) (fun i H2 => ∃ G2 as, PB IsV p G' H' D2 (as.map iv) G2 H2 ∧ Idx n i as) ⟨G', [], PB.start pb.re nD2, Idx.nil⟩ ?_ ?_
    · rintro i0 H2 hi0 ⟨G2, as, pb2, hI⟩
      rw [Int.zero_add]
      refine ⟨rfl, ?_⟩
      obtain ⟨b, hb⟩ : ∃ b, bs[i0]? = some b := ⟨_, List.getElem?_eq_getElem (by omega)⟩
      refine ⟨_, rfl, _, rfl, c, _, _, _, rfl, rfl, (pb.pst.tr pb2.pst).all.seq hc, atN (bools_at hb), _, rfl, ?_⟩
      cases b with
      | true =>
        obtain ⟨ys, e, hsz, pb3⟩ := pb2.put1 i0 (by have := hI.1; omega)
        exact iteT ⟨_, rfl, ys, e, hsz, G2, _, pb3, hI.snoc hi0⟩
      | false => exact iteF ⟨G2, as, pb2, by have := hI.1; omega, hI.2⟩
    rintro H2 ⟨G2, as, pb2, hI⟩
    dsimp only
    refine seq_rest (fun σ' H' => ∃ G' ab able z3, PB IsV p G H D (ls.map iv) G' H' ∧ SqL K G' ab (able.map iv) ∧ Idx n n able ∧ 0 < able.length ∧ σ' = [some (.ref p), some (.ref ta), some (iv n), some (.ref D), some (.ref c), some (.ref ab), z3]) ?_ (fun rest => ?_)
    · rintro σ' H3 ⟨G3, ab, able, z3, pb, hab, hI, hpos, rfl⟩
      obtain ⟨l, hp, hl1⟩ := pb.at_
      refine ⟨_, rfl, .inl ⟨rfl, _, SqL.of pb.vals⟩, _, rfl, _, rfl, _, rfl, ab, _, rfl, .inl (pb.pst.gh.seq hab), p, l, _, rfl, hp, hl1, ?_, ?_, fun d l1 hl1 hd => ?_⟩
      · rw [List.length_map]
        omega
      · rw [List.length_map]
        have := hI.1
        omega
      have pb1 := pb.next hl1
      obtain ⟨j, hj, hja⟩ := idx_at hI hd
      obtain ⟨ys, e, hsz, pb2⟩ := pb1.put1 j (by omega)
      refine ⟨ab, _, _, _, rfl, rfl, pb1.pst.gh.seq hab, hja, D, ys, _, rfl, rfl, e, hsz, G3, ls ++ [j], _, _, _, pb2, ?_, ?_, rfl⟩
      · rw [List.length_append, hl]
        rfl
      · intro k hk
        rcases List.mem_append.mp hk with hk | hk
        · exact hall k hk
        · rw [List.mem_singleton.mp hk]
          exact hj
    · refine ⟨_, rfl, _, .inl ⟨_, SqL.of pb2.vals, rfl⟩, ?_⟩
      cases as with
      | nil =>
        refine iteT ?_
        have pb4 := pb.tr mono_isV pb2.fin
        refine ⟨_, rfl, _, rfl, by omega, by omega, fun D3 nD3 => ?_⟩
        refine lc_range (lo := 0) (n := n) (fun i H3 => ∃ G3 as, PB IsV p _ H2 D3 (as.map iv) G3 H3 ∧ Idx n i as ∧ as.length = i) ⟨_, [], PB.start pb4.re nD3, Idx.nil, rfl⟩ ?_ ?_
        · rintro i0 H3 hi0 ⟨G3, as, pb5, hI, hl5⟩
          rw [Int.zero_add]
          refine ⟨rfl, ?_⟩
          obtain ⟨ys, e, hsz, pb6⟩ := pb5.put1 i0 (by have := hI.1; omega)
          exact ⟨_, rfl, ys, e, hsz, G3, _, pb6, hI.snoc hi0, by rw [List.length_append, hl5]; rfl⟩
        · rintro H3 ⟨G3, as, pb5, hI, hl5⟩
          exact rest _ _ ⟨_, D3, as, _, pb4.tr mono_isV pb5.fin, SqL.of upd_same, hI, by omega, rfl⟩
      | cons a0 as0 => exact iteF (rest _ _ ⟨_, D2, a0 :: as0, _, pb.tr mono_isV pb2.fin, SqL.of upd_same, hI, by rw [List.length_cons]; omega, rfl⟩)
  · rintro σ' H' ⟨G', ls, z1, z2, z3, pb, hl, hall, rfl⟩
    have hlen : xs.length = bss.length := Paired.len hxp
    rw [hlen] at hl
    dsimp only
    refine seq_rest (fun σ' H' => ∃ (G' : Hp) (ls : List Nat) (z1 z2 z3 : Option V), PB IsV p G H D (ls.map iv) G' H' ∧ ls.length = bss.length ∧ (∀ j, j ∈ ls → j < n) ∧ σ' = [some (.ref p), some (.ref ta), some (iv n), some (.ref D), z1, z2, z3]) ?_ (fun rest => ?_)
    · rintro σ' H' ⟨G', ls, z1, z2, z3, pb, hl, hall, rfl⟩
      exact ⟨_, rfl, q _ H' (.ref D) ls pb.fin ⟨D, rfl, SqL.of upd_same⟩ hl hall⟩
    · refine ⟨_, rfl, _, .inl ⟨_, SqL.of pb.vals, rfl⟩, ?_⟩
      cases ls with
      | nil => exact iteF (iteF (rest _ _ ⟨G', [], _, _, _, pb, hl, hall, rfl⟩))
      | cons a0 as0 =>
        refine iteT ?_
        obtain ⟨l, hp, hl1⟩ := pb.at_
        refine ⟨_, rfl, p, l, 4, rfl, hp, hl1, by decide, by decide, fun d l1 hl1 hd => ?_⟩
        have pb := pb.next hl1
        refine ⟨rfl, _, rfl, ?_⟩
        refine ite2 (fun _ => ?_) (fun _ => rest _ _ ⟨G', _, _, _, _, pb, hl, hall, rfl⟩)
        obtain ⟨l, hp, hl1⟩ := pb.at_
        refine ⟨_, rfl, _, rfl, p, l, n, rfl, hp, hl1, by omega, by omega, fun d2 l2 hl2 hd2 => ?_⟩
        have pb := pb.next hl2
        refine ⟨_, rfl, _, rfl, D, _, _, (a0 :: as0).length - 1, rfl, rfl, pb.vals, ?_, ?_⟩
        · rw [List.length_map]
          exact ixN_last (by rw [List.length_cons]; omega)
        refine rest _ _ ⟨G', (a0 :: as0).set ((a0 :: as0).length - 1) d2, _, _, _, pb.set1 _ d2, by rw [List.length_set]; exact hl, ?_, rfl⟩
        intro j hj
        rcases List.mem_or_eq_of_mem_set hj with hj | hj
        · exact hall j hj
        · omega
end
end W76
namespace W76
open PySem PySem.Spec PyProof.Rows L2 HX
section
variable {P : Program} {w : World} {K : PySem.W.Frag} {mg : Str → Option Value} {base : Heap}
theorem Pst.keep {p a : Addr} {G H G' H' : Hp} {o : HO} (b : Pst p G H G' H') (b0 : Pst p G H G H) (h : H a = some o) (ho : ∀ l, o ≠ .lst l) : H' a = some o := by
  obtain ⟨l, e, _⟩ := b0.at_
  refine b.stp.un a o (fun z => ?_) h
  have z : a = p := z
  subst z
  rw [h] at e
  exact ho l (Option.some.inj e)
/-- what the judging works on -/
structure JS (K : PySem.W.Frag) (C p x : Addr) (tv : V) (fa : Addr) (sv nv : V) (n : Nat) (f : Nat → Nat → Nat) (ns : Str → List Nat) (kvs : List (Key × V)) (sens : List Sen) (names : List Str) (G H : Hp) : Prop where
  pst : Pst p G H G H
  world : WorldAt K C G H x n f ns
  table : Table K G tv (tab n f)
  fdict : H fa = some (.dK kvs)
  facts : FactsL K G kvs ns
  sens_ : Each K (SenAt K) G sv sens
  names_ : Strs K G nv names
theorem JS.step {C p x : Addr} {tv : V} {fa : Addr} {sv nv : V} {n : Nat} {f : Nat → Nat → Nat} {ns : Str → List Nat} {kvs : List (Key × V)} {sens : List Sen} {names : List Str} {G H G' H' : Hp}
    (j : JS K C p x tv fa sv nv n f ns kvs sens names G H) (b : Pst p G H G' H') : JS K C p x tv fa sv nv n f ns kvs sens names G' H' := by
  refine ⟨b.re, ?_, Table.mono b.gg j.table, b.keep j.pst j.fdict (fun l z => by cases z), j.facts.mono b.gg, Each.mono (fun v d => SenAt.mono b.gg) b.gg j.sens_, Strs.mono b.gg j.names_⟩
  obtain ⟨dx, r, fa', kvs', h1, h2, h3, h4⟩ := j.world.at_
  exact ⟨dx, r, fa', kvs', b.keep j.pst h1 (fun l z => by cases z), Table.mono b.gg h2, b.keep j.pst h3 (fun l z => by cases z), h4.mono b.gg⟩
theorem list_fn (l : List Nat) : ∃ f, l = (List.range l.length).map f := by
  refine ⟨fun i => l[i]?.getD 0, ?_⟩
  apply List.ext_getElem
  · simp
  · intro i h1 h2
    simp [List.getElem?_eq_getElem h1]
theorem lists_at {G : Hp} {D : Addr} {n : Nat} {f : Nat → Nat → Nat} {ns : Str → List Nat} {sens : List Sen} {i e : Nat} {t : Sen} (hL : Each K (Bools K) G (.ref D) (sens.map (trs n f ns))) (ht : sens[i]? = some t) (he : e < n) :
    ∃ xs c ys, SqL K G D xs ∧ atI xs (i : Int) = some (.ref c) ∧ SqL K G c ys ∧ atI ys (e : Int) = some (.bl (tr n f ns t e)) := by
  obtain ⟨a, xs, er, hx, hp⟩ := hL
  cases er
  have ht' : (sens.map (trs n f ns))[i]? = some (trs n f ns t) := by
    rw [List.getElem?_map, ht]
    rfl
  obtain ⟨v, hv, c, rfl, hc⟩ := Paired.get hp ht'
  exact ⟨xs, c, _, hx, atN hv, hc, atN (bools_at (range_at he))⟩
theorem lists_row {G : Hp} {D : Addr} {n : Nat} {f : Nat → Nat → Nat} {ns : Str → List Nat} {sens : List Sen} {i : Nat} {t : Sen} (hL : Each K (Bools K) G (.ref D) (sens.map (trs n f ns))) (ht : sens[i]? = some t) :
    ∃ xs v, SqL K G D xs ∧ atI xs (i : Int) = some v ∧ Bools K G v (trs n f ns t) := by
  obtain ⟨a, xs, er, hx, hp⟩ := hL
  cases er
  have ht' : (sens.map (trs n f ns))[i]? = some (trs n f ns t) := by
    rw [List.getElem?_map, ht]
    rfl
  obtain ⟨v, hv, hc⟩ := Paired.get hp ht'
  exact ⟨xs, v, hx, atN hv, hc⟩
theorem range_inv {α : Type} {m i : Nat} {f : Nat → α} {c : α} (h : ((List.range m).map f)[i]? = some c) : i < m ∧ c = f i := by
  have hi : i < m := by
    have := (List.getElem?_eq_some_iff.mp h).1
    simpa using this
  rw [range_at hi] at h
  exact ⟨hi, (Option.some.inj h).symm⟩
theorem sens_at {G : Hp} {sa : Addr} {sxs : List V} {sens : List Sen} {i : Nat} {t : Sen} (hsp : Paired (SenAt K G) sxs sens) (ht : sens[i]? = some t) : ∃ v, atI sxs (i : Int) = some v ∧ SenAt K G v t := by
  obtain ⟨v, hv, h⟩ := Paired.get hsp ht
  exact ⟨v, atN hv, h⟩
def spJudged (K : PySem.W.Frag) (C : Addr) (d : Nat) : Sp := fun vs H Q _ => ∃ (p x : Addr) (tv : V) (fa : Addr) (sv nv : V) (n : Nat) (f : Nat → Nat → Nat) (ns : Str → List Nat) (kvs : List (Key × V)) (sens : List Sen) (names : List Str) (G : Hp), vs = [.ref p, .ref x, tv, .ref fa, sv, nv] ∧
  JS K C p x tv fa sv nv n f ns kvs sens names G H ∧ 0 < n ∧ n ≤ 1000 ∧ (∀ a b, a < n → b < n → f a b < n) ∧ 0 < sens.length ∧ sens.length ≤ 6 ∧ (∀ s, s ∈ sens → s.depth < d) ∧ names.length = 24 ∧ ∀ H', Q (.bl true) H'
theorem ok_law_judged {k d : Nat} (T : Tx K mg) (G_law_next : FnOk P w K mg base CX0 k T.a_law_next T.d_law_next ["pool", "many"] spNext) (G_law_true : FnOk P w K mg base CX0 k T.a_law_true T.d_law_true ["table", "facts", "sentence"] (spTrue K d))
    (G_law_picks : FnOk P w K mg base CX0 k T.a_law_picks T.d_law_picks ["pool", "lists"] (spPicks K)) (G_law_places : FnOk P w K mg base CX0 k T.a_law_places T.d_law_places ["pool", "truths", "many"] (spPlaces K))
    (G_World_has : FnOk P w K mg base CX0 k T.a_World_has T.d_World_has ["self", "element", "sentence"] (spHas K T.C_World d)) (G_World_fails : FnOk P w K mg base CX0 k T.a_World_fails T.d_World_fails ["self", "claim", "places"] (spFails K T.C_World d)) :
    FnOk P w K mg base CX0 (k + 1) T.a_law_judged T.d_law_judged ["pool", "world", "table", "facts", "sentences", "names"] (spJudged K T.C_World d) := by
  refine T.F_law_judged.ok sc_law_judged (fun vs H Q E h => ?_) (fun cdv A outer s H vs Q E hr h => ?_)
  · obtain ⟨_, _, _, _, _, _, _, _, _, _, _, _, _, rfl, _⟩ := h
    rfl
  obtain ⟨p, x, tv, fa, sv, nv, n, f, ns, kvs, sens, names, G, rfl, J, hn0, hn, hcl, hs0, hs6, hd, hnl, q⟩ := h
  refine ⟨_, (pss_cons (ps_set (i := 6) sc_law_judged.nd rfl (Or.inl rfl) (pe_callB (lenS K) (by rfl) T.z_len PySem.boot_len (pa_cons (pv 2) pa_nil)))
      (pss_cons (ps_set (i := 7) sc_law_judged.nd rfl (Or.inr rfl) (pe_lc (own := [("one", 17)]) (g := gName 17) (by rfl) sc_law_judged.nd (piL K (pv 4)) (blkOk_by (own := [("one", 17)]) (N := ["pool", "world", "table", "facts", "sentences", "names", "many", "lists", "k", "at", "picks", "places", "total", "good", "goal", "claim", "given", "one"]) (sc := defScope s_law_judged) (by decide +kernel)) (fun _ _ _ _ _ => (pg_name (i := 17) sc_law_judged.nd rfl (Or.inl rfl))) (fun _ _ _ _ _ => pts_nil) (fun _ _ _ _ _ => (pe_call G_law_true hr (by rfl) T.m_law_true T.F_law_true.kp T.b_law_true .nil pass0 (pa_cons (pv 2) (pa_cons (pv 3) (pa_cons (pv 17) pa_nil)))))))
      (pss_cons (ps_for PassesOwn.never rfl (pi_range1 (by rfl) T.z_range (pa_cons (pe_callB (lenS K) (by rfl) T.z_len PySem.boot_len (pa_cons (pv 4) pa_nil)) pa_nil)) (pg_name (i := 8) sc_law_judged.nd rfl (Or.inl rfl)) (pss_one (ps_for PassesOwn.never rfl (piL K (pe_lst (pa_cons pe_int (pa_cons (pe_op op_sub (pv 6) pe_int) (pa_cons (pe_call G_law_next hr (by rfl) T.m_law_next T.F_law_next.kp T.b_law_next .nil pass0 (pa_cons (pv 0) (pa_cons (pv 6) pa_nil))) pa_nil))))) (pg_name (i := 9) sc_law_judged.nd rfl (Or.inl rfl)) (pss_one (ps_if (pt_cmpR op_ne (pe_callB call_reprB (by rfl) T.z_repr (by decide +kernel) (pa_cons (pe_meth (pv 1) T.cl_World T.mt_World_has G_World_has hr T.b_World_has .nil pass0 (pa_cons (pv 9) (pa_cons (pe_ix (ixL K) (pv 4) (pv 8) (fun _ _ => rfl)) pa_nil))) pa_nil)) (pe_callB call_reprB (by rfl) T.z_repr (by decide +kernel) (pa_cons (pe_ix (ixL K) (pe_ix (ixL K) (pv 7) (pv 8) (fun _ _ => rfl)) (pv 9) (fun _ _ => rfl)) pa_nil)) (nomark _)) (pss_one (ps_ret pe_bl)) pss_nil)))))
      (pss_cons (ps_set (i := 10) sc_law_judged.nd rfl (Or.inr rfl) (pe_call G_law_picks hr (by rfl) T.m_law_picks T.F_law_picks.kp T.b_law_picks .nil pass0 (pa_cons (pv 0) (pa_cons (pv 7) pa_nil))))
      (pss_cons (ps_set (i := 11) sc_law_judged.nd rfl (Or.inl rfl) (pe_call G_law_places hr (by rfl) T.m_law_places T.F_law_places.kp T.b_law_places .nil pass0 (pa_cons (pv 0) (pa_cons (pe_lc (own := [("at", 9)]) (g := gName 9) (by rfl) sc_law_judged.nd (piL K (pv 10)) (blkOk_by (own := [("at", 9)]) (N := ["pool", "world", "table", "facts", "sentences", "names", "many", "lists", "k", "at", "picks", "places", "total", "good", "goal", "claim", "given", "one"]) (sc := defScope s_law_judged) (by decide +kernel)) (fun _ _ _ _ _ => (pg_name (i := 9) sc_law_judged.nd rfl (Or.inl rfl))) (fun _ _ _ _ _ => pts_nil) (fun _ _ _ _ _ => (pe_ix (ixL K) (pv 7) (pv 9) (fun _ _ => rfl)))) (pa_cons (pv 6) pa_nil)))))
      (pss_cons (ps_set (i := 12) sc_law_judged.nd rfl (Or.inl rfl) pe_int)
      (pss_cons (ps_set (i := 13) sc_law_judged.nd rfl (Or.inl rfl) pe_bl)
      (pss_cons (ps_for PassesOwn.never rfl (pi_range1 (by rfl) T.z_range (pa_cons (pe_callB (lenS K) (by rfl) T.z_len PySem.boot_len (pa_cons (pv 10) pa_nil)) pa_nil)) (pg_name (i := 8) sc_law_judged.nd rfl (Or.inl rfl)) (pss_cons (ps_set (i := 12) sc_law_judged.nd rfl (Or.inl rfl) (pe_ix (ixL K) (pe_ix (ixL K) (pv 2) (pv 12) (fun _ _ => rfl)) (pe_ix (ixL K) (pv 11) (pv 8) (fun _ _ => rfl)) (fun _ _ => rfl)))
      (pss_one (ps_set (i := 13) sc_law_judged.nd rfl (Or.inl rfl) (pe_and (pv 13) (pe_one (pe_ix (ixL K) (pe_ix (ixL K) (pv 7) (pe_ix (ixL K) (pv 10) (pv 8) (fun _ _ => rfl)) (fun _ _ => rfl)) (pe_ix (ixL K) (pv 11) (pv 8) (fun _ _ => rfl)) (fun _ _ => rfl))))))))
      (pss_cons (ps_set (i := 14) sc_law_judged.nd rfl (Or.inl rfl) (pe_call G_law_next hr (by rfl) T.m_law_next T.F_law_next.kp T.b_law_next .nil pass0 (pa_cons (pv 0) (pa_cons (pe_callB (lenS K) (by rfl) T.z_len PySem.boot_len (pa_cons (pv 4) pa_nil)) pa_nil))))
      (pss_cons (ps_set (i := 15) sc_law_judged.nd rfl (Or.inl rfl) (pe_tup (pa_cons (pe_callTy (tupleS K) (by rfl) T.z_tuple (by decide +kernel) (pa_cons (pe_lc (own := [("k", 8)]) (g := gName 8) (by rfl) sc_law_judged.nd (pi_range1 (by rfl) T.z_range (pa_cons (pe_callB (lenS K) (by rfl) T.z_len PySem.boot_len (pa_cons (pv 10) pa_nil)) pa_nil)) (blkOk_by (own := [("k", 8)]) (N := ["pool", "world", "table", "facts", "sentences", "names", "many", "lists", "k", "at", "picks", "places", "total", "good", "goal", "claim", "given", "one"]) (sc := defScope s_law_judged) (by decide +kernel)) (fun _ _ _ _ _ => (pg_name (i := 8) sc_law_judged.nd rfl (Or.inl rfl))) (fun _ _ _ _ _ => pts_nil) (fun _ _ _ _ _ => (pe_tup (pa_cons (pe_ix (ixL K) (pv 5) (pv 8) (fun _ _ => rfl)) (pa_cons pe_str (pa_cons (pe_ix (ixL K) (pv 4) (pe_ix (ixL K) (pv 10) (pv 8) (fun _ _ => rfl)) (fun _ _ => rfl)) pa_nil)))))) pa_nil)) (pa_cons (pe_ix (ixL K) (pv 4) (pv 14) (fun _ _ => rfl)) pa_nil))))
      (pss_cons (ps_set (i := 16) sc_law_judged.nd rfl (Or.inl rfl) (pe_callTy (listS K) (by rfl) T.z_list (by decide +kernel) (pa_cons (pv 11) pa_nil)))
      (pss_one (ps_ret (pe_and (pe_cmpR op_eq (pe_callB call_reprB (by rfl) T.z_repr (by decide +kernel) (pa_cons (pe_meth (pv 1) T.cl_World T.mt_World_fails G_World_fails hr T.b_World_fails .nil pass0 (pa_cons (pv 15) (pa_cons (pv 16) pa_nil))) pa_nil)) (pe_callB call_reprB (by rfl) T.z_repr (by decide +kernel) (pa_cons (pe_and (pv 13) (pe_one (pe_not (pe_ix (ixL K) (pe_ix (ixL K) (pv 7) (pv 14) (fun _ _ => rfl)) (pv 12) (fun _ _ => rfl))))) pa_nil)) (nomark _)) (pe_one (pe_cmpR (eqD K hr.units) (pv 16) (pv 11) (nomark _))))))))))))))))), ?_⟩
  obtain ⟨ta, txs, rfl, hta, htp⟩ := id J.table
  have htl : txs.length = n := (Paired.len htp).trans (tab_len n f)
  obtain ⟨sa, sxs, rfl, hsa, hsp⟩ := id J.sens_
  have hsl : sxs.length = sens.length := Paired.len hsp
  refine ⟨_, rfl, ta, _, rfl, .inl (J.pst.all.seq hta), ?_⟩
  rw [htl]
  -- lists
  refine ⟨_, rfl, sa, rfl, ⟨_, J.pst.all.seq hsa⟩, fun D nD => ?_⟩
  refine lc_list (K := K) (a := sa) (xs := sxs) (fun i H' => ∃ G', PB (Bools K) p G H D ((sens.take i).map (trs n f ns)) G' H') ⟨G, PB.start J.pst nD⟩ (fun i H' _ h => by
    obtain ⟨G', b⟩ := h
    exact b.pst.all.seq hsa) ?_ ?_
  · rintro i y H' hy ⟨G', b⟩
    obtain ⟨t, ht, hyt⟩ := Paired.getL hsp hy
    have J' := J.step b.pst
    refine ⟨rfl, ?_⟩
    refine ⟨_, rfl, _, rfl, _, rfl, .ref ta, fa, y, G', n, f, kvs, ns, t, rfl, b.pst.gh, J'.table, J'.fdict, J'.facts, SenAt.mono b.pst.gg hyt, hd t (List.mem_of_getElem? ht), hn, hcl, fun G2 H2 r st hb => ?_⟩
    obtain ⟨ys, e, hl, b2⟩ := (b.step mono_bools st).snoc (d := trs n f ns t) hb
    refine ⟨ys, e, ?_, G2, ?_⟩
    · rw [hl, List.length_map]
      have := List.length_take_le' i sens
      exact sz2 (by omega)
    · rw [List.take_succ, ht, List.map_append]
      exact b2
  rintro H1 ⟨G1', b⟩
  rw [hsl, List.take_length] at b
  obtain ⟨G1, b1, _, hL⟩ := b.done (K := K) mono_bools
  have J1 := J.step b1
  refine ⟨_, rfl, sa, _, rfl, .inl (b1.all.seq hsa), ?_⟩
  rw [hsl]
  refine ⟨_, rfl, by omega, by omega, ?_⟩
  refine for_range (lo := 0) (n := sens.length) (fun i σ' H' => ∃ G' z8 z9, Pst p G1 H1 G' H' ∧ σ' = [some (.ref p), some (.ref x), some (.ref ta), some (.ref fa), some (.ref sa), some nv, some (iv n), some (.ref D), z8, z9, none, none, none, none, none, none, none, none]) ⟨G1, none, none, b1.re, rfl⟩ ?_ ?_
  · rintro i σ' H' hi ⟨G', z8, z9, b, rfl⟩
    rw [Int.zero_add]
    obtain ⟨t, ht⟩ : ∃ t, sens[i]? = some t := ⟨_, List.getElem?_eq_getElem hi⟩
    obtain ⟨sy, hsy, hst⟩ := sens_at (sa := sa) hsp ht
    obtain ⟨l, hp, hl⟩ := b.at_
    refine ⟨_, rfl, _, _, rfl, rfl, _, rfl, _, rfl, p, l, n, rfl, hp, hl, by omega, by omega, fun d1 l1 hl1 hd1 => ?_⟩
    have b2 := b.next hl1
    refine ⟨(by show 3 ≤ sizeLine; decide), fun L nL => ?_⟩
    have b3 := b2.newF (o := .lst [V.int 0, V.int ((n : Int) - 1), V.int (d1 : Int)]) nL
    have el : [V.int 0, V.int ((n : Int) - 1), V.int (d1 : Int)] = [0, n - 1, d1].map iv := by
      rw [show (n : Int) - 1 = ((n - 1 : Nat) : Int) by omega]
      rfl
    have hL3 : SqL K (upd G' L (.lst [V.int 0, V.int ((n : Int) - 1), V.int (d1 : Int)])) L ([0, n - 1, d1].map iv) := SqL.of (by rw [upd_same, el])
    refine ⟨L, rfl, ⟨_, b3.gh.seq hL3⟩, ?_⟩
    generalize upd G' L (.lst [V.int 0, V.int ((n : Int) - 1), V.int (d1 : Int)]) = G3 at b3 hL3
    refine for_list (K := K) (a := L) (xs := [0, n - 1, d1].map iv) (fun j σ' H' => ∃ G' z9, Pst p G1 H1 G' H' ∧ Same G3 G' ∧ σ' = [some (.ref p), some (.ref x), some (.ref ta), some (.ref fa), some (.ref sa), some nv, some (iv n), some (.ref D), some (iv i), z9, none, none, none, none, none, none, none, none]) ⟨G3, z9, b3, Same.refl _, rfl⟩ (fun j σ' H' _ h => by
      obtain ⟨G', z9, b, sg, _⟩ := h
      exact (sg.trans b.gh).seq hL3) ?_ ?_
    · rintro j v σ' H' hj ⟨G', z9, b, sg, rfl⟩
      obtain ⟨e, he, rfl⟩ := nats_of hj
      have hen : e < n := by
        have := List.mem_of_getElem? he
        rcases List.mem_cons.mp this with h | h
        · omega
        rcases List.mem_cons.mp h with h | h
        · omega
        · have := List.mem_singleton.mp h
          omega
      have J' := J1.step b
      obtain ⟨dx, r, fa', kvs', hx, _⟩ := id J'.world.at_
      refine ⟨_, rfl, x, dx, _, rfl, hx, wf_no (by decide +kernel) (by decide +kernel), _, rfl, _, rfl, _, rfl, sa, _, _, _, rfl, rfl, (b1.gg.trans b.all).seq hsa, hsy, x, e, sy, G', n, f, ns, t, rfl, b.gh, J'.world, SenAt.mono (b1.gg.trans b.gg) hst, hd t (List.mem_of_getElem? ht), hn, hcl, hen, fun G2 H2 st => ?_⟩
      have b4 := b.step st
      obtain ⟨xs2, c2, ys2, h1, h2, h3, h4⟩ := lists_at hL ht hen
      refine ⟨_, rfl, _, rfl, _, rfl, D, _, _, _, rfl, rfl, b4.all.seq h1, h2, _, rfl, c2, _, _, _, rfl, rfl, b4.all.seq h3, h4, _, rfl, rfl, _, rfl, ?_⟩
      rw [decide_eq_true rfl]
      refine iteF ?_
      exact ⟨G2, _, b4, sg.trans st.gg, rfl⟩
    · rintro σ' H' ⟨G', z9, b, sg, rfl⟩
      exact ⟨G', _, _, b, rfl⟩
  rintro σ' H2 ⟨G2, z8, z9, c2, rfl⟩
  have J2 := J1.step c2
  have hL2 := Each.mono (fun v d => Bools.mono c2.gg) c2.gg hL
  -- picks
  refine ⟨_, rfl, _, rfl, p, .ref D, sens.map (trs n f ns), G2, rfl, c2.re, hL2, ?_, ?_, fun G3 H3 r pk c3 hpk hI => ?_⟩
  · rw [List.length_map]
    exact hs0
  · rw [List.length_map]
    omega
  rw [List.length_map] at hI
  obtain ⟨pf, hpf⟩ := list_fn pk
  generalize hm : pk.length = m at hpf
  have hm24 : m ≤ 24 := by
    have := hI.1
    omega
  obtain ⟨ra, rfl, hra⟩ := hpk
  subst hpf
  have J3 := J2.step c3
  have hL3 := Each.mono (fun v d => Bools.mono c3.gg) c3.gg hL2
  obtain ⟨sen, hsen⟩ : ∃ sen : Nat → Sen, ∀ i, i < m → sens[pf i]? = some (sen i) ∧ (sen i).depth < d := by
    refine ⟨fun i => sens.getD (pf i) (.word ""), fun i hi => ?_⟩
    have := hI.2 (pf i) (List.mem_map.mpr ⟨i, List.mem_range.mpr hi, rfl⟩)
    show sens[pf i]? = some (sens.getD (pf i) (.word "")) ∧ (sens.getD (pf i) (.word "")).depth < d
    rw [List.getD_eq_getElem?_getD, List.getElem?_eq_getElem this]
    exact ⟨rfl, hd _ (List.getElem_mem this)⟩
  -- places
  refine ⟨_, rfl, _, rfl, ra, rfl, ⟨_, c3.gh.seq hra⟩, fun D4 nD4 => ?_⟩
  refine lc_list (K := K) (a := ra) (xs := ((List.range m).map pf).map iv) (fun i H' => ∃ G', PB (Bools K) p G3 H3 D4 ((List.range i).map fun j => trs n f ns (sen j)) G' H') ⟨G3, PB.start c3.re nD4⟩ (fun i H' _ h => by
    obtain ⟨G', b⟩ := h
    exact b.pst.all.seq hra) ?_ ?_
  · rintro i y H' hy ⟨G', b⟩
    obtain ⟨c, hc, rfl⟩ := nats_of hy
    obtain ⟨hi, rfl⟩ := range_inv hc
    obtain ⟨xs1, v1, h1, h2, h3⟩ := lists_row hL3 (hsen i hi).1
    obtain ⟨ys, e, hl, b2⟩ := b.snoc (d := trs n f ns (sen i)) (Bools.mono b.pst.gg h3)
    refine ⟨rfl, ?_⟩
    refine ⟨_, rfl, _, rfl, D, _, _, _, rfl, rfl, b.pst.all.seq h1, h2, ys, e, ?_, G', ?_⟩
    · rw [hl, List.length_map, List.length_range]
      exact sz2 (by omega)
    · rw [range_snoc]
      exact b2
  rintro H4 ⟨G4', b4'⟩
  rw [List.length_map, List.length_map, List.length_range] at b4'
  obtain ⟨G4, c4, _, hE4⟩ := b4'.done (K := K) mono_bools
  refine ⟨_, rfl, p, .ref D4, n, _, G4, rfl, c4.re, hE4, fun r hr => ?_, hn0, hn, ?_, fun G5 H5 r pl c5 hpl hlen hall => ?_⟩
  · obtain ⟨j, _, rfl⟩ := List.mem_map.mp hr
    rw [List.length_map, List.length_range]
  · rw [List.length_map, List.length_range]
    omega
  rw [List.length_map, List.length_range] at hlen
  obtain ⟨lf, hlf⟩ := list_fn pl
  rw [hlen] at hlf
  obtain ⟨la, rfl, hla⟩ := hpl
  subst hlf
  have hlt : ∀ i, i < m → lf i < n := fun i hi => hall _ (List.mem_map.mpr ⟨i, List.mem_range.mpr hi, rfl⟩)
  have c35 := c4.tr c5
  have J5 := J3.step c35
  have hL5 := Each.mono (fun v d => Bools.mono c35.gg) c35.gg hL3
  have hra5 := c35.gg.seq hra
  -- total, good
  refine ⟨_, rfl, ra, _, rfl, .inl (c35.gh.seq hra5), ?_⟩
  rw [List.length_map, List.length_map, List.length_range]
  refine ⟨_, rfl, by omega, by omega, ?_⟩
  refine for_range (lo := 0) (n := m) (fun i σ' H' => H' = H5 ∧ ∃ z8 z9, σ' = [some (.ref p), some (.ref x), some (.ref ta), some (.ref fa), some (.ref sa), some nv, some (iv n), some (.ref D), z8, z9, some (.ref ra), some (.ref la), some (iv (tot f lf i)), some (.bl (gd n f ns sen lf i)), none, none, none, none]) ⟨rfl, z8, z9, rfl⟩ ?_ ?_
  · rintro i σ' H' hi ⟨rfl, z8, z9, rfl⟩
    rw [Int.zero_add]
    obtain ⟨xs1, c1, ys1, h1, h2, h3, h4⟩ := tab_at (Table.mono J5.pst.gh J5.table) (tot_lt (m := i) hn0 hcl fun j hj => hlt j (by omega)) (hlt i hi)
    have hla' := c5.gh.seq hla
    refine ⟨_, rfl, _, rfl, ta, _, _, _, rfl, rfl, h1, h2, _, rfl, _, rfl, la, _, _, _, rfl, rfl, hla', atN (nats_at (range_at hi)), c1, _, _, _, rfl, rfl, h3, h4, ?_⟩
    refine ⟨_, rfl, _, rfl, ?_⟩
    cases hg : gd n f ns sen lf i with
    | false =>
      refine iteF ⟨rfl, some (iv i), z9, ?_⟩
      have e : gd n f ns sen lf (i + 1) = false := by
        show (gd n f ns sen lf i && _) = false
        rw [hg]
        rfl
      rw [e]
      rfl
    | true =>
      obtain ⟨xs2, c2, ys2, k1, k2, k3, k4⟩ := lists_at hL5 (hsen i hi).1 (hlt i hi)
      refine iteT ⟨_, rfl, _, rfl, _, rfl, ra, _, _, _, rfl, rfl, c5.gh.seq hra5, atN (nats_at (range_at hi)), D, _, _, _, rfl, rfl, c5.gh.seq k1, k2, _, rfl, _, rfl, la, _, _, _, rfl, rfl, hla', atN (nats_at (range_at hi)), c2, _, _, _, rfl, rfl, c5.gh.seq k3, k4, rfl, some (iv i), z9, ?_⟩
      have e : gd n f ns sen lf (i + 1) = tr n f ns (sen i) (lf i) := by
        show (gd n f ns sen lf i && _) = _
        rw [hg]
        rfl
      rw [e]
      rfl
  rintro σ' H' ⟨rfl, z8, z9, rfl⟩
  have sg5 : Same G G5 := b1.gg.trans (c2.gg.trans (c3.gg.trans c35.gg))
  have hsa5 := sg5.seq hsa
  have hsp5 : Paired (SenAt K G5) sxs sens := Paired.mapP hsp fun _ _ => SenAt.mono sg5
  obtain ⟨na, rfl, hna⟩ := id J5.names_
  obtain ⟨l, hp, hl⟩ := c5.at_
  refine ⟨_, rfl, _, rfl, sa, _, rfl, .inl (c5.gh.seq hsa5), p, l, _, rfl, hp, hl, by omega, by omega, fun g l1 hl1 hg => ?_⟩
  have c6 := c5.re.next hl1
  generalize upd H' p (.lst l1) = H6 at c6
  have hg' : g < sens.length := by omega
  obtain ⟨gs, hgs⟩ : ∃ t, sens[g]? = some t := ⟨_, List.getElem?_eq_getElem hg'⟩
  have hgd := hd gs (List.mem_of_getElem? hgs)
  obtain ⟨gy, hgy, hgt⟩ := sens_at (sa := sa) hsp5 hgs
  -- the claim
  obtain ⟨nm, hnm⟩ : ∃ nm : Nat → Str, ∀ i, i < m → atI (names.map V.str) (i : Int) = some (.str (nm i)) := by
    refine ⟨fun i => names.getD i "", fun i hi => ?_⟩
    show _ = some (V.str (names.getD i ""))
    have h : i < names.length := by omega
    rw [List.getD_eq_getElem?_getD, List.getElem?_eq_getElem h]
    exact atN (strs_at (List.getElem?_eq_getElem h))
  refine ⟨_, rfl, ra, _, rfl, .inl (c6.gh.seq hra5), ?_⟩
  rw [List.length_map, List.length_map, List.length_range]
  refine ⟨_, rfl, by omega, by omega, fun D6 nD6 => ?_⟩
  refine lc_range (lo := 0) (n := m) (fun i H' => ∃ G', PB (HoldAt K) p G5 H6 D6 ((List.range i).map fun j => (nm j, sen j)) G' H') ⟨G5, PB.start c6.re nD6⟩ ?_ ?_
  · rintro i H' hi ⟨G', b⟩
    rw [Int.zero_add]
    refine ⟨rfl, ?_⟩
    obtain ⟨sy, hsy, hst⟩ := sens_at (sa := sa) hsp5 (hsen i hi).1
    refine ⟨_, rfl, _, rfl, na, _, _, _, rfl, rfl, b.pst.all.seq hna, hnm i hi, _, rfl, _, rfl, _, rfl, ra, _, _, _, rfl, rfl, b.pst.all.seq hra5, atN (nats_at (range_at hi)), sa, _, _, _, rfl, rfl, b.pst.all.seq hsa5, hsy, (by show 3 ≤ sizeLine; decide), fun u nu => ?_⟩
    have b2 := b.step mono_hold (stp_newF b.pst.gh (o := .tup [.str (nm i), .str "once", sy]) nu)
    obtain ⟨ys, e, hl, b3⟩ := b2.snoc (d := (nm i, sen i)) ⟨u, sy, rfl, .inl (.inl upd_same), SenAt.mono b2.pst.gg hst⟩
    refine ⟨ys, e, ?_, upd G' u (.tup [.str (nm i), .str "once", sy]), ?_⟩
    · rw [hl, List.length_map, List.length_range]
      exact sz2 (by omega)
    · rw [range_snoc]
      exact b3
  rintro H7 ⟨G7', b7'⟩
  obtain ⟨G7, c7, _, D6', hxs, eD, hD6, hpair⟩ := b7'.done (K := K) mono_hold
  cases eD
  refine ⟨D6, hxs, rfl, .inl ⟨c7.gh.seq hD6, fun u nu => ?_⟩⟩
  have c8 := c7.newF (o := .tup hxs) nu
  refine ⟨_, rfl, _, rfl, sa, _, _, _, rfl, rfl, c8.all.seq hsa5, hgy, (by show 2 ≤ sizeLine; decide), fun v nw => ?_⟩
  have c9 := c8.newF (o := .tup [.ref u, gy]) nw
  have hcl9 : ClaimAt K (upd (upd G7 u (.tup hxs)) v (.tup [.ref u, gy])) (.ref v) ((List.range m).map fun j => (nm j, sen j)) gs := by
    have e1 : Same G7 (upd G7 u (.tup hxs)) := Same.new (Same.none c7.gh nu)
    have e2 : Same (upd G7 u (.tup hxs)) (upd (upd G7 u (.tup hxs)) v (.tup [.ref u, gy])) := Same.new (Same.none c8.gh nw)
    exact ⟨v, u, gy, hxs, rfl, .inl (.inl upd_same), .inl (.inl (e2 _ _ upd_same)), Paired.mapP hpair fun _ _ => HoldAt.mono (e1.trans e2), SenAt.mono c9.gg hgt⟩
  generalize upd (upd G7 u (.tup hxs)) v (.tup [.ref u, gy]) = G9 at c9 hcl9
  generalize upd (upd H7 u (.tup hxs)) v (.tup [.ref u, gy]) = H9 at c9
  -- given
  refine ⟨_, rfl, la, _, rfl, .inl (c9.all.seq hla), fun l nl => ?_⟩
  have cA := c9.newF (o := .lst (((List.range m).map lf).map iv)) nl
  have sA : Same G9 (upd G9 l (.lst (((List.range m).map lf).map iv))) := Same.new (Same.none c9.gh nl)
  have hgv : Nats K (upd G9 l (.lst (((List.range m).map lf).map iv))) (.ref l) ((List.range m).map lf) := nats_new
  generalize upd G9 l (.lst (((List.range m).map lf).map iv)) = GA at cA sA hgv
  generalize upd H9 l (.lst (((List.range m).map lf).map iv)) = HA at cA
  have JA := (J5.step c6).step cA
  obtain ⟨dx, r, fa', kvs', hx, _⟩ := id JA.world.at_
  refine ⟨_, rfl, x, dx, _, rfl, hx, wf_no (by decide +kernel) (by decide +kernel), _, rfl, _, rfl, x, .ref v, .ref l, GA, n, f, ns, m, nm, sen, lf, gs, rfl, cA.gh, JA.world, ClaimAt.mono sA hcl9, hgv, fun i hi => ⟨(hsen i hi).2, hlt i hi⟩, hgd, hn0, hn, by omega, hcl, fun GB HB st => ?_⟩
  have cB := cA.step st
  have hgvB : SqL K HB l (((List.range m).map lf).map iv) := by
    obtain ⟨l', e, h⟩ := hgv
    cases e
    exact (st.gg.trans st.gh).seq h
  have hlaB : SqL K HB la (((List.range m).map lf).map iv) := cB.all.seq hla
  refine ⟨_, rfl, _, rfl, _, rfl, ?_⟩
  cases hg2 : gd n f ns sen lf m with
  | false =>
    refine iteF ⟨_, rfl, rfl, _, rfl, ?_⟩
    rw [Bool.false_and, decide_eq_true rfl]
    refine iteT ⟨_, rfl, _, rfl, natsD _, natsD _, dp_sq hgvB, dp_sq hlaB, shaped_nats _, shaped_nats _, ?_⟩
    rw [eqv_nats, decide_eq_true rfl]
    exact q HB
  | true =>
    obtain ⟨xs2, d2, ys2, k1, k2, k3, k4⟩ := lists_at hL5 hgs (tot_lt (m := m) hn0 hcl hlt)
    refine iteT ⟨_, rfl, _, rfl, D, _, _, _, rfl, rfl, cB.all.seq k1, k2, _, rfl, d2, _, _, _, rfl, rfl, cB.all.seq k3, k4, _, rfl, _, rfl, rfl, _, rfl, ?_⟩
    rw [Bool.true_and, decide_eq_true rfl]
    refine iteT ⟨_, rfl, _, rfl, natsD _, natsD _, dp_sq hgvB, dp_sq hlaB, shaped_nats _, shaped_nats _, ?_⟩
    rw [eqv_nats, decide_eq_true rfl]
    exact q HB
end
end W76
namespace HX
open PySem PySem.Spec PyProof.Rows L2
/-- what a callee lets out, told of all states of the right length -/
theorem passes_len {X : Cx} {W : WX} (tk : Takes X W) (n : Nat) (hn : X.N.length = n := by rfl) : Passes (L2.CX X.prog X.w) X (fun cls d H => ∀ σ : L2.St, σ.length = n → W cls d σ H) :=
  fun pins σ H s e s' I c => tk e s' (XE.of_call I (fun cls d H' h => h σ (I.len.trans hn)) c)
end HX
namespace W76
open PySem PySem.Spec PyProof.Rows L2 HX
section
variable {P : Program} {w : World} {K : PySem.W.Frag} {mg : Str → Option Value} {base : Heap}
def spRefused (K : PySem.W.Frag) : Sp := fun vs H Q _ => ∃ (v : V) (f : Addr) (G : Hp) (rows : Rows) (kvs : List (Key × V)) (ns : Str → List Nat), vs = [v, .ref f] ∧ Same G H ∧ G f = none ∧ H f = some (.dK kvs) ∧ Table K G v rows ∧ FactsL K G kvs ns ∧ rows.length ≤ 1000 ∧
  ∀ H', Same H H' → Q (.str ((fault rows kvs ns).getD "")) H'
theorem ok_law_refused {k : Nat} (T : Tx K mg) (G_World__init : FnOk P w K mg base (L2.CX P w) k T.a_World__init T.d_World__init ["self", "products", "facts"] (spInit K T.C_World T.C_Bad)) :
    FnOk P w K mg base CX0 (k + 2) T.a_law_refused T.d_law_refused ["table", "facts"] (spRefused K) := by
  refine T.F_law_refused.ok sc_law_refused (fun vs H Q E h => ?_) (fun cdv A outer s H vs Q E hr h => ?_)
  · obtain ⟨_, _, _, _, _, _, rfl, _⟩ := h
    rfl
  obtain ⟨v, f, G, rows, kvs, ns, rfl, sG, hGf, hf, hT, hF, hsz, q⟩ := h
  refine ⟨_, (pss_cons (ps_try_as (i := 2) rfl rfl sc_law_refused.nd rfl rfl ⟨rfl, by decide, .inl T.c_Bad⟩ takes0 (fun W pn xe tk _ => (pss_one (ps_expr (pe_make T.k_World G_World__init hr (by rfl) T.c_World T.b_World__init .nil (passes_len tk 3) (pa_cons (pv 0) (pa_cons (pv 1) pa_nil)))))) (fun a oe cls d pn hz hf => (pss_one (ps_ret (pe_xf T.xf_Bad T.n_Bad hz hf (pv 2))))))
      (pss_one (ps_ret pe_str))), ?_⟩
  refine ⟨_, rfl, _, rfl, fun x dx nx ndx ne => ?_⟩
  have s1 : Same H (upd (upd H dx (.own x)) x (.ins T.C_World dx [])) := (Same.new ndx).trans (Same.new (by rw [upd_ne (Ne.symm ne)]; exact nx))
  have nf : f ≠ x := ne_of_none hf nx
  refine ⟨x, dx, v, f, G, rows, kvs, ns, rfl, upd_same, sG.trans s1, Same.none sG nx, hGf, s1 _ _ hf, hT, hF, hsz, fun hok G' H' r f' kvs' st _ _ _ _ _ => ⟨rfl, ?_⟩, fun z hz d H' _ keep hd σ hσ => ?_⟩
  · have e := q H' (fun b o hb => st.un b o (fun z => by
      have z : b = x := z
      subst z
      rw [nx] at hb
      cases hb) (s1 _ _ hb))
    rw [hok] at e
    exact e
  · refine ⟨true, T.em_Bad, fun _ a na => ?_, fun z => Bool.noConfusion z⟩
    refine ⟨_, List.getElem?_set_self (by rw [hσ]; decide), rfl, rfl, d, _, _, rfl, hd, rfl, ?_⟩
    have e := q H' (fun b o hb => keep b o (s1 _ _ hb))
    rw [hz] at e
    exact e
end
end W76
namespace HX
open PySem PySem.Spec PyProof.Rows L2
/-! ### what is shown fits -/
/-- data that may be shown: its leaves are short, it is showable, its weight is known -/
structure Sh (d : PyData) (dep wt : Nat) : Prop where
  short : d.leavesShort 13 = true
  show_ : d.showable = true
  dep_ : d.depth ≤ dep
  wt_ : d.weight ≤ wt
theorem nat64 : ∀ k : Fin 64, ((PyData.leavesShort 13 (natD k.val)) && (natD k.val).showable && decide ((natD k.val).weight ≤ 6)) = true := by decide +kernel
theorem sh_nat {k : Nat} (h : k < 64) : Sh (natD k) 0 6 := by
  have := nat64 ⟨k, h⟩
  rw [Bool.and_eq_true, Bool.and_eq_true, decide_eq_true_eq] at this
  exact ⟨this.1.1, this.1.2, by simp only [PyData.depth]; omega, this.2⟩
theorem sh_all {α : Type} {F : α → PyData} {dep wt : Nat} : ∀ {xs : List α}, (∀ x, x ∈ xs → Sh (F x) dep wt) → PyData.leavesShortAll 13 (xs.map F) = true ∧ PyData.showableAll (xs.map F) = true ∧ PyData.depthAll (xs.map F) ≤ dep ∧ PyData.weightAll (xs.map F) ≤ xs.length * (wt + 1)
  | [], _ => by
    simp only [List.map_nil, PyData.leavesShortAll, PyData.showableAll, PyData.depthAll, PyData.weightAll]
    exact ⟨trivial, trivial, Nat.zero_le _, Nat.zero_le _⟩
  | x :: xs, h => by
    obtain ⟨h1, h2, h3, h4⟩ := sh_all (xs := xs) fun y hy => h y (List.mem_cons_of_mem _ hy)
    obtain ⟨k1, k2, k3, k4⟩ := h x List.mem_cons_self
    simp only [List.map_cons, PyData.leavesShortAll, PyData.showableAll, PyData.depthAll, PyData.weightAll, h1, h2, k1, k2, Bool.and_self, List.length_cons]
    refine ⟨trivial, trivial, by omega, ?_⟩
    rw [Nat.succ_mul]
    omega
theorem sh_list {α : Type} {F : α → PyData} {dep wt : Nat} {xs : List α} (h : ∀ x, x ∈ xs → Sh (F x) dep wt) : Sh (.list (xs.map F)) (dep + 1) (xs.length * (wt + 1)) := by
  obtain ⟨h1, h2, h3, h4⟩ := sh_all h
  exact ⟨by simpa only [PyData.leavesShort] using h1, by simpa only [PyData.showable] using h2, by simp only [PyData.depth]; omega, by simpa only [PyData.weight] using h4⟩
theorem sh_nats {ns : List Nat} (h : ∀ j, j ∈ ns → j < 64) (hl : ns.length ≤ 50) : Sh (natsD ns) 1 350 := by
  have := sh_list (F := natD) (xs := ns) fun j hj => sh_nat (h j hj)
  exact ⟨this.short, this.show_, this.dep_, Nat.le_trans this.wt_ (by omega)⟩
abbrev rowsD (rows : W76.Rows) : PyData := .list (rows.map natsD)
theorem sh_rows {rows : W76.Rows} (h : ∀ r, r ∈ rows → r.length ≤ 50 ∧ ∀ j, j ∈ r → j < 64) (hl : rows.length ≤ 50) : Sh (rowsD rows) 2 17550 := by
  have := sh_list (F := natsD) (xs := rows) fun r hr => sh_nats (h r hr).2 (h r hr).1
  exact ⟨this.short, this.show_, this.dep_, Nat.le_trans this.wt_ (by omega)⟩
theorem Sh.fits {d : PyData} {dep wt : Nat} (h : Sh d dep wt) (hw : wt ≤ 1048576) : d.shown.length ≤ sizeLine := PyData.shown_fits (by decide) (by decide) h.short (Nat.le_trans h.wt_ (by
  have e : (2 : Nat) ^ 20 = 1048576 := by decide
  omega))
/-! ### the dict -/
def listOf (ns : Str → List Nat) : Key → List Nat
  | .inr x => ns x
  | .inl _ => []
def factsD (ns : Str → List Nat) (kvs : List (Key × V)) : List PyData := kvs.map fun p => natsD (listOf ns p.1)
theorem valV_mem_nd : ∀ {kvs : List (Key × V)} {k : Key} {v : V}, (kvs.map (·.1)).Nodup → (k, v) ∈ kvs → valV kvs k = some v
  | [], _, _, _, h => by cases h
  | (k', v') :: r, k, v, hn, h => by
    have hn' : (k' :: r.map (·.1)).Nodup := hn
    rw [List.nodup_cons] at hn'
    unfold valV
    rw [List.find?_cons]
    by_cases e : k' = k
    · rw [decide_eq_true e]
      rcases List.mem_cons.mp h with z | z
      · cases z
        rfl
      · exact absurd (by rw [e]; exact List.mem_map.mpr ⟨_, z, rfl⟩) hn'.1
    · rw [decide_eq_false e]
      rcases List.mem_cons.mp h with z | z
      · cases z
        exact absurd rfl e
      · exact valV_mem_nd (kvs := r) hn'.2 z
theorem dpAll_of {α : Type} {K : PySem.W.Frag} {H : Hp} {F : α → V} {D : α → PyData} : ∀ {xs : List α}, (∀ x, x ∈ xs → Dp K H (F x) (D x)) → DpAll K H (xs.map F) (xs.map D)
  | [], _ => .nil
  | x :: xs, h => .cons (h x List.mem_cons_self) (dpAll_of fun y hy => h y (List.mem_cons_of_mem _ hy))
theorem FactsL.dp {K : PySem.W.Frag} {G : Hp} {kvs : List (Key × V)} {ns : Str → List Nat} (h : FactsL K G kvs ns) : DpAll K G (kvs.map (·.2)) (factsD ns kvs) := by
  refine dpAll_of fun p hp => ?_
  obtain ⟨x, ex, _⟩ := h.keys p hp
  have hv : valV kvs (Sum.inr x : Key) = some p.2 := valV_mem_nd h.nd (by rw [← ex]; exact hp)
  show Dp K G p.2 (natsD (listOf ns p.1))
  rw [ex]
  exact dp_nats (h.val x p.2 hv).1
theorem sh_str {x : Str} (hl : x.length ≤ 12) (hc : ∀ c, c ∈ x.cps.toList → c < 128) : Sh (.str x) 0 12 := by
  refine ⟨?_, by simp only [PyData.showable], by simp only [PyData.depth]; omega, by simp only [PyData.weight]; exact hl⟩
  simp only [PyData.leavesShort, List.all_eq_true, decide_eq_true_eq]
  intro c h
  exact Nat.lt_of_lt_of_le (hc c h) (by decide)
theorem sh_kv {ns : Str → List Nat} : ∀ {kvs : List (Key × V)}, (∀ p, p ∈ kvs → ∃ x : Str, p.1 = Sum.inr x ∧ (x.length ≤ 12 ∧ ∀ c, c ∈ x.cps.toList → c < 128) ∧ (ns x).length ≤ 50 ∧ ∀ j, j ∈ ns x → j < 64) →
    PyData.leavesShortKv 13 (pairsD kvs (factsD ns kvs)) = true ∧ PyData.showableKv (pairsD kvs (factsD ns kvs)) = true ∧ PyData.depthKv (pairsD kvs (factsD ns kvs)) ≤ 1 ∧ PyData.weightKv (pairsD kvs (factsD ns kvs)) ≤ kvs.length * 1000
  | [], _ => by
    simp only [pairsD, PyData.leavesShortKv, PyData.showableKv, PyData.depthKv, PyData.weightKv]
    exact ⟨trivial, trivial, Nat.zero_le _, Nat.zero_le _⟩
  | p :: r, h => by
    obtain ⟨h1, h2, h3, h4⟩ := sh_kv (kvs := r) fun y hy => h y (List.mem_cons_of_mem _ hy)
    obtain ⟨x, ex, ⟨a1, a2⟩, b1, b2⟩ := h p List.mem_cons_self
    obtain ⟨k, v⟩ := p
    have ex : k = Sum.inr x := ex
    subst ex
    have s1 := sh_str a1 a2
    have s2 := sh_nats b2 b1
    have e : pairsD ((Sum.inr x, v) :: r) (factsD ns ((Sum.inr x, v) :: r)) = (.str x, natsD (ns x)) :: pairsD r (factsD ns r) := rfl
    rw [e]
    simp only [PyData.leavesShortKv, PyData.showableKv, PyData.depthKv, PyData.weightKv, h1, h2, s1.short, s1.show_, s2.short, s2.show_, Bool.and_self, List.length_cons]
    have d1 := s1.dep_
    have d2 := s2.dep_
    have w1 := s1.wt_
    have w2 := s2.wt_
    refine ⟨trivial, trivial, by omega, ?_⟩
    rw [Nat.succ_mul]
    omega
theorem FactsL.sh {K : PySem.W.Frag} {G : Hp} {kvs : List (Key × V)} {ns : Str → List Nat} (h : FactsL K G kvs ns) : Sh (.dict (pairsD kvs (factsD ns kvs))) 2 7000 := by
  obtain ⟨h1, h2, h3, h4⟩ := sh_kv (ns := ns) (kvs := kvs) fun p hp => by
    obtain ⟨x, ex, hx⟩ := h.keys p hp
    have hv : valV kvs (Sum.inr x : Key) = some p.2 := valV_mem_nd h.nd (by rw [← ex]; exact hp)
    exact ⟨x, ex, hx, (h.val x p.2 hv).2⟩
  have := h.few
  exact ⟨by simpa only [PyData.leavesShort] using h1, by simpa only [PyData.showable] using h2, by simp only [PyData.depth]; omega, by simp only [PyData.weight]; omega⟩
theorem Table.dp {K : PySem.W.Frag} {G : Hp} {v : V} {rows : W76.Rows} (h : Table K G v rows) : ∃ a, v = .ref a ∧ Dp K G (.ref a) (rowsD rows) := by
  obtain ⟨a, xs, rfl, hx, hp⟩ := h
  refine ⟨a, rfl, .lst hx ?_⟩
  clear hx
  induction hp with
  | nil => exact .nil
  | cons r t ih => exact .cons (dp_nats r) ih
end HX
namespace W76
open PySem PySem.Spec PyProof.Rows L2 HX
/-! ### what is wrong with a spoilt table -/
section
variable {rows : Rows} {kvs : List (Key × V)} {ns : Str → List Nat} {n form : Nat} {f : Nat → Nat → Nat}
theorem fault_shape (h : shapeB rows = false) : fault rows kvs ns = some ("shape" : Str) := by
  unfold fault
  rw [if_pos h]
theorem fault_unit (h0 : shapeB rows = true) (h : unitB rows = false) : fault rows kvs ns = some ("unit" : Str) := by
  unfold fault
  rw [if_neg (by rw [h0]; decide), if_pos h]
theorem fault_order (h0 : shapeB rows = true) (h1 : unitB rows = true) (h : orderB rows = false) : fault rows kvs ns = some ("order" : Str) := by
  unfold fault
  rw [if_neg (by rw [h0]; decide), if_neg (by rw [h1]; decide), if_pos h]
theorem fault_group (h0 : shapeB rows = true) (h1 : unitB rows = true) (h2 : orderB rows = true) (h : groupB rows = false) : fault rows kvs ns = some ("grouping" : Str) := by
  unfold fault
  rw [if_neg (by rw [h0]; decide), if_neg (by rw [h1]; decide), if_neg (by rw [h2]; decide), if_pos h]
theorem fault_fact (h0 : shapeB rows = true) (h1 : unitB rows = true) (h2 : orderB rows = true) (h3 : groupB rows = true) (h : factB rows.length kvs ns = false) : fault rows kvs ns = some ("fact" : Str) := by
  unfold fault
  rw [if_neg (by rw [h0]; decide), if_neg (by rw [h1]; decide), if_neg (by rw [h2]; decide), if_neg (by rw [h3]; decide), if_pos h]
theorem fault_none (h0 : shapeB rows = true) (h1 : unitB rows = true) (h2 : orderB rows = true) (h3 : groupB rows = true) (h : factB rows.length kvs ns = true) : fault rows kvs ns = none := by
  unfold fault
  rw [if_neg (by rw [h0]; decide), if_neg (by rw [h1]; decide), if_neg (by rw [h2]; decide), if_neg (by rw [h3]; decide), if_neg (by rw [h]; decide)]
theorem good_all (g : Good n f) : shapeB (tab n f) = true ∧ unitB (tab n f) = true ∧ orderB (tab n f) = true ∧ groupB (tab n f) = true :=
  ⟨shape_tab g.pos g.lt, unit_tab g.pos g.unit, order_tab g.comm, group_tab g.lt g.assoc⟩
theorem fact_all (h : ∀ x j, j ∈ ns x → j < n) : factB n kvs ns = true := by
  unfold factB
  rw [List.all_eq_true]
  intro p _
  cases p.1 with
  | inl _ => rfl
  | inr x =>
    show (ns x).all _ = true
    rw [List.all_eq_true]
    intro j hj
    exact decide_eq_true (h x j hj)
theorem fact_bad {x : Str} {v : V} {j : Nat} (h : valV kvs (Sum.inr x : Key) = some v) (hj : j ∈ ns x) (hn : ¬ j < n) : factB n kvs ns = false := by
  unfold factB
  rw [List.all_eq_false]
  refine ⟨_, valV_mem h, ?_⟩
  show ¬ (ns x).all _ = true
  rw [List.all_eq_true]
  intro z
  exact hn (of_decide_eq_true (z j hj))
theorem rowOk_len {r : List Nat} (h : r.length ≠ n) : rowOk n r = false := by
  unfold rowOk
  rw [decide_eq_false h]
  rfl
theorem shape_cut (hn : 0 < n) : shapeB ((tab n f).set (n - 1) (((List.range n).map (f (n - 1))).take (n - 1))) = false := by
  refine shape_badRow (r := ((List.range n).map (f (n - 1))).take (n - 1)) ?_ ?_
  · exact List.mem_set (h := by rw [tab_len]; omega) (a := _)
  · rw [List.length_set, tab_len]
    refine rowOk_len ?_
    rw [List.length_take, List.length_map, List.length_range]
    omega
theorem shape_more (hn : 0 < n) : shapeB (tab n f ++ [(List.range n).map (f (n - 1))]) = false := by
  refine shape_badRow (r := (List.range n).map (f (n - 1))) (List.mem_append_right _ List.mem_cons_self) ?_
  rw [List.length_append, tab_len]
  refine rowOk_len ?_
  rw [List.length_map, List.length_range, List.length_singleton]
  omega
theorem shape_big (hn : 0 < n) : shapeB ((tab n f).set (n - 1) (((List.range n).map (f (n - 1))).set (n - 1) n)) = false := by
  refine shape_badRow (r := ((List.range n).map (f (n - 1))).set (n - 1) n) ?_ ?_
  · exact List.mem_set (h := by rw [tab_len]; omega) (a := _)
  · rw [List.length_set, tab_len]
    unfold rowOk
    have : (((List.range n).map (f (n - 1))).set (n - 1) n).all (fun k => decide (k < n)) = false := by
      rw [List.all_eq_false]
      refine ⟨n, List.mem_set (h := by rw [List.length_map, List.length_range]; omega) (a := _), ?_⟩
      rw [decide_eq_false (by omega)]
      decide
    rw [this, Bool.and_false]
/-- rows that may be shown -/
def Small (rows : Rows) : Prop := rows.length ≤ 50 ∧ ∀ r, r ∈ rows → r.length ≤ 50 ∧ ∀ j, j ∈ r → j < 64
theorem small_tab (hn : n ≤ 50) (h : ∀ a b, a < n → b < n → f a b < 64) : Small (tab n f) := by
  refine ⟨by rw [tab_len]; exact hn, fun r hr => ?_⟩
  obtain ⟨i, hi, rfl⟩ := mem_tab hr
  refine ⟨by rw [List.length_map, List.length_range]; exact hn, fun j hj => ?_⟩
  obtain ⟨b, hb, rfl⟩ := List.mem_map.mp hj
  exact h i b hi (List.mem_range.mp hb)
theorem Small.set {i : Nat} {r : List Nat} (h : Small rows) (hr : r.length ≤ 50 ∧ ∀ j, j ∈ r → j < 64) : Small (rows.set i r) := by
  refine ⟨by rw [List.length_set]; exact h.1, fun q hq => ?_⟩
  rcases List.mem_or_eq_of_mem_set hq with hq | hq
  · exact h.2 q hq
  · rw [hq]
    exact hr
theorem unit_bent (hn : 4 < n) : unitB (tab n (bent n)) = true := unit_tab (by omega) fun _ => bent_unit hn
end
/-! ### a copy of a table and of facts, not frozen -/
theorem paired_of {α β : Type} {F : α → β → Prop} : ∀ {xs : List α} {ys : List β}, xs.length = ys.length → (∀ (i : Nat) x y, xs[i]? = some x → ys[i]? = some y → F x y) → Paired F xs ys
  | [], [], _, _ => .nil
  | x :: xs, y :: ys, h, g => .cons (g 0 x y rfl rfl) (paired_of (by simpa using h) fun i a b h1 h2 => g (i + 1) a b (by simpa using h1) (by simpa using h2))
  | [], _ :: _, h, _ => by simp at h
  | _ :: _, [], h, _ => by simp at h
theorem nd_get {l : List Addr} {i j : Nat} {a b : Addr} (h : l.Nodup) (h1 : l[i]? = some a) (h2 : l[j]? = some b) (ne : i ≠ j) : a ≠ b := by
  intro e
  subst e
  obtain ⟨hi, e1⟩ := List.getElem?_eq_some_iff.mp h1
  obtain ⟨hj, e2⟩ := List.getElem?_eq_some_iff.mp h2
  exact ne (List.getElem_inj h |>.mp (e1.trans e2.symm))
structure SP (K : PySem.W.Frag) (p R F : Addr) (H0 : Hp) (cs : List Addr) (rows : Rows) (kvs : List (Key × V)) (ns : Str → List Nat) (G H : Hp) : Prop where
  same : Same G H
  old : ∀ b o, b ≠ p → H0 b = some o → H b = some o
  pool : ∃ l, H p = some (.lst l) ∧ Pool l
  gn : ∀ c, c ∈ p :: F :: R :: cs → G c = none
  new : ∀ c, c ∈ F :: R :: cs → H0 c = none
  nd : (p :: F :: R :: cs).Nodup
  r : H R = some (.lst (cs.map V.ref))
  at_ : Paired (fun c row => H c = some (.lst (row.map iv))) cs rows
  f : H F = some (.dK kvs)
  facts : FactsL K G kvs ns
section
variable {K : PySem.W.Frag} {p R F a c : Addr} {H0 G H G2 H2 : Hp} {cs : List Addr} {rows : Rows} {kvs : List (Key × V)} {ns : Str → List Nat} {l : List V} {i : Nat} {row : List Nat}
structure Apart (p R F : Addr) (cs : List Addr) : Prop where
  pF : p ≠ F
  pR : p ≠ R
  pc : ∀ c, c ∈ cs → p ≠ c
  FR : F ≠ R
  Fc : ∀ c, c ∈ cs → F ≠ c
  Rc : ∀ c, c ∈ cs → R ≠ c
  nd : cs.Nodup
theorem apart_iff : (p :: F :: R :: cs).Nodup ↔ Apart p R F cs := by
  simp only [List.nodup_cons, List.mem_cons, not_or]
  constructor
  · rintro ⟨⟨h1, h2, h3⟩, ⟨h4, h5⟩, h6, h7⟩
    exact ⟨h1, h2, fun c hc e => h3 (e ▸ hc), h4, fun c hc e => h5 (e ▸ hc), fun c hc e => h6 (e ▸ hc), h7⟩
  · rintro ⟨h1, h2, h3, h4, h5, h6, h7⟩
    exact ⟨⟨h1, h2, fun h => h3 _ h rfl⟩, ⟨h4, fun h => h5 _ h rfl⟩, fun h => h6 _ h rfl, h7⟩
theorem SP.ap (s : SP K p R F H0 cs rows kvs ns G H) : Apart p R F cs := apart_iff.mp s.nd
theorem SP.thr (s : SP K p R F H0 cs rows kvs ns G H) (h : c ∈ p :: F :: R :: cs) : ∃ o, H c = some o := by
  rcases List.mem_cons.mp h with e | h
  · obtain ⟨l, h1, _⟩ := s.pool
    exact ⟨_, e ▸ h1⟩
  rcases List.mem_cons.mp h with e | h
  · exact ⟨_, e ▸ s.f⟩
  rcases List.mem_cons.mp h with e | h
  · exact ⟨_, e ▸ s.r⟩
  · obtain ⟨j, hj⟩ := List.mem_iff_getElem?.mp h
    obtain ⟨row, _, h2⟩ := Paired.getL s.at_ hj
    exact ⟨_, h2⟩
theorem Paired.upd_ {o : HO} (h : Paired (fun c (row : List Nat) => H c = Option.some (HO.lst (row.map iv))) cs rows) (ne : ∀ c, c ∈ cs → a ≠ c) : Paired (fun c (row : List Nat) => upd H a o c = Option.some (HO.lst (row.map iv))) cs rows := by
  refine paired_of (Paired.len h) fun i x y h1 h2 => ?_
  obtain ⟨y', h3, h4⟩ := Paired.getL h h1
  rw [h2] at h3
  cases h3
  show upd H a o x = _
  rw [upd_ne (Ne.symm (ne x (List.mem_of_getElem? h1)))]
  exact h4
/-- a draw -/
theorem SP.next (s : SP K p R F H0 cs rows kvs ns G H) (hl : Pool l) : SP K p R F H0 cs rows kvs ns G (upd H p (.lst l)) := by
  have ap := s.ap
  refine ⟨Same.put s.same (s.gn p List.mem_cons_self), fun b o h1 h2 => ?_, ⟨l, upd_same, hl⟩, s.gn, s.new, s.nd, ?_, Paired.upd_ s.at_ ap.pc, ?_, s.facts⟩
  · rw [upd_ne h1]
    exact s.old b o h1 h2
  · rw [upd_ne (Ne.symm ap.pR)]
    exact s.r
  · rw [upd_ne (Ne.symm ap.pF)]
    exact s.f
/-- new frozen things -/
theorem SP.step (s : SP K p R F H0 cs rows kvs ns G H) (st : Stp nom G H G2 H2) : SP K p R F H0 cs rows kvs ns G2 H2 := by
  have keep : ∀ b o, H b = Option.some o → H2 b = Option.some o := fun b o h => st.un b o (fun z => z) h
  obtain ⟨l, h1, h2⟩ := s.pool
  refine ⟨st.gh, fun b o h1 h2 => keep _ _ (s.old b o h1 h2), ⟨l, keep _ _ h1, h2⟩, fun c hc => ?_, s.new, s.nd, keep _ _ s.r, Paired.mapP s.at_ fun _ _ h => keep _ _ h, keep _ _ s.f, s.facts.mono st.gg⟩
  obtain ⟨o, ho⟩ := s.thr hc
  exact st.g0 (s.gn c hc) ho
/-- a row is changed -/
theorem SP.setRow (s : SP K p R F H0 cs rows kvs ns G H) (hc : cs[i]? = Option.some c) : SP K p R F H0 cs (rows.set i row) kvs ns G (upd H c (.lst (row.map iv))) := by
  have ap := s.ap
  have hm := List.mem_of_getElem? hc
  have hcn : G c = none := s.gn c (List.mem_cons_of_mem _ (List.mem_cons_of_mem _ (List.mem_cons_of_mem _ hm)))
  obtain ⟨l, h1, h2⟩ := s.pool
  refine ⟨Same.put s.same hcn, fun b o k1 k2 => ?_, ⟨l, by rw [upd_ne (ap.pc c hm)]; exact h1, h2⟩, s.gn, s.new, s.nd, ?_, ?_, ?_, s.facts⟩
  · have : b ≠ c := fun z => by
      rw [z, s.new c (List.mem_cons_of_mem _ (List.mem_cons_of_mem _ hm))] at k2
      cases k2
    rw [upd_ne this]
    exact s.old b o k1 k2
  · rw [upd_ne (ap.Rc c hm)]
    exact s.r
  · refine paired_of (by rw [List.length_set]; exact Paired.len s.at_) fun j x y k1 k2 => ?_
    by_cases e : i = j
    · subst e
      rw [hc] at k1
      cases k1
      have hlt : i < rows.length := by
        rw [← Paired.len s.at_]
        exact (List.getElem?_eq_some_iff.mp hc).1
      rw [List.getElem?_set_self hlt] at k2
      cases k2
      exact upd_same
    · rw [List.getElem?_set_ne e] at k2
      obtain ⟨y', k3, k4⟩ := Paired.getL s.at_ k1
      rw [k2] at k3
      cases k3
      show upd H c _ x = _
      rw [upd_ne (nd_get ap.nd k1 hc (Ne.symm e))]
      exact k4
  · rw [upd_ne (ap.Fc c hm)]
    exact s.f
/-- the list of the rows is changed, a new row beside -/
theorem SP.newRows {cs' : List Addr} {rows' : Rows} (s : SP K p R F H0 cs rows kvs ns G H) (na : H a = none) (hsub : ∀ c, c ∈ cs' → c ∈ cs ∨ c = a) (hnd : cs'.Nodup) (hp : Paired (fun c (row : List Nat) => upd H a (.lst (row.map iv)) c = Option.some (.lst (row.map iv)) ∨ (c ≠ a ∧ H c = Option.some (.lst (row.map iv)))) cs' rows')
    (hrow : ∀ (i : Nat) row', cs'[i]? = Option.some a → rows'[i]? = Option.some row' → row' = row) :
    SP K p R F H0 cs' rows' kvs ns G (upd (upd H a (.lst (row.map iv))) R (.lst (cs'.map V.ref))) := by
  have ap := s.ap
  obtain ⟨l, h1, h2⟩ := s.pool
  have an : ∀ c, c ∈ p :: F :: R :: cs → c ≠ a := fun c hc => by
    obtain ⟨o, ho⟩ := s.thr hc
    exact ne_of_none ho na
  have ap' : a ≠ p := Ne.symm (an p List.mem_cons_self)
  have aF : a ≠ F := Ne.symm (an F (List.mem_cons_of_mem _ List.mem_cons_self))
  have aR : a ≠ R := Ne.symm (an R (List.mem_cons_of_mem _ (List.mem_cons_of_mem _ List.mem_cons_self)))
  have H0a : H0 a = none := by
    cases e : H0 a with
    | none => rfl
    | some o =>
      rw [s.old a o ap' e] at na
      cases na
  have Ga : G a = none := Same.none s.same na
  have apart' : Apart p R F cs' := by
    refine ⟨ap.pF, ap.pR, fun c hc => ?_, ap.FR, fun c hc => ?_, fun c hc => ?_, hnd⟩
    · rcases hsub c hc with h | h
      · exact ap.pc c h
      · rw [h]
        exact Ne.symm ap'
    · rcases hsub c hc with h | h
      · exact ap.Fc c h
      · rw [h]
        exact Ne.symm aF
    · rcases hsub c hc with h | h
      · exact ap.Rc c h
      · rw [h]
        exact Ne.symm aR
  have old' : ∀ b o, b ≠ p → H0 b = Option.some o → upd (upd H a (.lst (row.map iv))) R (.lst (cs'.map V.ref)) b = Option.some o := fun b o k1 k2 => by
    have n1 : b ≠ a := ne_of_none k2 H0a
    have n2 : b ≠ R := ne_of_none k2 (s.new R (List.mem_cons_of_mem _ List.mem_cons_self))
    rw [upd_ne n2, upd_ne n1]
    exact s.old b o k1 k2
  refine ⟨Same.put (Same.put s.same Ga) (s.gn R (List.mem_cons_of_mem _ (List.mem_cons_of_mem _ List.mem_cons_self))), old', ⟨l, by rw [upd_ne ap.pR, upd_ne (Ne.symm ap')]; exact h1, h2⟩, fun c hc => ?_, fun c hc => ?_, apart_iff.mpr apart', upd_same, ?_, by rw [upd_ne ap.FR, upd_ne (Ne.symm aF)]; exact s.f, s.facts⟩
  · rcases List.mem_cons.mp hc with e | hc
    · exact e ▸ s.gn p List.mem_cons_self
    rcases List.mem_cons.mp hc with e | hc
    · exact e ▸ s.gn F (List.mem_cons_of_mem _ List.mem_cons_self)
    rcases List.mem_cons.mp hc with e | hc
    · exact e ▸ s.gn R (List.mem_cons_of_mem _ (List.mem_cons_of_mem _ List.mem_cons_self))
    rcases hsub c hc with h | h
    · exact s.gn c (List.mem_cons_of_mem _ (List.mem_cons_of_mem _ (List.mem_cons_of_mem _ h)))
    · rw [h]
      exact Ga
  · rcases List.mem_cons.mp hc with e | hc
    · exact e ▸ s.new F List.mem_cons_self
    rcases List.mem_cons.mp hc with e | hc
    · exact e ▸ s.new R (List.mem_cons_of_mem _ List.mem_cons_self)
    rcases hsub c hc with h | h
    · exact s.new c (List.mem_cons_of_mem _ (List.mem_cons_of_mem _ h))
    · rw [h]
      exact H0a
  · refine paired_of (Paired.len hp) fun j x y k1 k2 => ?_
    obtain ⟨y', k3, k4⟩ := Paired.getL hp k1
    rw [k2] at k3
    cases k3
    show upd (upd H a _) R _ x = _
    rw [upd_ne (Ne.symm (apart'.Rc x (List.mem_of_getElem? k1)))]
    by_cases e : x = a
    · subst e
      rw [hrow j y k1 k2]
      exact upd_same
    · rw [upd_ne e]
      rcases k4 with k4 | k4
      · rwa [upd_ne e] at k4
      · exact k4.2
/-- the facts are changed -/
theorem SP.put {kvs' : List (Key × V)} {ns' : Str → List Nat} (s : SP K p R F H0 cs rows kvs ns G H) (hf : FactsL K G kvs' ns') : SP K p R F H0 cs rows kvs' ns' G (upd H F (.dK kvs')) := by
  have ap := s.ap
  obtain ⟨l, h1, h2⟩ := s.pool
  refine ⟨Same.put s.same (s.gn F (List.mem_cons_of_mem _ List.mem_cons_self)), fun b o k1 k2 => ?_, ⟨l, by rw [upd_ne ap.pF]; exact h1, h2⟩, s.gn, s.new, s.nd, by rw [upd_ne (Ne.symm ap.FR)]; exact s.r, Paired.upd_ s.at_ ap.Fc, upd_same, hf⟩
  rw [upd_ne (ne_of_none k2 (s.new F List.mem_cons_self))]
  exact s.old b o k1 k2
/-- all is frozen -/
theorem SP.freeze (s : SP K p R F H0 cs rows kvs ns G H) : ∃ G3, Same G G3 ∧ Same G3 H ∧ G3 F = none ∧ Table K G3 (.ref R) rows := by
  have ap := s.ap
  have inn : ∀ b, b ∈ R :: cs → G b = none := fun b hb => s.gn b (List.mem_cons_of_mem _ (List.mem_cons_of_mem _ hb))
  refine ⟨fun b => if b ∈ R :: cs then H b else G b, fun b o h => ?_, fun b o h => ?_, ?_, R, cs.map V.ref, rfl, SqL.of ?_, ?_⟩
  · have : ¬ b ∈ R :: cs := fun z => by
      rw [inn b z] at h
      cases h
    show (if b ∈ R :: cs then H b else G b) = _
    rw [if_neg this]
    exact h
  · by_cases hb : b ∈ R :: cs
    · have h : (if b ∈ R :: cs then H b else G b) = _ := h
      rwa [if_pos hb] at h
    · have h : (if b ∈ R :: cs then H b else G b) = _ := h
      rw [if_neg hb] at h
      exact s.same b o h
  · show (if F ∈ R :: cs then H F else G F) = _
    rw [if_neg (fun z => by
      rcases List.mem_cons.mp z with e | e
      · exact ap.FR e
      · exact ap.Fc F e rfl)]
    exact s.gn F (List.mem_cons_of_mem _ List.mem_cons_self)
  · show (if R ∈ R :: cs then H R else G R) = _
    rw [if_pos List.mem_cons_self]
    exact s.r
  · refine paired_of (by rw [List.length_map]; exact Paired.len s.at_) fun j x y k1 k2 => ?_
    rw [List.getElem?_map] at k1
    cases e : cs[j]? with
    | none =>
      rw [e] at k1
      cases k1
    | some c =>
      rw [e] at k1
      cases k1
      obtain ⟨y', k3, k4⟩ := Paired.getL s.at_ e
      rw [k2] at k3
      cases k3
      refine ⟨c, rfl, SqL.of ?_⟩
      show (if c ∈ R :: cs then H c else G c) = _
      rw [if_pos (List.mem_cons_of_mem _ (List.mem_of_getElem? e))]
      exact k4
end
end W76
namespace HX
open PySem PySem.Spec PyProof.Rows L2
theorem ifS_by {c : TT} {A B : TS} {D : Ends} {σ : L2.St} {H : Hp} (els : B D σ H) (h : B D σ H → tIfS c A B D σ H) : tIfS c A B D σ H := h els
theorem cut_last {xs : List V} (h : 0 < xs.length) : cutV xs none (some (-1)) = xs.take (xs.length - 1) := by
  have e1 : HT.sIx xs.length 0 none = 0 := rfl
  have e2 : HT.sIx xs.length xs.length (some (-1)) = xs.length - 1 := by
    show (if (-1 : Int) < 0 then ((-1 : Int) + (xs.length : Int)).toNat else min (-1 : Int).toNat xs.length) = _
    rw [if_pos (by decide)]
    omega
  unfold cutV
  rw [e1, e2, List.drop_zero, Nat.sub_zero]
theorem nodup_set {a : Addr} : ∀ {l : List Addr} {i : Nat}, l.Nodup → ¬ a ∈ l → (l.set i a).Nodup
  | [], _, h, _ => by simpa using h
  | b :: l, 0, h, ha => by
    rw [List.set_cons_zero, List.nodup_cons]
    exact ⟨fun z => ha (List.mem_cons_of_mem _ z), (List.nodup_cons.mp h).2⟩
  | b :: l, i + 1, h, ha => by
    rw [List.set_cons_succ, List.nodup_cons]
    refine ⟨fun z => ?_, nodup_set (List.nodup_cons.mp h).2 fun z => ha (List.mem_cons_of_mem _ z)⟩
    rcases List.mem_or_eq_of_mem_set z with z | z
    · exact (List.nodup_cons.mp h).1 z
    · exact ha (by rw [z]; exact List.mem_cons_self)
end HX
namespace W76
open PySem PySem.Spec PyProof.Rows L2 HX
section
variable {K : PySem.W.Frag} {p R F a c : Addr} {H0 G H G2 H2 : Hp} {cs : List Addr} {rows : Rows} {kvs : List (Key × V)} {ns : Str → List Nat} {i : Nat} {row : List Nat}
theorem SP.row_at (s : SP K p R F H0 cs rows kvs ns G H) (h : rows[i]? = some row) : ∃ c, cs[i]? = some c ∧ H c = some (.lst (row.map iv)) := Paired.get (F := fun c (row : List Nat) => H c = some (HO.lst (row.map iv))) s.at_ h
theorem SP.clen (s : SP K p R F H0 cs rows kvs ns G H) : cs.length = rows.length := Paired.len s.at_
theorem SP.fresh (s : SP K p R F H0 cs rows kvs ns G H) (na : H a = none) : ∀ c, c ∈ cs → c ≠ a := fun c hc => by
  obtain ⟨o, ho⟩ := s.thr (List.mem_cons_of_mem _ (List.mem_cons_of_mem _ (List.mem_cons_of_mem _ hc)))
  exact ne_of_none ho na
theorem SP.setNew (s : SP K p R F H0 cs rows kvs ns G H) (na : H a = none) (hi : i < rows.length) : SP K p R F H0 (cs.set i a) (rows.set i row) kvs ns G (upd (upd H a (.lst (row.map iv))) R (.lst ((cs.map V.ref).set i (.ref a)))) := by
  have fr := s.fresh na
  have hl := s.clen
  have nm : ¬ a ∈ cs := fun z => fr a z rfl
  have e : (cs.map V.ref).set i (.ref a) = (cs.set i a).map V.ref := List.map_set.symm
  rw [e]
  refine s.newRows na (fun c hc => List.mem_or_eq_of_mem_set hc) (nodup_set s.ap.nd nm) (paired_of (by rw [List.length_set, List.length_set]; exact hl) fun j x y k1 k2 => ?_) fun j y k1 k2 => ?_
  · by_cases ej : i = j
    · subst ej
      rw [List.getElem?_set_self (by omega)] at k1 k2
      cases k1
      cases k2
      exact .inl upd_same
    · rw [List.getElem?_set_ne ej] at k1 k2
      obtain ⟨y', k3, k4⟩ := Paired.getL s.at_ k1
      rw [k2] at k3
      cases k3
      exact .inr ⟨fr x (List.mem_of_getElem? k1), k4⟩
  · by_cases ej : i = j
    · subst ej
      rw [List.getElem?_set_self (by omega)] at k2
      cases k2
      rfl
    · rw [List.getElem?_set_ne ej] at k1
      exact absurd rfl (fr a (List.mem_of_getElem? k1))
theorem SP.appNew (s : SP K p R F H0 cs rows kvs ns G H) (na : H a = none) : SP K p R F H0 (cs ++ [a]) (rows ++ [row]) kvs ns G (upd (upd H a (.lst (row.map iv))) R (.lst (cs.map V.ref ++ [.ref a]))) := by
  have fr := s.fresh na
  have hl := s.clen
  have e : cs.map V.ref ++ [.ref a] = (cs ++ [a]).map V.ref := by rw [List.map_append]; rfl
  rw [e]
  refine s.newRows na (fun c hc => ?_) ?_ (HX.Paired.snoc (.inl upd_same) (Paired.mapP (paired_of hl fun j x y k1 k2 => ?_) fun _ _ h => h)) fun j y k1 k2 => ?_
  · rcases List.mem_append.mp hc with h | h
    · exact .inl h
    · exact .inr (List.mem_singleton.mp h)
  · rw [List.nodup_append]
    refine ⟨s.ap.nd, by simp, fun x hx b hb => ?_⟩
    rw [List.mem_singleton.mp hb]
    exact fr x hx
  · obtain ⟨y', k3, k4⟩ := Paired.getL s.at_ k1
    rw [k2] at k3
    cases k3
    exact .inr ⟨fr x (List.mem_of_getElem? k1), k4⟩
  · by_cases ej : j < cs.length
    · rw [List.getElem?_append_left ej] at k1
      exact absurd rfl (fr a (List.mem_of_getElem? k1))
    · rw [List.getElem?_append_right (by omega)] at k2
      have : j - rows.length = 0 := by
        have := (List.getElem?_eq_some_iff.mp k2).1
        rw [List.length_singleton] at this
        omega
      rw [this] at k2
      cases k2
      rfl
theorem ref_at {j : Nat} (h : cs[j]? = some c) : atI (cs.map V.ref) (j : Int) = some (.ref c) := atN (by rw [List.getElem?_map, h]; rfl)
theorem ref_last (h : cs[cs.length - 1]? = some c) : atI (cs.map V.ref) (-1) = some (.ref c) := by
  have hpos : 0 < cs.length := by
    have := (List.getElem?_eq_some_iff.mp h).1
    omega
  unfold atI
  rw [List.length_map, ixN_last hpos]
  show (cs.map V.ref)[cs.length - 1]? = _
  rw [List.getElem?_map, h]
  rfl
theorem ixN_nat {n j : Nat} (h : j < n) : ixN n (j : Int) = some j := by
  unfold ixN
  rw [if_pos (by omega), if_pos (by omega)]
  rfl
end
end W76
namespace HX
open PySem PySem.Spec PyProof.Rows L2
/-! ### texts of ASCII signs -/
def Asc (x : Str) : Prop := ∀ c, c ∈ x.cps.toList → c < 128
theorem asc_app {x y : Str} (h1 : Asc x) (h2 : Asc y) : Asc (x ++ y) := fun c hc => by
  rcases mem_cps_append.mp hc with h | h
  · exact h1 c h
  · exact h2 c h
theorem asc_join {sep : Str} {ts : List Str} (h0 : Asc sep) (h : ∀ t, t ∈ ts → Asc t) : Asc (Str.join sep ts) := fun c hc => by
  rcases (mem_join sep c ts).mp hc with ⟨t, ht, h1⟩ | ⟨_, h1⟩
  · exact h t ht c h1
  · exact h0 c h1
theorem hex_ok : ∀ c : Fin 128, (([92, 120] ++ (List.replicate (2 - ((Nat.toDigits 16 c.val).map Char.toNat).length) 48 ++ (Nat.toDigits 16 c.val).map Char.toNat)).all (fun b => decide (b < 128))) = true := by decide +kernel
theorem asc_char {q c b : Nat} (hc : c < 128) (hb : b ∈ PySem.Builtin.Str.reprChar q c) : b < 128 := by
  unfold PySem.Builtin.Str.reprChar at hb
  dsimp only at hb
  split at hb
  · rcases List.mem_cons.mp hb with e | hb
    · omega
    · rw [List.mem_singleton.mp hb]
      exact hc
  split at hb
  · rcases List.mem_cons.mp hb with e | hb
    · omega
    · rw [List.mem_singleton.mp hb]
      decide
  split at hb
  · rcases List.mem_cons.mp hb with e | hb
    · omega
    · rw [List.mem_singleton.mp hb]
      decide
  split at hb
  · rcases List.mem_cons.mp hb with e | hb
    · omega
    · rw [List.mem_singleton.mp hb]
      decide
  split at hb
  · rw [List.mem_singleton.mp hb]
    exact hc
  rw [if_pos (by omega)] at hb
  have h := hex_ok ⟨c, hc⟩
  rw [List.all_eq_true] at h
  exact of_decide_eq_true (h b hb)
theorem asc_fold {q : Nat} : ∀ {l : List Nat} {acc : Array Nat}, (∀ c, c ∈ l → c < 128) → (∀ b, b ∈ acc.toList → b < 128) → ∀ b, b ∈ (l.foldl (fun out c => out ++ (PySem.Builtin.Str.reprChar q c).toArray) acc).toList → b < 128
  | [], acc, _, h2 => h2
  | c :: l, acc, h1, h2 => by
    rw [List.foldl_cons]
    refine asc_fold (fun d hd => h1 d (List.mem_cons_of_mem _ hd)) fun b hb => ?_
    rw [Array.toList_append] at hb
    rcases List.mem_append.mp hb with hb | hb
    · exact h2 b hb
    · exact asc_char (h1 c List.mem_cons_self) (by simpa using hb)
theorem asc_repr {x : Str} (h : Asc x) : Asc (reprText x) := by
  have hq : reprQuote x < 128 := by
    unfold reprQuote
    split <;> decide
  intro b hb
  unfold reprText at hb
  have hb : b ∈ ((x.cps.foldl (fun out c => out ++ (PySem.Builtin.Str.reprChar (reprQuote x) c).toArray) #[reprQuote x]).push (reprQuote x)).toList := hb
  rw [Array.toList_push] at hb
  rcases List.mem_append.mp hb with hb | hb
  · rw [← Array.foldl_toList] at hb
    exact asc_fold h (fun d hd => by
      have e : d = reprQuote x := by simpa using hd
      rw [e]
      exact hq) b hb
  · rw [List.mem_singleton.mp hb]
    exact hq
theorem asc_nat64 : ∀ k : Fin 64, ((natD k.val).shown.cps.toList.all fun c => decide (c < 128)) = true := by decide +kernel
theorem asc_nat {k : Nat} (h : k < 64) : Asc (natD k).shown := by
  have := asc_nat64 ⟨k, h⟩
  rw [List.all_eq_true] at this
  exact fun c hc => of_decide_eq_true (this c hc)
theorem asc_all {α : Type} {F : α → PyData} : ∀ {xs : List α}, (∀ x, x ∈ xs → Asc (F x).shown) → ∀ t, t ∈ PyData.shownAll (xs.map F) → Asc t
  | [], _, t, ht => by
    simp only [List.map_nil, PyData.shownAll] at ht
    cases ht
  | x :: xs, h, t, ht => by
    simp only [List.map_cons, PyData.shownAll] at ht
    rcases List.mem_cons.mp ht with e | ht
    · rw [e]
      exact h x List.mem_cons_self
    · exact asc_all (fun y hy => h y (List.mem_cons_of_mem _ hy)) t ht
theorem asc_lit {s : String} (h : ((s : Str).cps.toList.all fun c => decide (c < 128)) = true) : Asc (s : Str) := by
  rw [List.all_eq_true] at h
  exact fun c hc => of_decide_eq_true (h c hc)
theorem asc_list {α : Type} {F : α → PyData} {xs : List α} (h : ∀ x, x ∈ xs → Asc (F x).shown) : Asc (PyData.list (xs.map F)).shown := by
  rw [PyData.shown_list]
  exact asc_app (asc_app (asc_lit (by decide)) (asc_join (asc_lit (by decide)) (asc_all h))) (asc_lit (by decide))
theorem asc_nats {ns : List Nat} (h : ∀ j, j ∈ ns → j < 64) : Asc (natsD ns).shown := asc_list fun j hj => asc_nat (h j hj)
theorem asc_rows {rows : W76.Rows} (h : ∀ r, r ∈ rows → ∀ j, j ∈ r → j < 64) : Asc (rowsD rows).shown := asc_list fun r hr => asc_nats (h r hr)
theorem asc_kv {ns : Str → List Nat} : ∀ {kvs : List (Key × V)}, (∀ p, p ∈ kvs → ∃ x : Str, p.1 = Sum.inr x ∧ Asc x ∧ ∀ j, j ∈ ns x → j < 64) → ∀ t, t ∈ PyData.shownKv (pairsD kvs (factsD ns kvs)) → Asc t
  | [], _, t, ht => by
    simp only [pairsD, PyData.shownKv] at ht
    cases ht
  | p :: r, h, t, ht => by
    obtain ⟨x, ex, a1, b1⟩ := h p List.mem_cons_self
    obtain ⟨k, v⟩ := p
    have ex : k = Sum.inr x := ex
    subst ex
    have e : pairsD ((Sum.inr x, v) :: r) (factsD ns ((Sum.inr x, v) :: r)) = (.str x, natsD (ns x)) :: pairsD r (factsD ns r) := rfl
    rw [e] at ht
    simp only [PyData.shownKv] at ht
    rcases List.mem_cons.mp ht with e | ht
    · rw [e]
      refine asc_app (asc_app ?_ (asc_lit (by decide))) (asc_nats b1)
      simp only [PyData.shown]
      exact asc_repr a1
    · exact asc_kv (fun y hy => h y (List.mem_cons_of_mem _ hy)) t ht
theorem FactsL.asc {K : PySem.W.Frag} {G : Hp} {kvs : List (Key × V)} {ns : Str → List Nat} (h : FactsL K G kvs ns) : Asc (PyData.dict (pairsD kvs (factsD ns kvs))).shown := by
  rw [PyData.shown_dict]
  refine asc_app (asc_app (asc_lit (by decide)) (asc_join (asc_lit (by decide)) (asc_kv fun p hp => ?_))) (asc_lit (by decide))
  obtain ⟨x, ex, hx⟩ := h.keys p hp
  have hv : valV kvs (Sum.inr x : Key) = some p.2 := valV_mem_nd h.nd (by rw [← ex]; exact hp)
  exact ⟨x, ex, hx.2, (h.val x p.2 hv).2.2⟩
/-- two texts in a tuple as data -/
theorem shaped_two {x y : Str} (h1 : Asc x) (h2 : Asc y) : SeqAt.shaped (.tuple [.str x, .str y]) = true := by
  have ok : ∀ {x : Str}, Asc x → PyData.strOk x = true := fun {x} h => by
    unfold PyData.strOk
    rw [Array.all_eq_true_iff_forall_mem]
    intro c hc
    exact decide_eq_true (Nat.lt_trans (h c (by simpa using hc)) (by decide))
  unfold SeqAt.shaped
  simp only [PyData.canLay0, PyData.canLayAll0, PyData.depth, PyData.depthAll, ok h1, ok h2, Bool.and_self]
  rfl
theorem eqv_two {x y : Str} : PyData.eqv (.tuple [.str x, .str y]) (.tuple [.str x, .str y]) = true := by
  simp [PyData.eqv, PyData.eqvAll]
theorem dp_two {K : PySem.W.Frag} {H : Hp} {a : Addr} {x y : Str} (h : SqT K H a [.str x, .str y]) : Dp K H (.ref a) (.tuple [.str x, .str y]) := .tup h (.cons (.str x) (.cons (.str y) .nil))
end HX
namespace W76
open PySem PySem.Spec PyProof.Rows L2 HX
section
variable {P : Program} {w : World} {K : PySem.W.Frag} {mg : Str → Option Value} {base : Heap}
theorem set_const {v : V} {i : Nat} {t2 : TS} {D : Ends} {σ : L2.St} {H : Hp} (h : t2 D (σ.set i (some v)) H) : tSeq (tAsg (tC v) (gName i)) t2 D σ H := h
theorem upd_comm {H : Hp} {a b : Addr} {x y : HO} (h : a ≠ b) : upd (upd H a x) b y = upd (upd H b y) a x := by
  funext c
  by_cases h1 : c = a
  · subst h1
    rw [upd_ne h, upd_same, upd_same]
  · rw [upd_ne h1]
    by_cases h2 : c = b
    · subst h2
      rw [upd_same, upd_same]
    · rw [upd_ne h2, upd_ne h2, upd_ne h1]
theorem SP.setTab {p R F c : Addr} {H0 G H : Hp} {cs : List Addr} {kvs : List (Key × V)} {ns : Str → List Nat} {n i j v : Nat} {f : Nat → Nat → Nat} (s : SP K p R F H0 cs (tab n f) kvs ns G H) (hi : i < n) (hc : cs[i]? = some c) :
    SP K p R F H0 cs (tab n (upd2 f i j v)) kvs ns G (upd H c (.lst ((((List.range n).map (f i)).map iv).set j (iv v)))) := by
  have h := s.setRow (row := ((List.range n).map (f i)).set j v) hc
  rw [tab_set hi, List.map_set] at h
  exact h
def spSpoilt (K : PySem.W.Frag) : Sp := fun vs H Q _ => ∃ (p : Addr) (form n : Nat) (tv : V) (fa : Addr) (kvs : List (Key × V)) (ns : Str → List Nat) (G : Hp), vs = [.ref p, iv form, tv, .ref fa] ∧ Pst p G H G H ∧ Table K G tv (tab n (pr form n)) ∧ H fa = some (.dK kvs) ∧ G fa = none ∧ FactsL K G kvs ns ∧
  (∀ x j, j ∈ ns x → j < n) ∧ kvs.length ≤ 6 ∧ 0 < n ∧ n ≤ 40 ∧ ∀ G' H', Pst p G H G' H' → Q (.bl true) H'
theorem ok_law_spoilt {k : Nat} (T : Tx K mg) (G_law_next : FnOk P w K mg base CX0 k T.a_law_next T.d_law_next ["pool", "many"] spNext) (G_law_refused : FnOk P w K mg base CX0 k T.a_law_refused T.d_law_refused ["table", "facts"] (spRefused K)) :
    FnOkG P w K mg base CX0 (k + 1) T.a_law_spoilt T.d_law_spoilt ["pool", "form", "table", "facts"] (spSpoilt K) := by
  refine HX.Fun.okG T.F_law_spoilt sc_law_spoilt (fun vs H Q E h => ?_) (fun cdv A outer s H vs Q E gd hr h => ?_)
  · obtain ⟨_, _, _, _, _, _, _, _, rfl, _⟩ := h
    rfl
  obtain ⟨p, form, n, tv, fa, kvs, ns, G, rfl, hP, hT, hfa, hGf, hF, hall, hk6, hn0, hn, q⟩ := h
  have hu := hu_of hr
  have hrep : (A.deeper (envOfC "_law_spoilt" (defScope s_law_spoilt) s.heap.objs.size T.a_law_spoilt cdv)).units + 9 < cLine := by
    have := hr.units
    omega
  refine ⟨_, PSs.nox (pss_cons (ps_set (i := 4) sc_law_spoilt.nd rfl (Or.inl rfl) (pe_callB (lenS K) (by rfl) T.z_len PySem.boot_len (pa_cons (pv 2) pa_nil)))
      (pss_cons (ps_setLc (i := 5) (own := [("row", 11)]) (g := gName 11) (by rfl) sc_law_spoilt.nd rfl rfl (sw_true rfl rfl rfl (by decide +kernel)) (piL K (pv 2)) (blkOk_by (own := [("row", 11)]) (N := ["pool", "form", "table", "facts", "many", "rows", "places", "word", "pick", "due", "before", "row", "k"]) (sc := defScope s_law_spoilt) (by decide +kernel)) (fun _ _ _ _ _ => (pg_name (i := 11) sc_law_spoilt.nd rfl (Or.inl rfl))) (fun _ _ _ _ _ => pts_nil) (fun _ _ _ _ _ => (pe_callTy (listS K) (by rfl) T.z_list (by decide +kernel) (pa_cons (pv 11) pa_nil))))
      (pss_cons (ps_set (i := 6) sc_law_spoilt.nd rfl (Or.inl rfl) pe_dnewK)
      (pss_cons (ps_lock (ps_for PassesOwn.never rfl (pi_keys (pv 3)) (pg_name (i := 7) sc_law_spoilt.nd rfl (Or.inl rfl)) (pss_one (ps_dput hu (pv 6) (pv 7) (pe_callTy (listS K) (by rfl) T.z_list (by decide +kernel) (pa_cons (pe_dget hu (pv 3) (pv 7) (fun _ _ => rfl)) pa_nil)) rfl))))
      (pss_cons (ps_set (i := 8) sc_law_spoilt.nd rfl (Or.inl rfl) (pe_call G_law_next hr (by rfl) T.m_law_next T.F_law_next.kp T.b_law_next .nil pass0 (pa_cons (pv 0) (pa_cons pe_int pa_nil))))
      (pss_cons (ps_if (PW.pt (pw_and (pt_cmpR op_eq (pv 1) pe_int (nomark _)) (pw_and1 (pt_cmpR op_eq (pe_call G_law_next hr (by rfl) T.m_law_next T.F_law_next.kp T.b_law_next .nil pass0 (pa_cons (pv 0) (pa_cons pe_int pa_nil))) pe_int (nomark _))))) (pss_one (ps_set (i := 8) sc_law_spoilt.nd rfl (Or.inl rfl) pe_int)) pss_nil)
      (pss_cons (ps_set (i := 9) sc_law_spoilt.nd rfl (Or.inl rfl) pe_str)
      (pss_cons (ps_if (pt_cmpR op_eq (pv 8) pe_int (nomark _)) (pss_one (ps_asg (pe_slice (slL K) (pe_ix (ixL K) (pv 5) (pe_un un_neg pe_int) (fun _ _ => rfl)) po_none (po_some (pe_un un_neg pe_int))) (pg_sub (pv 5) (pe_un un_neg pe_int) set_list))) (pss_one (ps_if (pt_cmpR op_eq (pv 8) pe_int (nomark _)) (pss_one (ps_expr (pe_bm PySem.F.plainAttrs_list PySem.F.slot_list_append PySem.F.type_list_append mt_append (pv 5) (pa_cons (pe_callTy (listS K) (by rfl) T.z_list (by decide +kernel) (pa_cons (pe_ix (ixL K) (pv 5) (pe_un un_neg pe_int) (fun _ _ => rfl)) pa_nil)) pa_nil)))) (pss_one (ps_if (PW.pt (pw_and (pt_cmpR op_eq (pv 8) pe_int (nomark _)) (pw_and1 (pt_cmpR op_gt (pv 4) pe_int (nomark _))))) (pss_cons (ps_asg (pe_call G_law_next hr (by rfl) T.m_law_next T.F_law_next.kp T.b_law_next .nil pass0 (pa_cons (pv 0) (pa_cons (pe_op op_sub (pv 4) pe_int) pa_nil))) (pg_sub (pe_ix (ixL K) (pv 5) pe_int (fun _ _ => rfl)) (pe_op op_sub (pv 4) pe_int) set_list))
      (pss_one (ps_set (i := 9) sc_law_spoilt.nd rfl (Or.inl rfl) pe_str))) (pss_one (ps_if (PW.pt (pw_and (pt_cmpR op_eq (pv 8) pe_int (nomark _)) (pw_and1 (pt_cmpR op_gt (pv 4) pe_int (nomark _))))) (pss_cons (ps_asg (pe_op op_modN (pe_callTy call_int1 (by rfl) T.z_int (by decide +kernel) (pa_cons (pe_op op_add (pe_ix (ixL K) (pe_ix (ixL K) (pv 5) (pe_op op_sub (pv 4) pe_int) (fun _ _ => rfl)) (pe_op op_sub (pv 4) pe_int) (fun _ _ => rfl)) pe_int) pa_nil)) (pv 4)) (pg_sub (pe_ix (ixL K) (pv 5) (pe_op op_sub (pv 4) pe_int) (fun _ _ => rfl)) (pe_op op_sub (pv 4) pe_int) set_list))
      (pss_one (ps_set (i := 9) sc_law_spoilt.nd rfl (Or.inl rfl) pe_str))) (pss_one (ps_if (PW.pt (pw_and (pt_cmpR op_eq (pv 8) pe_int (nomark _)) (pw_and (pt_cmpR op_eq (pv 1) pe_int (nomark _)) (pw_and1 (pt_cmpR op_gt (pv 4) pe_int (nomark _)))))) (pss_cons (ps_asg pe_int (pg_sub (pe_ix (ixL K) (pv 5) (pe_op op_sub (pv 4) pe_int) (fun _ _ => rfl)) (pe_op op_sub (pv 4) pe_int) set_list))
      (pss_cons (ps_asg pe_int (pg_sub (pe_ix (ixL K) (pv 5) (pe_op op_sub (pv 4) pe_int) (fun _ _ => rfl)) (pe_op op_sub (pv 4) pe_int) set_list))
      (pss_one (ps_set (i := 9) sc_law_spoilt.nd rfl (Or.inl rfl) pe_str)))) (pss_one (ps_if (pt_cmpR op_eq (pv 8) pe_int (nomark _)) (pss_cons (ps_dput hu (pv 6) pe_str (pe_lc (own := [("k", 12)]) (g := gName 12) (by rfl) sc_law_spoilt.nd (pi_range1 (by rfl) T.z_range (pa_cons (pe_op op_add (pv 4) pe_int) pa_nil)) (blkOk_by (own := [("k", 12)]) (N := ["pool", "form", "table", "facts", "many", "rows", "places", "word", "pick", "due", "before", "row", "k"]) (sc := defScope s_law_spoilt) (by decide +kernel)) (fun _ _ _ _ _ => (pg_name (i := 12) sc_law_spoilt.nd rfl (Or.inl rfl))) (fun _ _ _ _ _ => pts_nil) (fun _ _ _ _ _ => (pv 12))) rfl)
      (pss_one (ps_set (i := 9) sc_law_spoilt.nd rfl (Or.inl rfl) pe_str))) (pss_one (ps_asg (pv 4) (pg_sub (pe_ix (ixL K) (pv 5) (pe_un un_neg pe_int) (fun _ _ => rfl)) (pe_un un_neg pe_int) set_list))))))))))))))
      (pss_cons (ps_set (i := 10) sc_law_spoilt.nd rfl (Or.inl rfl) (pe_tup (pa_cons (pe_callB (call_reprD gd (n := 8) hrep) (by rfl) T.z_repr (by decide +kernel) (pa_cons (pv 5) pa_nil)) (pa_cons (pe_callB (call_reprK gd (n := 8) hrep) (by rfl) T.z_repr (by decide +kernel) (pa_cons (pv 6) pa_nil)) pa_nil))))
      (pss_one (ps_ret (pe_and (pe_cmpR op_eq (pe_call G_law_refused hr (by rfl) T.m_law_refused T.F_law_refused.kp T.b_law_refused .nil pass0 (pa_cons (pv 5) (pa_cons (pv 6) pa_nil))) (pv 9) (nomark _)) (pe_one (pe_cmpR (eqD K hr.units) (pe_tup (pa_cons (pe_callB (call_reprD gd (n := 8) hrep) (by rfl) T.z_repr (by decide +kernel) (pa_cons (pv 5) pa_nil)) (pa_cons (pe_callB (call_reprK gd (n := 8) hrep) (by rfl) T.z_repr (by decide +kernel) (pa_cons (pv 6) pa_nil)) pa_nil))) (pv 10) (nomark _))))))))))))))), ?_⟩
  obtain ⟨ta, txs, rfl, hta, htp⟩ := id hT
  have htl : txs.length = n := (Paired.len htp).trans (tab_len n _)
  refine ⟨_, rfl, ta, _, rfl, .inl (hP.all.seq hta), ?_⟩
  rw [htl]
  -- rows
  refine ⟨_, rfl, ta, rfl, ⟨_, hP.all.seq hta⟩, fun R nR => ?_⟩
  refine lc_list (K := K) (a := ta) (xs := txs) (fun i H' => ∃ cs : List Addr, Same H H' ∧ H' R = some (.lst (cs.map V.ref)) ∧ Paired (fun c (row : List Nat) => H' c = some (.lst (row.map iv))) cs ((tab n (pr form n)).take i) ∧ (R :: cs).Nodup ∧ ∀ c, c ∈ R :: cs → H c = none) ?_ (fun i H' _ h => by
    obtain ⟨cs, h, _⟩ := h
    exact (hP.all.trans h).seq hta) ?_ ?_
  · exact ⟨[], Same.new nR, upd_same, .nil, by simp, fun c hc => by rw [List.mem_singleton.mp hc]; exact nR⟩
  · rintro i y H' hy ⟨cs, sm, hR, hp, hnd, hnew⟩
    obtain ⟨row, hrow, c, rfl, hc⟩ := Paired.getL htp hy
    have hin : i < n := by
      rw [← htl]
      exact (List.getElem?_eq_some_iff.mp hy).1
    refine ⟨rfl, ?_⟩
    refine ⟨_, rfl, c, _, rfl, .inl ((hP.all.trans sm).seq hc), fun l nl => ?_⟩
    have hlR : R ≠ l := ne_of_none hR nl
    have hlc : ∀ c, c ∈ cs → l ≠ c := fun c hc => by
      obtain ⟨j, hj⟩ := List.mem_iff_getElem?.mp hc
      obtain ⟨row, _, h2⟩ := Paired.getL hp hj
      exact Ne.symm (ne_of_none h2 nl)
    have hcl : cs.length ≤ i := by
      rw [Paired.len hp]
      exact List.length_take_le _ _
    refine ⟨cs.map V.ref, by rw [upd_ne hlR]; exact hR, by rw [List.length_map]; exact sz2 (by omega), cs ++ [l], ?_, ?_, ?_, ?_, ?_⟩
    · refine fun b o hb => ?_
      rw [upd_ne (ne_of_none hb nR), upd_ne (ne_of_none (sm _ _ hb) nl)]
      exact sm _ _ hb
    · rw [upd_same, List.map_append]
      rfl
    · rw [List.take_succ, hrow]
      refine HX.Paired.snoc ?_ ?_
      · rw [upd_ne (Ne.symm hlR), upd_same]
      · refine paired_of (Paired.len hp) fun j x y k1 k2 => ?_
        obtain ⟨y', k3, k4⟩ := Paired.getL hp k1
        rw [k2] at k3
        cases k3
        have hx := List.mem_of_getElem? k1
        show upd (upd H' l _) R _ x = _
        rw [upd_ne (fun (z : x = R) => (List.nodup_cons.mp hnd).1 (z ▸ hx)), upd_ne (Ne.symm (hlc x hx))]
        exact k4
    · rw [← List.cons_append, List.nodup_append]
      refine ⟨hnd, by simp, fun a ha b hb => ?_⟩
      rw [List.mem_singleton.mp hb]
      rcases List.mem_cons.mp ha with e | ha
      · rw [e]
        exact hlR
      · exact Ne.symm (hlc a ha)
    · intro a ha
      rw [← List.cons_append] at ha
      rcases List.mem_append.mp ha with ha | ha
      · exact hnew a ha
      · rw [List.mem_singleton.mp ha]
        exact Same.none sm nl
  rintro H1 ⟨cs, sm, hR, hp, hnd, hnew⟩
  rw [htl, List.take_of_length_le (by rw [tab_len]; exact Nat.le_refl _)] at hp
  -- places
  refine fun F nF => ?_
  have hfaF : fa ≠ F := ne_of_none (sm _ _ hfa) nF
  have hfaR : ∀ c, c ∈ R :: cs → fa ≠ c := fun c hc => ne_of_none hfa (hnew c hc)
  obtain ⟨pl, hpl, hpool⟩ := hP.at_
  have S0 : SP K p R F H cs (tab n (pr form n)) [] (fun _ => []) G (upd H1 F (.dK [])) := by
    have ap : ∀ c, c ∈ cs → H1 c ≠ none := fun c hc => by
      obtain ⟨j, hj⟩ := List.mem_iff_getElem?.mp hc
      obtain ⟨row, _, h2⟩ := Paired.getL hp hj
      rw [h2]
      exact fun z => nomatch z
    have FR : F ≠ R := fun z => by
      rw [z, hR] at nF
      cases nF
    have Fc : ∀ c, c ∈ cs → F ≠ c := fun c hc z => ap c hc (z ▸ nF)
    have HF : H F = none := Same.none sm nF
    have pn : ∀ c, c ∈ F :: R :: cs → p ≠ c := fun c hc => by
      rcases List.mem_cons.mp hc with e | hc
      · rw [e]
        exact ne_of_none hpl HF
      · exact ne_of_none hpl (hnew c hc)
    refine ⟨?_, fun b o _ hb => ?_, ⟨pl, ?_, hpool⟩, fun c hc => ?_, fun c hc => ?_, apart_iff.mpr ⟨pn F List.mem_cons_self, pn R (List.mem_cons_of_mem _ List.mem_cons_self), fun c hc => pn c (List.mem_cons_of_mem _ (List.mem_cons_of_mem _ hc)), FR, Fc, fun c hc z => (List.nodup_cons.mp hnd).1 (z ▸ hc), (List.nodup_cons.mp hnd).2⟩, ?_, Paired.upd_ hp Fc, upd_same, FactsL.nil⟩
    · exact Same.put (hP.all.trans sm) (Same.none hP.all HF)
    · rw [upd_ne (ne_of_none hb HF)]
      exact sm _ _ hb
    · rw [upd_ne (pn F List.mem_cons_self)]
      exact sm _ _ hpl
    · rcases List.mem_cons.mp hc with e | hc
      · rw [e]
        exact hP.nog
      rcases List.mem_cons.mp hc with e | hc
      · rw [e]
        exact Same.none hP.all HF
      · exact Same.none hP.all (hnew c hc)
    · rcases List.mem_cons.mp hc with e | hc
      · rw [e]
        exact HF
      · exact hnew c hc
    · rw [upd_ne (Ne.symm FR)]
      exact hR
  generalize upd H1 F (.dK []) = H2 at S0
  have hpfa : fa ≠ p := ne_of hfa hpl (by intro z; cases z)
  have hfa2 : H2 fa = some (.dK kvs) := S0.old _ _ hpfa hfa
  refine ⟨fa, .dK kvs, hfa2, trivial, fun od => ?_⟩
  refine ⟨_, rfl, fa, od, rfl, .inl ⟨kvs, upd_same, ?_⟩⟩
  refine for_keys (fun i σ' H' => ∃ G' ks ns' z7, SP K p R F H cs (tab n (pr form n)) ks ns' G' (upd H' fa (.dK kvs)) ∧ H' fa = some (.frz od (.dK kvs)) ∧ Same G G' ∧ G' fa = none ∧ (∀ x j, j ∈ ns' x → j < n) ∧ ks.length ≤ i ∧
      σ' = [some (.ref p), some (iv form), some (.ref ta), some (.ref fa), some (iv n), some (.ref R), some (.ref F), z7, none, none, none, none, none]) ?_ (fun i σ' H' h => by
    obtain ⟨_, _, _, _, _, h, _⟩ := h
    exact h) ?_ ?_
  · refine ⟨G, [], (fun _ => []), none, ?_, upd_same, Same.refl _, hGf, fun x j z => (by cases z), Nat.le_refl _, rfl⟩
    rw [upd_upd, upd_id hfa2]
    exact S0
  · rintro i key v' σ' H' hi ⟨G', ks, ns', z7, S, hfz, sg, hgf, hall', hks, rfl⟩
    obtain ⟨x, ex, hx1, hx2⟩ := hF.keys _ (List.mem_of_getElem? hi)
    have ex' : key = Sum.inr x := ex
    subst ex'
    obtain ⟨u, hu'⟩ := valV_there hi
    obtain ⟨⟨l, rfl, hl⟩, hll⟩ := hF.val x u hu'
    have hlfa : fa ≠ l ∨ True := Or.inr trivial
    have sgH : Same G' H' := fun b o hb => by
      have h1 := S.same b o hb
      rwa [upd_ne (ne_of_none hb hgf)] at h1
    refine ⟨_, rfl, _, rfl, fa, .ref l, rfl, .inl ⟨kvs, Sum.inr x, .inr ⟨od, hfz⟩, rfl, hu'.symm⟩, l, _, rfl, .inl ((sg.trans sgH).seq hl), fun q nq => ?_⟩
    have nqf : q ≠ fa := Ne.symm (ne_of_none hfz nq)
    have nq2 : upd H' fa (.dK kvs) q = none := by
      rw [upd_ne nqf]
      exact nq
    have S1 := S.step (stp_newF S.same nq2 (o := .lst ((ns x).map iv)))
    have hl6 : ks.length ≤ 6 := by
      have := (List.getElem?_eq_some_iff.mp hi).1
      omega
    have S2 := S1.put (S1.facts.put hl6 ⟨hx1, hx2⟩ (nats_new (K := K) (G := G') (a := q) (ns := ns x)) hll.1 hll.2)
    have hFfa : F ≠ fa := Ne.symm hfaF
    have ef : upd (upd H' q (.lst ((ns x).map iv))) F (.dK (putK ks (Sum.inr x) (.ref q))) fa = some (.frz od (.dK kvs)) := by
      rw [upd_ne hfaF, upd_ne (Ne.symm nqf)]
      exact hfz
    have S3 : SP K p R F H cs (tab n (pr form n)) (putK ks (Sum.inr x) (.ref q)) (putN ns' x (ns x)) (upd G' q (.lst ((ns x).map iv))) (upd (upd (upd H' q (.lst ((ns x).map iv))) F (.dK (putK ks (Sum.inr x) (.ref q)))) fa (.dK kvs)) := by
      rw [upd_comm hFfa, upd_comm nqf]
      exact S2
    refine ⟨_, rfl, _, rfl, F, _, rfl, .inl ⟨ks, Sum.inr x, ?_, rfl, sz2 (by omega), rfl⟩, _, _, _, _, S3, ef, sg.trans (Same.new (Same.none S.same nq2)), ?_, ?_, ?_, rfl⟩
    · have h1 := S1.f
      rw [upd_comm (Ne.symm nqf), upd_ne hFfa] at h1
      exact h1
    · rw [upd_ne (Ne.symm nqf)]
      exact hgf
    · intro y j hj
      unfold putN at hj
      split at hj
      · exact hall x j hj
      · exact hall' y j hj
    · have := length_putK ks (Sum.inr x : Key) (.ref q)
      omega
  rintro σ' H3 ⟨G3, ks, ns', z7, S, hfz, sg, hgf, hall', hks, rfl⟩
  refine ⟨hfz, ?_⟩
  generalize upd H3 fa (.dK kvs) = H4 at S
  have g : Good n (pr form n) := pr_good hn0
  obtain ⟨l, hp', hl⟩ := S.pool
  refine ⟨_, rfl, p, l, 7, rfl, hp', hl, by decide, by decide, fun d l1 hl1 hd => ?_⟩
  have S := S.next hl1
  generalize upd H4 p (.lst l1) = H5 at S
  dsimp only
  refine seq_rest (fun σ' H' => ∃ (pk : Nat), SP K p R F H cs (tab n (pr form n)) ks ns' G3 H' ∧ σ' = [some (.ref p), some (iv form), some (.ref ta), some (.ref fa), some (iv n), some (.ref R), some (.ref F), z7, some (iv pk), none, none, none, none]) ?_ (fun rest => ?_)
  · rintro σ' H6 ⟨pk, S, rfl⟩
    refine set_const ?_
    refine seq_rest (fun σ' H' => ∃ (cs : List Addr) (rows : Rows) (ks : List (Key × V)) (ns' : Str → List Nat) (G' : Hp) (due : Str) (z8 z12 : Option V), SP K p R F H cs rows ks ns' G' H' ∧ fault rows ks ns' = some due ∧ Small rows ∧ σ' = [some (.ref p), some (iv form), some (.ref ta), some (.ref fa), some (iv n), some (.ref R), some (.ref F), z7, z8, some (.str due), none, none, z12]) ?_ (fun rest => ?_)
    · rintro σ' H7 ⟨cs, rows, ks, ns', G7, due, z8, z12, S, hfl, hsm, rfl⟩
      obtain ⟨G8, sg8, sg9, gF, hT8⟩ := S.freeze
      have hF8 := S.facts.mono sg8
      have shr := sh_rows hsm.2 hsm.1
      have shf := S.facts.sh
      have ar := asc_rows fun r hr => (hsm.2 r hr).2
      have af := HX.FactsL.asc S.facts
      have dpR : ∀ H', Same G8 H' → Dp K H' (.ref R) (rowsD rows) := fun H' sm => by
        obtain ⟨_, e, h⟩ := HX.Table.dp (Table.mono sm hT8)
        cases e
        exact h
      have dpF : ∀ H', Same G8 H' → DpAll K H' (ks.map (·.2)) (factsD ns' ks) := fun H' sm => HX.FactsL.dp (hF8.mono sm)
      -- before
      refine ⟨_, rfl, R, rowsD rows, rfl, dpR _ sg9, shr.show_, Nat.le_trans shr.dep_ (by decide), shr.fits (by decide), ?_⟩
      refine ⟨_, rfl, F, ks, factsD ns' ks, rfl, S.f, dpF _ sg9, shf.show_, Nat.le_trans shf.dep_ (by decide), shf.fits (by decide), (by show 2 ≤ sizeLine; decide), fun b nb => ?_⟩
      have s1 : Same H7 (upd H7 b (.tup [.str (rowsD rows).shown, .str (PyData.dict (pairsD ks (factsD ns' ks))).shown])) := Same.new nb
      refine ⟨_, rfl, _, rfl, .ref R, F, G8, rows, ks, ns', rfl, sg9.trans s1, gF, s1 _ _ S.f, hT8, hF8, Nat.le_trans hsm.1 (by decide), fun H8 s8 => ?_⟩
      rw [hfl]
      refine ⟨_, rfl, rfl, _, rfl, ?_⟩
      rw [decide_eq_true (show V.str ((some due).getD "") = V.str due from rfl)]
      have sg10 : Same G8 H8 := sg9.trans (s1.trans s8)
      refine iteT ⟨_, rfl, R, rowsD rows, rfl, dpR _ sg10, shr.show_, Nat.le_trans shr.dep_ (by decide), shr.fits (by decide), ?_⟩
      refine ⟨_, rfl, F, ks, factsD ns' ks, rfl, s8 _ _ (s1 _ _ S.f), dpF _ sg10, shf.show_, Nat.le_trans shf.dep_ (by decide), shf.fits (by decide), (by show 2 ≤ sizeLine; decide), fun b2 nb2 => ?_⟩
      have nbb : b ≠ b2 := ne_of_none (s8 _ _ upd_same) nb2
      refine ⟨_, rfl, _, _, dp_two (.inl (.inl upd_same)), dp_two (.inl (.inl (by rw [upd_ne nbb]; exact s8 _ _ upd_same))), shaped_two ar af, shaped_two ar af, ?_⟩
      rw [eqv_two]
      have sm : Same H7 (upd H8 b2 (.tup [.str (rowsD rows).shown, .str (PyData.dict (pairsD ks (factsD ns' ks))).shown])) := s1.trans (s8.trans (Same.new nb2))
      obtain ⟨pl7, hp7, hl7⟩ := S.pool
      refine q G _ ⟨⟨Same.refl _, fun b o hb => ?_, fun a hz _ => hz, fun b o hne hb => sm _ _ (S.old b o hne hb), fun b hb => ?_⟩, hP.nog, pl7, sm _ _ hp7, hl7⟩
      · have h0 := hP.all b o hb
        have hne : b ≠ p := fun z => by
          rw [z, hP.nog] at hb
          cases hb
        exact sm _ _ (S.old b o hne h0)
      · by_cases e : b = p
        · rw [e, sm _ _ hp7]
          exact fun z => nomatch z
        · cases h : H b with
          | none => exact absurd h hb
          | some o =>
            rw [sm _ _ (S.old b o e h)]
            exact fun z => nomatch z
    · have hcl : cs.length = n := S.clen.trans (tab_len n _)
      have hsm : Small (tab n (pr form n)) := small_tab (by omega) fun a b ha hb => Nat.lt_of_lt_of_le (g.lt a b ha hb) (by omega)
      have hrow : ∀ i, i < n → ∃ c, cs[i]? = some c ∧ H6 c = some (.lst (((List.range n).map (pr form n i)).map iv)) := fun i hi => S.row_at (tab_get hi)
      obtain ⟨cl, hcl1, hclH⟩ := hrow (n - 1) (by omega)
      have hks6 : ks.length ≤ 6 := by omega
      have hlast : atI (cs.map V.ref) (-1) = some (.ref cl) := ref_last (by rw [hcl]; exact hcl1)
      have e1 : (n : Int) - 1 = ((n - 1 : Nat) : Int) := by omega
      have hcn : ∀ c, c ∈ cs → R ≠ c := S.ap.Rc
      have Rn : ∀ a, H6 a = none → R ≠ a := fun a na => ne_of_none S.r na
      have rl : ∀ r, r ∈ tab n (pr form n) → r.length ≤ 50 ∧ ∀ j, j ∈ r → j < 64 := hsm.2
      have rlast := rl ((List.range n).map (pr form n (n - 1))) (List.mem_iff_getElem?.mpr ⟨n - 1, tab_get (by omega)⟩)
      have len1 : ((List.range n).map (pr form n (n - 1))).length = n := by rw [List.length_map, List.length_range]
      -- pick 0
      refine ifS_by ?_ (fun els => ?_)
      rotate_left
      · refine ⟨_, rfl, rfl, _, rfl, ?_⟩
        refine ite2 (fun _ => ?_) (fun _ => els)
        refine ⟨_, rfl, _, rfl, R, _, _, _, rfl, rfl, SqL.of S.r, hlast, ?_⟩
        refine ⟨_, rfl, _, rfl, cl, _, rfl, SqL.of hclH, fun a na => ?_⟩
        have ec : cutV (((List.range n).map (pr form n (n - 1))).map iv) none (some (-1)) = (((List.range n).map (pr form n (n - 1))).take (n - 1)).map iv := by
          rw [cut_last (by rw [List.length_map, len1]; omega), List.length_map, len1, List.map_take]
        refine ⟨_, rfl, _, rfl, R, _, _, n - 1, rfl, rfl, by rw [upd_ne (Rn a na)]; exact S.r, by rw [List.length_map, hcl]; exact ixN_last hn0, ?_⟩
        have S2 := S.setNew (i := n - 1) (row := ((List.range n).map (pr form n (n - 1))).take (n - 1)) na (by rw [tab_len]; omega)
        rw [← ec] at S2
        refine rest _ _ ⟨_, _, ks, ns', G3, _, _, none, S2, fault_shape (shape_cut hn0), hsm.set ⟨Nat.le_trans (List.length_take_le' _ _) rlast.1, fun j hj => rlast.2 j (List.mem_of_mem_take hj)⟩, rfl⟩
      -- pick 1
      refine ifS_by ?_ (fun els => ?_)
      rotate_left
      · refine ⟨_, rfl, rfl, _, rfl, ?_⟩
        refine ite2 (fun _ => ?_) (fun _ => els)
        refine ⟨_, rfl, .inl ⟨rfl, _, SqL.of S.r⟩, _, rfl, _, rfl, R, _, _, _, rfl, rfl, SqL.of S.r, hlast, cl, _, rfl, .inl (SqL.of hclH), fun a na => ?_⟩
        refine ⟨R, _, _, rfl, rfl, by rw [upd_ne (Rn a na)]; exact S.r, by rw [List.length_map, hcl]; exact sz2 (by omega), ?_⟩
        have S2 := S.appNew (row := (List.range n).map (pr form n (n - 1))) na
        refine rest _ _ ⟨_, _, ks, ns', G3, _, _, none, S2, fault_shape (shape_more hn0), ⟨by rw [List.length_append, tab_len, List.length_singleton]; omega, fun r hr => ?_⟩, rfl⟩
        rcases List.mem_append.mp hr with hr | hr
        · exact rl r hr
        · rw [List.mem_singleton.mp hr]
          exact rlast
      -- pick 2
      refine ifS_by ?_ (fun els => ?_)
      rotate_left
      · refine ⟨_, rfl, rfl, _, rfl, ?_⟩
        refine ite2 (fun _ => ?_) (fun _ => iteF els)
        refine ⟨_, rfl, _, _, rfl, rfl, _, rfl, ?_⟩
        refine ite2 (fun h1 => ?_) (fun _ => els)
        have h1 := of_decide_eq_true h1
        obtain ⟨l, hp', hl⟩ := S.pool
        refine ⟨_, rfl, _, rfl, _, _, rfl, rfl, p, l, _, rfl, hp', hl, by omega, by omega, fun d3 l3 hl3 hd3 => ?_⟩
        have S := S.next hl3
        obtain ⟨c0, hc0, hc0H⟩ := S.row_at (tab_get (f := pr form n) (show 0 < n by omega))
        refine ⟨_, rfl, R, _, 0, _, rfl, rfl, SqL.of S.r, ref_at (j := 0) hc0, _, rfl, _, _, rfl, rfl, c0, _, _, n - 1, rfl, rfl, hc0H, by rw [e1, List.length_map, List.length_map, List.length_range]; exact ixN_nat (by omega), ?_⟩
        have S2 := S.setTab (i := 0) (j := n - 1) (v := d3) (by omega) hc0
        have cl2 : ∀ a b, a < n → b < n → upd2 (pr form n) 0 (n - 1) d3 a b < n := shape_upd hn0 g.lt (by omega)
        exact rest _ _ ⟨_, _, ks, ns', G3, _, _, none, S2, fault_unit (shape_tab hn0 cl2) (unit_bad (by omega) (by omega)), small_tab (by omega) (fun a b ha hb => Nat.lt_of_lt_of_le (cl2 a b ha hb) (by omega)), rfl⟩
      -- pick 3
      refine ifS_by ?_ (fun els => ?_)
      rotate_left
      · refine ⟨_, rfl, rfl, _, rfl, ?_⟩
        refine ite2 (fun _ => ?_) (fun _ => iteF els)
        refine ⟨_, rfl, _, _, rfl, rfl, _, rfl, ?_⟩
        refine ite2 (fun h1 => ?_) (fun _ => els)
        have h1 := of_decide_eq_true h1
        have e2 : (n : Int) - 2 = ((n - 2 : Nat) : Int) := by omega
        have hv : atI (((List.range n).map (pr form n (n - 1))).map iv) ((n - 2 : Nat) : Int) = some (iv (pr form n (n - 1) (n - 2))) := atN (nats_at (range_at (by omega)))
        refine ⟨_, rfl, _, rfl, _, _, rfl, rfl, R, _, _, _, rfl, rfl, SqL.of S.r, by rw [e1]; exact ref_at hcl1, _, rfl, _, _, rfl, rfl, cl, _, _, _, rfl, rfl, SqL.of hclH, by rw [e2]; exact hv, _, _, rfl, rfl, .inl ⟨_, rfl, _, rfl, _, _, rfl, rfl, by omega, ?_⟩⟩
        have ev : ((pr form n (n - 1) (n - 2) : Nat) : Int) + 1 = ((pr form n (n - 1) (n - 2) + 1 : Nat) : Int) := by omega
        have em : (((pr form n (n - 1) (n - 2) : Nat) : Int) + 1).fmod (n : Int) = (((pr form n (n - 1) (n - 2) + 1) % n : Nat) : Int) := by
          rw [ev, Int.fmod_eq_emod_of_nonneg _ (by omega), Int.natCast_emod]
        refine ⟨_, rfl, _, rfl, _, _, rfl, rfl, R, _, _, _, rfl, rfl, SqL.of S.r, by rw [e1]; exact ref_at hcl1, _, rfl, _, _, rfl, rfl, cl, _, _, n - 2, rfl, rfl, hclH, by rw [e2, List.length_map, len1]; exact ixN_nat (by omega), ?_⟩
        have hlt : (pr form n (n - 1) (n - 2) + 1) % n < n := Nat.mod_lt _ hn0
        have S2 := S.setTab (i := n - 1) (j := n - 2) (v := (pr form n (n - 1) (n - 2) + 1) % n) (by omega) hcl1
        have cl2 : ∀ a b, a < n → b < n → upd2 (pr form n) (n - 1) (n - 2) ((pr form n (n - 1) (n - 2) + 1) % n) a b < n := shape_upd hn0 g.lt hlt
        rw [show iv ((pr form n (n - 1) (n - 2) + 1) % n) = V.int ((((pr form n (n - 1) (n - 2) : Nat) : Int) + 1).fmod (n : Int)) from congrArg V.int em.symm] at S2
        exact rest _ _ ⟨_, _, ks, ns', G3, _, _, none, S2, fault_order (shape_tab hn0 cl2) (unit_tab hn0 fun b hb => by unfold upd2; rw [if_neg (by omega)]; exact g.unit b hb) (order_bad (by omega) (g.comm _ _ (by omega) (by omega)) (g.lt _ _ (by omega) (by omega))), small_tab (by omega) (fun a b ha hb => Nat.lt_of_lt_of_le (cl2 a b ha hb) (by omega)), rfl⟩
      -- pick 4
      refine ifS_by ?_ (fun els => ?_)
      rotate_left
      · refine ⟨_, rfl, rfl, _, rfl, ?_⟩
        refine ite2 (fun _ => ?_) (fun _ => iteF els)
        refine ⟨_, rfl, rfl, _, rfl, ?_⟩
        refine ite2 (fun hf => ?_) (fun _ => iteF els)
        refine ⟨_, rfl, _, _, rfl, rfl, _, rfl, ?_⟩
        refine ite2 (fun h1 => ?_) (fun _ => els)
        have h4 : 4 < n := by
          have := of_decide_eq_true h1
          omega
        have hf1 : (form : Int) = 2 := V.int.inj (of_decide_eq_true hf)
        have hf2 : form = 2 := by omega
        subst hf2
        have e2 : (n : Int) - 2 = ((n - 2 : Nat) : Int) := by omega
        refine ⟨_, rfl, _, rfl, _, _, rfl, rfl, R, _, _, _, rfl, rfl, SqL.of S.r, by rw [e1]; exact ref_at hcl1, _, rfl, _, _, rfl, rfl, cl, _, _, n - 2, rfl, rfl, hclH, by rw [e2, List.length_map, len1]; exact ixN_nat (by omega), ?_⟩
        have S2 := S.setTab (i := n - 1) (j := n - 2) (v := 1) (by omega) hcl1
        obtain ⟨cr, hcr, hcrH⟩ := S2.row_at (tab_get (show n - 2 < n by omega))
        refine ⟨_, rfl, _, rfl, _, _, rfl, rfl, R, _, _, _, rfl, rfl, SqL.of S2.r, by rw [e2]; exact ref_at hcr, _, rfl, _, _, rfl, rfl, cr, _, _, n - 1, rfl, rfl, hcrH, by rw [e1, List.length_map, List.length_map, List.length_range]; exact ixN_nat (by omega), ?_⟩
        have S3 := S2.setTab (i := n - 2) (j := n - 1) (v := 1) (by omega) hcr
        have cl2 : ∀ a b, a < n → b < n → bent n a b < n := fun _ _ => bent_lt h4
        exact rest _ _ ⟨_, _, ks, ns', G3, _, _, none, S3, fault_group (rows := tab n (bent n)) (shape_tab hn0 cl2) (unit_bent h4) (order_tab fun _ _ _ _ => bent_comm) (group_bad h4), small_tab (f := bent n) (by omega) (fun a b ha hb => Nat.lt_of_lt_of_le (cl2 a b ha hb) (by omega)), rfl⟩
      -- pick 5
      refine ifS_by ?_ (fun els => ?_)
      rotate_left
      · refine ⟨_, rfl, rfl, _, rfl, ?_⟩
        refine ite2 (fun _ => ?_) (fun _ => els)
        refine ⟨_, rfl, _, _, rfl, rfl, _, rfl, by omega, by omega, fun D nD => ?_⟩
        refine lc_range (lo := 0) (n := n + 1) (fun i H' => ∃ G', Build IsV nom G3 H6 D ((List.range i).map iv) G' H') ⟨G3, Build.start (Stp.refl S.same) nD⟩ ?_ ?_
        · rintro i H' hi ⟨G', b⟩
          rw [Int.zero_add]
          refine ⟨rfl, ?_⟩
          obtain ⟨ys, e, hl2, b2⟩ := b.snoc (y := iv i) rfl
          refine ⟨_, rfl, ys, e, ?_, G', ?_⟩
          · rw [hl2, List.length_map, List.length_range]
            exact sz2 (by omega)
          · rw [range_snoc]
            exact b2
        · rintro H7 ⟨G', b⟩
          have fr := b.stp.freeze b.new b.nog b.vals
          have S2 := S.step fr
          have hl6 : ks.length ≤ 6 := by omega
          have hN : Nats K (upd G' D (.lst ((List.range (n + 1)).map iv))) (.ref D) (List.range (n + 1)) := ⟨D, rfl, SqL.of upd_same⟩
          have nm : Nm "last9" := ⟨by decide +kernel, asc_lit (s := "last9") (by decide +kernel)⟩
          have S3 := S2.put (S2.facts.put hl6 nm hN (by rw [List.length_range]; omega) (fun j hj => by have := List.mem_range.mp hj; omega))
          refine ⟨_, rfl, F, _, rfl, .inl ⟨ks, Sum.inr "last9", S2.f, rfl, sz2 (by omega), rfl⟩, ?_⟩
          obtain ⟨g1, g2, g3, g4⟩ := good_all g
          refine rest _ _ ⟨_, _, _, _, _, _, _, none, S3, fault_fact g1 g2 g3 g4 ?_, hsm, rfl⟩
          rw [tab_len]
          refine fact_bad (x := "last9") (v := .ref D) (j := n) (by rw [valV_put, if_pos rfl]) ?_ (by omega)
          unfold putN
          rw [if_pos rfl]
          exact List.mem_range.mpr (by omega)
      -- else
      refine ⟨_, rfl, _, rfl, _, rfl, R, _, _, _, rfl, rfl, SqL.of S.r, hlast, _, rfl, cl, _, _, n - 1, rfl, rfl, hclH, by rw [List.length_map, len1]; exact ixN_last hn0, ?_⟩
      have S2 := S.setRow (row := ((List.range n).map (pr form n (n - 1))).set (n - 1) n) hcl1
      rw [List.map_set] at S2
      refine rest _ _ ⟨_, _, ks, ns', G3, _, _, none, S2, fault_shape (shape_big hn0), hsm.set ⟨by rw [List.length_set]; exact rlast.1, fun j hj => ?_⟩, rfl⟩
      rcases List.mem_or_eq_of_mem_set hj with h | h
      · exact rlast.2 j h
      · omega
  · refine ⟨_, rfl, rfl, _, rfl, ?_⟩
    refine ite2 (fun _ => ?_) (fun _ => iteF (rest _ _ ⟨d, S, rfl⟩))
    obtain ⟨l, hp', hl⟩ := S.pool
    refine ⟨_, rfl, p, l, 2, rfl, hp', hl, by decide, by decide, fun d2 l2 hl2 hd2 => ?_⟩
    have S := S.next hl2
    refine ⟨rfl, _, rfl, ?_⟩
    exact ite2 (fun _ => rest _ _ ⟨4, S, rfl⟩) (fun _ => rest _ _ ⟨d, S, rfl⟩)
end
end W76
namespace W76
open PySem PySem.Spec PyProof.Rows L2 HX
section
variable {P : Program} {w : World} {K : PySem.W.Frag} {mg : Str → Option Value} {base : Heap}
theorem WorldAt.stepP {p x C : Addr} {G H G' H' : Hp} {n : Nat} {f : Nat → Nat → Nat} {ns : Str → List Nat} (h : WorldAt K C G H x n f ns) (b0 : Pst p G H G H) (b : Pst p G H G' H') : WorldAt K C G' H' x n f ns := by
  obtain ⟨dx, r, fa', kvs', h1, h2, h3, h4⟩ := h.at_
  exact ⟨dx, r, fa', kvs', b.keep b0 h1 (fun l z => by cases z), Table.mono b.gg h2, b.keep b0 h3 (fun l z => by cases z), h4.mono b.gg⟩
theorem two_at (k : Bool) : ∃ m : Nat, 0 < m ∧ m ≤ 21 ∧ atI [V.int 3, V.int 21] (if k = true then 1 else 0) = some (iv m) := by
  cases k with
  | true => exact ⟨21, by decide, by decide, rfl⟩
  | false => exact ⟨3, by decide, by decide, rfl⟩
def spLaw (K : PySem.W.Frag) : Sp := fun vs H Q _ => ∃ (a : Addr) (ns : List Int), vs = [.ref a] ∧ SqL K H a (ns.map V.int) ∧ ns.length ≤ 63 ∧ ∀ H', Q (.bl true) H'
theorem ok_law {k d : Nat} (T : Tx K mg) (hd : 20 < d) (G_law_pool : FnOk P w K mg base CX0 k T.a_law_pool T.d_law_pool ["script", "k"] (spPool K)) (G_law_next : FnOk P w K mg base CX0 k T.a_law_next T.d_law_next ["pool", "many"] spNext)
    (G_law_names : FnOk P w K mg base CX0 k T.a_law_names T.d_law_names ["pool", "many"] (spNames K)) (G_law_table : FnOk P w K mg base CX0 k T.a_law_table T.d_law_table ["form", "many"] (spTable K)) (G_law_facts : FnOk P w K mg base CX0 k T.a_law_facts T.d_law_facts ["pool", "many", "words"] (spFacts K))
    (G_World__init : FnOk P w K mg base (L2.CX P w) k T.a_World__init T.d_World__init ["self", "products", "facts"] (spInit K T.C_World T.C_Bad)) (G_World__len : FnOk P w K mg base CX0 k T.a_World__len T.d_World__len ["self"] (spLen K T.C_World))
    (G_World_product : FnOk P w K mg base CX0 k T.a_World_product T.d_World_product ["self", "a", "b"] (spWProduct K T.C_World)) (G_law_sentence : FnOk P w K mg base CX0 k T.a_law_sentence T.d_law_sentence ["pool", "words", "depth"] (spSentence K))
    (G_law_spoilt : FnOkG P w K mg base CX0 k T.a_law_spoilt T.d_law_spoilt ["pool", "form", "table", "facts"] (spSpoilt K)) (G_law_judged : FnOk P w K mg base CX0 k T.a_law_judged T.d_law_judged ["pool", "world", "table", "facts", "sentences", "names"] (spJudged K T.C_World d)) :
    FnOkG P w K mg base CX0 (k + 2) T.a_law T.d_law ["script"] (spLaw K) := by
  refine HX.Fun.okG T.F_law sc_law (fun vs H Q E h => ?_) (fun cdv A outer s H vs Q E gd hr h => ?_)
  · obtain ⟨_, _, rfl, _⟩ := h
    rfl
  obtain ⟨a, is, rfl, hS, h63, q⟩ := h
  have hr1 := hr
  replace G_law_pool := G_law_pool.mono (Nat.le_succ k)
  replace G_law_next := G_law_next.mono (Nat.le_succ k)
  replace G_law_names := G_law_names.mono (Nat.le_succ k)
  replace G_law_table := G_law_table.mono (Nat.le_succ k)
  replace G_law_facts := G_law_facts.mono (Nat.le_succ k)
  replace G_World_product := G_World_product.mono (Nat.le_succ k)
  replace G_law_sentence := G_law_sentence.mono (Nat.le_succ k)
  replace G_law_spoilt := G_law_spoilt.mono (Nat.le_succ k)
  replace G_law_judged := G_law_judged.mono (Nat.le_succ k)
  refine ⟨_, PSs.nox (pss_cons (ps_set (i := 1) sc_law.nd rfl (Or.inl rfl) (pe_call G_law_pool hr (by rfl) T.m_law_pool T.F_law_pool.kp T.b_law_pool .nil pass0 (pa_cons (pv 0) (pa_cons pe_int pa_nil))))
      (pss_cons (ps_set (i := 2) sc_law.nd rfl (Or.inl rfl) (pe_call G_law_next hr (by rfl) T.m_law_next T.F_law_next.kp T.b_law_next .nil pass0 (pa_cons (pv 1) (pa_cons pe_int pa_nil))))
      (pss_cons (ps_set (i := 3) sc_law.nd rfl (Or.inr rfl) (pe_op op_add pe_int (pe_call G_law_next hr (by rfl) T.m_law_next T.F_law_next.kp T.b_law_next .nil pass0 (pa_cons (pv 1) (pa_cons pe_int pa_nil)))))
      (pss_cons (ps_if (pt_cmpR op_eq (pe_call G_law_next hr (by rfl) T.m_law_next T.F_law_next.kp T.b_law_next .nil pass0 (pa_cons (pv 1) (pa_cons pe_int pa_nil))) pe_int (nomark _)) (pss_one (ps_set (i := 3) sc_law.nd rfl (Or.inr rfl) (pe_op op_add pe_int (pe_call G_law_next hr (by rfl) T.m_law_next T.F_law_next.kp T.b_law_next .nil pass0 (pa_cons (pv 1) (pa_cons pe_int pa_nil)))))) pss_nil)
      (pss_cons (ps_set (i := 4) sc_law.nd rfl (Or.inr rfl) (pe_call G_law_names hr (by rfl) T.m_law_names T.F_law_names.kp T.b_law_names .nil pass0 (pa_cons (pv 1) (pa_cons (pe_op op_add pe_int (pe_call G_law_next hr (by rfl) T.m_law_next T.F_law_next.kp T.b_law_next .nil pass0 (pa_cons (pv 1) (pa_cons pe_int pa_nil)))) pa_nil))))
      (pss_cons (ps_set (i := 5) sc_law.nd rfl (Or.inl rfl) (pe_call G_law_names hr (by rfl) T.m_law_names T.F_law_names.kp T.b_law_names .nil pass0 (pa_cons (pv 1) (pa_cons pe_int pa_nil))))
      (pss_cons (ps_set (i := 6) sc_law.nd rfl (Or.inl rfl) (pe_call G_law_table hr (by rfl) T.m_law_table T.F_law_table.kp T.b_law_table .nil pass0 (pa_cons (pv 2) (pa_cons (pv 3) pa_nil))))
      (pss_cons (ps_set (i := 7) sc_law.nd rfl (Or.inl rfl) (pe_call G_law_facts hr (by rfl) T.m_law_facts T.F_law_facts.kp T.b_law_facts .nil pass0 (pa_cons (pv 1) (pa_cons (pv 3) (pa_cons (pv 4) pa_nil)))))
      (pss_cons (ps_set (i := 8) sc_law.nd rfl (Or.inl rfl) (pe_make T.k_World G_World__init hr (by rfl) T.c_World T.b_World__init .nil (passes_call takes0 (fun _ _ _ _ h => h)) (pa_cons (pv 6) (pa_cons (pv 7) pa_nil))))
      (pss_cons (ps_if (pt_cmpR op_ne (pe_callB (call_lenOwn T.len_World T.mt_World__len_fn G_World__len hr T.b_World__len pass0) (by rfl) T.z_len PySem.boot_len (pa_cons (pv 8) pa_nil)) (pv 3) (nomark _)) (pss_one (ps_ret pe_bl)) pss_nil)
      (pss_cons (ps_set (i := 9) sc_law.nd rfl (Or.inr rfl) (pe_call G_law_pool hr (by rfl) T.m_law_pool T.F_law_pool.kp T.b_law_pool .nil pass0 (pa_cons (pv 0) (pa_cons pe_int pa_nil))))
      (pss_cons (ps_for PassesOwn.never rfl (pi_range1 (by rfl) T.z_range (pa_cons pe_int pa_nil)) (pg_name (i := 10) sc_law.nd rfl (Or.inl rfl)) (pss_cons (ps_set (i := 11) sc_law.nd rfl (Or.inl rfl) (pe_ix (ixL K) (pe_lst (pa_cons (pe_op op_sub (pv 3) pe_int) (pa_cons (pe_call G_law_next hr (by rfl) T.m_law_next T.F_law_next.kp T.b_law_next .nil pass0 (pa_cons (pv 9) (pa_cons (pv 3) pa_nil))) pa_nil))) (pe_call G_law_next hr (by rfl) T.m_law_next T.F_law_next.kp T.b_law_next .nil pass0 (pa_cons (pv 9) (pa_cons pe_int pa_nil))) (fun _ _ => rfl)))
      (pss_cons (ps_set (i := 12) sc_law.nd rfl (Or.inl rfl) (pe_call G_law_next hr (by rfl) T.m_law_next T.F_law_next.kp T.b_law_next .nil pass0 (pa_cons (pv 9) (pa_cons (pv 3) pa_nil))))
      (pss_one (ps_if (PW.pt (pw_or (pt_cmpR op_ne (pe_meth (pv 8) T.cl_World T.mt_World_product G_World_product hr T.b_World_product .nil pass0 (pa_cons (pv 11) (pa_cons (pv 12) pa_nil))) (pe_ix (ixL K) (pe_ix (ixL K) (pv 6) (pv 11) (fun _ _ => rfl)) (pv 12) (fun _ _ => rfl)) (nomark _)) (pw_or1 (pt_cmpR op_ne (pe_meth (pv 8) T.cl_World T.mt_World_product G_World_product hr T.b_World_product .nil pass0 (pa_cons (pv 12) (pa_cons (pv 11) pa_nil))) (pe_ix (ixL K) (pe_ix (ixL K) (pv 6) (pv 11) (fun _ _ => rfl)) (pv 12) (fun _ _ => rfl)) (nomark _))))) (pss_one (ps_ret pe_bl)) pss_nil)))))
      (pss_cons (ps_set (i := 13) sc_law.nd rfl (Or.inl rfl) (pe_op op_add pe_int (pe_call G_law_next hr (by rfl) T.m_law_next T.F_law_next.kp T.b_law_next .nil pass0 (pa_cons (pv 9) (pa_cons pe_int pa_nil)))))
      (pss_cons (ps_setLc (i := 14) (own := [("k", 10)]) (g := gName 10) (by rfl) sc_law.nd rfl rfl (sw_true rfl rfl rfl (by decide +kernel)) (pi_range1 (by rfl) T.z_range (pa_cons (pv 13) pa_nil)) (blkOk_by (own := [("k", 10)]) (N := ["script", "pool", "form", "many", "words", "names", "table", "facts", "world", "other", "k", "a", "b", "count", "depths", "sentences", "depth"]) (sc := defScope s_law) (by decide +kernel)) (fun _ _ _ _ _ => (pg_name (i := 10) sc_law.nd rfl (Or.inl rfl))) (fun _ _ _ _ _ => pts_nil) (fun _ _ _ _ _ => (pe_call G_law_next hr (by rfl) T.m_law_next T.F_law_next.kp T.b_law_next .nil pass0 (pa_cons (pv 9) (pa_cons (pe_ix (ixL K) (pe_lst (pa_cons pe_int (pa_cons pe_int pa_nil))) (pe_callTy call_int1 (by rfl) T.z_int (by decide +kernel) (pa_cons (pe_and (pe_cmpR op_eq (pe_call G_law_next hr (by rfl) T.m_law_next T.F_law_next.kp T.b_law_next .nil pass0 (pa_cons (pv 9) (pa_cons pe_int pa_nil))) pe_int (nomark _)) (pe_one (pe_cmpR op_lt (pv 3) pe_int (nomark _)))) pa_nil)) (fun _ _ => rfl)) pa_nil)))))
      (pss_cons (ps_setLc (i := 15) (own := [("depth", 16)]) (g := gName 16) (by rfl) sc_law.nd rfl rfl (sw_true rfl rfl rfl (by decide +kernel)) (piL K (pv 14)) (blkOk_by (own := [("depth", 16)]) (N := ["script", "pool", "form", "many", "words", "names", "table", "facts", "world", "other", "k", "a", "b", "count", "depths", "sentences", "depth"]) (sc := defScope s_law) (by decide +kernel)) (fun _ _ _ _ _ => (pg_name (i := 16) sc_law.nd rfl (Or.inl rfl))) (fun _ _ _ _ _ => pts_nil) (fun _ _ _ _ _ => (pe_call G_law_sentence hr (by rfl) T.m_law_sentence T.F_law_sentence.kp T.b_law_sentence .nil pass0 (pa_cons (pv 9) (pa_cons (pv 4) (pa_cons (pv 16) pa_nil))))))
      (pss_one (ps_ret (pe_and (pe_callG gd G_law_spoilt hr (by rfl) T.m_law_spoilt T.F_law_spoilt.kp T.b_law_spoilt pass0 (pa_cons (pv 9) (pa_cons (pv 2) (pa_cons (pv 6) (pa_cons (pv 7) pa_nil))))) (pe_one (pe_call G_law_judged hr (by rfl) T.m_law_judged T.F_law_judged.kp T.b_law_judged .nil pass0 (pa_cons (pv 9) (pa_cons (pv 8) (pa_cons (pv 6) (pa_cons (pv 7) (pa_cons (pv 15) (pa_cons (pv 5) pa_nil)))))))))))))))))))))))))), ?_⟩
  refine ⟨_, rfl, a, is, 0, rfl, hS, h63, by decide, fun p l np hl => ?_⟩
  have B0 : Pst p H (upd H p (.lst l)) H (upd H p (.lst l)) := Pst.start (Same.new np) np upd_same hl
  generalize upd H p (.lst l) = H1 at B0
  obtain ⟨l, hp, hl⟩ := B0.at_
  refine ⟨_, rfl, p, l, 3, rfl, hp, hl, by decide, by decide, fun form l1 hl1 hform => ?_⟩
  have B := B0.next hl1
  obtain ⟨l, hp, hl⟩ := B.at_
  refine ⟨_, rfl, p, l, 6, rfl, hp, hl, by decide, by decide, fun n0 l2 hl2 hn0 => ?_⟩
  have B := B.next hl2
  generalize upd (upd H1 p (.lst l1)) p (.lst l2) = H2 at B
  refine ⟨_, _, rfl, rfl, ?_⟩
  dsimp only
  refine seq_rest (fun σ' H' => ∃ n : Nat, 0 < n ∧ n ≤ 40 ∧ Pst p H H1 H H' ∧ σ' = [some (.ref a), some (.ref p), some (iv form), some (iv n), none, none, none, none, none, none, none, none, none, none, none, none, none]) ?_ (fun rest => ?_)
  · rintro σ' H3 ⟨n, hn0, hn, B, rfl⟩
    have g : Good n (pr form n) := pr_good hn0
    -- words
    obtain ⟨l, hp, hl⟩ := B.at_
    refine ⟨_, rfl, _, rfl, p, l, 6, rfl, hp, hl, by decide, by decide, fun d1 l1 hl1 hd1 => ?_⟩
    have B := B.next hl1
    refine ⟨_, _, rfl, rfl, p, 1 + d1, H, ?_, by omega, by omega, ⟨Stp.refl B.all, B0.nog, B.at_⟩, fun G4 H4 wv ws B4 hws hwl hwn => ?_⟩
    · rw [show iv (1 + d1) = V.int ((1 : Int) + (d1 : Int)) from congrArg V.int (by omega)]
      rfl
    have B := B.tr B4
    obtain ⟨wa, rfl, hwa⟩ := id hws
    -- names
    refine ⟨_, rfl, p, 24, G4, rfl, by decide, by decide, B.re, fun G5 H5 nv nms B5 hnms hnl _ => ?_⟩
    have B := B.tr B5
    -- table
    refine ⟨_, rfl, _, rfl, form, n, G5, rfl, hn0, by omega, B.gh, fun G6 H6 tv st hT => ?_⟩
    have B6 := B5.step st
    have B := B.step st
    -- facts
    refine ⟨_, rfl, _, rfl, _, rfl, p, n, .ref wa, ws, G6, rfl, hn0, by omega, B.re, Strs.mono B6.gg hws, by omega, hwn, fun F G7 H7 kvs ns fd hall hk6 => ?_⟩
    have B7 := fd.pst
    have B := B.tr B7
    -- world
    refine ⟨_, rfl, _, rfl, fun x dx nx ndx nxd => ?_⟩
    have s1 : Stp nom G7 H7 G7 (upd (upd H7 dx (.own x)) x (.ins T.C_World dx [])) := by
      have := stp_newM (m := nom) (o := .own x) B.gh ndx
      exact this.newM (by rw [upd_ne (Ne.symm nxd)]; exact nx)
    have hFx : F ≠ x := ne_of_none fd.at_ nx
    have hT7 := Table.mono B7.gg hT
    refine ⟨x, dx, tv, F, G7, tab n (pr form n), kvs, ns, rfl, upd_same, s1.gh, Same.none B.gh nx, fd.nog, s1.un _ _ (fun z => z) fd.at_, hT7, fd.facts, by rw [tab_len]; omega, fun _ G8 H8 r f' kvs' st8 hx8 hT8 hf8 hg8 hF8 => ⟨rfl, ?_⟩, fun z hz => ?_⟩
    · have s2 : Stp nom G7 H7 G8 H8 := s1.trans st8 (fun a z => Or.inr (by
        have z : a = x := z
        rw [z]
        exact nx))
      have B8 := B.step s2
      have hW8 : WorldAt K T.C_World G8 H8 x n (pr form n) ns := ⟨dx, r, f', kvs', hx8, hT8, hf8, hF8⟩
      have hF8' := s2.un _ _ (fun z => z) fd.at_
      have hG8' := s2.g0 fd.nog fd.at_
      refine ⟨_, rfl, x, dx, _, rfl, hx8, x, G8, n, pr form n, ns, rfl, s2.gh, hW8, (n : Int), rfl, by omega, by omega, _, rfl, rfl, _, rfl, ?_⟩
      rw [decide_eq_true rfl]
      refine iteF ?_
      refine ⟨_, rfl, a, is, 1, rfl, B8.all.seq hS, h63, by decide, fun o l no hl => ?_⟩
      have sc : Stp nom G8 H8 G8 (upd H8 o (.lst l)) := stp_newM s2.gh no
      have C0 : Pst o G8 (upd H8 o (.lst l)) G8 (upd H8 o (.lst l)) := Pst.start sc.gh (Same.none s2.gh no) upd_same hl
      have hWc := hW8.step sc
      have hFc := sc.un _ _ (fun z => z) hF8'
      generalize upd H8 o (.lst l) = Hc at sc C0 hWc hFc
      have hTc := Table.mono s2.gg hT7
      have facts_c := fd.facts.mono s2.gg
      have hwsc : SqL K G8 wa (ws.map V.str) := s2.gg.seq (B7.gg.seq (B6.gg.seq hwa))
      obtain ⟨ta, txs, rfl, hta, htp⟩ := id hTc
      have e1 : (n : Int) - 1 = ((n - 1 : Nat) : Int) := by omega
      refine ⟨_, rfl, by decide, by decide, ?_⟩
      refine for_range (lo := 0) (n := 4) (fun i σ' H' => ∃ G' z10 z11 z12, Pst o G8 Hc G' H' ∧ σ' = [some (.ref a), some (.ref p), some (iv form), some (iv n), some (.ref wa), some nv, some (.ref ta), some (.ref F), some (.ref x), some (.ref o), z10, z11, z12, none, none, none, none]) ⟨G8, none, none, none, C0, rfl⟩ ?_ ?_
      · rintro i σ' H' hi ⟨G', z10, z11, z12, c, rfl⟩
        obtain ⟨l, hp, hl⟩ := c.at_
        refine ⟨_, rfl, _, _, rfl, rfl, _, rfl, _, rfl, o, l, n, rfl, hp, hl, by omega, by omega, fun d1 l1 hl1 hd1 => ?_⟩
        have c1 := c.next hl1
        refine ⟨(by show 2 ≤ sizeLine; decide), fun L nL => ?_⟩
        have c2 := c1.newF (o := .lst [V.int ((n : Int) - 1), V.int (d1 : Int)]) nL
        obtain ⟨l, hp, hl⟩ := c2.at_
        refine ⟨_, rfl, o, l, 2, rfl, hp, hl, by decide, by decide, fun d2 l2 hl2 hd2 => ?_⟩
        have c3 := c2.next hl2
        have hLL : SqL K (upd G' L (.lst [V.int ((n : Int) - 1), V.int (d1 : Int)])) L ([n - 1, d1].map iv) := SqL.of (by rw [upd_same, e1]; rfl)
        obtain ⟨ea, hea, heat⟩ := idx_at (m := n) (c := 2) (l := [n - 1, d1]) (d := d2) ⟨Nat.le_refl 2, fun j hj => by
          rcases List.mem_cons.mp hj with h | h
          · omega
          · have := List.mem_singleton.mp h
            omega⟩ (by exact hd2)
        refine ⟨L, _, _, _, rfl, rfl, c3.gh.seq hLL, heat, ?_⟩
        obtain ⟨l, hp, hl⟩ := c3.at_
        refine ⟨_, rfl, _, rfl, o, l, n, rfl, hp, hl, by omega, by omega, fun eb l4 hl4 heb => ?_⟩
        have c4 := c3.next hl4
        have heb' : eb < n := by omega
        have hW4 := hWc.stepP C0 c4
        obtain ⟨dx4, r4, _, _, hx4, _⟩ := id hW4.at_
        obtain ⟨xs, tc, ys, h1, h2, h3, h4⟩ := tab_at (Table.mono c4.all hTc) hea heb'
        refine ⟨_, rfl, x, dx4, _, rfl, hx4, wf_no (by decide +kernel) (by decide +kernel), _, rfl, _, rfl, x, ea, eb, _, n, pr form n, ns, rfl, c4.gh, hW4, hea, heb', _, rfl, _, rfl, ta, _, _, _, rfl, rfl, h1, h2, _, rfl, tc, _, _, _, rfl, rfl, h3, h4, rfl, _, rfl, ?_⟩
        rw [decide_eq_true rfl]
        refine iteF ?_
        refine ⟨_, rfl, x, dx4, _, rfl, hx4, wf_no (by decide +kernel) (by decide +kernel), _, rfl, _, rfl, x, eb, ea, _, n, pr form n, ns, rfl, c4.gh, hW4, heb', hea, _, rfl, _, rfl, ta, _, _, _, rfl, rfl, h1, h2, _, rfl, tc, _, _, _, rfl, rfl, h3, h4, rfl, _, rfl, ?_⟩
        rw [g.comm eb ea heb' hea, decide_eq_true rfl]
        exact iteF ⟨_, _, _, _, c4, rfl⟩
      · rintro σ' H9 ⟨G9, z10, z11, z12, c, rfl⟩
        obtain ⟨l, hp, hl⟩ := c.at_
        refine ⟨_, rfl, o, l, 6, rfl, hp, hl, by decide, by decide, fun d1 l1 hl1 hd1 => ?_⟩
        have c := c.next hl1
        generalize upd H9 o (.lst l1) = H10 at c
        refine ⟨_, _, rfl, rfl, ?_⟩
        -- depths
        refine ⟨_, rfl, _, rfl, by omega, by omega, fun D nD => ?_⟩
        refine lc_range (lo := 0) (n := 1 + d1) (fun i H' => ∃ G' ls, PB IsV o G9 H10 D (ls.map iv) G' H' ∧ Idx 21 i ls ∧ ls.length = i) ⟨G9, [], PB.start c.re nD, Idx.nil, rfl⟩ ?_ ?_
        · rintro i H' hi ⟨G', ls, pb, hI, hlI⟩
          rw [Int.zero_add]
          refine ⟨rfl, ?_⟩
          refine ⟨_, rfl, (by show 2 ≤ sizeLine; decide), fun L nL => ?_⟩
          have pb1 := pb.step mono_isV (stp_newF (o := .lst [V.int 3, V.int 21]) pb.pst.gh nL)
          have hLL : SqL K (upd G' L (.lst [V.int 3, V.int 21])) L [V.int 3, V.int 21] := SqL.of upd_same
          obtain ⟨l, hp, hl⟩ := pb1.at_
          refine ⟨_, rfl, o, l, 6, rfl, hp, hl, by decide, by decide, fun d2 l2 hl2 _ => ?_⟩
          have pb2 := pb1.next hl2
          refine ⟨rfl, _, rfl, ?_⟩
          refine ite2 (fun _ => ?_) (fun _ => ?_)
          · refine ⟨_, rfl, _, _, rfl, rfl, .inr ⟨_, rfl, ?_⟩⟩
            obtain ⟨m, hm0, hm, hat⟩ := two_at (decide ((n : Int) < 7))
            obtain ⟨l, hp, hl⟩ := pb2.at_
            refine ⟨L, _, _, _, rfl, rfl, pb2.pst.gh.seq hLL, hat, o, l, m, rfl, hp, hl, by omega, by omega, fun d5 l5 hl5 hd5 => ?_⟩
            have pb3 := pb2.next hl5
            obtain ⟨ys, e, hsz, pb4⟩ := pb3.put1 d5 (by have := hI.1; omega)
            exact ⟨ys, e, hsz, _, _, pb4, hI.snoc (by omega), by rw [List.length_append, hlI]; rfl⟩
          · refine .inr ⟨_, rfl, ?_⟩
            obtain ⟨m, hm0, hm, hat⟩ := two_at false
            obtain ⟨l, hp, hl⟩ := pb2.at_
            refine ⟨L, _, _, _, rfl, rfl, pb2.pst.gh.seq hLL, hat, o, l, m, rfl, hp, hl, by omega, by omega, fun d5 l5 hl5 hd5 => ?_⟩
            have pb3 := pb2.next hl5
            obtain ⟨ys, e, hsz, pb4⟩ := pb3.put1 d5 (by have := hI.1; omega)
            exact ⟨ys, e, hsz, _, _, pb4, hI.snoc (by omega), by rw [List.length_append, hlI]; rfl⟩
        rintro H11 ⟨G11', ls, pb, hI, hlI⟩
        have c11 := pb.fin
        have hD : SqL K (upd G11' D (.lst (ls.map iv))) D (ls.map iv) := SqL.of upd_same
        generalize upd G11' D (.lst (ls.map iv)) = G11 at c11 hD
        have cA := c.tr c11
        -- sentences
        refine ⟨_, rfl, D, rfl, ⟨_, c11.gh.seq hD⟩, fun D2 nD2 => ?_⟩
        refine lc_list (K := K) (a := D) (xs := ls.map iv) (fun i H' => ∃ G' sens, PB (SenAt K) o G11 H11 D2 sens G' H' ∧ sens.length = i ∧ ∀ s, s ∈ sens → s.depth < d) ⟨G11, [], PB.start c11.re nD2, rfl, fun s z => (by cases z)⟩ (fun i H' _ h => by
          obtain ⟨G', _, b, _⟩ := h
          exact b.pst.all.seq hD) ?_ ?_
        · rintro i y H' hy ⟨G', sens, pb, hsl, hsd⟩
          obtain ⟨dd, hdd, rfl⟩ := nats_of hy
          have hdm := hI.2 dd (List.mem_of_getElem? hdd)
          refine ⟨rfl, ?_⟩
          refine ⟨_, rfl, _, rfl, _, rfl, o, .ref wa, dd, ws, G', rfl, pb.re, ⟨wa, rfl, (cA.gg.trans pb.pst.gg).seq hwsc⟩, by omega, by omega, by omega, fun G2 H2 v t b2 ht htd => ?_⟩
          obtain ⟨ys, e, hl2, pb3⟩ := (pb.tr mono_sen b2).snoc ht
          refine ⟨ys, e, ?_, G2, _, pb3, ?_, fun s hs => ?_⟩
          · rw [hl2, hsl]
            have := (List.getElem?_eq_some_iff.mp hdd).1
            have := hI.1
            exact sz2 (by omega)
          · rw [List.length_append, hsl]
            rfl
          · rcases List.mem_append.mp hs with h | h
            · exact hsd s h
            · rw [List.mem_singleton.mp h]
              omega
        rintro H12 ⟨G12', sens, pb, hsl, hsd⟩
        rw [List.length_map] at hsl
        obtain ⟨G12, c12, _, hsens⟩ := pb.done (K := K) mono_sen
        have cB := cA.tr c12
        have JB : JS K T.C_World o x (.ref ta) F (.ref D2) nv n (pr form n) ns kvs sens nms G12 H12 :=
          ⟨cB.re, hWc.stepP C0 cB, Table.mono cB.gg hTc, cB.keep C0 hFc (fun l z => by cases z), facts_c.mono cB.gg, hsens, Strs.mono (st.gg.trans (B7.gg.trans (s2.gg.trans cB.gg))) hnms⟩
        have hGF : G12 F = none := cB.stp.nw F hG8' (by rw [hFc]; exact fun z => nomatch z)
        refine ⟨_, rfl, _, rfl, _, rfl, _, rfl, o, form, n, .ref ta, F, kvs, ns, G12, rfl, JB.pst, JB.table, JB.fdict, hGF, JB.facts, hall, hk6, hn0, hn, fun G13 H13 b13 => ⟨_, rfl, iteT ?_⟩⟩
        have JC := JB.step b13
        exact ⟨_, rfl, _, rfl, _, rfl, _, rfl, _, rfl, _, rfl, o, x, .ref ta, F, .ref D2, nv, n, pr form n, ns, kvs, sens, nms, G13, rfl, JC, hn0, by omega, g.lt, by omega, by omega, hsd, hnl, q⟩
    · obtain ⟨g1, g2, g3, g4⟩ := good_all g
      rw [fault_none g1 g2 g3 g4 (by rw [tab_len]; exact fact_all hall)] at hz
      cases hz
  · obtain ⟨l, hp, hl⟩ := B.at_
    refine ⟨_, rfl, p, l, 2, rfl, hp, hl, by decide, by decide, fun d2 l3 hl3 hd2 => ?_⟩
    have B := B.next hl3
    refine ⟨rfl, _, rfl, ?_⟩
    refine ite2 (fun _ => ?_) (fun _ => rest _ _ ⟨1 + n0, by omega, by omega, B, ?_⟩)
    · obtain ⟨l, hp, hl⟩ := B.at_
      refine ⟨_, rfl, p, l, 23, rfl, hp, hl, by decide, by decide, fun d4 l4 hl4 hd4 => ?_⟩
      refine ⟨_, _, rfl, rfl, rest _ _ ⟨18 + d4, by omega, by omega, B.next hl4, ?_⟩⟩
      rw [show iv (18 + d4) = V.int ((18 : Int) + (d4 : Int)) from congrArg V.int (by omega)]
      rfl
    · rw [show iv (1 + n0) = V.int ((1 : Int) + (n0 : Int)) from congrArg V.int (by omega)]
      rfl
end
end W76
namespace W76
open PySem PySem.Spec PyProof.Rows L2 HX
/-! ### the whole chain -/
theorem law_ok {P : Program} {w : World} {K : PySem.W.Frag} {mg : Str → Option Value} {base : Heap} {T : Tx K mg} : FnOkG P w K mg base CX0 27 T.a_law T.d_law ["script"] (spLaw K) := by
  have next : FnOk P w K mg base CX0 1 T.a_law_next T.d_law_next ["pool", "many"] spNext := ok_law_next (k := 0) T
  have init : FnOk P w K mg base (L2.CX P w) 3 T.a_World__init T.d_World__init ["self", "products", "facts"] (spInit K T.C_World T.C_Bad) :=
    ok_World__init (k := 1) T (ok_fault_of (k := 1) T (ok_has_shape (k := 0) T) (ok_keeps_order (k := 0) T) (ok_keeps_grouping (k := 0) T)) (ok_BadWorld__init (k := 0) T)
  have truths : FnOk P w K mg base CX0 22 T.a_World_truths T.d_World_truths ["self", "sentence"] (spTruths K T.C_World 21) := ok_truths T 21
  have once : FnOk P w K mg base CX0 22 T.a_is_all_once T.d_is_all_once ["sentence"] (spOnce K 21) := ok_is_all_once T 21
  have has := ok_World_has (k := 22) T once truths
  have fails := ok_World_fails (k := 23) T (ok_is_claim_once (k := 22) T once) (truths.mono (by decide))
  have judged := ok_law_judged (k := 24) T (next.mono (by decide)) ((ok_law_true T 21).mono (by decide)) ((ok_law_picks (k := 1) T next).mono (by decide)) ((ok_law_places (k := 1) T next).mono (by decide)) (has.mono (by decide)) (fails.mono (by decide))
  have spoilt := ok_law_spoilt (k := 5) T (next.mono (by decide)) (ok_law_refused (k := 3) T init)
  exact ok_law (k := 25) (d := 21) T (by decide) ((ok_law_pool (k := 1) T (ok_law_cell (k := 0) T)).mono (by decide)) (next.mono (by decide)) ((ok_law_names (k := 1) T next).mono (by decide)) ((ok_law_table (k := 1) T (ok_law_product (k := 0) T)).mono (by decide))
    ((ok_law_facts (k := 1) T next).mono (by decide)) (init.mono (by decide)) ((ok_World__len (k := 0) T).mono (by decide)) ((ok_World_product (k := 0) T).mono (by decide)) ((ok_law_sentence (k := 1) T next).mono (by decide)) (spoilt.mono (by decide)) judged
theorem exm_self {K : PySem.W.Frag} {S : Addr} (h1 : PySem.W.subIn K (.ref S) (.type "BaseException") = some true) (h2 : PySem.W.isClsIn K S = true) (h3 : PySem.W.typeIn K (.ref S) = some (.type "type")) (h4 : PySem.W.subIn K (.ref S) (.ref S) = some true) :
    PySem.W.exmOne K (.ref S) (.ref S) = some true := by
  unfold PySem.W.exmOne PySem.W.kitCls
  have h2' : (PySem.W.clsIn K S).isSome = true := h2
  simp [h1, h2', h3, h4]
/-! ### what the top has written -/
theorem all_mk {P : Program} {w : World} {K : PySem.W.Frag} {h : Heap} {mg : Str → Option Value} {fa : Addr} (X : K.In h) (G : h.Ns mainGlobals mg) (hfa : mg "law" = some (.ref fa))
    {f0 : Addr} {od0 an0 : Option Addr} {sl0 : Array (Option Value)} {oc0 kV0 dc0 pm0 cd0 ct0 : Value}
    {f1 : Addr} {od1 an1 : Option Addr} {sl1 : Array (Option Value)} {oc1 kV1 dc1 pm1 cd1 ct1 : Value}
    {f2 : Addr} {od2 an2 : Option Addr} {sl2 : Array (Option Value)} {oc2 kV2 dc2 pm2 cd2 ct2 : Value}
    {f3 : Addr} {od3 an3 : Option Addr} {sl3 : Array (Option Value)} {oc3 kV3 dc3 pm3 cd3 ct3 : Value}
    {f4 : Addr} {od4 an4 : Option Addr} {sl4 : Array (Option Value)} {oc4 kV4 dc4 pm4 cd4 ct4 : Value}
    {f5 : Addr} {od5 an5 : Option Addr} {sl5 : Array (Option Value)} {oc5 kV5 dc5 pm5 cd5 ct5 : Value}
    {f6 : Addr} {od6 an6 : Option Addr} {sl6 : Array (Option Value)} {oc6 kV6 dc6 pm6 cd6 ct6 : Value}
    {f7 : Addr} {od7 an7 : Option Addr} {sl7 : Array (Option Value)} {oc7 kV7 dc7 pm7 cd7 ct7 : Value}
    {f8 : Addr} {od8 an8 : Option Addr} {sl8 : Array (Option Value)} {oc8 kV8 dc8 pm8 cd8 ct8 : Value}
    {f9 : Addr} {od9 an9 : Option Addr} {sl9 : Array (Option Value)} {oc9 kV9 dc9 pm9 cd9 ct9 : Value}
    {f10 : Addr} {od10 an10 : Option Addr} {sl10 : Array (Option Value)} {oc10 kV10 dc10 pm10 cd10 ct10 : Value}
    {f11 : Addr} {od11 an11 : Option Addr} {sl11 : Array (Option Value)} {oc11 kV11 dc11 pm11 cd11 ct11 : Value}
    {f12 : Addr} {od12 an12 : Option Addr} {sl12 : Array (Option Value)} {oc12 kV12 dc12 pm12 cd12 ct12 : Value}
    {f13 : Addr} {od13 an13 : Option Addr} {sl13 : Array (Option Value)} {oc13 kV13 dc13 pm13 cd13 ct13 : Value}
    {f14 : Addr} {od14 an14 : Option Addr} {sl14 : Array (Option Value)} {oc14 kV14 dc14 pm14 cd14 ct14 : Value}
    {f15 : Addr} {od15 an15 : Option Addr} {sl15 : Array (Option Value)} {oc15 kV15 dc15 pm15 cd15 ct15 : Value}
    {f16 : Addr} {od16 an16 : Option Addr} {sl16 : Array (Option Value)} {oc16 kV16 dc16 pm16 cd16 ct16 : Value}
    {f17 : Addr} {od17 an17 : Option Addr} {sl17 : Array (Option Value)} {oc17 kV17 dc17 pm17 cd17 ct17 : Value}
    {f18 : Addr} {od18 an18 : Option Addr} {sl18 : Array (Option Value)} {oc18 kV18 dc18 pm18 cd18 ct18 : Value}
    {f19 : Addr} {od19 an19 : Option Addr} {sl19 : Array (Option Value)} {oc19 kV19 dc19 pm19 cd19 ct19 : Value}
    {f20 : Addr} {od20 an20 : Option Addr} {sl20 : Array (Option Value)} {oc20 kV20 dc20 pm20 cd20 ct20 : Value}
    {f21 : Addr} {od21 an21 : Option Addr} {sl21 : Array (Option Value)} {oc21 kV21 dc21 pm21 cd21 ct21 : Value}
    {f22 : Addr} {od22 an22 : Option Addr} {sl22 : Array (Option Value)} {oc22 kV22 dc22 pm22 cd22 ct22 : Value}
    {f23 : Addr} {od23 an23 : Option Addr} {sl23 : Array (Option Value)} {oc23 kV23 dc23 pm23 cd23 ct23 : Value}
    {f24 : Addr} {od24 an24 : Option Addr} {sl24 : Array (Option Value)} {oc24 kV24 dc24 pm24 cd24 ct24 : Value}
    {f25 : Addr} {od25 an25 : Option Addr} {sl25 : Array (Option Value)} {oc25 kV25 dc25 pm25 cd25 ct25 : Value}
    {f26 : Addr} {od26 an26 : Option Addr} {sl26 : Array (Option Value)} {oc26 kV26 dc26 pm26 cd26 ct26 : Value}
    {f27 : Addr} {od27 an27 : Option Addr} {sl27 : Array (Option Value)} {oc27 kV27 dc27 pm27 cd27 ct27 : Value}
    {f28 : Addr} {od28 an28 : Option Addr} {sl28 : Array (Option Value)} {oc28 kV28 dc28 pm28 cd28 ct28 : Value}
    {f29 : Addr} {od29 an29 : Option Addr} {sl29 : Array (Option Value)} {oc29 kV29 dc29 pm29 cd29 ct29 : Value}
    {CWorld CHeld CBadWorld : Addr}
    {nm q : Str} {NB : Addr} {bs : List Value} {sn : List Str} {sub : List Value} {ab : Bool} {col : Option Bool} {dd : Option Addr} {m0 m1 m2 m3 m5 : Option Value}
    (a0 : PySem.W.findIn K (.ref CBadWorld) "__init__" = some (some (.ref f0)))
    (i0 : PySem.W.isFn K (.ref f0) = true)
    (l0 : K.lookup f0 = some ⟨oc0, od0, .func (PySem.W.fnOf "__init__" "BadWorld.__init__" (defArgs s_BadWorld__init) (defBody s_BadWorld__init) (defScope s_BadWorld__init) .none kV0 dc0 pm0 an0 cd0 ct0), sl0⟩)
    (c0 : PySem.W.codeIn K cd0 "BadWorld.__init__" = true)
    (k0 : PySem.W.keepIn K (.ref f0) = true)
    (a1 : PySem.W.nsIn K mainGlobals "sides" = some (some (.ref f1)))
    (l1 : K.lookup f1 = some ⟨oc1, od1, .func (PySem.W.fnOf "sides" "sides" (defArgs s_sides) (defBody s_sides) (defScope s_sides) .none kV1 dc1 pm1 an1 cd1 ct1), sl1⟩)
    (c1 : PySem.W.codeIn K cd1 "sides" = true)
    (k1 : PySem.W.keepIn K (.ref f1) = true)
    (a2 : PySem.W.nsIn K mainGlobals "is_all_once" = some (some (.ref f2)))
    (l2 : K.lookup f2 = some ⟨oc2, od2, .func (PySem.W.fnOf "is_all_once" "is_all_once" (defArgs s_is_all_once) (defBody s_is_all_once) (defScope s_is_all_once) .none kV2 dc2 pm2 an2 cd2 ct2), sl2⟩)
    (c2 : PySem.W.codeIn K cd2 "is_all_once" = true)
    (k2 : PySem.W.keepIn K (.ref f2) = true)
    (a3 : PySem.W.nsIn K mainGlobals "is_claim_once" = some (some (.ref f3)))
    (l3 : K.lookup f3 = some ⟨oc3, od3, .func (PySem.W.fnOf "is_claim_once" "is_claim_once" (defArgs s_is_claim_once) (defBody s_is_claim_once) (defScope s_is_claim_once) .none kV3 dc3 pm3 an3 cd3 ct3), sl3⟩)
    (c3 : PySem.W.codeIn K cd3 "is_claim_once" = true)
    (k3 : PySem.W.keepIn K (.ref f3) = true)
    (a4 : PySem.W.nsIn K mainGlobals "has_shape" = some (some (.ref f4)))
    (l4 : K.lookup f4 = some ⟨oc4, od4, .func (PySem.W.fnOf "has_shape" "has_shape" (defArgs s_has_shape) (defBody s_has_shape) (defScope s_has_shape) .none kV4 dc4 pm4 an4 cd4 ct4), sl4⟩)
    (c4 : PySem.W.codeIn K cd4 "has_shape" = true)
    (k4 : PySem.W.keepIn K (.ref f4) = true)
    (a5 : PySem.W.nsIn K mainGlobals "keeps_order" = some (some (.ref f5)))
    (l5 : K.lookup f5 = some ⟨oc5, od5, .func (PySem.W.fnOf "keeps_order" "keeps_order" (defArgs s_keeps_order) (defBody s_keeps_order) (defScope s_keeps_order) .none kV5 dc5 pm5 an5 cd5 ct5), sl5⟩)
    (c5 : PySem.W.codeIn K cd5 "keeps_order" = true)
    (k5 : PySem.W.keepIn K (.ref f5) = true)
    (a6 : PySem.W.nsIn K mainGlobals "keeps_grouping" = some (some (.ref f6)))
    (l6 : K.lookup f6 = some ⟨oc6, od6, .func (PySem.W.fnOf "keeps_grouping" "keeps_grouping" (defArgs s_keeps_grouping) (defBody s_keeps_grouping) (defScope s_keeps_grouping) .none kV6 dc6 pm6 an6 cd6 ct6), sl6⟩)
    (c6 : PySem.W.codeIn K cd6 "keeps_grouping" = true)
    (k6 : PySem.W.keepIn K (.ref f6) = true)
    (a7 : PySem.W.nsIn K mainGlobals "fault_of" = some (some (.ref f7)))
    (l7 : K.lookup f7 = some ⟨oc7, od7, .func (PySem.W.fnOf "fault_of" "fault_of" (defArgs s_fault_of) (defBody s_fault_of) (defScope s_fault_of) .none kV7 dc7 pm7 an7 cd7 ct7), sl7⟩)
    (c7 : PySem.W.codeIn K cd7 "fault_of" = true)
    (k7 : PySem.W.keepIn K (.ref f7) = true)
    (a8 : PySem.W.nsIn K mainGlobals "is_true_for" = some (some (.ref f8)))
    (l8 : K.lookup f8 = some ⟨oc8, od8, .func (PySem.W.fnOf "is_true_for" "is_true_for" (defArgs s_is_true_for) (defBody s_is_true_for) (defScope s_is_true_for) .none kV8 dc8 pm8 an8 cd8 ct8), sl8⟩)
    (c8 : PySem.W.codeIn K cd8 "is_true_for" = true)
    (k8 : PySem.W.keepIn K (.ref f8) = true)
    (a9 : PySem.W.findIn K (.ref CWorld) "__init__" = some (some (.ref f9)))
    (i9 : PySem.W.isFn K (.ref f9) = true)
    (l9 : K.lookup f9 = some ⟨oc9, od9, .func (PySem.W.fnOf "__init__" "World.__init__" (defArgs s_World__init) (defBody s_World__init) (defScope s_World__init) .none kV9 dc9 pm9 an9 cd9 ct9), sl9⟩)
    (c9 : PySem.W.codeIn K cd9 "World.__init__" = true)
    (k9 : PySem.W.keepIn K (.ref f9) = true)
    (a10 : PySem.W.findIn K (.ref CWorld) "__len__" = some (some (.ref f10)))
    (i10 : PySem.W.isFn K (.ref f10) = true)
    (l10 : K.lookup f10 = some ⟨oc10, od10, .func (PySem.W.fnOf "__len__" "World.__len__" (defArgs s_World__len) (defBody s_World__len) (defScope s_World__len) .none kV10 dc10 pm10 an10 cd10 ct10), sl10⟩)
    (c10 : PySem.W.codeIn K cd10 "World.__len__" = true)
    (k10 : PySem.W.keepIn K (.ref f10) = true)
    (a11 : PySem.W.findIn K (.ref CWorld) "product" = some (some (.ref f11)))
    (i11 : PySem.W.isFn K (.ref f11) = true)
    (l11 : K.lookup f11 = some ⟨oc11, od11, .func (PySem.W.fnOf "product" "World.product" (defArgs s_World_product) (defBody s_World_product) (defScope s_World_product) .none kV11 dc11 pm11 an11 cd11 ct11), sl11⟩)
    (c11 : PySem.W.codeIn K cd11 "World.product" = true)
    (k11 : PySem.W.keepIn K (.ref f11) = true)
    (a12 : PySem.W.findIn K (.ref CWorld) "has" = some (some (.ref f12)))
    (i12 : PySem.W.isFn K (.ref f12) = true)
    (l12 : K.lookup f12 = some ⟨oc12, od12, .func (PySem.W.fnOf "has" "World.has" (defArgs s_World_has) (defBody s_World_has) (defScope s_World_has) .none kV12 dc12 pm12 an12 cd12 ct12), sl12⟩)
    (c12 : PySem.W.codeIn K cd12 "World.has" = true)
    (k12 : PySem.W.keepIn K (.ref f12) = true)
    (a13 : PySem.W.findIn K (.ref CWorld) "fails" = some (some (.ref f13)))
    (i13 : PySem.W.isFn K (.ref f13) = true)
    (l13 : K.lookup f13 = some ⟨oc13, od13, .func (PySem.W.fnOf "fails" "World.fails" (defArgs s_World_fails) (defBody s_World_fails) (defScope s_World_fails) .none kV13 dc13 pm13 an13 cd13 ct13), sl13⟩)
    (c13 : PySem.W.codeIn K cd13 "World.fails" = true)
    (k13 : PySem.W.keepIn K (.ref f13) = true)
    (a14 : PySem.W.findIn K (.ref CWorld) "_truths" = some (some (.ref f14)))
    (i14 : PySem.W.isFn K (.ref f14) = true)
    (l14 : K.lookup f14 = some ⟨oc14, od14, .func (PySem.W.fnOf "_truths" "World._truths" (defArgs s_World_truths) (defBody s_World_truths) (defScope s_World_truths) .none kV14 dc14 pm14 an14 cd14 ct14), sl14⟩)
    (c14 : PySem.W.codeIn K cd14 "World._truths" = true)
    (k14 : PySem.W.keepIn K (.ref f14) = true)
    (a15 : PySem.W.nsIn K mainGlobals "_law_cell" = some (some (.ref f15)))
    (l15 : K.lookup f15 = some ⟨oc15, od15, .func (PySem.W.fnOf "_law_cell" "_law_cell" (defArgs s_law_cell) (defBody s_law_cell) (defScope s_law_cell) .none kV15 dc15 pm15 an15 cd15 ct15), sl15⟩)
    (c15 : PySem.W.codeIn K cd15 "_law_cell" = true)
    (k15 : PySem.W.keepIn K (.ref f15) = true)
    (a16 : PySem.W.nsIn K mainGlobals "_law_pool" = some (some (.ref f16)))
    (l16 : K.lookup f16 = some ⟨oc16, od16, .func (PySem.W.fnOf "_law_pool" "_law_pool" (defArgs s_law_pool) (defBody s_law_pool) (defScope s_law_pool) .none kV16 dc16 pm16 an16 cd16 ct16), sl16⟩)
    (c16 : PySem.W.codeIn K cd16 "_law_pool" = true)
    (k16 : PySem.W.keepIn K (.ref f16) = true)
    (a17 : PySem.W.nsIn K mainGlobals "_law_next" = some (some (.ref f17)))
    (l17 : K.lookup f17 = some ⟨oc17, od17, .func (PySem.W.fnOf "_law_next" "_law_next" (defArgs s_law_next) (defBody s_law_next) (defScope s_law_next) .none kV17 dc17 pm17 an17 cd17 ct17), sl17⟩)
    (c17 : PySem.W.codeIn K cd17 "_law_next" = true)
    (k17 : PySem.W.keepIn K (.ref f17) = true)
    (a18 : PySem.W.nsIn K mainGlobals "_law_names" = some (some (.ref f18)))
    (l18 : K.lookup f18 = some ⟨oc18, od18, .func (PySem.W.fnOf "_law_names" "_law_names" (defArgs s_law_names) (defBody s_law_names) (defScope s_law_names) .none kV18 dc18 pm18 an18 cd18 ct18), sl18⟩)
    (c18 : PySem.W.codeIn K cd18 "_law_names" = true)
    (k18 : PySem.W.keepIn K (.ref f18) = true)
    (a19 : PySem.W.nsIn K mainGlobals "_law_product" = some (some (.ref f19)))
    (l19 : K.lookup f19 = some ⟨oc19, od19, .func (PySem.W.fnOf "_law_product" "_law_product" (defArgs s_law_product) (defBody s_law_product) (defScope s_law_product) .none kV19 dc19 pm19 an19 cd19 ct19), sl19⟩)
    (c19 : PySem.W.codeIn K cd19 "_law_product" = true)
    (k19 : PySem.W.keepIn K (.ref f19) = true)
    (a20 : PySem.W.nsIn K mainGlobals "_law_table" = some (some (.ref f20)))
    (l20 : K.lookup f20 = some ⟨oc20, od20, .func (PySem.W.fnOf "_law_table" "_law_table" (defArgs s_law_table) (defBody s_law_table) (defScope s_law_table) .none kV20 dc20 pm20 an20 cd20 ct20), sl20⟩)
    (c20 : PySem.W.codeIn K cd20 "_law_table" = true)
    (k20 : PySem.W.keepIn K (.ref f20) = true)
    (a21 : PySem.W.nsIn K mainGlobals "_law_facts" = some (some (.ref f21)))
    (l21 : K.lookup f21 = some ⟨oc21, od21, .func (PySem.W.fnOf "_law_facts" "_law_facts" (defArgs s_law_facts) (defBody s_law_facts) (defScope s_law_facts) .none kV21 dc21 pm21 an21 cd21 ct21), sl21⟩)
    (c21 : PySem.W.codeIn K cd21 "_law_facts" = true)
    (k21 : PySem.W.keepIn K (.ref f21) = true)
    (a22 : PySem.W.nsIn K mainGlobals "_law_sentence" = some (some (.ref f22)))
    (l22 : K.lookup f22 = some ⟨oc22, od22, .func (PySem.W.fnOf "_law_sentence" "_law_sentence" (defArgs s_law_sentence) (defBody s_law_sentence) (defScope s_law_sentence) .none kV22 dc22 pm22 an22 cd22 ct22), sl22⟩)
    (c22 : PySem.W.codeIn K cd22 "_law_sentence" = true)
    (k22 : PySem.W.keepIn K (.ref f22) = true)
    (a23 : PySem.W.nsIn K mainGlobals "_law_true" = some (some (.ref f23)))
    (l23 : K.lookup f23 = some ⟨oc23, od23, .func (PySem.W.fnOf "_law_true" "_law_true" (defArgs s_law_true) (defBody s_law_true) (defScope s_law_true) .none kV23 dc23 pm23 an23 cd23 ct23), sl23⟩)
    (c23 : PySem.W.codeIn K cd23 "_law_true" = true)
    (k23 : PySem.W.keepIn K (.ref f23) = true)
    (a24 : PySem.W.nsIn K mainGlobals "_law_refused" = some (some (.ref f24)))
    (l24 : K.lookup f24 = some ⟨oc24, od24, .func (PySem.W.fnOf "_law_refused" "_law_refused" (defArgs s_law_refused) (defBody s_law_refused) (defScope s_law_refused) .none kV24 dc24 pm24 an24 cd24 ct24), sl24⟩)
    (c24 : PySem.W.codeIn K cd24 "_law_refused" = true)
    (k24 : PySem.W.keepIn K (.ref f24) = true)
    (a25 : PySem.W.nsIn K mainGlobals "_law_spoilt" = some (some (.ref f25)))
    (l25 : K.lookup f25 = some ⟨oc25, od25, .func (PySem.W.fnOf "_law_spoilt" "_law_spoilt" (defArgs s_law_spoilt) (defBody s_law_spoilt) (defScope s_law_spoilt) .none kV25 dc25 pm25 an25 cd25 ct25), sl25⟩)
    (c25 : PySem.W.codeIn K cd25 "_law_spoilt" = true)
    (k25 : PySem.W.keepIn K (.ref f25) = true)
    (a26 : PySem.W.nsIn K mainGlobals "_law_picks" = some (some (.ref f26)))
    (l26 : K.lookup f26 = some ⟨oc26, od26, .func (PySem.W.fnOf "_law_picks" "_law_picks" (defArgs s_law_picks) (defBody s_law_picks) (defScope s_law_picks) .none kV26 dc26 pm26 an26 cd26 ct26), sl26⟩)
    (c26 : PySem.W.codeIn K cd26 "_law_picks" = true)
    (k26 : PySem.W.keepIn K (.ref f26) = true)
    (a27 : PySem.W.nsIn K mainGlobals "_law_places" = some (some (.ref f27)))
    (l27 : K.lookup f27 = some ⟨oc27, od27, .func (PySem.W.fnOf "_law_places" "_law_places" (defArgs s_law_places) (defBody s_law_places) (defScope s_law_places) .none kV27 dc27 pm27 an27 cd27 ct27), sl27⟩)
    (c27 : PySem.W.codeIn K cd27 "_law_places" = true)
    (k27 : PySem.W.keepIn K (.ref f27) = true)
    (a28 : PySem.W.nsIn K mainGlobals "_law_judged" = some (some (.ref f28)))
    (l28 : K.lookup f28 = some ⟨oc28, od28, .func (PySem.W.fnOf "_law_judged" "_law_judged" (defArgs s_law_judged) (defBody s_law_judged) (defScope s_law_judged) .none kV28 dc28 pm28 an28 cd28 ct28), sl28⟩)
    (c28 : PySem.W.codeIn K cd28 "_law_judged" = true)
    (k28 : PySem.W.keepIn K (.ref f28) = true)
    (a29 : PySem.W.nsIn K mainGlobals "law" = some (some (.ref f29)))
    (l29 : K.lookup f29 = some ⟨oc29, od29, .func (PySem.W.fnOf "law" "law" (defArgs s_law) (defBody s_law) (defScope s_law) .none kV29 dc29 pm29 an29 cd29 ct29), sl29⟩)
    (c29 : PySem.W.codeIn K cd29 "law" = true)
    (k29 : PySem.W.keepIn K (.ref f29) = true)
    (z_len : PySem.W.nsIn K mainGlobals "len" = some none)
    (z_range : PySem.W.nsIn K mainGlobals "range" = some none)
    (z_int : PySem.W.nsIn K mainGlobals "int" = some none)
    (z_abs : PySem.W.nsIn K mainGlobals "abs" = some none)
    (z_str : PySem.W.nsIn K mainGlobals "str" = some none)
    (z_min : PySem.W.nsIn K mainGlobals "min" = some none)
    (z_max : PySem.W.nsIn K mainGlobals "max" = some none)
    (z_list : PySem.W.nsIn K mainGlobals "list" = some none)
    (z_tuple : PySem.W.nsIn K mainGlobals "tuple" = some none)
    (z_repr : PySem.W.nsIn K mainGlobals "repr" = some none)
    (aW : PySem.W.nsIn K mainGlobals "World" = some (some (.ref CWorld)))
    (aH : PySem.W.nsIn K mainGlobals "HeldError" = some (some (.ref CHeld)))
    (aB : PySem.W.nsIn K mainGlobals "BadWorld" = some (some (.ref CBadWorld)))
    (pg : PySem.W.plainGet K CWorld Str.empty = true)
    (hd : PySem.W.hasDictIn K CWorld = true)
    (po : PySem.W.plainOver K CWorld = true)
    (sa : PySem.W.findIn K (.ref CWorld) "__setattr__" = some (some (.builtin "object.__setattr__")))
    (mk : PySem.W.makesIn K CWorld = true)
    (kc : PySem.W.keepIn K (.ref CWorld) = true)
    (nP : PySem.W.findIn K (.ref CWorld) "_products" = some none)
    (nF : PySem.W.findIn K (.ref CWorld) "_facts" = some none)
    (rdH : PySem.W.readsIn K CHeld (.type "type") = true)
    (spH : PySem.W.specialIn K (.ref CHeld) "__getattribute__" = some (some (.builtin "type.__getattribute__")))
    (fcH : PySem.W.findCls K (.ref CHeld) (.type "type") "__init__" = some (.val (.builtin "ValueError.__init__")))
    (xB : K.lookup CBadWorld = some (excClassObj nm q CBadWorld NB bs [.ref CHeld, .type "ValueError", .type "Exception", .type "BaseException", .type "object"] true sn sub ab col dd m0 m1 m2 m3 m5 "ValueError.__new__"))
    (saB : PySem.W.findIn K (.ref CBadWorld) "__setattr__" = some (some (.builtin "object.__setattr__")))
    (gaB : PySem.W.findIn K (.ref CBadWorld) "__getattribute__" = some (some (.builtin "BaseException.__getattribute__")))
    (ggB : PySem.W.findIn K (.ref CBadWorld) "__getattr__" = some none)
    (nB : PySem.W.findIn K (.ref CBadWorld) "reason" = some none)
    (tB : PySem.W.typeIn K (.ref f0) = some (.type "function"))
    (kB : PySem.W.keepIn K (.ref CBadWorld) = true)
    (eB : PySem.W.subIn K (.ref CBadWorld) (.type "BaseException") = some true)
    (tyB : PySem.W.typeIn K (.ref CBadWorld) = some (.type "type"))
    (hB : PySem.W.hasDictIn K CBadWorld = true)
    (iB : PySem.W.isClsIn K CBadWorld = true)
    (sB : PySem.W.subIn K (.ref CBadWorld) (.ref CBadWorld) = some true) :
    ∃ fd : FuncData, (∀ (s : Shared) (v : Value), BindsTo s fd ⟨[v], []⟩ [("script", v)]) ∧ ∀ base : Heap, K.In base → base.Ns mainGlobals mg → FnOkG P w K mg base CX0 27 fa fd ["script"] (spLaw K) := by
  have e := hfa.symm.trans (PySem.W.mg_of X G a29)
  cases e
  have F0 := fun_mk (st := s_BadWorld__init) l0 c0 k0
  have b0 := F0.binds (ps := ["self", "reason"]) fun _ _ _ _ _ _ us hl => match us, hl with | [_, _], _ => rfl
  have F1 := fun_mk (st := s_sides) l1 c1 k1
  have b1 := F1.binds (ps := ["sentence"]) fun _ _ _ _ _ _ us hl => match us, hl with | [_], _ => rfl
  have F2 := fun_mk (st := s_is_all_once) l2 c2 k2
  have b2 := F2.binds (ps := ["sentence"]) fun _ _ _ _ _ _ us hl => match us, hl with | [_], _ => rfl
  have F3 := fun_mk (st := s_is_claim_once) l3 c3 k3
  have b3 := F3.binds (ps := ["claim"]) fun _ _ _ _ _ _ us hl => match us, hl with | [_], _ => rfl
  have F4 := fun_mk (st := s_has_shape) l4 c4 k4
  have b4 := F4.binds (ps := ["products"]) fun _ _ _ _ _ _ us hl => match us, hl with | [_], _ => rfl
  have F5 := fun_mk (st := s_keeps_order) l5 c5 k5
  have b5 := F5.binds (ps := ["products"]) fun _ _ _ _ _ _ us hl => match us, hl with | [_], _ => rfl
  have F6 := fun_mk (st := s_keeps_grouping) l6 c6 k6
  have b6 := F6.binds (ps := ["products"]) fun _ _ _ _ _ _ us hl => match us, hl with | [_], _ => rfl
  have F7 := fun_mk (st := s_fault_of) l7 c7 k7
  have b7 := F7.binds (ps := ["products", "facts"]) fun _ _ _ _ _ _ us hl => match us, hl with | [_, _], _ => rfl
  have F8 := fun_mk (st := s_is_true_for) l8 c8 k8
  have b8 := F8.binds (ps := ["truths", "row", "givers"]) fun _ _ _ _ _ _ us hl => match us, hl with | [_, _, _], _ => rfl
  have F9 := fun_mk (st := s_World__init) l9 c9 k9
  have b9 := F9.binds (ps := ["self", "products", "facts"]) fun _ _ _ _ _ _ us hl => match us, hl with | [_, _, _], _ => rfl
  have F10 := fun_mk (st := s_World__len) l10 c10 k10
  have b10 := F10.binds (ps := ["self"]) fun _ _ _ _ _ _ us hl => match us, hl with | [_], _ => rfl
  have F11 := fun_mk (st := s_World_product) l11 c11 k11
  have b11 := F11.binds (ps := ["self", "a", "b"]) fun _ _ _ _ _ _ us hl => match us, hl with | [_, _, _], _ => rfl
  have F12 := fun_mk (st := s_World_has) l12 c12 k12
  have b12 := F12.binds (ps := ["self", "element", "sentence"]) fun _ _ _ _ _ _ us hl => match us, hl with | [_, _, _], _ => rfl
  have F13 := fun_mk (st := s_World_fails) l13 c13 k13
  have b13 := F13.binds (ps := ["self", "claim", "places"]) fun _ _ _ _ _ _ us hl => match us, hl with | [_, _, _], _ => rfl
  have F14 := fun_mk (st := s_World_truths) l14 c14 k14
  have b14 := F14.binds (ps := ["self", "sentence"]) fun _ _ _ _ _ _ us hl => match us, hl with | [_, _], _ => rfl
  have F15 := fun_mk (st := s_law_cell) l15 c15 k15
  have b15 := F15.binds (ps := ["script", "k"]) fun _ _ _ _ _ _ us hl => match us, hl with | [_, _], _ => rfl
  have F16 := fun_mk (st := s_law_pool) l16 c16 k16
  have b16 := F16.binds (ps := ["script", "k"]) fun _ _ _ _ _ _ us hl => match us, hl with | [_, _], _ => rfl
  have F17 := fun_mk (st := s_law_next) l17 c17 k17
  have b17 := F17.binds (ps := ["pool", "many"]) fun _ _ _ _ _ _ us hl => match us, hl with | [_, _], _ => rfl
  have F18 := fun_mk (st := s_law_names) l18 c18 k18
  have b18 := F18.binds (ps := ["pool", "many"]) fun _ _ _ _ _ _ us hl => match us, hl with | [_, _], _ => rfl
  have F19 := fun_mk (st := s_law_product) l19 c19 k19
  have b19 := F19.binds (ps := ["form", "many", "a", "b"]) fun _ _ _ _ _ _ us hl => match us, hl with | [_, _, _, _], _ => rfl
  have F20 := fun_mk (st := s_law_table) l20 c20 k20
  have b20 := F20.binds (ps := ["form", "many"]) fun _ _ _ _ _ _ us hl => match us, hl with | [_, _], _ => rfl
  have F21 := fun_mk (st := s_law_facts) l21 c21 k21
  have b21 := F21.binds (ps := ["pool", "many", "words"]) fun _ _ _ _ _ _ us hl => match us, hl with | [_, _, _], _ => rfl
  have F22 := fun_mk (st := s_law_sentence) l22 c22 k22
  have b22 := F22.binds (ps := ["pool", "words", "depth"]) fun _ _ _ _ _ _ us hl => match us, hl with | [_, _, _], _ => rfl
  have F23 := fun_mk (st := s_law_true) l23 c23 k23
  have b23 := F23.binds (ps := ["table", "facts", "sentence"]) fun _ _ _ _ _ _ us hl => match us, hl with | [_, _, _], _ => rfl
  have F24 := fun_mk (st := s_law_refused) l24 c24 k24
  have b24 := F24.binds (ps := ["table", "facts"]) fun _ _ _ _ _ _ us hl => match us, hl with | [_, _], _ => rfl
  have F25 := fun_mk (st := s_law_spoilt) l25 c25 k25
  have b25 := F25.binds (ps := ["pool", "form", "table", "facts"]) fun _ _ _ _ _ _ us hl => match us, hl with | [_, _, _, _], _ => rfl
  have F26 := fun_mk (st := s_law_picks) l26 c26 k26
  have b26 := F26.binds (ps := ["pool", "lists"]) fun _ _ _ _ _ _ us hl => match us, hl with | [_, _], _ => rfl
  have F27 := fun_mk (st := s_law_places) l27 c27 k27
  have b27 := F27.binds (ps := ["pool", "truths", "many"]) fun _ _ _ _ _ _ us hl => match us, hl with | [_, _, _], _ => rfl
  have F28 := fun_mk (st := s_law_judged) l28 c28 k28
  have b28 := F28.binds (ps := ["pool", "world", "table", "facts", "sentences", "names"]) fun _ _ _ _ _ _ us hl => match us, hl with | [_, _, _, _, _, _], _ => rfl
  have F29 := fun_mk (st := s_law) l29 c29 k29
  have b29 := F29.binds (ps := ["script"]) fun _ _ _ _ _ _ us hl => match us, hl with | [_], _ => rfl
  refine ⟨PySem.W.fnOf "law" "law" (defArgs s_law) (defBody s_law) (defScope s_law) .none kV29 dc29 pm29 an29 cd29 ct29, fun s v => .of_eq rfl, fun base _ _ => ?_⟩
  exact law_ok (T := {
a_BadWorld__init := f0, d_BadWorld__init := _, F_BadWorld__init := F0, b_BadWorld__init := b0,
    a_sides := f1, d_sides := _, F_sides := F1, b_sides := b1,
    m_sides := PySem.W.mg_of X G a1,
    a_is_all_once := f2, d_is_all_once := _, F_is_all_once := F2, b_is_all_once := b2,
    m_is_all_once := PySem.W.mg_of X G a2,
    a_is_claim_once := f3, d_is_claim_once := _, F_is_claim_once := F3, b_is_claim_once := b3,
    m_is_claim_once := PySem.W.mg_of X G a3,
    a_has_shape := f4, d_has_shape := _, F_has_shape := F4, b_has_shape := b4,
    m_has_shape := PySem.W.mg_of X G a4,
    a_keeps_order := f5, d_keeps_order := _, F_keeps_order := F5, b_keeps_order := b5,
    m_keeps_order := PySem.W.mg_of X G a5,
    a_keeps_grouping := f6, d_keeps_grouping := _, F_keeps_grouping := F6, b_keeps_grouping := b6,
    m_keeps_grouping := PySem.W.mg_of X G a6,
    a_fault_of := f7, d_fault_of := _, F_fault_of := F7, b_fault_of := b7,
    m_fault_of := PySem.W.mg_of X G a7,
    a_is_true_for := f8, d_is_true_for := _, F_is_true_for := F8, b_is_true_for := b8,
    m_is_true_for := PySem.W.mg_of X G a8,
    a_World__init := f9, d_World__init := _, F_World__init := F9, b_World__init := b9,
    a_World__len := f10, d_World__len := _, F_World__len := F10, b_World__len := b10,
    a_World_product := f11, d_World_product := _, F_World_product := F11, b_World_product := b11,
    a_World_has := f12, d_World_has := _, F_World_has := F12, b_World_has := b12,
    a_World_fails := f13, d_World_fails := _, F_World_fails := F13, b_World_fails := b13,
    a_World_truths := f14, d_World_truths := _, F_World_truths := F14, b_World_truths := b14,
    a_law_cell := f15, d_law_cell := _, F_law_cell := F15, b_law_cell := b15,
    m_law_cell := PySem.W.mg_of X G a15,
    a_law_pool := f16, d_law_pool := _, F_law_pool := F16, b_law_pool := b16,
    m_law_pool := PySem.W.mg_of X G a16,
    a_law_next := f17, d_law_next := _, F_law_next := F17, b_law_next := b17,
    m_law_next := PySem.W.mg_of X G a17,
    a_law_names := f18, d_law_names := _, F_law_names := F18, b_law_names := b18,
    m_law_names := PySem.W.mg_of X G a18,
    a_law_product := f19, d_law_product := _, F_law_product := F19, b_law_product := b19,
    m_law_product := PySem.W.mg_of X G a19,
    a_law_table := f20, d_law_table := _, F_law_table := F20, b_law_table := b20,
    m_law_table := PySem.W.mg_of X G a20,
    a_law_facts := f21, d_law_facts := _, F_law_facts := F21, b_law_facts := b21,
    m_law_facts := PySem.W.mg_of X G a21,
    a_law_sentence := f22, d_law_sentence := _, F_law_sentence := F22, b_law_sentence := b22,
    m_law_sentence := PySem.W.mg_of X G a22,
    a_law_true := f23, d_law_true := _, F_law_true := F23, b_law_true := b23,
    m_law_true := PySem.W.mg_of X G a23,
    a_law_refused := f24, d_law_refused := _, F_law_refused := F24, b_law_refused := b24,
    m_law_refused := PySem.W.mg_of X G a24,
    a_law_spoilt := f25, d_law_spoilt := _, F_law_spoilt := F25, b_law_spoilt := b25,
    m_law_spoilt := PySem.W.mg_of X G a25,
    a_law_picks := f26, d_law_picks := _, F_law_picks := F26, b_law_picks := b26,
    m_law_picks := PySem.W.mg_of X G a26,
    a_law_places := f27, d_law_places := _, F_law_places := F27, b_law_places := b27,
    m_law_places := PySem.W.mg_of X G a27,
    a_law_judged := f28, d_law_judged := _, F_law_judged := F28, b_law_judged := b28,
    m_law_judged := PySem.W.mg_of X G a28,
    a_law := fa, d_law := _, F_law := F29, b_law := b29,
    m_law := PySem.W.mg_of X G a29,
    z_len := PySem.W.mg_none_of X G z_len,
    z_range := PySem.W.mg_none_of X G z_range,
    z_int := PySem.W.mg_none_of X G z_int,
    z_abs := PySem.W.mg_none_of X G z_abs,
    z_str := PySem.W.mg_none_of X G z_str,
    z_min := PySem.W.mg_none_of X G z_min,
    z_max := PySem.W.mg_none_of X G z_max,
    z_list := PySem.W.mg_none_of X G z_list,
    z_tuple := PySem.W.mg_none_of X G z_tuple,
    z_repr := PySem.W.mg_none_of X G z_repr,
    C_World := CWorld, cl_World := ⟨pg, hd, po, sa⟩, c_World := PySem.W.mg_of X G aW, k_World := ⟨mk, a9, i9, kc⟩, n_products := nP, n_facts := nF,
    mt_World_product := ⟨a11, i11, k11⟩,
    mt_World_has := ⟨a12, i12, k12⟩,
    mt_World_fails := ⟨a13, i13, k13⟩,
    mt_World_truths := ⟨a14, i14, k14⟩,
    len_World := a10, mt_World__len_fn := i10,
    C_Held := CHeld, c_Held := PySem.W.mg_of X G aH, rd_Held := rdH, sp_Held := spH, fc_Held := fcH,
    C_Bad := CBadWorld, c_Bad := PySem.W.mg_of X G aB, ox_Bad := ⟨⟨nm, q, NB, bs, _, sn, sub, ab, col, dd, m0, m1, m2, m3, m5, xB, by rfl⟩, saB, eB, tyB, kB⟩, xf_Bad := ⟨gaB, ggB, eB, hB⟩, i_Bad := a0, t_Bad := tB, n_Bad := nB, em_Bad := exm_self eB iB tyB sB })
end W76
open PySem PySem.W PyProof.Rows
set_option maxRecDepth 100000 in
set_option maxHeartbeats 0 in
theorem PySem.Challenge.cw_heldanswers_k76_seam_large_worlds_holds : PySem.Challenge.rw_heldanswers_k76_seam_large_worlds.Holds := by
  w_on; o_law; k_head; (case hw => w_witness2)
  k_fill
  refine HX.walk_ofG (l := PySem.Challenge.rw_heldanswers_k76_seam_large_worlds) (n := 63) (k := 27) (x := "script") (CX := fun _ => L2.CX0) (sp := fun w => W76.spLaw _) rfl (by decide) rfl ⟨rfl, by decide, by decide⟩ (fun w h Y => PySem.W.kIn_of Y) ?F (fun _ _ a ns hl _ hS => ⟨a, ns, rfl, hS, hl, fun _ => rfl⟩) fun _ _ _ _ _ z => z
  case F =>
    intro w mg fa h KX G hmg
    have hmg2 : mg "law" = some (.ref fa) := hmg
    clear hmg
    refine' W76.all_mk KX G hmg2 ?a0 ?i0 ?l0 ?c0 ?k0 ?a1 ?l1 ?c1 ?k1 ?a2 ?l2 ?c2 ?k2 ?a3 ?l3 ?c3 ?k3 ?a4 ?l4 ?c4 ?k4 ?a5 ?l5 ?c5 ?k5 ?a6 ?l6 ?c6 ?k6 ?a7 ?l7 ?c7 ?k7 ?a8 ?l8 ?c8 ?k8 ?a9 ?i9 ?l9 ?c9 ?k9 ?a10 ?i10 ?l10 ?c10 ?k10 ?a11 ?i11 ?l11 ?c11 ?k11 ?a12 ?i12 ?l12 ?c12 ?k12 ?a13 ?i13 ?l13 ?c13 ?k13 ?a14 ?i14 ?l14 ?c14 ?k14 ?a15 ?l15 ?c15 ?k15 ?a16 ?l16 ?c16 ?k16 ?a17 ?l17 ?c17 ?k17 ?a18 ?l18 ?c18 ?k18 ?a19 ?l19 ?c19 ?k19 ?a20 ?l20 ?c20 ?k20 ?a21 ?l21 ?c21 ?k21 ?a22 ?l22 ?c22 ?k22 ?a23 ?l23 ?c23 ?k23 ?a24 ?l24 ?c24 ?k24 ?a25 ?l25 ?c25 ?k25 ?a26 ?l26 ?c26 ?k26 ?a27 ?l27 ?c27 ?k27 ?a28 ?l28 ?c28 ?k28 ?a29 ?l29 ?c29 ?k29 ?z_len ?z_range ?z_int ?z_abs ?z_str ?z_min ?z_max ?z_list ?z_tuple ?z_repr ?aW ?aH ?aB ?pg ?hd ?po ?sa ?mk ?kc ?nP ?nF ?rdH ?spH ?fcH ?xB ?saB ?gaB ?ggB ?nB ?tB ?kB ?eB ?tyB ?hB ?iB ?sB
    (case aW => k_is)
    (case aH => k_is)
    (case aB => k_is)
    (case a0 => k_is)
    (case i0 => k_is)
    (case l0 => k_is)
    (case c0 => k_is)
    (case k0 => k_is)
    (case a1 => k_is)
    (case l1 => k_is)
    (case c1 => k_is)
    (case k1 => k_is)
    (case a2 => k_is)
    (case l2 => k_is)
    (case c2 => k_is)
    (case k2 => k_is)
    (case a3 => k_is)
    (case l3 => k_is)
    (case c3 => k_is)
    (case k3 => k_is)
    (case a4 => k_is)
    (case l4 => k_is)
    (case c4 => k_is)
    (case k4 => k_is)
    (case a5 => k_is)
    (case l5 => k_is)
    (case c5 => k_is)
    (case k5 => k_is)
    (case a6 => k_is)
    (case l6 => k_is)
    (case c6 => k_is)
    (case k6 => k_is)
    (case a7 => k_is)
    (case l7 => k_is)
    (case c7 => k_is)
    (case k7 => k_is)
    (case a8 => k_is)
    (case l8 => k_is)
    (case c8 => k_is)
    (case k8 => k_is)
    (case a9 => k_is)
    (case i9 => k_is)
    (case l9 => k_is)
    (case c9 => k_is)
    (case k9 => k_is)
    (case a10 => k_is)
    (case i10 => k_is)
    (case l10 => k_is)
    (case c10 => k_is)
    (case k10 => k_is)
    (case a11 => k_is)
    (case i11 => k_is)
    (case l11 => k_is)
    (case c11 => k_is)
    (case k11 => k_is)
    (case a12 => k_is)
    (case i12 => k_is)
    (case l12 => k_is)
    (case c12 => k_is)
    (case k12 => k_is)
    (case a13 => k_is)
    (case i13 => k_is)
    (case l13 => k_is)
    (case c13 => k_is)
    (case k13 => k_is)
    (case a14 => k_is)
    (case i14 => k_is)
    (case l14 => k_is)
    (case c14 => k_is)
    (case k14 => k_is)
    (case a15 => k_is)
    (case l15 => k_is)
    (case c15 => k_is)
    (case k15 => k_is)
    (case a16 => k_is)
    (case l16 => k_is)
    (case c16 => k_is)
    (case k16 => k_is)
    (case a17 => k_is)
    (case l17 => k_is)
    (case c17 => k_is)
    (case k17 => k_is)
    (case a18 => k_is)
    (case l18 => k_is)
    (case c18 => k_is)
    (case k18 => k_is)
    (case a19 => k_is)
    (case l19 => k_is)
    (case c19 => k_is)
    (case k19 => k_is)
    (case a20 => k_is)
    (case l20 => k_is)
    (case c20 => k_is)
    (case k20 => k_is)
    (case a21 => k_is)
    (case l21 => k_is)
    (case c21 => k_is)
    (case k21 => k_is)
    (case a22 => k_is)
    (case l22 => k_is)
    (case c22 => k_is)
    (case k22 => k_is)
    (case a23 => k_is)
    (case l23 => k_is)
    (case c23 => k_is)
    (case k23 => k_is)
    (case a24 => k_is)
    (case l24 => k_is)
    (case c24 => k_is)
    (case k24 => k_is)
    (case a25 => k_is)
    (case l25 => k_is)
    (case c25 => k_is)
    (case k25 => k_is)
    (case a26 => k_is)
    (case l26 => k_is)
    (case c26 => k_is)
    (case k26 => k_is)
    (case a27 => k_is)
    (case l27 => k_is)
    (case c27 => k_is)
    (case k27 => k_is)
    (case a28 => k_is)
    (case l28 => k_is)
    (case c28 => k_is)
    (case k28 => k_is)
    (case a29 => k_is)
    (case l29 => k_is)
    (case c29 => k_is)
    (case k29 => k_is)
    (case z_len => k_is)
    (case z_range => k_is)
    (case z_int => k_is)
    (case z_abs => k_is)
    (case z_str => k_is)
    (case z_min => k_is)
    (case z_max => k_is)
    (case z_list => k_is)
    (case z_tuple => k_is)
    (case z_repr => k_is)
    (case pg => k_is)
    (case hd => k_is)
    (case po => k_is)
    (case sa => k_is)
    (case mk => k_is)
    (case kc => k_is)
    (case nP => k_is)
    (case nF => k_is)
    (case rdH => first | k_is | rfl)
    (case spH => first | k_is | rfl)
    (case fcH => first | k_is | rfl)
    (case xB => k_is)
    (case saB => k_is)
    (case gaB => k_is)
    (case ggB => k_is)
    (case nB => k_is)
    (case tB => k_is)
    (case kB => k_is)
    (case eB => k_is)
    (case tyB => k_is)
    (case hB => k_is)
    (case iB => k_is)
    (case sB => first | rfl | k_is)
#print axioms PySem.Challenge.cw_heldanswers_k76_seam_large_worlds_holds
