import PyProof.Rows.All
import Wide.All
import OpenK.AllK
import Wide.FinOn
import KE.KExcSuper
import KE.KExcInit
import HandS.Base
import HandS.Call
import HandS.Exc
import HandS.ExcOwn
import HandS.Small
import HandS.ForMost
import HandS.ForExc
import HandS.TupAny
import HandS.TupMul
import HandS.Deep
import HandS.IsInst
import HandS.Conv
import HandS.Flow
import HandS.WordsExc
import HandS.Defaults
import HandS.HeadHook1
import HandS.HeadHook2
import HandS.HeadHook3
import HandS.HeadHook4
import HandS.Ends
import HandS.HeadEnd
import PySem.Challenge.RW_primewebs_k61_chains_primes_likenesses_l
import KE.KStateDown
import Lean
import HandS.Head0
import HandS.Head1
import HandS.Head2
import HandS.WordsDict
import HandS.TupLen
import KE.KTupSum
import HandS.CallSlots
import PyProof.ZipIter
import HandS.Zip0
import HandS.Zip
import HandS.Walk
import KE.GoesMore
import HandS.Style
import KE.SortData
import HandS.SortInts
import HandS.SortRule
import HandS.SortOrd
import PyProof.TupleOfSeq
import KE.KDictSum
import HandS.More
import HandS.TupSets
import KE.KeyNested
import HandS.Dict
import KE.KDictDisplayH
import PyProof.DictTable
import KE.KIsAll
import HandS.ExcIs
set_option Elab.async false
set_option linter.all false
section
set_option maxRecDepth 100000
set_option maxHeartbeats 4000000
/-! PvMkS: the making of an own error over LookupError whose __init__ says super().__init__(f); self.f = f. -/
namespace Pv
open PySem PySem.Spec PyProof.Rows L2
open PySem.Builtin PySem.Builtin.ObjectAttr
open PySem.W (excObj excTup kxs_mw excInitIn excOver ksFn ksEnv clsIn findIn typeIn keepIn subIn mroIn nsIn hasDictIn takerIn codeIn Frag)
abbrev lkB : List Value := [.type "LookupError", .type "Exception", .type "BaseException", .type "object"]
/-! ### the text of such an __init__ -/
def iA (f : Str) (p1 p2 : Pos) : Arguments := { posonlyargs := [], args := [{ arg := "self", annotation := none, pos := p1 }, { arg := f, annotation := none, pos := p2 }], vararg := none, kwonlyargs := [], kw_defaults := [], kwarg := none, defaults := [] }
structure IPos where
  (a1 a2 a3 a4 a5 a6 b1 b2 b3 b4 : Pos)
def iB (f : Str) (q : IPos) : List Stmt := [.Expr (.Call (.Attribute (.Call (.Name "super" q.a1) [] [] q.a2) "__init__" q.a3) [.Name f q.a4] [] q.a5) q.a6, .Assign [.Attribute (.Name "self" q.b1) f q.b2] (.Name f q.b3) q.b4]
def iS (f : Str) : Scope := { kind := .function, names := [(PySem.Str.ofString "self", .local), (f, .local), (PySem.Str.ofString "__class__", .free), (PySem.Str.ofString "super", .globalImplicit)], isGenerator := false, isCoroutine := false, more := [] }
/-- a name that may be such a field -/
structure FName (f : Str) : Prop where
  s : (f == ("self" : Str)) = false
  c : (f == ("__class__" : Str)) = false
  u : (f == ("super" : Str)) = false
  d : (f == ("__debug__" : Str)) = false
/-- what the written part says of the class at C and of its __init__, at fI; K: no word of the model -/
structure TwoTxt (P : Program) (K : Frag) (f : Str) (C fI : Addr) : Prop where
  fn : FName f
  ini : excInitIn K C lkB "LookupError.__new__" = true
  ovr : excOver K C lkB = true
  sa : findIn K (.ref C) "__setattr__" = some (some (.builtin "object.__setattr__"))
  tk : takerIn K C f = some none
  hd : hasDictIn K C = true
  iC : findIn K (.ref C) "__init__" = some (some (.ref fI))
  tC : typeIn K (.ref fI) = some (.type "function")
  kC : keepIn K (.ref C) = true
  exC : subIn K (.ref C) (.type "BaseException") = some true
  tyC : typeIn K (.ref C) = some (.type "type")
  sup : PySem.W.ks_superIn K C C "__init__" = some (some (.builtin "LookupError.__init__"))
  sub : subIn K (.ref C) (.type "LookupError") = some true
  opq : nsIn K cStatics "thirdparty.any" = some none
  mro : mroIn K C (.ref C) = some true
  bnd : ∀ (s : Shared) (qn : Str) (doc pm : Value) (an : Option Addr) (cd ct : Value) (cc : Addr) (p1 p2 : Pos) (q : IPos) (x v : Value), BindsTo s (ksFn "__init__" qn (iA f p1 p2) (iB f q) (iS f) .none .none doc pm an cd ct cc) ⟨[x, v], []⟩ [(("self" : Str), x), (f, v)]
  top : (P.main.scope.names.lookup ("super" : Str)).isSome = false
  def_ : ∃ (oc : Value) (od : Option Addr) (qn : Str) (doc pm : Value) (an : Option Addr) (cda : Addr) (ct : Value) (cc : Addr) (osl : Array (Option Value)) (p1 p2 : Pos) (q : IPos) (oc2 oc3 : Value) (od2 od3 : Option Addr) (vs : Array Value) (sl2 sl3 : Array (Option Value)) (file : Str) (tf : Tok),
    K.lookup fI = some ⟨oc, od, .func (ksFn "__init__" qn (iA f p1 p2) (iB f q) (iS f) .none .none doc pm an (.ref cda) ct cc), osl⟩ ∧ codeIn K (.ref cda) qn = true ∧ K.lookup cda = some ⟨oc2, od2, .fields vs, sl2⟩ ∧ vs[2]? = some (.str file tf) ∧
      ((P.main.file : Str) == file) = true ∧ (q.a3.endLine == q.a5.line) = true ∧ K.lookup cc = some ⟨oc3, od3, .cell (some (.ref C)), sl3⟩
theorem lk_self (f : Str) : (iS f).names.lookup ("self" : Str) = some .local := rfl
theorem lk_f {f : Str} (h : FName f) : (iS f).names.lookup f = some .local := by
  simp only [iS, List.lookup]
  have e : (f == PySem.Str.ofString "self") = false := h.s
  rw [e]
  simp
theorem lk_cls {f : Str} (h : FName f) : (iS f).names.lookup ("__class__" : Str) = some .free := by
  simp only [iS, List.lookup]
  have e : ((PySem.Str.ofString "__class__") == f) = false := by
    have := h.c
    rw [beq_eq_false_iff_ne] at this ⊢
    exact fun z => this z.symm
  rw [show ((PySem.Str.ofString "__class__") == (PySem.Str.ofString "self")) = false from by decide, e]
  simp
theorem lk_sup {f : Str} (h : FName f) : (iS f).names.lookup ("super" : Str) = some .globalImplicit := by
  simp only [iS, List.lookup]
  have e : ((PySem.Str.ofString "super") == f) = false := by
    have := h.u
    rw [beq_eq_false_iff_ne] at this ⊢
    exact fun z => this z.symm
  rw [show ((PySem.Str.ofString "super") == (PySem.Str.ofString "self")) = false from by decide, e, show ((PySem.Str.ofString "super") == (PySem.Str.ofString "__class__")) = false from by decide]
  simp
theorem bd_f {f : Str} {x v : Value} : List.lookup f ([(("self" : Str), x), (f, v)] : List (Str × Value)).reverse = some v := by simp [List.lookup]
theorem bd_self {f : Str} (h : FName f) {x v : Value} : List.lookup ("self" : Str) ([(("self" : Str), x), (f, v)] : List (Str × Value)).reverse = some x := by
  have e : (("self" : Str) == f) = false := by
    have := h.s
    rw [beq_eq_false_iff_ne] at this ⊢
    exact fun z => this z.symm
  simp only [List.reverse_cons, List.reverse_nil, List.nil_append, List.cons_append, List.lookup, e]
  simp
/-- what __init__ leaves of a fresh error at x -/
structure InitLeft (h h' : Heap) (x C : Addr) (f : Str) (v : Value) : Prop where
  keep : ∀ b o, b ≠ x → h.get? b = some o → h'.get? b = some o
  obj : ∃ t1 dx, h'.get? x = some (excObj C t1 (some dx) .none) ∧ h.objs.size ≤ dx ∧ dx ≠ x ∧ h'.Ns1 dx (fun y => if y = f then some v else none)
/-- o.m(e) on one line -/
theorem meth_line {o e : Expr} {name : Str} {a3 a5 : Pos} {env : PySem.Env} (he : starEach [e] env = (false, eval e env) :: starEach [] env) (hl : (a3.endLine == a5.line) = true) : eval (.Call (.Attribute o name a3) [e] [] a5) env = (do
      let ov ← attributeBase o name env (eval o env)
      standAt a3.atName
      let (fu, first) ← holding [ov] (getMethod ov name (do return (← importBound o env).getD true))
      callWith a5 fu first (backTo a5 (starEach [e] env)) []) := by
  have hform : methodCallForm ([e].length + ([] : List Keyword).length) (backTo a5 (starEach [e] env)) (backToKw a5 (keywordEach [] env)) = true := by rw [he]; rfl
  have hpos : methodCallPos true o env a3 a5 = pure a5 := by unfold methodCallPos; simp [hl]
  rw [arm_eval_Call]
  unfold methodCall
  rw [hform]
  simp only [hpos, pure_bind]
  rfl
section
variable {P : Program} {w : World} {A : Around} {E : Value → Shared → Prop} {R : Result → Shared → Prop} {s : Shared} {K : Frag} {f : Str} {C fI : Addr} {mg mb : Str → Option Value}
theorem kept_in {h h' : Heap} {x : Addr} (X : K.In h) (hx : K.lookup x = none) (k : ∀ b o, b ≠ x → h.get? b = some o → h'.get? b = some o) : K.In h' := fun a o e =>
  k a o (fun z => by rw [z, hx] at e; cases e) (X a o e)
/-- LookupError.__init__, bound, called -/
theorem call_mw {h : Heap} {g : Array GenState} {d : Drawn} {t : Nat} {os : OsState} {u x t0 : Addr} {rest : List Value} {Q : Value → Shared → Prop} (X : K.In h) (T : excInitIn K C lkB "LookupError.__new__" = true) (hu : h.get? u = some (kxs_mw "LookupError.__init__" x)) (he : h.get? x = some (excObj C t0 none .none)) (hz : rest.length ≤ sizeLine)
    (hq : ∀ h' t1, (∀ b o, b ≠ x → h.get? b = some o → h'.get? b = some o) → h'.get? x = some (excObj C t1 none .none) → Q .none ⟨h', g, d, t, os⟩) : wpAny (model P w) A (call (.ref u) rest) Q E ⟨h, g, d, t, os⟩ := by
  obtain ⟨nm, N', qn, bs, bm, hdct, sn, sub, ab, col, dd, k0, k1, k2, k3, k5, hC, hT⟩ := PySem.W.excInit_of X T
  refine wpAny_call (codeAny_of_tree ?_)
  show wpAny _ A.in1 (callAny (.ref u) ⟨rest, []⟩) _ _ _
  simp only [callAny]
  refine wpAny_bind (wpAny_load hu ?_)
  simp only [kxs_mw, show (Value.type "method-wrapper" == Value.type "method" || Value.type "method-wrapper" == Value.type "builtin_function_or_method" || Value.type "method-wrapper" == Value.type "method-wrapper") = true by decide, if_true]
  refine PySem.W.KFB.if_so (by decide) (wpAny_bind (PySem.W.check_bound_init F.excBase_LookupError.toExcCallFacts hC he rfl (wpAny_bind (wpAny_pure (wpAny_pure ?_)))))
  refine ⟨plainId_quiet F.excBase_LookupError.init.plain _, codeAny_builtin F.excBase_LookupError.initEntry ?_⟩
  exact PySem.W.exc_init_tree (cls := .ref C) (t0 := t0) (dv := none) (c2 := .none) (c3 := .none) (b4 := .bool false) he hz fun h' a1 a2 _ => hq h' _ a1 a2
/-- self.f = v: the error gets its dict -/
theorem store_two {h : Heap} {g : Array GenState} {d : Drawn} {t : Nat} {os : OsState} (T : TwoTxt P K f C fI) {x t1 : Addr} {v : Value} {Q : Unit → Shared → Prop} (X : K.In h) (hx : h.get? x = some (excObj C t1 none .none))
    (hq : ∀ h' tk dx, (∀ b o, b ≠ x → h.get? b = some o → h'.get? b = some o) → h.objs.size ≤ dx → dx ≠ x → h'.get? x = some (excObj C t1 (some dx) .none) → h'.Ns1 dx (fun y => if y = f then some v else none) → Q () ⟨h', g, d, tk, os⟩) :
    wpAny (model P w) A (setAttr (.ref x) f v) Q E ⟨h, g, d, t, os⟩ := by
  have ne : x ≠ h.objs.size := Nat.ne_of_lt (Heap.lt_size hx)
  refine PySem.W.set_plain (od := none) X ⟨hx, rfl, rfl, trivial⟩ T.sa (PySem.W.osa_openX (od := none) PySem.F.store_LookupError X ⟨hx, rfl, rfl, trivial⟩ T.ovr T.tk fun b => ?_)
  obtain ⟨cd, hc, hh⟩ := PySem.W.any_some T.hd
  have hcls : PySem.W.Looks (model P w) h (classData C) cd := PySem.W.looks_clsIn X hc
  obtain ⟨nm, bs, mro, ns, qn, hd', sn, sb, ab, col, del⟩ := cd
  dsimp only at hh
  subst hh
  unfold storeInOwnDict ownDictForStores
  repeat (first | with_reducible refine HandSPX.store_in_new ?_ ?_ | with_reducible refine wpAny_loadPart_at hx ?_ | with_reducible refine hcls.at ?_ | wp_step)
  · exact ⟨_, #[], _, (Heap.get?_update_ne _ _ _ _ ne.symm).trans (Heap.get?_push_at rfl rfl), rfl, fun e he => absurd he (by simp), fun _ => rfl⟩
  · intro h' tk' hn hs
    have hx1 : (h.push { cls := .type "dict", data := .dict #[] }).get? x = some (excObj C t1 none .none) := Heap.get?_push_of_some _ hx
    refine hq h' tk' h.objs.size (fun b o hb ho => ?_) (Nat.le_refl _) ne.symm ?_ hn
    · exact (hs.2 b (Nat.ne_of_lt (Heap.lt_size ho))).trans ((Heap.get?_update_ne _ _ _ _ hb).trans (Heap.get?_push_of_some _ ho))
    · exact (hs.2 x ne).trans (Heap.get?_update_self _ hx1 rfl)
theorem two_init (T : TwoTxt P K f C fI) {x t0 : Addr} {v : Value} (X : K.In s.heap) (hlim : s.heap.NoLimit) (hg : s.heap.Ns mainGlobals mg) (hgs : mg "super" = none) (hb : s.heap.Ns builtinsNs mb) (hbs : mb "super" = some (.type "super"))
    (hx : s.heap.get? x = some (excObj C t0 none .none)) (hnx : K.lookup x = none) (hroom : A.depth < recursionLimit) (hq : ∀ h' tk, InitLeft s.heap h' x C f v → R (.ok (.ret .none)) { s with heap := h', toks := tk }) :
    codeAny (model P w) A (.call (.ref fI) ⟨[.ref x, v], []⟩) R s := by
  obtain ⟨oc, od, qn, doc, pm, an, cda, ct, cc, osl, p1, p2, q, oc2, oc3, od2, od3, vs, sl2, sl3, file, tf, ho, hcd, hcda, hvs, hfile, hline, hcell⟩ := T.def_
  have FN := T.fn
  have kc : ∀ y ∈ (iS f).names, y.2 ≠ .cell := by simp [iS]
  have kl : ∀ y ∈ [(("self" : Str), Value.ref x), (f, v)], (iS f).names.lookup y.1 = some .local := fun y hy => by
    rcases List.mem_cons.mp hy with rfl | hy
    · rfl
    · rw [List.mem_singleton.mp hy]
      exact lk_f FN
  refine ks_codeAny_call_defAt (fd := ksFn "__init__" qn (iA f p1 p2) (iB f q) (iS f) .none .none doc pm an (.ref cda) ct cc) (body := iB f q) (binds := [(("self" : Str), .ref x), (f, v)]) hroom (X _ _ ho) rfl hlim (PySem.W.codeRec_of X hcd) rfl
    (T.bnd s qn doc pm an (.ref cda) ct cc p1 p2 q (.ref x) v) kc kl (fun h1 hns hk => ?_) rfl rfl rfl
  have xL : s.heap.objs.size ≠ x := Nat.ne_of_gt (Heap.lt_size hx)
  have X1 : K.In h1 := X.keeps hk
  have hx1 := hk _ _ hx
  obtain ⟨cd, hcd0, _⟩ := PySem.W.any_some T.hd
  have hC1 : ∃ oD, h1.get? C = some oD ∧ oD.data = .cls cd := by
    unfold clsIn at hcd0
    split at hcd0
    · rename_i ho2
      cases hcd0
      exact ⟨_, X1 _ _ ho2, rfl⟩
    · cases hcd0
  obtain ⟨oD, hD1, hD2⟩ := hC1
  show _root_.PySem.wpAt (model P w) (A.deeper (ksEnv qn (iS f) s.heap.objs.size fI (.ref cda) cc)) (.func (iB f q) (ksEnv qn (iS f) s.heap.objs.size fI (.ref cda) cc))
    (execs [.Expr (.Call (.Attribute (.Call (.Name "super" q.a1) [] [] q.a2) "__init__" q.a3) [.Name f q.a4] [] q.a5) q.a6, .Assign [.Attribute (.Name "self" q.b1) f q.b2] (.Name f q.b3) q.b4] (ksEnv qn (iS f) s.heap.objs.size fI (.ref cda) cc)) _ _ _
  refine ks_wpAt_execs_cons (ks_wpAt_Expr_any (ks_wpAt_MethodCall (ks_wpAt_super_base (lk_sup FN) (lk_cls FN) rfl rfl (X1 _ _ ho) rfl rfl rfl (X1 _ _ hcda) rfl hvs hfile T.top ?_) (meth_line rfl hline)))
  refine PySem.W.ks_loadName_global rfl (lk_sup FN) (Calls.loadGlobal_builtin (hg.keeps hk) hgs (hb.keeps hk) hbs ⟨rfl, ?_⟩)
  refine wpAny_loadName_free rfl (lk_cls FN) rfl ⟨_, X1 _ _ hcell, rfl⟩ ?_
  refine wpAny_loadName_local rfl (lk_self f) hns (bd_self FN) ?_
  refine ks_wpAny_isType_cls hD1 hD2 ⟨rfl, ?_⟩
  refine ks_wpAny_call_super hD1 hD2 hx1 rfl (fun _ e => nomatch e) (PySem.W.looks_mroIn X1 T.mro) (fun h2 e2 k2 => ?_)
  have X2 : K.In h2 := X1.keeps k2
  have hx2 := k2 _ _ hx1
  have I2 : PySem.W.InstAt h2 x (excObj C t0 none .none) C none := ⟨hx2, rfl, rfl, trivial⟩
  have hsup := T.sup
  unfold PySem.W.ks_superIn at hsup
  rw [hcd0] at hsup
  refine PySem.W.kxs_getMethod PySem.W.kxs_LookupError e2 (PySem.W.looks_opaque X2 T.opq) (l₀ := cd.mro) ?_ rfl X2 hsup (I2.type.andThen (PySem.W.looks_subIn X2 T.sub)) (PySem.W.ks_ne X2 I2 hcd0) rfl ?_
  · exact fun A Q E s k q => wpAny_bind ((PySem.W.looks_clsIn X2 hcd0) A _ E s k (wpAny_pure q))
  have k3 : ∀ b o, h2.get? b = some o → (h2.push (kxs_mw "LookupError.__init__" x)).get? b = some o := fun b o e => Heap.get?_push_of_some _ e
  have hns3 := (hns.keeps k2).keeps k3
  refine PySem.W.kxs_callWith (i := "LookupError.__init__") (x := x) (u := h2.objs.size) rfl (Calls.evalArgs_plain (Calls.spliced_cons (wpAny_Name (wpAny_loadName_local rfl (lk_f FN) hns3 bd_f (Calls.spliced_nil ?_)) FN.d)))
  refine ⟨Heap.get?_push_at rfl rfl, ?_⟩
  refine call_mw (X2.keeps k3) T.ini (Heap.get?_push_at rfl rfl) (k3 _ _ hx2) (by show [v].length ≤ _; rw [sizeLine_eq]; exact (by decide : 1 ≤ 16777216)) fun h4 t1 k4 hx4 => ?_
  have X4 : K.In h4 := kept_in (X2.keeps k3) hnx k4
  have hns4 := hns3.at fun o e => k4 _ _ xL e
  refine ks_wpAt_execs_cons (wpAt_of_wpAny (plainObj_wpAny_Assign_Attribute ?_))
  refine wpAny_Name (wpAny_loadName_local rfl (lk_f FN) hns4 bd_f ?_) FN.d
  refine wpAny_Name (wpAny_loadName_local rfl (lk_self f) hns4 (bd_self FN) ?_)
  refine store_two T X4 hx4 fun h5 tk5 dx k5 dn dne hx5 hn5 => ?_
  refine wpAt_of_wpAny (wpAny_execs_nil ?_)
  have k : ∀ b o, b ≠ x → s.heap.get? b = some o → h5.get? b = some o := fun b o ne e => k5 b o ne (k4 b o ne (k3 b o (k2 b o (hk b o e))))
  refine hq h5 tk5 ⟨k, t1, dx, hx5, ?_, dne, hn5⟩
  have l1 := hns4.lt
  exact Nat.le_of_lt (Nat.lt_of_lt_of_le l1 dn)
/-- a made error -/
structure TwoMade (h h' : Heap) (e C d : Addr) (f : Str) (v : Value) : Prop where
  keep : ∀ b o, h.get? b = some o → h'.get? b = some o
  new : h.objs.size ≤ e
  obj : ∃ oe vs, h'.get? e = some oe ∧ oe.cls = .ref C ∧ oe.dict = some d ∧ oe.data = .fields vs ∧ vs[1]? = some .none
  dbig : h.objs.size ≤ d
  dne : d ≠ e
  ns : h'.Ns1 d (fun y => if y = f then some v else none)
theorem two_made (T : TwoTxt P K f C fI) {v : Value} (X : K.In s.heap) (hlim : s.heap.NoLimit) (hg : s.heap.Ns mainGlobals mg) (hgs : mg "super" = none) (hb : s.heap.Ns builtinsNs mb) (hbs : mb "super" = some (.type "super")) (hroom : A.depth + 1 < recursionLimit)
    (hq : ∀ h' tk e d, TwoMade s.heap h' e C d f v → R (.ok (.ret (.ref e))) { s with heap := h', toks := tk }) : codeAny (model P w) A (.call (.ref C) ⟨[v], []⟩) R s := by
  obtain ⟨nm, N', qn, bs, bm, hdct, sn, sub, ab, col, dd, k0, k1, k2, k3, k5, hC, hT⟩ := PySem.W.excInit_of X T.ini
  obtain ⟨hp, g, dr, tk, os⟩ := s
  have k : ∀ b o, hp.get? b = some o → ((hp.push (PySem.W.kdv_tup [v])).push (HandSPX.excO C hp.objs.size)).get? b = some o := fun b o e => Heap.get?_push_of_some _ (Heap.get?_push_of_some _ e)
  have hget : ((hp.push (PySem.W.kdv_tup [v])).push (HandSPX.excO C hp.objs.size)).get? (hp.objs.size + 1) = some (HandSPX.excO C hp.objs.size) := by heap_get
  have hnx : K.lookup (hp.objs.size + 1) = none := by
    cases e : K.lookup (hp.objs.size + 1) with
    | none => rfl
    | some o => exact absurd (Nat.lt_of_succ_lt (Heap.lt_size (X _ _ e))) (Nat.lt_irrefl _)
  refine HandSPX.call_own F.excBase_LookupError hT hC (PySem.W.looks_findIn X T.iC) (fun self => PySem.W.bind_fn X self T.tC) (by show [v].length ≤ _; rw [sizeLine_eq]; exact (by decide : 1 ≤ 16777216)) ?_
  refine two_init (s := ⟨(hp.push (PySem.W.kdv_tup [v])).push (HandSPX.excO C hp.objs.size), g, dr, tk, os⟩) T (X.keeps k) (hlim.keeps k) (hg.keeps k) hgs (hb.keeps k) hbs hget hnx hroom fun h' tk' I => ?_
  obtain ⟨t1, dx, hx, dn, dne, hns⟩ := I.obj
  have old : ∀ b o, hp.get? b = some o → h'.get? b = some o := fun b o e => I.keep b o (Nat.ne_of_lt (Nat.lt_succ_of_lt (Heap.lt_size e))) (k b o e)
  have z : hp.objs.size + 1 + 1 ≤ dx := by
    first
      | (simpa only [Heap.size_push] using dn)
      | exact dn
      | (have q := dn; rw [Heap.size_push, Heap.size_push] at q; exact q)
  exact ⟨rfl, hq h' tk' (hp.objs.size + 1) dx ⟨old, Nat.le_succ _, ⟨_, _, hx, rfl, rfl, rfl, rfl⟩, Nat.le_trans (Nat.le_trans (Nat.le_succ _) (Nat.le_succ _)) z, dne, hns⟩⟩
end
theorem relO_two {f g : Str} {v : V} {u : Value} (r : RelV v u) : RelO (List.lookup g [(f, v)]) (if g = f then some u else none) := by
  by_cases e : g = f
  · subst e
    rw [if_pos rfl, show List.lookup g [(g, v)] = some v by simp [List.lookup]]
    exact r
  · have q : (g == f) = false := by simpa using e
    rw [if_neg e, show List.lookup g [(f, v)] = none by simp [List.lookup, q]]
    trivial
section
variable {X : Cx} {C fI : Addr} {f : Str}
/-- C(e), its field f -/
theorem pmk_two {a : Expr} {ta : TE} {x : Str} {p pos : Pos} {k : Nat} (T : TwoTxt X.prog X.K f C fI) (gC : X.mg x = some (.ref C)) (gS : X.mg "super" = none) (hr : Room k X.A) (ha : PE X a ta) (hg : Gl X x) (hd : (x == ("__debug__" : Str)) = false)
    (he : starEach [a] X.env = (false, eval a X.env) :: starEach [] X.env) :
    PMk X (.Call (.Name x p) [a] [] pos) (fun σ H Q => ta σ H fun v H1 => ∀ d, H1 d = none → Q (.ref C) (some d) (upd H1 d (.xd [(f, v)]))) := by
  intro pins s σ H Q I h
  refine wpAny_Call_Name_kw (ld_glob I hg gC ?_ hd)
  have h : ta σ H fun v H1 => ∃ x : V, [v] = [x] ∧ ∀ d, H1 d = none → Q (.ref C) (some d) (upd H1 d (.xd [(f, x)])) := by
    have e : (fun (v : V) (H1 : Hp) => ∃ x : V, [v] = [x] ∧ ∀ d, H1 d = none → Q (.ref C) (some d) (upd H1 d (.xd [(f, x)]))) = fun v H1 => ∀ d, H1 d = none → Q (.ref C) (some d) (upd H1 d (.xd [(f, v)])) := by
      funext v H1
      exact propext ⟨fun ⟨x, e, z⟩ => by cases e; exact z, fun z => ⟨v, rfl, z⟩⟩
    rw [e]
    exact h
  refine PySem.W.callWith_K (h₀ := X.base) I.ok.mod.kin T.kC (thn ((pa_cons ha pa_nil he).run pos pins s σ H (fun vs H1 => ∃ x : V, vs = [x] ∧ ∀ d, H1 d = none → Q (.ref C) (some d) (upd H1 d (.xd [(f, x)]))) I h) fun us s1 hh => ?_) he rfl
  obtain ⟨vs, H1, I1, r1, v, ev, q1⟩ := hh
  subst ev
  refine ⟨I1.kIn, ?_⟩
  obtain ⟨v', rfl, rv⟩ := vals1 r1
  show wpAny _ _ (call (.ref C) [v']) _ _ _
  have hlim := I1.nolimit
  obtain ⟨mb, b1, b2⟩ := I1.mod.blt
  obtain ⟨hp, g, dr, tk, os⟩ := s1
  refine wpAny_call (two_made T I1.kIn hlim (I1.mod.glob.keeps I1.bk) gS (b1.keeps I1.bk) ((b2 _ (by decide)).trans (by first | rfl | kernel_rfl)) (by have := hr.dp; omega) fun h' tk' e d M => ?_)
  show MkP X pins σ Q (.ref e) ⟨h', g, dr, tk', os⟩
  obtain ⟨oe, fv, hoe, hc, hd', hdat, h1⟩ := M.obj
  have hns := M.ns
  obtain ⟨G', g1, g2⟩ := restrict h' fun b => decide (b ≠ e)
  have gk : ∀ b, b ≠ e → G'.get? b = h'.get? b := fun b hb => g1 b (decide_eq_true hb)
  have ge : G'.get? e = none := g2 e (by simp)
  have old : ∀ b o, hp.get? b = some o → G'.get? b = some o := fun b o q => (gk b (Nat.ne_of_lt (Nat.lt_of_lt_of_le (Heap.lt_size q) M.new))).trans (M.keep b o q)
  have ob : ObjOk X.prog X.w (upd H1 d (.xd [(f, v)])) G' d (.xd [(f, v)]) := ⟨_, hns.at (fun o q => (gk d M.dne).trans q), fun g => relO_two rv⟩
  have J : Inv X pins σ (upd H1 d (.xd [(f, v)])) ⟨G', g, dr, tk', os⟩ := I1.laid (t' := tk') old M.dbig ob
  refine ⟨e, oe, fv, ⟨G', g, dr, tk', os⟩, _, .ref C, some d, rfl, J, fun b o q => ?_, ge, hoe, ⟨hc, hd'⟩, hdat, h1, ?_, rfl, I1.bare, raises_own T.exC T.tyC, q1 d (I1.hok.fresh M.dbig)⟩
  · by_cases hb : b = e
    · have q' : G'.get? b = some o := q
      rw [hb, ge] at q'; cases q'
    · exact (gk b hb).symm.trans q
  · rw [upd_ne (Ne.symm M.dne)]
    exact I1.hok.fresh M.new
end
end Pv
end
section
set_option maxRecDepth 100000
set_option maxHeartbeats 4000000
/-! PvMk: the making of errors. -/
namespace Pv
open PySem PySem.Spec PyProof.Rows L2
section
variable {X : Cx} {C : Addr} {bmB : List Value} {B newId initId : String}
/-- X(), X without an __init__ of its own -/
theorem pmk_bare {x : Str} {p pos : Pos} (F : ExcBaseFacts B newId initId bmB) (q : PySem.W.excIn X.K C bmB newId = true) (gC : X.mg x = some (.ref C)) (kC : PySem.W.keepIn X.K (.ref C) = true) (r : Raises X (.ref C)) (hg : Gl X x) (hd : (x == ("__debug__" : Str)) = false) :
    PMk X (.Call (.Name x p) [] [] pos) (fun _ H Q => Q (.ref C) none H) := by
  intro pins s σ H Q I h
  refine wpAny_Call_Name_kw (ld_glob I hg gC ?_ hd)
  refine PySem.W.callWith_K0 I.kIn kC ?_
  show wpAny _ _ (call (.ref C) []) _ _ _
  obtain ⟨bm, N, nm, qn, bs, hdct, sn, sub, ab, col, dd, k0, k1, k2, k3, k5, mN, atC, ns, noI, tail⟩ := exc_obj I.kIn q
  exact wpAny_call_exc_subT F tail atC ns noI (fun h' e made => mk_of I made r h (I.hok.gone made.new)) (Nat.zero_le _)
end
end Pv
end
section
/-! PvEval: a small code for Python defs and its evaluator over plain data (PyData), without a heap. A slot holds (k, d): d the value, k how many levels of lists in it are the slot's own. -/
namespace Pv
open PySem
abbrev D := PyData
abbrev Env := List (Option (Nat × D))
/-- an exception: the class by its number, its field -/
structure Exn where
  cls : Nat
  val : Option D
inductive Res where
  | ok (env : Env) (k : Nat) (d : D)
  | exc (env : Env) (x : Exn)
  | bad
inductive ResL where
  | ok (env : Env) (l : List (Nat × D))
  | exc (env : Env) (x : Exn)
  | bad
/-- a call's arguments: none where a slot is lent -/
inductive ResA where
  | ok (env : Env) (l : Env)
  | exc (env : Env) (x : Exn)
  | bad
/-- what a call gives: value, the parameters that are handed back -/
inductive CRes where
  | ok (k : Nat) (d : D) (out : Option (Nat × D))
  | exc (x : Exn)
  | bad
inductive O1 where
  | len | neg | inv | abs | int | str | list | tuple | sorted | sum | min | max | all | any | isNone | notNone | isList | listRng | tupRng | revButLast | isInt | isBool | isTup | isStr | isSeq | isBoolStr | dict | lenSet | sortedSet | rev | fld (x : Str) | self (c : Nat) (m : Str)
  deriving DecidableEq
inductive O2 where
  | add | sub | mul | fdiv | mod | pow | band | bor | bxor | shl | shr | eq | ne | lt | le | gt | ge | isin | notin | ix | index | count | min2 | max2 | eqSet | neSet | listZip | join | split | is | symLen
  deriving DecidableEq
inductive O3 where
  | slice | min3
  deriving DecidableEq
inductive Mu where
  | append | extend | insert | pop | popAt | remove | clear
  deriving DecidableEq
/-- targets of plain names -/
inductive G where
  | name (i : Nat)
  | tup (gs : List G)
inductive Sk where
  | val | rng1 | rng2 | enum | zip2 | zip3
  deriving DecidableEq
mutual
inductive E where
  | var (i : Nat) | peek (i : Nat) | mov (i : Nat)
  | cst (d : D)
  | gcst (x : Str) (d : D)
  | tup (es : Es) | lst (es : Es) | dct1 (es : Es)
  | op1 (o : O1) (a : E) | op2 (o : O2) (a b : E) | op3 (o : O3) (a b c : E)
  | and (a b : E) | or (a b : E) | not (a : E) | one (a : E)
  | orT (a b : E)
  | ite (t a b : E)
  | chain (o p : O2) (a b c : E)
  | fn (x : Str) (f : Nat)
  | callV (e : E) (es : Es)
  | call (f : Nat) (es : Es) (io : Option (Nat × Nat))
  | new (c : Nat) (f : Nat) (es : Es)
  | meth (f : Nat) (c : Nat) (m : Str) (o : E) (es : Es)
  | mut (m : Mu) (i : Nat) (path : Es) (es : Es)
  | lc (own : List Nat) (g : G) (sk : Sk) (src : Es) (ifs : Es) (elt : E)
  | lcP (own : List Nat) (i : Nat) (g : G) (sk : Sk) (ifs : Es) (elt : E)
  | lc2 (own own2 : List Nat) (g : G) (sk : Sk) (src : Es) (ifs : Es) (g2 : G) (sk2 : Sk) (src2 : Es) (ifs2 : Es) (elt : E)
inductive Es where
  | nil
  | cons (e : E) (r : Es)
end
/-- what an except suite makes: a list of constants, the error's field, whether it is of a built-in class -/
inductive Hi where
  | cst (d : D) | field (x : Str) | isa (x : String)
/-- except C as e: slot = [..] -/
structure Hc where
  cls : Nat
  as : Option Nat
  to : Nat
  its : List Hi
mutual
inductive S where
  | asg (g : G) (e : E)
  | asgTS (i : Nat) (ix : E) (g : G) (e : E)
  | setIx (i : Nat) (path : Es) (ix : E) (e : E)
  | setD (i : Nat) (ix : E) (e : E)
  | setF (i : Nat) (x : Str) (e : E)
  | aug (i : Nat) (o : O2) (e : E)
  | augIx (i : Nat) (ix : E) (o : O2) (e : E)
  | ife (t : E) (a b : Ss)
  | while (t : E) (b : Ss)
  | for (g : G) (sk : Sk) (src : Es) (b : Ss)
  | ret (e : E) | retN | brk | cnt | pass
  | expr (e : E)
  | raise (cls : Nat) (es : Es)
  | try (b : Ss) (hs : List Hc)
inductive Ss where
  | nil
  | cons (s : S) (r : Ss)
end
/-- a def: how many slots, its parameters that are handed back, its body -/
structure Fn where
  live : Bool
  np : Nat
  slots : Nat
  out : Option Nat
  body : Ss

/-- a def as a value -/
def fnD (f : Nat) : D := .dict [(.none, .int f)]
/-- an object of an own class -/
def objD (c : Nat) (kvs : List (D × D)) : D := .dict ((.none, .tuple [.int c]) :: kvs)
/-! ### operations on data -/
def atom : D → Bool
  | .list _ => false
  | .tuple _ => false
  | .dict _ => false
  | _ => true
mutual
/-- no list, no dict within -/
def flat : D → Bool
  | .list _ => false
  | .dict _ => false
  | .tuple xs => flatL xs
  | _ => true
def flatL : List D → Bool
  | [] => true
  | x :: r => flat x && flatL r
end
/-- nothing of it is shared that may be changed -/
def inner : D → Bool
  | .list xs => flatL xs
  | .dict _ => false
  | .tuple xs => flatL xs
  | _ => true
def lv : D → Nat
  | .list _ => 1
  | .dict _ => 1
  | .tuple _ => 0
  | _ => 9
def lv1 : O1 → D → Nat
  | .fld _, _ => 0
  | .self _ _, _ => 0
  | _, r => lv r
def lv2 : O2 → D → Nat
  | .ix, _ => 0
  | _, r => lv r
def items : D → Option (List D)
  | .list xs => some xs
  | .tuple xs => some xs
  | .dict kvs => some (kvs.map (·.1))
  | _ => none
def seqOf : D → Option (List D)
  | .list xs => some xs
  | .tuple xs => some xs
  | _ => none
def intsL : List D → Option (List Int)
  | [] => some []
  | .int i :: r => (intsL r).map (i :: ·)
  | _ => none
def boolsL : List D → Option (List Bool)
  | [] => some []
  | .bool b :: r => (boolsL r).map (b :: ·)
  | _ => none
def findKey (kvs : List (D × D)) (k : D) : Option D := match kvs with
  | [] => none
  | (q, v) :: r => if PyData.eqv q k then some v else findKey r k
def isKey : D → Bool
  | .int _ => true
  | .str _ => true
  | _ => false
/-- a key of the kind that the dict has -/
def keyOk (kvs : List (D × D)) : D → Bool
  | .tuple ks => ks.all isKey && (match kvs with
    | (.tuple _, _) :: _ => true
    | _ => false)
  | k => isKey k && (match kvs with
    | (q, _) :: _ => isKey q
    | [] => true)
def putKey (kvs : List (D × D)) (k v : D) : List (D × D) := match kvs with
  | [] => [(k, v)]
  | (q, u) :: r => if PyData.eqv q k then (q, v) :: r else (q, u) :: putKey r k v
/-- how often a key stands there -/
def cntK (kvs : List (D × D)) (k : D) : Nat := match kvs with
  | [] => 0
  | (q, _) :: r => if PyData.eqv q k then cntK r k + 1 else cntK r k
def memD (x : D) : List D → Bool
  | [] => false
  | y :: r => PyData.eqv y x || memD x r
def idxD (x : D) : List D → Nat → Option Nat
  | [], _ => none
  | y :: r, n => if PyData.eqv y x then some n else idxD x r (n + 1)
def cntD (x : D) : List D → Nat
  | [] => 0
  | y :: r => (if PyData.eqv y x then 1 else 0) + cntD x r
def pairsOf : List D → Option (List (D × D))
  | [] => some []
  | .tuple [a, b] :: r => (pairsOf r).map ((a, b) :: ·)
  | _ => none
def cutD (xs : List D) (lo hi : Option Int) : List D := (xs.drop (HT.sIx xs.length 0 lo)).take (HT.sIx xs.length xs.length hi - HT.sIx xs.length 0 lo)
def partD : D → Option (Option Int)
  | .none => some none
  | .int i => some (some i)
  | _ => none
def szOk (n : Nat) : Bool := decide (n ≤ 16777216)
def lay : D → Bool
  | .none => true
  | .bool _ => true
  | .int _ => true
  | a => SeqAt.shaped a
def rngL (lo : Int) : Nat → List D
  | 0 => []
  | n + 1 => .int lo :: rngL (lo + 1) n
def enumL : Nat → List D → List D
  | _, [] => []
  | n, x :: r => .tuple [.int n, x] :: enumL (n + 1) r
def zipL : List D → List D → List D
  | x :: xs, y :: ys => .tuple [x, y] :: zipL xs ys
  | _, _ => []
def zipL3 : List D → List D → List D → List D
  | x :: xs, y :: ys, z :: zs => .tuple [x, y, z] :: zipL3 xs ys zs
  | _, _, _ => []
def minI : Int → List Int → Int
  | m, [] => m
  | m, x :: r => minI (if x < m then x else m) r
def maxI : Int → List Int → Int
  | m, [] => m
  | m, x :: r => maxI (if x > m then x else m) r
/-- a dict, not a def -/
def dOk : List (D × D) → Bool
  | (.none, _) :: _ => false
  | _ => true
def lenD : D → Option D
  | .list xs => some (.int xs.length)
  | .tuple xs => some (.int xs.length)
  | .dict xs => if dOk xs then some (.int xs.length) else none
  | .str s => if szOk s.length then some (.int s.length) else none
  | _ => none
def intD : D → Option D
  | .int i => some (.int i)
  | .bool b => some (.int (if b then 1 else 0))
  | _ => none
def un1 (f : Int → Int) : D → Option D
  | .int i => some (.int (f i))
  | _ => none
def strD : D → Option D
  | .int i => if i.natAbs.log2 < 1920 then some (.str (toString i)) else none
  | _ => none
def listD : D → Option D
  | .list xs => some (.list xs)
  | .tuple xs => some (.list xs)
  | _ => none
def tupD : D → Option D
  | .list xs => some (.tuple xs)
  | .tuple xs => some (.tuple xs)
  | _ => none
def minD : D → Option D
  | .list xs => (intsL xs).bind fun ns => match ns with
    | [] => none
    | m :: r => some (.int (minI m r))
  | .tuple xs => (intsL xs).bind fun ns => match ns with
    | [] => none
    | m :: r => some (.int (minI m r))
  | _ => none
def maxD : D → Option D
  | .list xs => (intsL xs).bind fun ns => match ns with
    | [] => none
    | m :: r => some (.int (maxI m r))
  | .tuple xs => (intsL xs).bind fun ns => match ns with
    | [] => none
    | m :: r => some (.int (maxI m r))
  | _ => none
def sumD : D → Option D
  | .list xs => (intsL xs).map fun ns => .int ns.sum
  | .tuple xs => (intsL xs).map fun ns => .int ns.sum
  | _ => none
def allD : D → Option D
  | .list xs => (boolsL xs).map fun bs => .bool (bs.all id)
  | _ => none
def anyD : D → Option D
  | .list xs => (boolsL xs).map fun bs => .bool (bs.any id)
  | _ => none
inductive Kd where
  | non | bool | int | str | list | tuple | dict
  deriving DecidableEq
def kd : D → Kd
  | .none => .non
  | .bool _ => .bool
  | .int _ => .int
  | .str _ => .str
  | .list _ => .list
  | .tuple _ => .tuple
  | .dict _ => .dict
/-- isinstance of built-in classes: bool is under int -/
def isaK (k : Kd) (t : Kd) : Bool := decide (k = t) || (decide (k = .bool) && decide (t = .int))
def isaD (ts : List Kd) (d : D) : Option D := match d with
  | .dict kvs => if dOk kvs then some (.bool (ts.any (isaK .dict))) else none
  | _ => some (.bool (ts.any (isaK (kd d))))
def tupKey : D → Bool
  | .tuple ks => ks.all isKey
  | _ => false
def dictD : D → Option D
  | .list xs => (pairsOf xs).bind fun ps => if ps.all (fun p => isKey p.1) || ps.all (fun p => tupKey p.1) then some (.dict (ps.foldl (fun kvs p => putKey kvs p.1 p.2) [])) else none
  | _ => none
def revD : D → Option D
  | .list xs => some (.list xs.reverse)
  | .tuple xs => some (.tuple xs.reverse)
  | _ => none
def revBD : D → Option D
  | .list xs => some (.list xs.dropLast.reverse)
  | _ => none
def lrngD : D → Option D
  | .int j => if szOk j.toNat && decide (-1000000000 ≤ j) then some (.list (rngL 0 j.toNat)) else none
  | _ => none
def trngD : D → Option D
  | .int j => if szOk j.toNat && decide (-1000000000 ≤ j) then some (.tuple (rngL 0 j.toNat)) else none
  | _ => none
/-- into a row that goes up -/
def insI (x : Int) : List Int → List Int
  | [] => [x]
  | y :: r => if x ≤ y then x :: y :: r else y :: insI x r
def sortI : List Int → List Int
  | [] => []
  | x :: r => insI x (sortI r)
def leP (p q : Int × Int) : Bool := decide (p.1 < q.1) || (decide (p.1 = q.1) && decide (p.2 ≤ q.2))
def insP (x : Int × Int) : List (Int × Int) → List (Int × Int)
  | [] => [x]
  | y :: r => if leP x y then x :: y :: r else y :: insP x r
def sortP : List (Int × Int) → List (Int × Int)
  | [] => []
  | x :: r => insP x (sortP r)
def pairsI : List D → Option (List (Int × Int))
  | [] => some []
  | .tuple [.int a, .int b] :: r => (pairsI r).map ((a, b) :: ·)
  | _ => none
def pairD (p : Int × Int) : D := .tuple [.int p.1, .int p.2]
/-- rows of ints -/
def rowsI : List D → Option (List (List Int))
  | [] => some []
  | .tuple xs :: r => (match intsL xs with
    | some ns => (rowsI r).map (ns :: ·)
    | none => none)
  | _ => none
def rowD (ns : List Int) : D := .tuple (ns.map .int)
def leR : List Int → List Int → Bool
  | [], _ => true
  | _ :: _, [] => false
  | x :: r, y :: t => decide (x < y) || (decide (x = y) && leR r t)
/-- (int, row of ints) -/
def nestI : List D → Option (List (Int × List Int))
  | [] => some []
  | .tuple [.int a, .tuple xs] :: r => (match intsL xs with
    | some ns => (nestI r).map ((a, ns) :: ·)
    | none => none)
  | _ => none
def nestD (p : Int × List Int) : D := .tuple [.int p.1, .tuple (p.2.map .int)]
def leN (p q : Int × List Int) : Bool := decide (p.1 < q.1) || (decide (p.1 = q.1) && leR p.2 q.2)
def insB {α : Type} (le : α → α → Bool) (x : α) : List α → List α
  | [] => [x]
  | y :: r => if le x y then x :: y :: r else y :: insB le x r
def sortB {α : Type} (le : α → α → Bool) : List α → List α
  | [] => []
  | x :: r => insB le x (sortB le r)
/-- what is there, once -/
def dist {α : Type} [BEq α] : List α → List α
  | [] => []
  | x :: r => if r.contains x then dist r else x :: dist r
/-- a dict's keys in order, rows -/
def sortKeysD : List (D × D) → Option D
  | [] => some (.list [])
  | p :: ps => (rowsI ((p :: ps).map (·.1))).bind fun rs => if rs.all (fun r => !r.isEmpty) then some (.list ((sortB leR rs).map rowD)) else none
def sortedD (d : D) : Option D := match d with
  | .dict kvs => sortKeysD kvs
  | _ => (seqOf d).bind fun xs => match intsL xs with
    | some ns => some (.list ((sortI ns).map .int))
    | none => (match d with
      | .list _ => (match pairsI xs with
        | some ps => some (.list ((sortP ps).map pairD))
        | none => (rowsI xs).bind fun rs => if rs.all (fun r => !r.isEmpty) then some (.list ((sortB leR rs).map rowD)) else none)
      | _ => none)
def lenRows (xs : List D) : Option D := if decide (xs.length ≤ 76) then (rowsI xs).map fun rs => .int (dist rs).length else none
def lenSetD : D → Option D
  | .list xs => (match intsL xs with
    | some ns => if decide (ns.length ≤ 4000) then some (.int (dist ns).length) else none
    | none => lenRows xs)
  | .tuple xs => lenRows xs
  | _ => none
def sortedSetD : D → Option D
  | .list xs => if decide (xs.length ≤ 76) then (match rowsI xs with
      | some rs => if rs.all (fun r => !r.isEmpty) then some (.list ((sortB leR (dist rs)).map rowD)) else none
      | none => (nestI xs).map fun rs => .list ((sortB leN (dist rs)).map nestD)) else none
  | _ => none
def findFld (x : Str) : List (D × D) → Option D
  | [] => none
  | (.str y, v) :: r => if y = x then some v else findFld x r
  | _ :: r => findFld x r
def fldD (x : Str) : D → Option D
  | .dict ((.none, .tuple [.int _]) :: kvs) => findFld x kvs
  | _ => none
def selfD (c : Nat) (m : Str) : D → Option D
  | .dict ((.none, .tuple [.int i]) :: kvs) => if decide (i = c) && (findFld m kvs).isNone then some (.dict ((.none, .tuple [.int i]) :: kvs)) else none
  | _ => none
def isND (d : D) : Option D := some (.bool (decide (kd d = .non)))
def notND (d : D) : Option D := some (.bool (!decide (kd d = .non)))
def ap1 : O1 → D → Option D
  | .len => lenD
  | .neg => un1 fun i => -i
  | .inv => un1 Builtin.bitNot
  | .abs => un1 fun i => if i < 0 then -i else i
  | .int => intD
  | .str => strD
  | .list => listD
  | .tuple => tupD
  | .sorted => sortedD
  | .sum => sumD
  | .min => minD
  | .max => maxD
  | .all => allD
  | .any => anyD
  | .isNone => isND
  | .notNone => notND
  | .isInt => isaD [.int]
  | .isBool => isaD [.bool]
  | .isTup => isaD [.tuple]
  | .isStr => isaD [.str]
  | .isList => isaD [.list]
  | .isSeq => isaD [.list, .tuple]
  | .isBoolStr => isaD [.bool, .str]
  | .listRng => lrngD
  | .tupRng => trngD
  | .revButLast => revBD
  | .dict => dictD
  | .lenSet => lenSetD
  | .sortedSet => sortedSetD
  | .rev => revD
  | .fld x => fldD x
  | .self c m => selfD c m
def addD : D → D → Option D
  | .int i, .int j => some (.int (i + j))
  | .int i, .bool b => some (.int (i + PyProof.Rows.b2i b))
  | .list xs, .list ys => if szOk (xs.length + ys.length) then some (.list (xs ++ ys)) else none
  | .tuple xs, .tuple ys => if szOk (xs.length + ys.length) then some (.tuple (xs ++ ys)) else none
  | .str x, .str y => if szOk (x.length + y.length) then some (.str (x ++ y)) else none
  | _, _ => none
def bin2 (ok : Int → Int → Bool) (f : Int → Int → Int) : D → D → Option D
  | .int i, .int j => if ok i j then some (.int (f i j)) else none
  | _, _ => none
def mulOk (i j : Int) : Bool := decide (-(2 ^ 64) < i ∧ i < 2 ^ 64) || decide (-(2 ^ 64) < j ∧ j < 2 ^ 64)
def mulD : D → D → Option D
  | .int i, .int j => if mulOk i j then some (.int (i * j)) else none
  | .list xs, .int j => if decide (-1000000 ≤ j ∧ j ≤ 1000000) && szOk (xs.length * j.toNat) then some (.list (List.replicate j.toNat xs).flatten) else none
  | .tuple xs, .int j => if !xs.isEmpty && decide (2 ≤ j ∧ j ≤ 1000) && decide (xs.length ≤ 1000) then some (.tuple (List.replicate j.toNat xs).flatten) else none
  | _, _ => none
def powOk (i j : Int) : Bool := decide (0 ≤ j ∧ j ≤ 1000000 ∧ i.natAbs < 2 ^ 64)
def eqOp (a b : D) : Option D := if lay a && lay b then some (.bool (PyData.eqv a b)) else none
def neOp (a b : D) : Option D := if lay a && lay b then some (.bool (!PyData.eqv a b)) else none
def ltOp : D → D → Option D
  | .int i, .int j => some (.bool (decide (i < j)))
  | .tuple xs, .tuple ys => (intsL xs).bind fun ns => (intsL ys).map fun ms => .bool (HT.lexLt ns ms)
  | _, _ => none
def cmpI (f : Int → Int → Bool) : D → D → Option D
  | .int i, .int j => some (.bool (f i j))
  | _, _ => none
def inD (x : D) : D → Option Bool
  | .list xs => if lay x && lay (.list xs) then some (memD x xs) else none
  | .tuple xs => if lay x && lay (.tuple xs) then some (memD x xs) else none
  | .dict kvs => if keyOk kvs x then some (findKey kvs x).isSome else none
  | _ => none
def ixD : D → D → Option D
  | .list xs, .int i => L2.atI xs i
  | .tuple xs, .int i => L2.atI xs i
  | .dict kvs, k => if keyOk kvs k then findKey kvs k else none
  | _, _ => none
def indexD (d x : D) : Option D := match d with
  | .list xs => if lay x && lay (.list xs) then (idxD x xs 0).map fun (n : Nat) => PyData.int (n : Int) else none
  | _ => none
/-- len(set(a) ^ set(b)) -/
def symD (a b : D) : Option D := (seqOf a).bind fun xs => (seqOf b).bind fun ys => (intsL xs).bind fun ns => (intsL ys).map fun ms => .int (((dist ns).filter fun n => !ms.contains n).length + ((dist ms).filter fun n => !ns.contains n).length)
def ap2 : O2 → D → D → Option D
  | .add => addD
  | .sub => bin2 (fun _ _ => true) fun i j => i - j
  | .mul => mulD
  | .fdiv => bin2 (fun _ j => decide (0 < j ∧ j < 1073741824)) fun i j => i / j
  | .mod => bin2 (fun _ j => decide (0 < j)) fun i j => i % j
  | .pow => bin2 powOk fun i j => i ^ j.toNat
  | .band => bin2 (fun _ _ => true) Builtin.bitAnd
  | .bor => bin2 (fun _ _ => true) Builtin.bitOr
  | .bxor => bin2 (fun _ _ => true) Builtin.bitXor
  | .shl => bin2 powOk fun i j => i * 2 ^ j.toNat
  | .shr => bin2 (fun _ j => decide (0 ≤ j)) fun i j => i / 2 ^ j.toNat
  | .eq => eqOp
  | .ne => neOp
  | .lt => ltOp
  | .le => cmpI fun i j => decide (i ≤ j)
  | .gt => cmpI fun i j => decide (j < i)
  | .ge => cmpI fun i j => decide (j ≤ i)
  | .isin => fun x d => (inD x d).map .bool
  | .notin => fun x d => (inD x d).map fun b => .bool (!b)
  | .ix => ixD
  | .index => indexD
  | .count => fun d x => (seqOf d).map fun xs => .int (cntD x xs)
  | .min2 => bin2 (fun _ _ => true) fun i j => if j < i then j else i
  | .max2 => bin2 (fun _ _ => true) fun i j => if j > i then j else i
  | .listZip => fun a b => (items a).bind fun xs => (items b).map fun ys => .list (zipL xs ys)
  | .symLen => symD
  | _ => fun _ _ => none
def sliceD (d lo hi : D) : Option D := match d with
  | .list xs => (partD lo).bind fun lo => (partD hi).map fun hi => .list (cutD xs lo hi)
  | .tuple xs => (partD lo).bind fun lo => (partD hi).map fun hi => .tuple (cutD xs lo hi)
  | _ => none
def min3D : D → D → D → Option D
  | .int i, .int j, .int k => some (.int (let m := if j < i then j else i; if k < m then k else m))
  | _, _, _ => none
def ap3 : O3 → D → D → D → Option D
  | .slice => sliceD
  | .min3 => min3D

/-! ### the environment -/
def getS : Env → Nat → Option (Nat × D)
  | [], _ => none
  | o :: _, 0 => o
  | _ :: r, i + 1 => getS r i
def putS : Env → Nat → Option (Nat × D) → Env
  | [], _, _ => []
  | _ :: r, 0, v => v :: r
  | o :: r, i + 1, v => o :: putS r i v
def clearS : Env → List Nat → Env
  | env, [] => env
  | env, i :: r => clearS (putS env i none) r
/-- the slots is as they stand in old -/
def backS (old : Env) : Env → List Nat → Env
  | env, [] => env
  | env, i :: r => backS old (putS env i (getS old i)) r
def freezeS (env : Env) (i : Nat) : Env := match getS env i with
  | some (0, _) => env
  | some (_, d) => putS env i (some (0, d))
  | none => env
mutual
def bindG : G → Nat → D → Env → Option Env
  | .name i, k, d, env => some (putS env i (some (k, d)))
  | .tup gs, k, .tuple ds, env => bindGs gs k ds env
  | .tup _, _, _, _ => none
def bindGs : List G → Nat → List D → Env → Option Env
  | [], _, [], env => some env
  | g :: gs, k, d :: ds, env => (match bindG g k d env with
    | some env => bindGs gs k ds env
    | none => none)
  | _, _, _, _ => none
end
/-- several, each with its own level -/
def bindP : List G → List (Nat × D) → Env → Option Env
  | [], [], env => some env
  | g :: gs, (k, d) :: ds, env => (match bindG g k d env with
    | some env => bindP gs ds env
    | none => none)
  | _, _, _ => none
def rngOk (j : Int) : Bool := decide (-(2 ^ 62) ≤ j ∧ j < 2 ^ 62)
def srcL : Sk → List D → Option (List D)
  | .val, [d] => seqOf d
  | .rng1, [.int j] => if rngOk j then some (rngL 0 j.toNat) else none
  | .rng2, [.int i, .int j] => if rngOk i && rngOk j then some (rngL i (j - i).toNat) else none
  | .enum, [.list xs] => some (enumL 0 xs)
  | .enum, [.tuple xs] => some (enumL 0 xs)
  | .zip2, [a, b] => (seqOf a).bind fun xs => (seqOf b).map fun ys => zipL xs ys
  | .zip3, [a, b, c] => (seqOf a).bind fun xs => (seqOf b).bind fun ys => (seqOf c).map fun zs => zipL3 xs ys zs
  | _, _ => none
/-- a list that is the slot's own, changed in place: its new level, its items, what the call gives -/
def mutL : Mu → Nat → List D → List (Nat × D) → Option (Nat × List D × Nat × D)
  | .append, k, xs, [(ke, e)] => if szOk (xs.length + 1) then some (min k ke, xs ++ [e], 9, .none) else none
  | .extend, _, xs, [(_, .list ys)] => if szOk (xs.length + ys.length) then some (0, xs ++ ys, 9, .none) else none
  | .insert, k, xs, [(_, .int 0), (ke, e)] => if szOk (xs.length + 1) then some (min k ke, e :: xs, 9, .none) else none
  | .popAt, k, xs, [(_, .int i)] => if decide (0 ≤ i ∧ i < 2 ^ 62) then (match xs[i.toNat]? with
    | some e => some (k, xs.eraseIdx i.toNat, k, e)
    | none => none) else none
  | _, _, _, _ => none
def minK : List (Nat × D) → Nat
  | [] => 9
  | (k, _) :: r => min k (minK r)

/-! ### the evaluator -/
def lvl (k : Nat) (d : D) : Nat := if atom d then 9 else k
/-- a peeked operand, read again -/
def again (x : E) (env : Env) (k : Nat) (d : D) : Option (Nat × D) := match x with
  | .peek i => getS env i
  | _ => some (k, d)
/-- a part of a slice: left out, or an int -/
def partOk (x : E) (d : D) : Bool := match d with
  | .int _ => true
  | .none => (match x with
    | .cst .none => true
    | _ => false)
  | _ => false
def sideOk (o : O2) (k : Nat) (d : D) : Bool := match o, d with
  | .mul, .list _ => decide (0 < k)
  | _, _ => true
/-- what the first operand must be ahead of the second -/
def preOk (o : O2) (d : D) : Bool := match o, d with
  | .index, .list _ => true
  | .index, _ => false
  | _, _ => true
/-- a result of level k shares nothing that may be changed -/
def shareOk (k : Nat) (r : D) : Bool := if k = 0 then flat r else inner r
/-- a peeked operand that a result shares: frozen -/
def keepO (x : E) (env : Env) (k : Nat) (sh : Bool) : Env := match x, k with
  | _, 0 => env
  | .peek i, _ => if sh then env else freezeS env i
  | _, _ => env
/-- more code: what a def does, at the level below -/
abbrev Calls := Nat → Env → CRes
/-- the inout argument (its place, its slot), from the slot; back into it -/
def insIo (env : Env) (l : Env) : Option (Nat × Nat) → Option (Env × Env)
  | none => some (env, l)
  | some (p, i) => (match getS env i with
    | some v => some (putS env i none, putS l p (some v))
    | none => none)
def putIo (env : Env) : Option (Nat × Nat) → Option (Nat × D) → Option Env
  | none, none => some env
  | some (_, i), some v => some (putS env i (some v))
  | _, _ => none
/-- items, one by one, for a comprehension -/
def lcLoop (own : List Nat) (g : G) (tst elt : Env → Res) : List D → Env → List (Nat × D) → ResL
  | [], env, acc => .ok env acc.reverse
  | x :: r, env, acc => match bindG g 0 x env with
    | none => .bad
    | some env1 => match tst env1 with
      | .ok env2 _ (.bool false) => lcLoop own g tst elt r (clearS env2 own) acc
      | .ok env2 _ (.bool true) => (match elt env2 with
        | .ok env3 k d => lcLoop own g tst elt r (clearS env3 own) ((lvl k d, d) :: acc)
        | _ => .bad)
      | _ => .bad
def lcLoop2 (own : List Nat) (g : G) (tst : Env → Res) (inner : Env → List (Nat × D) → ResL) : List D → Env → List (Nat × D) → ResL
  | [], env, acc => .ok env acc.reverse
  | x :: r, env, acc => match bindG g 0 x env with
    | none => .bad
    | some env1 => match tst env1 with
      | .ok env2 _ (.bool false) => lcLoop2 own g tst inner r (clearS env2 own) acc
      | .ok env2 _ (.bool true) => (match inner env2 acc with
        | .ok env3 acc' => lcLoop2 own g tst inner r (clearS env3 own) acc'.reverse
        | _ => .bad)
      | _ => .bad
/-- an operand: a slot that is looked at, or a value -/
def opd (x : E) (env : Env) (r : Res) : Res := match x with
  | .peek i => (match getS env i with
    | some (k, d) => .ok env k d
    | none => .bad)
  | _ => r
section
variable (C : Calls)
mutual
def evE : E → Env → Res
  | .var i, env => (match getS env i with
    | some (0, d) => .ok env 0 d
    | some (k, d) => if atom d then .ok env 9 d else .ok (putS env i (some (0, d))) 0 d
    | none => .bad)
  | .peek _, _ => .bad
  | .mov i, env => (match getS env i with
    | some (k, d) => .ok (putS env i none) k d
    | none => .bad)
  | .cst d, env => .ok env 9 d
  | .gcst _ d, env => if atom d then .ok env 9 d else .bad
  | .tup es, env => (match evL es env with
    | .ok env l => .ok env (minK l) (.tuple (l.map (·.2)))
    | .exc e x => .exc e x
    | .bad => .bad)
  | .lst es, env => (match evL es env with
    | .ok env l => .ok env (1 + minK l) (.list (l.map (·.2)))
    | .exc e x => .exc e x
    | .bad => .bad)
  | .dct1 es, env => (match evL es env with
    | .ok env [(_, q), (k, d)] => if isKey q || tupKey q then .ok env (1 + k) (.dict [(q, d)]) else .bad
    | .exc e x => .exc e x
    | _ => .bad)
  | .op1 o a, env => (match opd a env (evE a env) with
    | .ok env1 k d => (match ap1 o d with
      | some r => if atom r then .ok env1 9 r else .ok (keepO a env1 k (shareOk (lv1 o r) r)) (lv1 o r) r
      | none => .bad)
    | .exc e x => .exc e x
    | .bad => .bad)
  | .op2 o a b, env => (match opd a env (evE a env) with
    | .ok env1 k d => if preOk o d then (match opd b env1 (evE b env1) with
      | .ok env2 k2 d2 => (match again a env2 k d with
        | none => .bad
        | some (k, d) => (match (if sideOk o k d then ap2 o d d2 else none) with
          | some r => if atom r then .ok env2 9 r else .ok (keepO b (keepO a env2 k (shareOk (lv2 o r) r)) k2 (shareOk (lv2 o r) r)) (lv2 o r) r
          | none => .bad))
      | .exc e x => .exc e x
      | .bad => .bad) else .bad
    | .exc e x => .exc e x
    | .bad => .bad)
  | .op3 o a b c, env => (match opd a env (evE a env) with
    | .ok env1 k d => (match opd b env1 (evE b env1) with
      | .ok env2 k2 d2 => if partOk b d2 then (match opd c env2 (evE c env2) with
        | .ok env3 k3 d3 => (match again a env3 k d with
          | none => .bad
          | some (k, d) => (match (if partOk c d3 then ap3 o d d2 d3 else none) with
            | some r => if atom r then .ok env3 9 r else .ok (keepO a env3 k (shareOk (lv r) r)) (lv r) r
            | none => .bad))
        | .exc e x => .exc e x
        | .bad => .bad) else .bad
      | .exc e x => .exc e x
      | .bad => .bad)
    | .exc e x => .exc e x
    | .bad => .bad)
  | .and a b, env => (match opd a env (evE a env) with
    | .ok env _ (.bool true) => evE b env
    | .ok env _ (.bool false) => .ok env 9 (.bool false)
    | .exc e x => .exc e x
    | _ => .bad)
  | .or a b, env => (match opd a env (evE a env) with
    | .ok env _ (.bool true) => .ok env 9 (.bool true)
    | .ok env _ (.bool false) => evE b env
    | .exc e x => .exc e x
    | _ => .bad)
  | .not a, env => (match opd a env (evE a env) with
    | .ok env _ (.bool b) => .ok env 9 (.bool (!b))
    | .exc e x => .exc e x
    | _ => .bad)
  | .one a, env => (match opd a env (evE a env) with
    | .ok env _ d => if atom d then .ok env 9 d else .bad
    | .exc e x => .exc e x
    | .bad => .bad)
  | .orT a b, env => (match evE a env with
    | .ok env k (.list []) => evE b env
    | .ok env k (.list (x :: r)) => .ok env k (.list (x :: r))
    | .exc e x => .exc e x
    | _ => .bad)
  | .ite t a b, env => (match opd t env (evE t env) with
    | .ok env _ (.bool true) => evE a env
    | .ok env _ (.bool false) => evE b env
    | .exc e x => .exc e x
    | _ => .bad)
  | .chain o p a b c, env => (match opd a env (evE a env) with
    | .ok env1 _ d => (match opd b env1 (evE b env1) with
      | .ok env2 _ d2 => (match (if atom d && atom d2 then ap2 o d d2 else none) with
        | some (.bool true) => (match opd c env2 (evE c env2) with
          | .ok env3 _ d3 => (match (if atom d3 then ap2 p d2 d3 else none) with
            | some (.bool r) => .ok env3 9 (.bool r)
            | _ => .bad)
          | .exc e x => .exc e x
          | .bad => .bad)
        | some (.bool false) => .ok env2 9 (.bool false)
        | _ => .bad)
      | .exc e x => .exc e x
      | .bad => .bad)
    | .exc e x => .exc e x
    | .bad => .bad)
  | .fn _ f, env => .ok env 0 (fnD f)
  | .callV e es, env => (match evE e env with
    | .ok env _ (.dict [(.none, .int (.ofNat f))]) => (match evA es env with
      | .ok env l => (match C f l with
        | .ok k d none => .ok env k d
        | .exc x => .exc env x
        | _ => .bad)
      | .exc e x => .exc e x
      | .bad => .bad)
    | .exc e x => .exc e x
    | _ => .bad)
  | .call f es io, env => (match evA es env with
    | .ok env l => (match insIo env l io with
      | some (env, l) => (match C f l with
        | .ok k d out => (match putIo env io out with
          | some env => .ok env k d
          | none => .bad)
        | .exc x => (match io with
          | none => .exc env x
          | _ => .bad)
        | .bad => .bad)
      | none => .bad)
    | .exc e x => .exc e x
    | .bad => .bad)
  | .new c f es, env => (match evA es env with
    | .ok env l => (match C f (some (9, objD c []) :: l) with
      | .ok _ .none (some (k, d)) => .ok env k d
      | .exc x => .exc env x
      | _ => .bad)
    | .exc e x => .exc e x
    | .bad => .bad)
  | .meth f c m o es, env => (match opd o env (evE o env) with
    | .ok env1 k d => (match selfD c m d with
      | some r => (match evA es (keepO o env1 k (shareOk 0 r)) with
        | .ok env l => (match C f (some (0, r) :: l) with
          | .ok k d none => .ok env k d
          | .exc x => .exc env x
          | _ => .bad)
        | .exc e x => .exc e x
        | .bad => .bad)
      | none => .bad)
    | .exc e x => .exc e x
    | .bad => .bad)
  | .mut m i .nil es, env => (match getS env i with
    | some (_, .list _) => (match evL es env with
      | .ok env l => (match getS env i with
        | some (k + 1, .list xs) => (match mutL m k xs l with
          | some (j, ys, kr, r) => .ok (putS env i (some (j + 1, .list ys))) (lvl kr r) r
          | none => .bad)
        | _ => .bad)
      | .exc e x => .exc e x
      | .bad => .bad)
    | _ => .bad)
  | .mut m i (.cons p _) es, env => (match getS env i with
    | none => .bad
    | some _ => (match opd p env (evE p env) with
      | .ok env _ (.int a) => (match getS env i with
        | some (k + 2, .list xs) => (match L2.ixN xs.length a with
          | some n => (match xs[n]? with
            | some (.list ys) => (match evL es (putS env i none) with
              | .ok env l => (match mutL m k ys l with
                | some (j, zs, kr, r) => if j = k then .ok (putS env i (some (k + 2, .list (xs.set n (.list zs))))) (lvl kr r) r else .bad
                | none => .bad)
              | .exc e x => .exc e x
              | .bad => .bad)
            | _ => .bad)
          | none => .bad)
        | _ => .bad)
      | .exc e x => .exc e x
      | _ => .bad))
  | .lcP own i g sk ifs elt, env => (match getS env i with
    | some (k0, d) => if inner d && !own.contains i then (match srcL sk [d] with
      | some xs => (match lcLoop own g (fun env => evT ifs env) (fun env => evE elt env) xs (clearS (putS env i none) own) [] with
        | .ok env2 acc => if szOk acc.length && (getS (clearS env2 own) i).isNone then .ok (putS (clearS env2 own) i (some (k0, d))) (1 + minK acc) (.list (acc.map (·.2))) else .bad
        | _ => .bad)
      | none => .bad) else .bad
    | none => .bad)
  | .lc own g sk src ifs elt, env => (match evL src env with
    | .ok env1 l => (match srcL sk (l.map (·.2)) with
      | some xs => (match lcLoop own g (fun env => evT ifs env) (fun env => evE elt env) xs (clearS env1 own) [] with
        | .ok env2 acc => if szOk acc.length then .ok (clearS env2 own) (1 + minK acc) (.list (acc.map (·.2))) else .bad
        | _ => .bad)
      | none => .bad)
    | .exc e x => .exc e x
    | .bad => .bad)
  | .lc2 own own2 g sk src ifs g2 sk2 src2 ifs2 elt, env => (match evL src env with
    | .ok env1 l => (match srcL sk (l.map (·.2)) with
      | some xs => (match lcLoop2 own g (fun env => evT ifs env) (fun env acc => (match evL src2 env with
          | .ok env l2 => (match srcL sk2 (l2.map (·.2)) with
            | some ys => lcLoop own2 g2 (fun env => evT ifs2 env) (fun env => evE elt env) ys (clearS env own2) acc
            | none => .bad)
          | .exc e x => .exc e x
          | .bad => .bad)) xs (clearS env1 own) [] with
        | .ok env2 acc => if szOk acc.length then .ok (clearS env2 own) (1 + minK acc) (.list (acc.map (·.2))) else .bad
        | _ => .bad)
      | none => .bad)
    | .exc e x => .exc e x
    | .bad => .bad)
/-- arguments, from the left -/
def evL : Es → Env → ResL
  | .nil, env => .ok env []
  | .cons e r, env => (match evE e env with
    | .ok env1 k d => (match evL r env1 with
      | .ok env2 l => .ok env2 ((lvl k d, d) :: l)
      | .exc e x => .exc e x
      | .bad => .bad)
    | .exc e x => .exc e x
    | .bad => .bad)
/-- a call's arguments: an inout one is a slot that is looked at later -/
def evA : Es → Env → ResA
  | .nil, env => .ok env []
  | .cons (.peek i) r, env => (match getS env i with
    | some _ => (match evA r env with
      | .ok env2 l => .ok env2 (none :: l)
      | .exc e x => .exc e x
      | .bad => .bad)
    | none => .bad)
  | .cons e r, env => (match evE e env with
    | .ok env1 k d => (match evA r env1 with
      | .ok env2 l => .ok env2 (some (lvl k d, d) :: l)
      | .exc e x => .exc e x
      | .bad => .bad)
    | .exc e x => .exc e x
    | .bad => .bad)
/-- tests, all of them -/
def evT : Es → Env → Res
  | .nil, env => .ok env 9 (.bool true)
  | .cons e r, env => (match opd e env (evE e env) with
    | .ok env _ (.bool true) => evT r env
    | .ok env _ (.bool false) => .ok env 9 (.bool false)
    | .exc e x => .exc e x
    | _ => .bad)
end
end

/-! ### statements -/
inductive SR where
  | nx (env : Env) | ret (env : Env) (k : Nat) (d : D) | brk (env : Env) | cnt (env : Env) | exc (env : Env) (x : Exn) | bad
def forLoop (g : G) (body : Env → SR) : List D → Env → SR
  | [], env => .nx env
  | x :: r, env => match bindG g 0 x env with
    | none => .bad
    | some env => match body env with
      | .nx env => forLoop g body r env
      | .cnt env => forLoop g body r env
      | .brk env => .nx env
      | y => y
def whLoop (tst : Env → Res) (body : Env → SR) : Nat → Env → SR
  | 0, _ => .bad
  | n + 1, env => match tst env with
    | .ok env _ (.bool false) => .nx env
    | .ok env _ (.bool true) => (match body env with
      | .nx env => whLoop tst body n env
      | .cnt env => whLoop tst body n env
      | .brk env => .nx env
      | y => y)
    | .exc env x => .exc env x
    | _ => .bad
/-- a[ix] = e, a a list that is the slot's own -/
def setIxS (env : Env) (i : Nat) (ix : D) (ke : Nat) (e : D) : SR := match getS env i, ix with
  | some (k + 1, .list xs), .int a => (match L2.ixN xs.length a with
    | some n => .nx (putS env i (some (min k (lvl ke e) + 1, .list (xs.set n e))))
    | none => .bad)
  | _, _ => .bad
/-- d[key] = e, d a dict that is the slot's own -/
def setDS (env : Env) (i : Nat) (key : D) (ke : Nat) (e : D) : SR := match getS env i with
  | some (k + 1, .dict kvs) => if dOk kvs && (kvs.isEmpty && (isKey key || tupKey key) || keyOk kvs key) && decide (cntK kvs key ≤ 1) && szOk (kvs.length + 1) then .nx (putS env i (some (min k (lvl ke e) + 1, .dict (putKey kvs key e)))) else .bad
  | _ => .bad
/-- in its place, or behind all -/
def putFld (x : Str) (e : D) : List (D × D) → List (D × D)
  | [] => [(.str x, e)]
  | (.str y, v) :: r => if y = x then (.str y, e) :: r else (.str y, v) :: putFld x e r
  | p :: r => p :: putFld x e r
/-- o.x = e, o an object that is the slot's own -/
def setFS (env : Env) (i : Nat) (x : Str) (ke : Nat) (e : D) : SR := match getS env i with
  | some (k + 1, .dict ((.none, .tuple [.int c]) :: kvs)) => if decide (kvs.length < 1000) then .nx (putS env i (some (min k (lvl ke e) + 1, .dict ((.none, .tuple [.int c]) :: putFld x e kvs)))) else .bad
  | _ => .bad
/-- the classes: what built-in class each is under -/
abbrev Clss := List String
def hItems (cs : Clss) (x : Exn) : List Hi → Option (List D)
  | [] => some []
  | .cst d :: r => (hItems cs x r).map (d :: ·)
  | .field _ :: r => (match x.val with
    | some v => (hItems cs x r).map (v :: ·)
    | none => none)
  | .isa b :: r => (match cs[x.cls]? with
    | some c => if b = c then (hItems cs x r).map (.bool true :: ·) else none
    | none => none)
/-- the clause's name has a slot of its own -/
def asOk (env : Env) (h : Hc) : Bool := match h.as with
  | some i => decide (i < env.length) && decide (i ≠ h.to) && decide (h.its.length ≤ 100)
  | none => false
def handle (cs : Clss) (env : Env) (x : Exn) : List Hc → SR
  | [] => .exc env x
  | h :: r => if h.cls = x.cls then (if asOk env h then (match hItems cs x h.its with
      | some ds => .nx (putS (env.map fun _ => none) h.to (some (1, .list ds)))
      | none => .bad) else .bad)
    else handle cs env x r
section
variable (C : Calls) (cs : Clss) (wf : Nat)
mutual
def evS : S → Env → SR
  | .asg (.tup gs) (.tup es), env => (match evL C es env with
    | .ok env l => (match bindP gs l env with
      | some env => .nx env
      | none => .bad)
    | .exc e x => .exc e x
    | .bad => .bad)
  | .asg g e, env => (match evE C e env with
    | .ok env k d => (match bindG g k d env with
      | some env => .nx env
      | none => .bad)
    | .exc e x => .exc e x
    | .bad => .bad)
  | .asgTS i ix g e, env => (match getS env i with
    | none => .bad
    | some _ => (match evE C e env with
      | .ok env k (.tuple [a, b]) => (match opd ix env (evE C ix env) with
        | .ok env _ j => (match setIxS env i j k a with
          | .nx env => (match bindG g k b env with
            | some env => .nx env
            | none => .bad)
          | _ => .bad)
        | .exc e x => .exc e x
        | .bad => .bad)
      | .exc e x => .exc e x
      | _ => .bad))
  | .setIx i .nil ix e, env => (match getS env i with
    | none => .bad
    | some _ => (match evE C e env with
      | .ok env ke d => (match opd ix env (evE C ix env) with
        | .ok env _ j => setIxS env i j ke d
        | .exc e x => .exc e x
        | .bad => .bad)
      | .exc e x => .exc e x
      | .bad => .bad))
  | .setIx _ _ _ _, _ => .bad
  | .setD i ix e, env => (match getS env i with
    | none => .bad
    | some _ => (match evE C e env with
      | .ok env ke d => (match opd ix env (evE C ix env) with
        | .ok env _ j => setDS env i j ke d
        | .exc e x => .exc e x
        | .bad => .bad)
      | .exc e x => .exc e x
      | .bad => .bad))
  | .setF i x e, env => (match evE C e env with
    | .ok env ke d => setFS env i x ke d
    | .exc e x => .exc e x
    | .bad => .bad)
  | .aug i .add e, env => (match getS env i with
    | none => .bad
    | some _ => (match opd e env (evE C e env) with
      | .ok env _ (.int b) => (match getS env i with
        | some (_, .int a) => .nx (putS env i (some (9, .int (a + b))))
        | _ => .bad)
      | .exc e x => .exc e x
      | _ => .bad))
  | .aug _ _ _, _ => .bad
  | .augIx i ix .add e, env => (match getS env i with
    | none => .bad
    | some _ => (match opd ix env (evE C ix env) with
      | .ok env _ (.int a) => (match getS env i with
        | some (_, .list xs) => (match (if decide (0 ≤ a) then xs[a.toNat]? else none) with
          | some (.int old) => (match opd e env (evE C e env) with
            | .ok env _ (.int b) => setIxS env i (.int a) 9 (.int (old + b))
            | .exc e x => .exc e x
            | _ => .bad)
          | _ => .bad)
        | _ => .bad)
      | .exc e x => .exc e x
      | _ => .bad))
  | .augIx _ _ _ _, _ => .bad
  | .ife t a b, env => (match opd t env (evE C t env) with
    | .ok env _ (.bool true) => evSs a env
    | .ok env _ (.bool false) => evSs b env
    | .exc e x => .exc e x
    | _ => .bad)
  | .while t b, env => whLoop (fun env => opd t env (evE C t env)) (fun env => evSs b env) wf env
  | .for g sk src b, env => (match evL C src env with
    | .ok env l => (match srcL sk (l.map (·.2)) with
      | some xs => forLoop g (fun env => evSs b env) xs env
      | none => .bad)
    | .exc e x => .exc e x
    | .bad => .bad)
  | .ret e, env => (match evE C e env with
    | .ok env k d => .ret env k d
    | .exc e x => .exc e x
    | .bad => .bad)
  | .retN, env => .ret env 9 .none
  | .brk, env => .brk env
  | .cnt, env => .cnt env
  | .pass, env => .nx env
  | .expr e, env => (match evE C e env with
    | .ok env _ _ => .nx env
    | .exc e x => .exc e x
    | .bad => .bad)
  | .raise c .nil, env => .exc env ⟨c, none⟩
  | .raise c (.cons e .nil), env => (match evE C e env with
    | .ok env _ d => .exc env ⟨c, some d⟩
    | .exc e x => .exc e x
    | .bad => .bad)
  | .raise _ _, _ => .bad
  | .try b hs, env => (match evSs b env with
    | .exc _ x => handle cs env x hs
    | y => y)
def evSs : Ss → Env → SR
  | .nil, env => .nx env
  | .cons s r, env => (match evS s env with
    | .nx env => evSs r env
    | y => y)
end
end
def noneS : Nat → Env
  | 0 => []
  | n + 1 => none :: noneS n
def startS (l : Env) (n : Nat) : Env := l ++ noneS (n - l.length)
def endOf (out : Option Nat) : SR → CRes
  | .ret env k d => (match out with
    | none => .ok k d none
    | some i => (match getS env i with
      | some v => .ok k d (some v)
      | none => .bad))
  | .nx env => (match out with
    | none => .ok 9 .none none
    | some i => (match getS env i with
      | some v => .ok 9 .none (some v)
      | none => .bad))
  | .exc _ x => .exc x
  | _ => .bad
/-- the defs of a text, by numbers; n: how many calls may stand in one another -/
def callN (tb : List Fn) (cs : Clss) (wf : Nat) : Nat → Calls
  | 0 => fun _ _ => .bad
  | n + 1 => fun f l => match tb[f]? with
    | some fn => if fn.live && decide (l.length = fn.np) then endOf fn.out (evSs (callN tb cs wf n) cs wf fn.body (startS l fn.slots)) else .bad
    | none => .bad
end Pv
end
section
set_option maxRecDepth 100000
set_option maxHeartbeats 4000000
/-! PvTab: what is known of a text. -/
namespace Pv
open PySem PySem.Spec PyProof.Rows L2
/-- what is known of the text: its defs, how many arguments, what is handed back; its constants; its classes -/
structure Tab where
  defs : List Str
  out : List (Option Nat)
  csts : List (Str × D)
  clss : List Str
  own : List Str := []
  inits : List Nat := []
  meths : List (Nat × Nat × Str) := []
  flds : List Str := []
def bnames : List Str := ["len", "abs", "min", "max", "int", "str", "tuple", "list", "range", "enumerate", "zip", "sum", "all", "any", "isinstance", "sorted", "set", "dict", "bool", "ValueError", "LookupError"]
end Pv
end
section
set_option maxRecDepth 100000
set_option maxHeartbeats 4000000
/-! PvFact: what the head tells of a text's defs and classes. -/
namespace Pv
open PySem PySem.Spec PyProof.Rows L2
/-! ### arguments bind -/
theorem fm_congr {α β : Type} {f g : α → Option β} : ∀ {l : List α}, (∀ x ∈ l, f x = g x) → l.filterMap f = l.filterMap g
  | [], _ => rfl
  | x :: l, h => by
    rw [List.filterMap_cons, List.filterMap_cons, h x List.mem_cons_self, fm_congr fun y hy => h y (List.mem_cons_of_mem _ hy)]
theorem zip_lookup : ∀ {ps : List Str} {us : List Value}, us.length = ps.length → ps.Nodup → (ps.filterMap fun n => ((ps.zip us).lookup n).map (n, ·)) = ps.zip us ∧ ∀ n ∈ ps, ((ps.zip us).lookup n).isSome = true
  | [], [], _, _ => ⟨rfl, fun _ h => by cases h⟩
  | p :: ps, u :: us, hl, nd => by
    obtain ⟨n1, n2⟩ := List.nodup_cons.mp nd
    obtain ⟨i1, i2⟩ := zip_lookup (ps := ps) (us := us) (by simpa using hl) n2
    have no : ∀ n ∈ ps, (n == p) = false := fun n hn => by
      rw [beq_eq_false_iff_ne]
      exact fun z => n1 (z ▸ hn)
    have at_ : ∀ n ∈ ps, ((p :: ps).zip (u :: us)).lookup n = (ps.zip us).lookup n := fun n hn => by
      simp only [List.zip_cons_cons, List.lookup, no n hn]
    have at0 : ((p :: ps).zip (u :: us)).lookup p = some u := by simp [List.lookup]
    refine ⟨?_, fun n hn => ?_⟩
    · rw [List.filterMap_cons_some (b := (p, u)) (by rw [at0]; rfl), List.zip_cons_cons]
      congr 1
      exact (fm_congr fun n hn => by
        show Option.map _ (((p :: ps).zip (u :: us)).lookup n) = _
        rw [at_ n hn]).trans i1
    · rcases List.mem_cons.mp hn with rfl | hn
      · rw [at0]; rfl
      · rw [at_ n hn]; exact i2 n hn
/-- plain parameters, ps -/
def plainPs (a : Arguments) (ps : List Str) : Bool := a.posonlyargs.isEmpty && decide (a.args.map (·.arg) = ps) && a.kwonlyargs.isEmpty && a.vararg.isNone && a.kwarg.isNone && decide ps.Nodup
theorem bind_plain {fd : FuncData} {ps : List Str} (h : plainPs fd.params ps = true) (hd : fd.defaults = .none) {us : List Value} (hl : us.length = ps.length) : bindArgs fd ⟨us, []⟩ = pure (ps.zip us) := by
  simp only [plainPs, Bool.and_eq_true, List.isEmpty_iff, Option.isNone_iff_eq_none, decide_eq_true_eq] at h
  obtain ⟨⟨⟨⟨⟨h1, h2⟩, h3⟩, h4⟩, h5⟩, h6⟩ := h
  obtain ⟨z1, z2⟩ := zip_lookup hl h6
  have z3 : (ps.filter fun n => ((ps.zip us).lookup n).isNone) = [] := List.filter_eq_nil_iff.mpr fun n hn => by
    have := z2 n hn
    cases e : (ps.zip us).lookup n with
    | none => rw [e] at this; cases this
    | some _ => simp
  unfold bindArgs
  simp only [h1, h2, h3, h4, h5, hd, List.map_nil, List.nil_append, List.append_nil]
  have z0 : seqItems? Value.none = pure none := rfl
  simp [z0, hl, z3]
  exact congrArg pure z1
/-! ### the part of the heap that is looked at: no lists -/
def isLst (o : Obj) : Bool := match o.cls, o.data with
  | .type c, .seq _ _ => decide (c = "list")
  | _, _ => false
def frP (g : Addr → Option Obj) (as : List Addr) : PySem.W.Frag := (He.frG g as).filter fun q => !isLst q.2
theorem frP_mem {g : Addr → Option Obj} {as : List Addr} {a : Addr} {o : Obj} (h : (frP g as).lookup a = some o) : g a = some o ∧ isLst o = false := by
  obtain ⟨h1, h2⟩ := List.mem_filter.mp (He.lookup_mem h)
  exact ⟨He.frG_mem h1, by simpa using h2⟩
theorem frP_in {as : List Addr} {h : Heap} : (frP h.get? as).In h := fun _ _ e => (frP_mem e).1
def NoLst (K : PySem.W.Frag) : Prop := ∀ a o, K.lookup a = some o → isLst o = false
/-- what an object leads on to, as far as it is asked -/
def nxtA (o : Obj) : List Addr := match o.data with
  | .func fd => He.refV fd.code ++ fd.closure.map (·.2)
  | .cls cd => cd.ns :: cd.mro.flatMap He.refV
  | .dict es _ => es.toList.flatMap fun e => He.refV e.val
  | _ => []
def nxtL (g : Addr → Option Obj) (as : List Addr) : List Addr := as.flatMap fun a => match g a with
  | some o => nxtA o
  | none => []
/-- the module's names, what they stand for, their code and classes, the classes' own names and their code -/
def asP (g : Addr → Option Obj) : List Addr :=
  let l1 := nxtL g [mainGlobals]
  let l2 := nxtL g l1
  let l3 := nxtL g l2
  mainGlobals :: cStatics :: (l1 ++ (l2 ++ (l3 ++ nxtL g l3)))
abbrev AlP : Type := He.AlD × Bool
def obsP (fa : List He.Fa) (fn : List He.DefD) (ex : PySem.W.Frag → Bool) (g : Addr → Option Obj) : AlP := (He.obsD fa fn (frP g (asP g)), ex (frP g (asP g)))
def SaysP (fa : List He.Fa) (fn : List He.DefD) (ex : PySem.W.Frag → Bool) (K : PySem.W.Frag) : Prop := He.SaysD fa fn K ∧ ex K = true ∧ NoLst K
def hookP (fa : List He.Fa) (fn : List He.DefD) (ex : PySem.W.Frag → Bool) : PySem.W.Hook where
  α := AlP
  obs := fun s => obsP fa fn ex s.heap.get?
  val := fun _ => (He.valD fn, true)
  says := fun _ h => ∃ K : PySem.W.Frag, K.In h ∧ SaysP fa fn ex K
  of := fun _ h e => ⟨frP h.heap.get? (asP h.heap.get?), frP_in, congrArg (fun z : AlP => z.1) e, congrArg (fun z : AlP => z.2) e, fun _ _ q => (frP_mem q).2⟩
  keeps := fun _ _ _ ⟨K, hK, c⟩ k => ⟨K, PySem.W.Frag.In.keeps hK k, c⟩
theorem obsP_eq {fa : List He.Fa} {fn : List He.DefD} {ex : PySem.W.Frag → Bool} {g : Addr → Option Obj} {s : Shared} (h : ∀ a, g a = s.heap.get? a) : obsP fa fn ex g = (hookP fa fn ex).obs s := by
  have e : g = s.heap.get? := funext h
  rw [e]
  rfl
/-! ### the classes of errors -/
def fnameB (f : Str) : Bool := !(f == ("self" : Str)) && !(f == ("__class__" : Str)) && !(f == ("super" : Str)) && !(f == ("__debug__" : Str))
theorem fnameB_ok {f : Str} (h : fnameB f = true) : FName f := by
  simp only [fnameB, Bool.and_eq_true, Bool.not_eq_true'] at h
  exact ⟨h.1.1.1, h.1.1.2, h.1.2, h.2⟩
/-- the text of __init__, read -/
def initA (f : Str) : Arguments → Option (Pos × Pos)
  | ⟨[], [⟨x, none, p1⟩, ⟨y, none, p2⟩], none, [], [], none, []⟩ => if x = "self" ∧ y = f then some (p1, p2) else none
  | _ => none
def initB (f : Str) : FuncBody → Option IPos
  | .stmts [.Expr (.Call (.Attribute (.Call (.Name x a1) [] [] a2) m a3) [.Name y a4] [] a5) a6, .Assign [.Attribute (.Name z b1) g b2] (.Name u b3) b4] =>
    if (x = "super" ∧ m = "__init__" ∧ y = f) ∧ z = "self" ∧ g = f ∧ u = f then some ⟨a1, a2, a3, a4, a5, a6, b1, b2, b3, b4⟩ else none
  | _ => none
theorem initA_ok {f : Str} {a : Arguments} {p : Pos × Pos} (h : initA f a = some p) : a = iA f p.1 p.2 := by
  unfold initA at h
  split at h
  · split at h
    · rename_i e
      cases h
      obtain ⟨rfl, rfl⟩ := e
      rfl
    · cases h
  · cases h
theorem initB_ok {f : Str} {b : FuncBody} {q : IPos} (h : initB f b = some q) : b = .stmts (iB f q) := by
  unfold initB at h
  split at h
  · split at h
    · rename_i e
      cases h
      obtain ⟨⟨rfl, rfl, rfl⟩, rfl, rfl, rfl⟩ := e
      rfl
    · cases h
  · cases h
/-- the closure's cell holds the class -/
def cellB (K : PySem.W.Frag) (C : Addr) : List (Str × Addr) → Bool
  | [(n, cc)] => decide (n = "__class__") && (match K.lookup cc with
    | some ⟨_, _, .cell (some (.ref D)), _⟩ => decide (D = C)
    | _ => false)
  | _ => false
def fileB (P : Program) (K : PySem.W.Frag) (qn : Str) : Value → Bool
  | .ref c => PySem.W.codeIn K (.ref c) qn && (match K.lookup c with
    | some ⟨_, _, .fields vs, _⟩ => (match (show Option Value from vs[2]?) with
      | some (Value.str file _) => ((P.main.file : Str) == file)
      | _ => false)
    | _ => false)
  | _ => false
def isNo : Value → Bool
  | .none => true
  | _ => false
def fdB (P : Program) (K : PySem.W.Frag) (f : Str) (C : Addr) (fd : FuncData) : Bool := decide (fd.name = "__init__") && (initA f fd.params).isSome && (match initB f fd.body with
  | some q => q.a3.endLine == q.a5.line
  | none => false) && decide (fd.scope = iS f) && decide (fd.globals = mainGlobals) && decide (fd.builtins = builtinsNs) && isNo fd.defaults && isNo fd.kwdefaults && cellB K C fd.closure && fileB P K fd.qualname fd.code
theorem fdB_ok {P : Program} {K : PySem.W.Frag} {f : Str} {C : Addr} {fd : FuncData} (h : fdB P K f C fd = true) : ∃ (qn : Str) (doc pm : Value) (an : Option Addr) (cda : Addr) (ct : Value) (cc : Addr) (p1 p2 : Pos) (q : IPos) (oc2 oc3 : Value) (od2 od3 : Option Addr) (vs : Array Value) (sl2 sl3 : Array (Option Value)) (file : Str) (tf : Tok),
    fd = PySem.W.ksFn "__init__" qn (iA f p1 p2) (iB f q) (iS f) .none .none doc pm an (.ref cda) ct cc ∧ PySem.W.codeIn K (.ref cda) qn = true ∧ K.lookup cda = some ⟨oc2, od2, .fields vs, sl2⟩ ∧ vs[2]? = some (.str file tf) ∧
      ((P.main.file : Str) == file) = true ∧ (q.a3.endLine == q.a5.line) = true ∧ K.lookup cc = some ⟨oc3, od3, .cell (some (.ref C)), sl3⟩ := by
  obtain ⟨n1, n2, n3, n4, n5, n6, n7, n8, n9, n10, n11, n12, n13, n14, n15⟩ := fd
  simp only [fdB, Bool.and_eq_true, decide_eq_true_eq] at h
  obtain ⟨⟨⟨⟨⟨⟨⟨⟨⟨h1, h2⟩, h3⟩, h4⟩, h5⟩, h6⟩, h7⟩, h8⟩, h9⟩, h10⟩ := h
  obtain ⟨p, hp⟩ := Option.isSome_iff_exists.mp h2
  have e3 := initA_ok hp
  split at h3
  · rename_i q hq
    have e4 := initB_ok hq
    have e8 : n8 = .none := by cases n8 <;> first | rfl | cases h7
    have e9 : n9 = .none := by cases n9 <;> first | rfl | cases h8
    unfold cellB at h9
    split at h9
    · rename_i nm cc
      rw [Bool.and_eq_true] at h9
      obtain ⟨h91, h92⟩ := h9
      have e7 := of_decide_eq_true h91
      split at h92
      · rename_i oc3 od3 D sl3 lk3
        have eD := of_decide_eq_true h92
        unfold fileB at h10
        split at h10
        · rename_i cda
          rw [Bool.and_eq_true] at h10
          obtain ⟨k1, k2⟩ := h10
          split at k2
          · rename_i oc2 od2 vs sl2 lk2
            split at k2
            · rename_i file tf hv
              subst h1 e3 e4 h4 h5 h6 e8 e9 e7 eD
              exact ⟨n2, n10, n11, n12, cda, n14, cc, p.1, p.2, q, oc2, oc3, od2, od3, vs, sl2, sl3, file, tf, rfl, k1, lk2, hv, k2, h3, lk3⟩
            · cases k2
          · cases k2
        · cases h10
      · cases h92
    · cases h9
  · cases h3
/-- a class over LookupError with the field f, as the part of the heap has it -/
def twoB (P : Program) (K : PySem.W.Frag) (x f : Str) : Bool := fnameB f && PySem.W.excInitIn K (He.ga K x) lkB "LookupError.__new__" && PySem.W.excOver K (He.ga K x) lkB &&
  decide (PySem.W.findIn K (.ref (He.ga K x)) "__setattr__" = some (some (.builtin "object.__setattr__"))) && decide (PySem.W.takerIn K (He.ga K x) f = some none) && PySem.W.hasDictIn K (He.ga K x) &&
  decide (PySem.W.findIn K (.ref (He.ga K x)) "__init__" = some (some (.ref (He.ma K (He.ga K x) "__init__")))) && decide (PySem.W.typeIn K (.ref (He.ma K (He.ga K x) "__init__")) = some (.type "function")) && PySem.W.keepIn K (.ref (He.ga K x)) &&
  decide (PySem.W.subIn K (.ref (He.ga K x)) (.type "BaseException") = some true) && decide (PySem.W.typeIn K (.ref (He.ga K x)) = some (.type "type")) && decide (PySem.W.ks_superIn K (He.ga K x) (He.ga K x) "__init__" = some (some (.builtin "LookupError.__init__"))) &&
  decide (PySem.W.subIn K (.ref (He.ga K x)) (.type "LookupError") = some true) && decide (PySem.W.nsIn K cStatics "thirdparty.any" = some none) && decide (PySem.W.mroIn K (He.ga K x) (.ref (He.ga K x)) = some true) && !(P.main.scope.names.lookup ("super" : Str)).isSome &&
  (match K.lookup (He.ma K (He.ga K x) "__init__") with
    | some ⟨_, _, .func fd, _⟩ => fdB P K f (He.ga K x) fd
    | _ => false)
theorem twoB_ok {P : Program} {K : PySem.W.Frag} {x f : Str} (h : twoB P K x f = true) : TwoTxt P K f (He.ga K x) (He.ma K (He.ga K x) "__init__") := by
  simp only [twoB, Bool.and_eq_true, decide_eq_true_eq, Bool.not_eq_true'] at h
  obtain ⟨⟨⟨⟨⟨⟨⟨⟨⟨⟨⟨⟨⟨⟨⟨⟨h1, h2⟩, h3⟩, h4⟩, h5⟩, h6⟩, h7⟩, h8⟩, h9⟩, h10⟩, h11⟩, h12⟩, h13⟩, h14⟩, h15⟩, h16⟩, h17⟩ := h
  have FN := fnameB_ok h1
  refine ⟨FN, h2, h3, h4, h5, h6, h7, h8, h9, h10, h11, h12, h13, h14, h15, fun s qn doc pm an cd ct cc p1 p2 q u v => ?_, h16, ?_⟩
  · refine BindsTo.of_eq (bind_plain (ps := ["self", f]) ?_ rfl rfl)
    have ne : ¬ (("self" : Str) = f) := fun z => by
      have := FN.s
      rw [beq_eq_false_iff_ne] at this
      exact this z.symm
    simp [plainPs, iA, ne]
  · split at h17
    · rename_i oc od fd osl lk
      obtain ⟨qn, doc, pm, an, cda, ct, cc, p1, p2, q, oc2, oc3, od2, od3, vs, sl2, sl3, file, tf, rfl, k⟩ := fdB_ok h17
      exact ⟨oc, od, qn, doc, pm, an, cda, ct, cc, osl, p1, p2, q, oc2, oc3, od2, od3, vs, sl2, sl3, file, tf, lk, k⟩
    · cases h17
def clB (P : Program) (K : PySem.W.Frag) (x : Str) : Option Str → Bool
  | none => (He.Fa.exc x).ok K
  | some f => twoB P K x f && decide (PySem.W.findIn K (.ref (He.ga K x)) "__getattribute__" = some (some (.builtin "BaseException.__getattribute__"))) && decide (PySem.W.findIn K (.ref (He.ga K x)) "__getattr__" = some none) && decide (PySem.W.findIn K (.ref (He.ga K x)) f = some none)
def nmI (T : Tab) (i : Nat) : Str := (T.clss[i]?).getD ""
/-- all that is asked of the classes -/
def exB (P : Program) (T : Tab) (xn : Nat → Option Str) (cs : Clss) (K : PySem.W.Frag) : Bool := (List.range T.clss.length).all fun i => (He.Fa.glo (nmI T i)).ok K && !(nmI T i == ("__debug__" : Str)) && clB P K (nmI T i) (xn i) &&
  decide (PySem.W.kitOne K (.ref (He.ga K (nmI T i))) (.type ((cs[i]?).getD "")) = some true) && (List.range T.clss.length).all fun j => decide (PySem.W.exmOne K (.ref (He.ga K (nmI T j))) (.ref (He.ga K (nmI T i))) = some (decide (i = j)))
end Pv
end
section
set_option maxRecDepth 100000
set_option maxHeartbeats 4000000
/-! PvEx: what the head's Bool asks. -/
namespace Pv
open PySem PySem.Spec PyProof.Rows L2
/-- a run that is looked at twice -/
theorem two_runs {σ α β γ : Type} {o : Option σ} {f : σ → α} {g : σ → β} {h : σ → γ} {a : α} {b : β} {c : γ} (h1 : o.map (fun s => (f s, g s)) = some (a, b)) (h2 : o.map (fun s => h s) = some c) : o.map (fun s => (f s, g s, h s)) = some (a, b, c) := by
  cases o with
  | none => cases h1
  | some s =>
    have e1 : (f s, g s) = (a, b) := Option.some.inj h1
    have e2 : h s = c := Option.some.inj h2
    rw [Prod.mk.injEq] at e1
    show some (f s, g s, h s) = _
    rw [e1.1, e1.2, e2]
/-- a def of the text: its name, its statement, its slots, its code -/
structure Rw where
  x : Str
  st : Stmt
  N : List Str
  fn : Fn
  ow : Option Str := none
/-- where it stands, its name in full -/
def atOf (r : Rw) : Str × Option Str := match r.ow with
  | none => (r.x, none)
  | some z => (z, some r.x)
def qnOf (r : Rw) : Str := match r.ow with
  | none => r.x
  | some z => z ++ ("." ++ r.x)
def ddOf (r : Rw) : He.DefD := ⟨atOf r, r.x, qnOf r, defArgs r.st, defBody r.st, defScope r.st, [], []⟩
/-- the text's own classes: their methods among the defs -/
def ownAt (rws : List Rw) (f : Nat) (z m : Str) : Bool := match rws[f]? with
  | some r => decide (r.ow = some z) && decide (r.x = m)
  | none => false
def clsB (T : Tab) (rws : List Rw) (K : PySem.W.Frag) : Bool := T.own.all (fun x => (He.Fa.glo x).ok K && !(x == ("__debug__" : Str)) && (He.Fa.cls x).ok K && (He.Fa.mkr x).ok K && T.flds.all fun f => (He.Fa.noat x f).ok K) &&
  T.meths.all (fun (f, i, m) => match T.own[i]? with
    | some x => (He.Fa.meth x m).ok K && ownAt rws f x m
    | none => false) &&
  (List.range T.own.length).all fun i => match T.own[i]?, T.inits[i]? with
    | some x, some f => ownAt rws f x "__init__" && decide ((T.out[f]?).getD none = some 0)
    | _, none => true
    | _, _ => false
/-- the text's plain defs -/
def defB (T : Tab) (rws : List Rw) : Bool := (List.range T.defs.length).all fun i => match rws[i]?, T.defs[i]? with
  | some r, some x => decide (r.ow = none) && decide (r.x = x)
  | _, _ => false
def cstB (K : PySem.W.Frag) (p : Str × D) : Bool := !(p.1 == ("__debug__" : Str)) && (match p.2 with
  | .int i => (He.Fa.int p.1 i).ok K
  | .str z => (He.Fa.str p.1 z).ok K
  | _ => false)
/-- what the head's Bool asks -/
def exA (P : Program) (T : Tab) (rws : List Rw) (xn : Nat → Option Str) (cs : Clss) (K : PySem.W.Frag) : Bool := exB P T xn cs K && T.defs.all (fun x => (He.Fa.glo x).ok K && !(x == ("__debug__" : Str))) && bnames.all (fun x => (He.Fa.free x).ok K) && (He.Fa.free "super").ok K && T.csts.all (cstB K) && clsB T rws K
end Pv
end
section
set_option maxRecDepth 100000

set_option maxHeartbeats 4000000
/-! the code of the text k61, printed from its source. -/
namespace K61
open PySem PySem.Spec PyProof.Rows L2 Pv
abbrev Pr : Program := PySem.Challenge.pw_primewebs_k61_chains_primes_likenesses_l
def top (i : Nat) : Stmt := Pr.main.body.getD i (.Pass ⟨0, 0, 0, 0⟩)
def sub (i j : Nat) : Stmt := match top i with
  | .ClassDef _ _ _ b _ _ _ _ _ _ _ => b.getD j (.Pass ⟨0, 0, 0, 0⟩)
  | _ => .Pass ⟨0, 0, 0, 0⟩
/- is_number: thing -/
def f0 : Fn := ⟨true, 1, 1, none,
  (.cons (.ret (.and (.op1 .isInt (.peek 0)) (.one (.not (.op1 .isBool (.peek 0)))))) .nil)⟩
/- is_from: thing least -/
def f1 : Fn := ⟨true, 2, 2, none,
  (.cons (.ret (.and (.call 0 (.cons (.var 0) .nil) none) (.one (.op2 .ge (.peek 0) (.peek 1))))) .nil)⟩
/- is_within: thing least most -/
def f2 : Fn := ⟨true, 3, 3, none,
  (.cons (.ret (.and (.call 0 (.cons (.var 0) .nil) none) (.one (.chain .le .le (.peek 1) (.peek 0) (.peek 2))))) .nil)⟩
/- is_long: thing length -/
def f3 : Fn := ⟨true, 2, 2, none,
  (.cons (.ret (.and (.op1 .isTup (.peek 0)) (.one (.op2 .eq (.op1 .len (.peek 0)) (.peek 1))))) .nil)⟩
/- tupled: value own -/
def f4 : Fn := ⟨true, 1, 2, none,
  (.cons (.ret (.ite (.op1 .isSeq (.peek 0)) (.op1 .tuple (.lc [1] (.name 1) .val (.cons (.var 0) .nil) .nil (.call 4 (.cons (.var 1) .nil) none))) (.var 0))) .nil)⟩
/- ascends: row k -/
def f5 : Fn := ⟨true, 1, 2, none,
  (.cons (.ret (.op1 .all (.lc [1] (.name 1) .rng1 (.cons (.op2 .sub (.op1 .len (.peek 0)) (.cst (.int 1))) .nil) .nil (.op2 .lt (.op2 .ix (.peek 0) (.peek 1)) (.op2 .ix (.peek 0) (.op2 .add (.peek 1) (.cst (.int 1)))))))) .nil)⟩
/- are_numbers: thing own -/
def f6 : Fn := ⟨true, 1, 2, none,
  (.cons (.ret (.and (.op1 .isTup (.peek 0)) (.one (.op1 .all (.lc [1] (.name 1) .val (.cons (.var 0) .nil) .nil (.call 0 (.cons (.var 1) .nil) none)))))) .nil)⟩
/- is_set_below: thing many own -/
def f7 : Fn := ⟨true, 2, 3, none,
  (.cons (.ret (.and (.call 6 (.cons (.var 0) .nil) none) (.and (.call 5 (.cons (.var 0) .nil) none) (.one (.op1 .all (.lc [2] (.name 2) .val (.cons (.var 0) .nil) .nil (.chain .le .lt (.cst (.int 0)) (.peek 2) (.peek 1)))))))) .nil)⟩
/- are_unlike: thing many -/
def f8 : Fn := ⟨true, 2, 2, none,
  (.cons (.ret (.and (.call 6 (.cons (.var 0) .nil) none) (.one (.call 7 (.cons (.op1 .tuple (.op1 .sorted (.peek 0))) (.cons (.var 1) .nil)) none)))) .nil)⟩
/- is_tie_of: thing many -/
def f9 : Fn := ⟨true, 2, 2, none,
  (.cons (.ret (.and (.call 3 (.cons (.var 0) (.cons (.cst (.int 2)) .nil)) none) (.and (.call 2 (.cons (.op2 .ix (.peek 0) (.cst (.int 0))) (.cons (.cst (.int 0)) (.cons (.op2 .sub (.peek 1) (.cst (.int 1))) .nil))) none) (.one (.call 2 (.cons (.op2 .ix (.peek 0) (.cst (.int 1))) (.cons (.op2 .add (.op2 .ix (.peek 0) (.cst (.int 0))) (.cst (.int 1))) (.cons (.op2 .sub (.peek 1) (.cst (.int 1))) .nil))) none))))) .nil)⟩
/- is_web_of: thing tie -/
def f10 : Fn := ⟨true, 1, 2, none,
  (.cons (.ife (.or (.not (.call 3 (.cons (.var 0) (.cons (.cst (.int 2)) .nil)) none)) (.or (.not (.call 2 (.cons (.op2 .ix (.peek 0) (.cst (.int 0))) (.cons (.cst (.int 1)) (.cons (.gcst "MOST_PLACES" (.int 36)) .nil))) none)) (.one (.not (.op1 .isTup (.op2 .ix (.peek 0) (.cst (.int 1)))))))) (.cons (.ret (.cst (.bool false))) .nil) .nil) (.cons (.ife (.or (.op2 .gt (.op1 .len (.op2 .ix (.peek 0) (.cst (.int 1)))) (.gcst "MOST_TIES" (.int 150))) (.one (.not (.op1 .all (.lc [1] (.name 1) .val (.cons (.op2 .ix (.peek 0) (.cst (.int 1))) .nil) .nil (.call 9 (.cons (.var 1) (.cons (.op2 .ix (.peek 0) (.cst (.int 0))) .nil)) none)))))) (.cons (.ret (.cst (.bool false))) .nil) .nil) (.cons (.ret (.call 5 (.cons (.op2 .ix (.peek 0) (.cst (.int 1))) .nil) none)) .nil)))⟩
/- sure_web: web own -/
def f11 : Fn := ⟨true, 1, 2, none,
  (.cons (.asg (.name 1) (.call 4 (.cons (.var 0) .nil) none)) (.cons (.ife (.not (.call 10 (.cons (.var 1) .nil) none)) (.cons (.raise 5 .nil) .nil) .nil) (.cons (.ret (.mov 1)) .nil)))⟩
/- sure_number: place -/
def f12 : Fn := ⟨true, 1, 1, none,
  (.cons (.ife (.not (.call 0 (.cons (.var 0) .nil) none)) (.cons (.raise 5 .nil) .nil) .nil) (.cons (.ret (.mov 0)) .nil))⟩
/- sure_place: web place -/
def f13 : Fn := ⟨true, 2, 2, none,
  (.cons (.ife (.not (.chain .le .lt (.cst (.int 0)) (.peek 1) (.op2 .ix (.peek 0) (.cst (.int 0))))) (.cons (.raise 0 (.cons (.var 1) .nil)) .nil) .nil) (.cons (.ret (.mov 1)) .nil))⟩
/- sure_two: web place other one two -/
def f14 : Fn := ⟨true, 3, 5, none,
  (.cons (.asg (.tup [(.name 3), (.name 4)]) (.tup (.cons (.call 12 (.cons (.var 1) .nil) none) (.cons (.call 12 (.cons (.var 2) .nil) none) .nil)))) (.cons (.ret (.tup (.cons (.call 13 (.cons (.var 0) (.cons (.var 3) .nil)) none) (.cons (.call 13 (.cons (.var 0) (.cons (.var 4) .nil)) none) .nil)))) .nil))⟩
/- sure_pair: tie many own -/
def f15 : Fn := ⟨true, 2, 3, none,
  (.cons (.asg (.name 2) (.call 4 (.cons (.var 0) .nil) none)) (.cons (.ife (.not (.call 9 (.cons (.var 2) (.cons (.var 1) .nil)) none)) (.cons (.raise 5 .nil) .nil) .nil) (.cons (.ret (.mov 2)) .nil)))⟩
/- sure_tie: web tie -/
def f16 : Fn := ⟨true, 2, 2, none,
  (.cons (.ife (.op2 .notin (.peek 1) (.op2 .ix (.peek 0) (.cst (.int 1)))) (.cons (.raise 1 (.cons (.var 1) .nil)) .nil) .nil) (.cons (.ret (.mov 1)) .nil))⟩
/- made: many ties pair -/
def f17 : Fn := ⟨true, 2, 3, none,
  (.cons (.ret (.tup (.cons (.var 0) (.cons (.op1 .tuple (.op1 .sortedSet (.lc [2] (.name 2) .val (.cons (.var 1) .nil) .nil (.tup (.cons (.op1 .min (.peek 2)) (.cons (.op1 .max (.peek 2)) .nil)))))) .nil)))) .nil)⟩
/- near_of: web found one two place own -/
def f18 : Fn := ⟨true, 1, 6, none,
  (.cons (.asg (.name 1) (.lc [4] (.name 4) .rng1 (.cons (.op2 .ix (.peek 0) (.cst (.int 0))) .nil) .nil (.lst .nil))) (.cons (.for (.tup [(.name 2), (.name 3)]) .val (.cons (.op2 .ix (.peek 0) (.cst (.int 1))) .nil) (.cons (.expr (.mut .append 1 (.cons (.var 2) .nil) (.cons (.var 3) .nil))) (.cons (.expr (.mut .append 1 (.cons (.var 3) .nil) (.cons (.var 2) .nil))) .nil))) (.cons (.ret (.lc [5] (.name 5) .val (.cons (.var 1) .nil) .nil (.op1 .sorted (.peek 5)))) .nil)))⟩
/- far_from: near place found row later own next_one -/
def f19 : Fn := ⟨true, 2, 7, none,
  (.cons (.asg (.name 2) (.op2 .mul (.lst (.cons (.cst .none) .nil)) (.op1 .len (.peek 0)))) (.cons (.asgTS 2 (.peek 1) (.name 3) (.tup (.cons (.cst (.int 0)) (.cons (.lst (.cons (.var 1) .nil)) .nil)))) (.cons (.while (.op2 .ne (.peek 3) (.lst .nil)) (.cons (.asg (.name 4) (.lst .nil)) (.cons (.for (.name 5) .val (.cons (.var 3) .nil) (.cons (.for (.name 6) .val (.cons (.op2 .ix (.peek 0) (.peek 5)) .nil) (.cons (.ife (.op1 .isNone (.op2 .ix (.peek 2) (.peek 6))) (.cons (.setIx 2 .nil (.peek 6) (.op2 .add (.op2 .ix (.peek 2) (.peek 5)) (.cst (.int 1)))) (.cons (.expr (.mut .append 4 .nil (.cons (.var 6) .nil))) .nil)) .nil) .nil)) .nil)) (.cons (.asg (.name 3) (.var 4)) .nil)))) (.cons (.ret (.mov 2)) .nil))))⟩
/- distances_of: web near place -/
def f20 : Fn := ⟨true, 1, 3, none,
  (.cons (.asg (.name 1) (.call 18 (.cons (.var 0) .nil) none)) (.cons (.ret (.lc [2] (.name 2) .rng1 (.cons (.op2 .ix (.peek 0) (.cst (.int 0))) .nil) .nil (.call 19 (.cons (.var 1) (.cons (.var 2) .nil)) none))) .nil))⟩
/- has_one_part: web -/
def f21 : Fn := ⟨true, 1, 1, none,
  (.cons (.ret (.op2 .notin (.cst .none) (.call 19 (.cons (.call 18 (.cons (.var 0) .nil) none) (.cons (.cst (.int 0)) .nil)) none))) .nil)⟩
/- sure_joined: web -/
def f22 : Fn := ⟨true, 1, 1, none,
  (.cons (.ife (.not (.call 21 (.cons (.var 0) .nil) none)) (.cons (.raise 3 .nil) .nil) .nil) (.cons (.ret (.mov 0)) .nil))⟩
/- sure_whole: web -/
def f23 : Fn := ⟨true, 1, 1, none,
  (.cons (.ret (.call 22 (.cons (.call 11 (.cons (.var 0) .nil) none) .nil) none)) .nil)⟩
/- parts_of: web near left found far place -/
def f24 : Fn := ⟨true, 1, 6, none,
  (.cons (.asg (.tup [(.name 1), (.name 2), (.name 3)]) (.tup (.cons (.call 18 (.cons (.var 0) .nil) none) (.cons (.op1 .listRng (.op2 .ix (.peek 0) (.cst (.int 0)))) (.cons (.lst .nil) .nil))))) (.cons (.while (.op2 .ne (.peek 2) (.lst .nil)) (.cons (.asg (.name 4) (.call 19 (.cons (.var 1) (.cons (.op2 .ix (.peek 2) (.cst (.int 0))) .nil)) none)) (.cons (.expr (.mut .append 3 .nil (.cons (.op1 .tuple (.lc [5] (.name 5) .val (.cons (.var 2) .nil) (.cons (.op1 .notNone (.op2 .ix (.peek 4) (.peek 5))) .nil) (.var 5))) .nil))) (.cons (.asg (.name 2) (.lc [5] (.name 5) .val (.cons (.var 2) .nil) (.cons (.op1 .isNone (.op2 .ix (.peek 4) (.peek 5))) .nil) (.var 5))) .nil)))) (.cons (.ret (.mov 3)) .nil)))⟩
/- is_webs_of: thing own -/
def f25 : Fn := ⟨true, 1, 2, none,
  (.cons (.ife (.or (.not (.op1 .isTup (.peek 0))) (.one (.op2 .gt (.op1 .len (.peek 0)) (.gcst "MOST_WEBS" (.int 36))))) (.cons (.ret (.cst (.bool false))) .nil) .nil) (.cons (.ret (.op1 .all (.lc [1] (.name 1) .val (.cons (.var 0) .nil) .nil (.and (.call 10 (.cons (.var 1) .nil) none) (.one (.call 21 (.cons (.var 1) .nil) none)))))) .nil))⟩
/- all_rows: sizes found size row own -/
def f26 : Fn := ⟨true, 1, 5, none,
  (.cons (.asg (.name 1) (.lst (.cons (.tup .nil) .nil))) (.cons (.for (.name 2) .val (.cons (.var 0) .nil) (.cons (.asg (.name 1) (.lc2 [3, 4] [4] (.name 3) .val (.cons (.var 1) .nil) .nil (.name 4) .rng1 (.cons (.var 2) .nil) .nil (.op2 .add (.peek 3) (.tup (.cons (.var 4) .nil))))) .nil)) (.cons (.ret (.mov 1)) .nil)))⟩
/- places_in: webs found web -/
def f27 : Fn := ⟨true, 1, 3, none,
  (.cons (.asg (.name 1) (.cst (.int 1))) (.cons (.for (.name 2) .val (.cons (.var 0) .nil) (.cons (.asg (.name 1) (.op2 .mul (.peek 1) (.op2 .ix (.peek 2) (.cst (.int 0))))) .nil)) (.cons (.ret (.mov 1)) .nil)))⟩
/- ties_in: webs many web -/
def f28 : Fn := ⟨true, 1, 3, none,
  (.cons (.asg (.name 1) (.call 27 (.cons (.var 0) .nil) none)) (.cons (.ret (.op1 .sum (.lc [2] (.name 2) .val (.cons (.var 0) .nil) .nil (.op2 .fdiv (.op2 .mul (.op1 .len (.op2 .ix (.peek 2) (.cst (.int 1)))) (.peek 1)) (.op2 .ix (.peek 2) (.cst (.int 0))))))) .nil))⟩
/- product_of: webs rows row numbers ties at web one two number -/
def f29 : Fn := ⟨true, 1, 10, none,
  (.cons (.asg (.name 1) (.call 26 (.cons (.lc [6] (.name 6) .val (.cons (.var 0) .nil) .nil (.op2 .ix (.peek 6) (.cst (.int 0)))) .nil) none)) (.cons (.asg (.tup [(.name 3), (.name 4)]) (.tup (.cons (.op1 .dict (.lc [2, 9] (.tup [(.name 9), (.name 2)]) .enum (.cons (.var 1) .nil) .nil (.tup (.cons (.var 2) (.cons (.var 9) .nil))))) (.cons (.lst .nil) .nil)))) (.cons (.for (.name 2) .val (.cons (.var 1) .nil) (.cons (.for (.tup [(.name 5), (.name 6)]) .enum (.cons (.var 0) .nil) (.cons (.for (.tup [(.name 7), (.name 8)]) .val (.cons (.op2 .ix (.peek 6) (.cst (.int 1))) .nil) (.cons (.ife (.op2 .eq (.op2 .ix (.peek 2) (.peek 5)) (.peek 7)) (.cons (.expr (.mut .append 4 .nil (.cons (.tup (.cons (.op2 .ix (.peek 3) (.peek 2)) (.cons (.op2 .ix (.peek 3) (.op2 .add (.op2 .add (.op3 .slice (.peek 2) (.cst .none) (.peek 5)) (.tup (.cons (.var 8) .nil))) (.op3 .slice (.peek 2) (.op2 .add (.peek 5) (.cst (.int 1))) (.cst .none)))) .nil))) .nil))) .nil) .nil) .nil)) .nil)) .nil)) (.cons (.ret (.call 17 (.cons (.op1 .len (.peek 1)) (.cons (.var 4) .nil)) none)) .nil))))⟩
/- are_rows_of: webs rows many row own web -/
def f30 : Fn := ⟨true, 3, 6, none,
  (.cons (.ife (.or (.not (.call 3 (.cons (.var 1) (.cons (.var 2) .nil)) none)) (.one (.not (.op1 .all (.lc [3] (.name 3) .val (.cons (.var 1) .nil) .nil (.call 3 (.cons (.var 3) (.cons (.op1 .len (.peek 0)) .nil)) none)))))) (.cons (.ret (.cst (.bool false))) .nil) .nil) (.cons (.ret (.op1 .all (.lc2 [3, 4, 5] [4, 5] (.name 3) .val (.cons (.var 1) .nil) .nil (.tup [(.name 4), (.name 5)]) .zip2 (.cons (.var 3) (.cons (.var 0) .nil)) .nil (.call 2 (.cons (.var 4) (.cons (.cst (.int 0)) (.cons (.op2 .sub (.op2 .ix (.peek 5) (.cst (.int 0))) (.cst (.int 1))) .nil))) none)))) .nil))⟩
def f31 : Fn := ⟨false, 3, 6, none, .nil⟩
def f32 : Fn := ⟨false, 3, 8, none, .nil⟩
/- is_whole_of: web webs rows two fars ties own one -/
def f33 : Fn := ⟨true, 3, 8, none,
  (.cons (.ife (.or (.op2 .ne (.call 27 (.cons (.var 1) .nil) none) (.op2 .ix (.peek 0) (.cst (.int 0)))) (.one (.op2 .ne (.op1 .lenSet (.peek 2)) (.op2 .ix (.peek 0) (.cst (.int 0)))))) (.cons (.ret (.cst (.bool false))) .nil) .nil) (.cons (.asg (.tup [(.name 4), (.name 5)]) (.tup (.cons (.lc [6] (.name 6) .val (.cons (.var 1) .nil) .nil (.call 20 (.cons (.var 6) .nil) none)) (.cons (.lst .nil) .nil)))) (.cons (.for (.name 3) .rng1 (.cons (.op2 .ix (.peek 0) (.cst (.int 0))) .nil) (.cons (.asg (.name 5) (.op2 .add (.peek 5) (.lc [7] (.name 7) .rng1 (.cons (.var 3) .nil) (.cons (.op2 .eq (.call 31 (.cons (.var 4) (.cons (.op2 .ix (.peek 2) (.peek 7)) (.cons (.op2 .ix (.peek 2) (.peek 3)) .nil))) none) (.cst (.int 1))) .nil) (.tup (.cons (.var 7) (.cons (.var 3) .nil)))))) .nil)) (.cons (.ret (.op2 .eq (.op1 .sorted (.peek 5)) (.op1 .list (.op2 .ix (.peek 0) (.cst (.int 1)))))) .nil))))⟩
def f34 : Fn := ⟨false, 3, 10, none, .nil⟩
/- is_pair_of: web thing -/
def f35 : Fn := ⟨true, 2, 2, none,
  (.cons (.ret (.and (.call 3 (.cons (.var 1) (.cons (.cst (.int 2)) .nil)) none) (.and (.call 25 (.cons (.op2 .ix (.peek 1) (.cst (.int 0))) .nil) none) (.one (.call 30 (.cons (.op2 .ix (.peek 1) (.cst (.int 0))) (.cons (.op2 .ix (.peek 1) (.cst (.int 1))) (.cons (.op2 .ix (.peek 0) (.cst (.int 0))) .nil))) none))))) .nil)⟩
/- is_opposite: far tie other straight -/
def f36 : Fn := ⟨true, 3, 4, none,
  (.cons (.asg (.name 3) (.op2 .add (.op2 .ix (.op2 .ix (.peek 0) (.op2 .ix (.peek 1) (.cst (.int 0)))) (.op2 .ix (.peek 2) (.cst (.int 0)))) (.op2 .ix (.op2 .ix (.peek 0) (.op2 .ix (.peek 1) (.cst (.int 1)))) (.op2 .ix (.peek 2) (.cst (.int 1)))))) (.cons (.ret (.op2 .ne (.peek 3) (.op2 .add (.op2 .ix (.op2 .ix (.peek 0) (.op2 .ix (.peek 1) (.cst (.int 0)))) (.op2 .ix (.peek 2) (.cst (.int 1)))) (.op2 .ix (.op2 .ix (.peek 0) (.op2 .ix (.peek 1) (.cst (.int 1)))) (.op2 .ix (.peek 2) (.cst (.int 0))))))) .nil))⟩
/- far_ends: tie other shared place -/
def f37 : Fn := ⟨true, 2, 4, none,
  (.cons (.asg (.name 2) (.lc [3] (.name 3) .val (.cons (.var 0) .nil) (.cons (.op2 .isin (.peek 3) (.peek 1)) .nil) (.var 3))) (.cons (.ife (.op2 .ne (.op1 .len (.peek 2)) (.cst (.int 1))) (.cons (.ret (.cst .none)) .nil) .nil) (.cons (.ret (.tup (.cons (.op2 .ix (.peek 2) (.cst (.int 0))) (.cons (.op2 .sub (.op1 .sum (.peek 0)) (.op2 .ix (.peek 2) (.cst (.int 0)))) (.cons (.op2 .sub (.op1 .sum (.peek 1)) (.op2 .ix (.peek 2) (.cst (.int 0)))) .nil))))) .nil)))⟩
/- is_corner: near tie other told place -/
def f38 : Fn := ⟨true, 3, 5, none,
  (.cons (.asg (.name 3) (.call 37 (.cons (.var 1) (.cons (.var 2) .nil)) none)) (.cons (.ife (.or (.op1 .isNone (.peek 3)) (.one (.op2 .isin (.op2 .ix (.peek 3) (.cst (.int 2))) (.op2 .ix (.peek 0) (.op2 .ix (.peek 3) (.cst (.int 1))))))) (.cons (.ret (.cst (.bool false))) .nil) .nil) (.cons (.ret (.op2 .eq (.lc [4] (.name 4) .val (.cons (.op2 .ix (.peek 0) (.op2 .ix (.peek 3) (.cst (.int 1)))) .nil) (.cons (.op2 .isin (.peek 4) (.op2 .ix (.peek 0) (.op2 .ix (.peek 3) (.cst (.int 2))))) .nil) (.var 4)) (.lst (.cons (.op2 .ix (.peek 3) (.cst (.int 0))) .nil)))) .nil)))⟩
/- linked_by: web corners tie far near found other -/
def f39 : Fn := ⟨true, 2, 7, none,
  (.cons (.asg (.tup [(.name 3), (.name 4), (.name 5)]) (.tup (.cons (.call 20 (.cons (.var 0) .nil) none) (.cons (.call 18 (.cons (.var 0) .nil) none) (.cons (.cst (.dict [])) .nil))))) (.cons (.for (.name 2) .val (.cons (.op2 .ix (.peek 0) (.cst (.int 1))) .nil) (.cons (.setD 5 (.peek 2) (.lc [6] (.name 6) .val (.cons (.op2 .ix (.peek 0) (.cst (.int 1))) .nil) (.cons (.call 40 (.cons (.var 3) (.cons (.var 4) (.cons (.var 2) (.cons (.var 6) (.cons (.var 1) .nil))))) none) .nil) (.var 6))) .nil)) (.cons (.ret (.mov 5)) .nil)))⟩
/- is_linked: far near tie other corners -/
def f40 : Fn := ⟨true, 5, 5, none,
  (.cons (.ret (.or (.call 36 (.cons (.var 0) (.cons (.var 2) (.cons (.var 3) .nil))) none) (.one (.and (.peek 4) (.one (.call 38 (.cons (.var 1) (.cons (.var 2) (.cons (.var 3) .nil))) none)))))) .nil)⟩
/- classes_of: links left found some tie -/
def f41 : Fn := ⟨true, 1, 5, none,
  (.cons (.asg (.tup [(.name 1), (.name 2)]) (.tup (.cons (.op1 .sorted (.peek 0)) (.cons (.lst .nil) .nil)))) (.cons (.while (.op2 .ne (.peek 1) (.lst .nil)) (.cons (.asg (.name 3) (.call 42 (.cons (.var 0) (.cons (.op2 .ix (.peek 1) (.cst (.int 0))) .nil)) none)) (.cons (.expr (.mut .append 2 .nil (.cons (.op1 .tuple (.op1 .sorted (.peek 3))) .nil))) (.cons (.asg (.name 1) (.lc [4] (.name 4) .val (.cons (.var 1) .nil) (.cons (.op2 .notin (.peek 4) (.peek 3)) .nil) (.var 4))) .nil)))) (.cons (.ret (.mov 2)) .nil)))⟩
/- come_to: links tie found row later own far -/
def f42 : Fn := ⟨true, 2, 7, none,
  (.cons (.asg (.tup [(.name 2), (.name 3)]) (.tup (.cons (.dct1 (.cons (.var 1) (.cons (.cst .none) .nil))) (.cons (.lst (.cons (.var 1) .nil)) .nil)))) (.cons (.while (.op2 .ne (.peek 3) (.lst .nil)) (.cons (.asg (.name 4) (.lst .nil)) (.cons (.for (.name 5) .val (.cons (.var 3) .nil) (.cons (.for (.name 6) .val (.cons (.op2 .ix (.peek 0) (.peek 5)) .nil) (.cons (.ife (.op2 .notin (.peek 6) (.peek 2)) (.cons (.setD 2 (.peek 6) (.var 5)) (.cons (.expr (.mut .append 4 .nil (.cons (.var 6) .nil))) .nil)) .nil) .nil)) .nil)) (.cons (.asg (.name 3) (.var 4)) .nil)))) (.cons (.ret (.mov 2)) .nil)))⟩
def f43 : Fn := ⟨false, 3, 5, none, .nil⟩
/- is_chain_of: web thing corners far near tie other -/
def f44 : Fn := ⟨true, 3, 7, none,
  (.cons (.ife (.or (.not (.op1 .isTup (.peek 1))) (.or (.op2 .eq (.peek 1) (.tup .nil)) (.one (.not (.op1 .all (.lc [5] (.name 5) .val (.cons (.var 1) .nil) .nil (.call 9 (.cons (.var 5) (.cons (.op2 .ix (.peek 0) (.cst (.int 0))) .nil)) none))))))) (.cons (.ret (.cst (.bool false))) .nil) .nil) (.cons (.ife (.not (.op1 .all (.lc [5] (.name 5) .val (.cons (.var 1) .nil) .nil (.op2 .isin (.peek 5) (.op2 .ix (.peek 0) (.cst (.int 1))))))) (.cons (.ret (.cst (.bool false))) .nil) .nil) (.cons (.asg (.tup [(.name 3), (.name 4)]) (.tup (.cons (.call 20 (.cons (.var 0) .nil) none) (.cons (.call 18 (.cons (.var 0) .nil) none) .nil)))) (.cons (.ret (.op1 .all (.lc [5, 6] (.tup [(.name 5), (.name 6)]) .zip2 (.cons (.var 1) (.cons (.op3 .slice (.peek 1) (.cst (.int 1)) (.cst .none)) .nil)) .nil (.call 40 (.cons (.var 3) (.cons (.var 4) (.cons (.var 5) (.cons (.var 6) (.cons (.var 2) .nil))))) none)))) .nil))))⟩
/- laid_by: web classes ties webs columns rest numbers heaps number heap place tie one two column -/
def f45 : Fn := ⟨true, 2, 15, none,
  (.cons (.asg (.tup [(.name 3), (.name 4)]) (.tup (.cons (.lst .nil) (.cons (.lst .nil) .nil)))) (.cons (.for (.name 2) .val (.cons (.var 1) .nil) (.cons (.asg (.name 5) (.tup (.cons (.op2 .ix (.peek 0) (.cst (.int 0))) (.cons (.op1 .tuple (.lc [11] (.name 11) .val (.cons (.op2 .ix (.peek 0) (.cst (.int 1))) .nil) (.cons (.op2 .notin (.peek 11) (.peek 2)) .nil) (.var 11))) .nil)))) (.cons (.asg (.name 6) (.op2 .mul (.lst (.cons (.cst (.int 0)) .nil)) (.op2 .ix (.peek 0) (.cst (.int 0))))) (.cons (.asg (.name 7) (.call 24 (.cons (.var 5) .nil) none)) (.cons (.for (.tup [(.name 8), (.name 9)]) .enum (.cons (.var 7) .nil) (.cons (.for (.name 10) .val (.cons (.var 9) .nil) (.cons (.setIx 6 .nil (.peek 10) (.var 8)) .nil)) .nil)) (.cons (.expr (.mut .append 3 .nil (.cons (.call 17 (.cons (.op1 .len (.peek 7)) (.cons (.lc [12, 13] (.tup [(.name 12), (.name 13)]) .val (.cons (.var 2) .nil) .nil (.tup (.cons (.op2 .ix (.peek 6) (.peek 12)) (.cons (.op2 .ix (.peek 6) (.peek 13)) .nil)))) .nil)) none) .nil))) (.cons (.expr (.mut .append 4 .nil (.cons (.var 6) .nil))) .nil))))))) (.cons (.ret (.tup (.cons (.op1 .tuple (.peek 3)) (.cons (.op1 .tuple (.lc [10] (.name 10) .rng1 (.cons (.op2 .ix (.peek 0) (.cst (.int 0))) .nil) .nil (.op1 .tuple (.lc [14] (.name 14) .val (.cons (.var 4) .nil) .nil (.op2 .ix (.peek 14) (.peek 10)))))) .nil)))) .nil)))⟩
def f46 : Fn := ⟨false, 2, 5, none, .nil⟩
def f47 : Fn := ⟨false, 4, 8, none, .nil⟩
/- is_paper_of: web tie other thing corners -/
def f48 : Fn := ⟨true, 5, 5, none,
  (.cons (.ife (.and (.call 3 (.cons (.var 3) (.cons (.cst (.int 2)) .nil)) none) (.and (.op1 .isStr (.op2 .ix (.peek 3) (.cst (.int 0)))) (.one (.op2 .eq (.op2 .ix (.peek 3) (.cst (.int 0))) (.cst (.str "chain")))))) (.cons (.ret (.and (.call 44 (.cons (.var 0) (.cons (.op2 .ix (.peek 3) (.cst (.int 1))) (.cons (.var 4) .nil))) none) (.and (.op2 .eq (.op2 .ix (.op2 .ix (.peek 3) (.cst (.int 1))) (.cst (.int 0))) (.peek 1)) (.one (.op2 .eq (.op2 .ix (.op2 .ix (.peek 3) (.cst (.int 1))) (.op1 .neg (.cst (.int 1)))) (.peek 2)))))) .nil) .nil) (.cons (.ife (.or (.not (.call 3 (.cons (.var 3) (.cons (.cst (.int 3)) .nil)) none)) (.or (.not (.op1 .isStr (.op2 .ix (.peek 3) (.cst (.int 0))))) (.one (.op2 .ne (.op2 .ix (.peek 3) (.cst (.int 0))) (.ite (.peek 4) (.cst (.str "product")) (.cst (.str "laid"))))))) (.cons (.ret (.cst (.bool false))) .nil) .nil) (.cons (.ife (.or (.not (.call 35 (.cons (.var 0) (.cons (.op3 .slice (.peek 3) (.cst (.int 1)) (.cst .none)) .nil)) none)) (.one (.op2 .ne (.op1 .len (.op2 .ix (.peek 3) (.cst (.int 1)))) (.cst (.int 2))))) (.cons (.ret (.cst (.bool false))) .nil) .nil) (.cons (.ife (.not (.call 49 (.cons (.op2 .ix (.peek 3) (.cst (.int 2))) (.cons (.var 1) (.cons (.var 2) .nil))) none)) (.cons (.ret (.cst (.bool false))) .nil) .nil) (.cons (.ife (.peek 4) (.cons (.ret (.call 33 (.cons (.var 0) (.cons (.op2 .ix (.peek 3) (.cst (.int 1))) (.cons (.op2 .ix (.peek 3) (.cst (.int 2))) .nil))) none)) .nil) .nil) (.cons (.ret (.and (.call 32 (.cons (.var 0) (.cons (.op2 .ix (.peek 3) (.cst (.int 1))) (.cons (.op2 .ix (.peek 3) (.cst (.int 2))) .nil))) none) (.one (.call 34 (.cons (.var 0) (.cons (.op2 .ix (.peek 3) (.cst (.int 1))) (.cons (.op2 .ix (.peek 3) (.cst (.int 2))) .nil))) none)))) .nil))))))⟩
def f49 : Fn := ⟨false, 3, 5, none, .nil⟩
/- sure_ties: web tie other one two -/
def f50 : Fn := ⟨true, 3, 5, none,
  (.cons (.asg (.tup [(.name 3), (.name 4)]) (.tup (.cons (.call 15 (.cons (.var 1) (.cons (.op2 .ix (.peek 0) (.cst (.int 0))) .nil)) none) (.cons (.call 15 (.cons (.var 2) (.cons (.op2 .ix (.peek 0) (.cst (.int 0))) .nil)) none) .nil)))) (.cons (.ret (.tup (.cons (.call 16 (.cons (.var 0) (.cons (.var 3) .nil)) none) (.cons (.call 16 (.cons (.var 0) (.cons (.var 4) .nil)) none) .nil)))) .nil))⟩
/- opposite: web tie other own one two -/
def f51 : Fn := ⟨true, 3, 6, none,
  (.cons (.asg (.tup [(.name 3), (.name 4), (.name 5)]) (.call 52 (.cons (.var 0) (.cons (.var 1) (.cons (.var 2) .nil))) none)) (.cons (.ret (.call 36 (.cons (.call 20 (.cons (.var 3) .nil) none) (.cons (.var 4) (.cons (.var 5) .nil))) none)) .nil))⟩
/- sure_web_and: web tie other own one two -/
def f52 : Fn := ⟨true, 3, 6, none,
  (.cons (.asg (.name 3) (.call 11 (.cons (.var 0) .nil) none)) (.cons (.asg (.tup [(.name 4), (.name 5)]) (.call 50 (.cons (.var 3) (.cons (.var 1) (.cons (.var 2) .nil))) none)) (.cons (.ret (.tup (.cons (.call 22 (.cons (.var 3) .nil) none) (.cons (.var 4) (.cons (.var 5) .nil))))) .nil)))⟩
/- cornered: web tie other own one two -/
def f53 : Fn := ⟨true, 3, 6, none,
  (.cons (.asg (.tup [(.name 3), (.name 4), (.name 5)]) (.call 52 (.cons (.var 0) (.cons (.var 1) (.cons (.var 2) .nil))) none)) (.cons (.ret (.call 38 (.cons (.call 18 (.cons (.var 3) .nil) none) (.cons (.var 4) (.cons (.var 5) .nil))) none)) .nil))⟩
/- factor_classes: web -/
def f54 : Fn := ⟨true, 1, 1, none,
  (.cons (.ret (.op1 .tuple (.call 41 (.cons (.call 39 (.cons (.call 23 (.cons (.var 0) .nil) none) (.cons (.cst (.bool true)) .nil)) none) .nil) none))) .nil)⟩
/- wall_classes: web -/
def f55 : Fn := ⟨true, 1, 1, none,
  (.cons (.ret (.op1 .tuple (.call 41 (.cons (.call 39 (.cons (.call 23 (.cons (.var 0) .nil) none) (.cons (.cst (.bool false)) .nil)) none) .nil) none))) .nil)⟩
/- factor_paper: web tie other own one two -/
def f56 : Fn := ⟨true, 3, 6, none,
  (.cons (.asg (.tup [(.name 3), (.name 4), (.name 5)]) (.call 52 (.cons (.var 0) (.cons (.var 1) (.cons (.var 2) .nil))) none)) (.cons (.ret (.call 47 (.cons (.var 3) (.cons (.var 4) (.cons (.var 5) (.cons (.cst (.bool true)) .nil)))) none)) .nil))⟩
/- is_factor_paper: web tie other thing own one two -/
def f57 : Fn := ⟨true, 4, 7, none,
  (.cons (.asg (.tup [(.name 4), (.name 5), (.name 6)]) (.call 52 (.cons (.var 0) (.cons (.var 1) (.cons (.var 2) .nil))) none)) (.cons (.ret (.call 48 (.cons (.var 4) (.cons (.var 5) (.cons (.var 6) (.cons (.var 3) (.cons (.cst (.bool true)) .nil))))) none)) .nil))⟩
/- opposite_paper: web tie other own one two -/
def f58 : Fn := ⟨true, 3, 6, none,
  (.cons (.asg (.tup [(.name 3), (.name 4), (.name 5)]) (.call 52 (.cons (.var 0) (.cons (.var 1) (.cons (.var 2) .nil))) none)) (.cons (.ret (.call 47 (.cons (.var 3) (.cons (.var 4) (.cons (.var 5) (.cons (.cst (.bool false)) .nil)))) none)) .nil))⟩
/- is_opposite_paper: web tie other thing own one two -/
def f59 : Fn := ⟨true, 4, 7, none,
  (.cons (.asg (.tup [(.name 4), (.name 5), (.name 6)]) (.call 52 (.cons (.var 0) (.cons (.var 1) (.cons (.var 2) .nil))) none)) (.cons (.ret (.call 48 (.cons (.var 4) (.cons (.var 5) (.cons (.var 6) (.cons (.var 3) (.cons (.cst (.bool false)) .nil))))) none)) .nil))⟩
/- first_keys: web found row own -/
def f60 : Fn := ⟨true, 1, 4, none,
  (.cons (.asg (.name 1) (.lst .nil)) (.cons (.for (.name 2) .val (.cons (.call 20 (.cons (.var 0) .nil) none) .nil) (.cons (.expr (.mut .append 1 .nil (.cons (.op1 .tuple (.op1 .sorted (.lc [3] (.name 3) .val (.cons (.var 2) .nil) .nil (.ite (.op1 .isNone (.peek 3)) (.op2 .ix (.peek 0) (.cst (.int 0))) (.var 3))))) .nil))) .nil)) (.cons (.ret (.mov 1)) .nil)))⟩
/- ranked: keys all_keys order key -/
def f61 : Fn := ⟨true, 2, 4, none,
  (.cons (.asg (.name 2) (.op1 .sortedSet (.peek 1))) (.cons (.ret (.lc [3] (.name 3) .val (.cons (.var 0) .nil) .nil (.op2 .index (.peek 2) (.peek 3)))) .nil))⟩
/- keys_around: colours near place spot -/
def f62 : Fn := ⟨true, 2, 4, none,
  (.cons (.ret (.lc [2] (.name 2) .rng1 (.cons (.op1 .len (.peek 1)) .nil) .nil (.tup (.cons (.op2 .ix (.peek 0) (.peek 2)) (.cons (.op1 .tuple (.op1 .sorted (.lc [3] (.name 3) .val (.cons (.op2 .ix (.peek 1) (.peek 2)) .nil) .nil (.op2 .ix (.peek 0) (.peek 3))))) .nil))))) .nil)⟩
/- colours_of: web other colours many nears keys told own near -/
def f63 : Fn := ⟨true, 2, 9, none,
  (.cons (.asg (.tup [(.name 4), (.name 5)]) (.tup (.cons (.tup (.cons (.call 18 (.cons (.var 0) .nil) none) (.cons (.call 18 (.cons (.var 1) .nil) none) .nil))) (.cons (.tup (.cons (.call 60 (.cons (.var 0) .nil) none) (.cons (.call 60 (.cons (.var 1) .nil) none) .nil))) .nil)))) (.cons (.asg (.name 2) (.lc [7] (.name 7) .val (.cons (.var 5) .nil) .nil (.call 61 (.cons (.var 7) (.cons (.op2 .add (.op2 .ix (.peek 5) (.cst (.int 0))) (.op2 .ix (.peek 5) (.cst (.int 1)))) .nil)) none))) (.cons (.asg (.name 3) (.cst (.int 0))) (.cons (.while (.op2 .lt (.peek 3) (.op1 .lenSet (.op2 .add (.op2 .ix (.peek 2) (.cst (.int 0))) (.op2 .ix (.peek 2) (.cst (.int 1)))))) (.cons (.asg (.name 3) (.op1 .lenSet (.op2 .add (.op2 .ix (.peek 2) (.cst (.int 0))) (.op2 .ix (.peek 2) (.cst (.int 1)))))) (.cons (.asg (.name 6) (.lc [7, 8] (.tup [(.name 7), (.name 8)]) .zip2 (.cons (.var 2) (.cons (.var 4) .nil)) .nil (.call 62 (.cons (.var 7) (.cons (.var 8) .nil)) none))) (.cons (.asg (.name 2) (.lc [7] (.name 7) .val (.cons (.var 6) .nil) .nil (.call 61 (.cons (.var 7) (.cons (.op2 .add (.op2 .ix (.peek 6) (.cst (.int 0))) (.op2 .ix (.peek 6) (.cst (.int 1)))) .nil)) none))) .nil)))) (.cons (.ret (.op1 .tuple (.peek 2))) .nil)))))⟩
/- order_of: web start near found far gaps spot gap -/
def f64 : Fn := ⟨true, 1, 8, none,
  (.cons (.asg (.tup [(.name 2), (.name 3)]) (.tup (.cons (.call 18 (.cons (.var 0) .nil) none) (.cons (.lst .nil) .nil)))) (.cons (.for (.name 1) .rng1 (.cons (.op2 .ix (.peek 0) (.cst (.int 0))) .nil) (.cons (.ife (.op2 .notin (.peek 1) (.peek 3)) (.cons (.asg (.name 4) (.call 19 (.cons (.var 2) (.cons (.var 1) .nil)) none)) (.cons (.asg (.name 5) (.op1 .sorted (.lc [6, 7] (.tup [(.name 6), (.name 7)]) .enum (.cons (.var 4) .nil) (.cons (.op1 .notNone (.peek 7)) .nil) (.tup (.cons (.var 7) (.cons (.var 6) .nil)))))) (.cons (.asg (.name 3) (.op2 .add (.peek 3) (.lc [6, 7] (.tup [(.name 7), (.name 6)]) .val (.cons (.var 5) .nil) .nil (.var 6)))) .nil))) .nil) .nil)) (.cons (.ret (.mov 3)) .nil)))⟩
/- could_be_like: web other -/
def f65 : Fn := ⟨true, 2, 2, none,
  (.cons (.ret (.and (.op2 .eq (.op2 .ix (.peek 0) (.cst (.int 0))) (.op2 .ix (.peek 1) (.cst (.int 0)))) (.one (.op2 .eq (.op1 .len (.op2 .ix (.peek 0) (.cst (.int 1)))) (.op1 .len (.op2 .ix (.peek 1) (.cst (.int 1)))))))) .nil)⟩
/- likeness_of: web other liker row -/
def f66 : Fn := ⟨true, 2, 4, none,
  (.cons (.ife (.not (.call 65 (.cons (.var 0) (.cons (.var 1) .nil)) none)) (.cons (.ret (.cst .none)) .nil) .nil) (.cons (.asg (.name 2) (.new 0 119 (.cons (.var 0) (.cons (.var 1) .nil)))) (.cons (.ife (.op2 .ne (.op1 .sorted (.op2 .ix (.op1 (.fld "colours") (.peek 2)) (.cst (.int 0)))) (.op1 .sorted (.op2 .ix (.op1 (.fld "colours") (.peek 2)) (.cst (.int 1))))) (.cons (.ret (.cst .none)) .nil) .nil) (.cons (.asg (.name 3) (.meth 121 0 "first" (.peek 2) (.cons (.lst .nil) .nil))) (.cons (.ret (.ite (.op1 .isNone (.peek 3)) (.cst .none) (.meth 123 0 "as_map" (.peek 2) (.cons (.var 3) .nil)))) .nil)))))⟩
/- are_like: web other -/
def f67 : Fn := ⟨true, 2, 2, none,
  (.cons (.ret (.op1 .notNone (.call 66 (.cons (.var 0) (.cons (.var 1) .nil)) none))) .nil)⟩
/- own_many: web at liker found spot ahead goods -/
def f68 : Fn := ⟨true, 1, 7, none,
  (.cons (.asg (.tup [(.name 2), (.name 3)]) (.tup (.cons (.new 0 119 (.cons (.var 0) (.cons (.var 0) .nil))) (.cons (.cst (.int 1)) .nil)))) (.cons (.for (.name 1) .rng1 (.cons (.op2 .ix (.peek 0) (.cst (.int 0))) .nil) (.cons (.asg (.tup [(.name 5), (.name 6)]) (.tup (.cons (.op3 .slice (.op1 (.fld "order") (.peek 2)) (.cst .none) (.peek 1)) (.cons (.cst (.int 0)) .nil)))) (.cons (.for (.name 4) .rng1 (.cons (.op2 .ix (.peek 0) (.cst (.int 0))) .nil) (.cons (.ife (.and (.meth 120 0 "fits" (.peek 2) (.cons (.var 5) (.cons (.var 4) .nil))) (.one (.op1 .notNone (.meth 121 0 "first" (.peek 2) (.cons (.op2 .add (.peek 5) (.lst (.cons (.var 4) .nil))) .nil))))) (.cons (.aug 6 .add (.cst (.int 1))) .nil) .nil) .nil)) (.cons (.asg (.name 3) (.op2 .mul (.peek 3) (.peek 6))) .nil)))) (.cons (.ret (.mov 3)) .nil)))⟩
/- is_likeness_of: web other thing led one two pair -/
def f69 : Fn := ⟨true, 3, 7, none,
  (.cons (.ife (.or (.op2 .ne (.op2 .ix (.peek 0) (.cst (.int 0))) (.op2 .ix (.peek 1) (.cst (.int 0)))) (.or (.not (.call 3 (.cons (.var 2) (.cons (.op2 .ix (.peek 0) (.cst (.int 0))) .nil)) none)) (.one (.not (.call 8 (.cons (.var 2) (.cons (.op2 .ix (.peek 0) (.cst (.int 0))) .nil)) none))))) (.cons (.ret (.cst (.bool false))) .nil) .nil) (.cons (.asg (.name 3) (.lc [4, 5] (.tup [(.name 4), (.name 5)]) .val (.cons (.op2 .ix (.peek 0) (.cst (.int 1))) .nil) .nil (.tup (.cons (.op2 .ix (.peek 2) (.peek 4)) (.cons (.op2 .ix (.peek 2) (.peek 5)) .nil))))) (.cons (.ret (.op2 .eq (.op1 .tuple (.op1 .sorted (.lc [6] (.name 6) .val (.cons (.var 3) .nil) .nil (.tup (.cons (.op1 .min (.peek 6)) (.cons (.op1 .max (.peek 6)) .nil)))))) (.op2 .ix (.peek 1) (.cst (.int 1))))) .nil)))⟩
/- likeness: web other own far -/
def f70 : Fn := ⟨true, 2, 4, none,
  (.cons (.asg (.tup [(.name 2), (.name 3)]) (.tup (.cons (.call 11 (.cons (.var 0) .nil) none) (.cons (.call 11 (.cons (.var 1) .nil) none) .nil)))) (.cons (.ret (.call 66 (.cons (.var 2) (.cons (.var 3) .nil)) none)) .nil))⟩
/- is_likeness: web other thing own far -/
def f71 : Fn := ⟨true, 3, 5, none,
  (.cons (.asg (.tup [(.name 3), (.name 4)]) (.tup (.cons (.call 11 (.cons (.var 0) .nil) none) (.cons (.call 11 (.cons (.var 1) .nil) none) .nil)))) (.cons (.ret (.call 69 (.cons (.var 3) (.cons (.var 4) (.cons (.var 2) .nil))) none)) .nil))⟩
/- own_likenesses: web -/
def f72 : Fn := ⟨true, 1, 1, none,
  (.cons (.ret (.call 68 (.cons (.call 11 (.cons (.var 0) .nil) none) .nil) none)) .nil)⟩
/- all_likenesses: web own liker row -/
def f73 : Fn := ⟨true, 1, 4, none,
  (.cons (.asg (.name 1) (.call 11 (.cons (.var 0) .nil) none)) (.cons (.ife (.op2 .gt (.call 68 (.cons (.var 1) .nil) none) (.gcst "MOST_LIKENESSES" (.int 1000))) (.cons (.raise 4 .nil) .nil) .nil) (.cons (.asg (.name 2) (.new 0 119 (.cons (.var 1) (.cons (.var 1) .nil)))) (.cons (.ret (.op1 .sorted (.lc [3] (.name 3) .val (.cons (.meth 122 0 "every" (.peek 2) (.cons (.lst .nil) .nil)) .nil) .nil (.meth 123 0 "as_map" (.peek 2) (.cons (.var 3) .nil))))) .nil))))⟩
/- prime_laying: web -/
def f74 : Fn := ⟨true, 1, 1, none,
  (.cons (.ret (.call 45 (.cons (.var 0) (.cons (.call 41 (.cons (.call 39 (.cons (.var 0) (.cons (.cst (.bool true)) .nil)) none) .nil) none) .nil)) none)) .nil)⟩
/- has_one_class: web -/
def f75 : Fn := ⟨true, 1, 1, none,
  (.cons (.ret (.op2 .eq (.op1 .len (.call 41 (.cons (.call 39 (.cons (.var 0) (.cons (.cst (.bool true)) .nil)) none) .nil) none)) (.cst (.int 1)))) .nil)⟩
def f76 : Fn := ⟨false, 2, 4, none, .nil⟩
/- are_chains_of: web thing corners ends chain tie -/
def f77 : Fn := ⟨true, 3, 6, none,
  (.cons (.ife (.or (.not (.call 3 (.cons (.var 1) (.cons (.op2 .sub (.op1 .len (.op2 .ix (.peek 0) (.cst (.int 1)))) (.cst (.int 1))) .nil)) none)) (.one (.not (.op1 .all (.lc [4] (.name 4) .val (.cons (.var 1) .nil) .nil (.call 44 (.cons (.var 0) (.cons (.var 4) (.cons (.var 2) .nil))) none)))))) (.cons (.ret (.cst (.bool false))) .nil) .nil) (.cons (.asg (.name 3) (.lc [4] (.name 4) .val (.cons (.var 1) .nil) .nil (.tup (.cons (.op2 .ix (.peek 4) (.cst (.int 0))) (.cons (.op2 .ix (.peek 4) (.op1 .neg (.cst (.int 1)))) .nil))))) (.cons (.ret (.op2 .eq (.peek 3) (.lc [5] (.name 5) .val (.cons (.op3 .slice (.op2 .ix (.peek 0) (.cst (.int 1))) (.cst (.int 1)) (.cst .none)) .nil) .nil (.tup (.cons (.op2 .ix (.op2 .ix (.peek 0) (.cst (.int 1))) (.cst (.int 0))) (.cons (.var 5) .nil)))))) .nil)))⟩
/- sure_tied: web -/
def f78 : Fn := ⟨true, 1, 1, none,
  (.cons (.ife (.op2 .eq (.op2 .ix (.peek 0) (.cst (.int 0))) (.cst (.int 1))) (.cons (.raise 2 .nil) .nil) .nil) (.cons (.ret (.mov 0)) .nil))⟩
/- sure_webs_two: web other own far -/
def f79 : Fn := ⟨true, 2, 4, none,
  (.cons (.asg (.tup [(.name 2), (.name 3)]) (.tup (.cons (.call 11 (.cons (.var 0) .nil) none) (.cons (.call 11 (.cons (.var 1) .nil) none) .nil)))) (.cons (.ret (.tup (.cons (.call 22 (.cons (.var 2) .nil) none) (.cons (.call 22 (.cons (.var 3) .nil) none) .nil)))) .nil))⟩
/- sure_timed: web times own -/
def f80 : Fn := ⟨true, 2, 3, none,
  (.cons (.asg (.name 2) (.call 11 (.cons (.var 0) .nil) none)) (.cons (.ife (.not (.call 1 (.cons (.var 1) (.cons (.cst (.int 1)) .nil)) none)) (.cons (.raise 5 .nil) .nil) .nil) (.cons (.ret (.mov 2)) .nil)))⟩
/- heaps_of: webs found web near at pair -/
def f81 : Fn := ⟨true, 1, 6, none,
  (.cons (.asg (.name 1) (.lst .nil)) (.cons (.for (.name 2) .val (.cons (.var 0) .nil) (.cons (.asg (.name 3) (.lcP [4, 5] 1 (.tup [(.name 4), (.name 5)]) .enum (.cons (.call 67 (.cons (.op2 .ix (.peek 5) (.cst (.int 0))) (.cons (.var 2) .nil)) none) .nil) (.var 4))) (.cons (.ife (.op2 .eq (.peek 3) (.lst .nil)) (.cons (.expr (.mut .append 1 .nil (.cons (.tup (.cons (.var 2) (.cons (.cst (.int 1)) .nil))) .nil))) .nil) (.cons (.setIx 1 .nil (.op2 .ix (.peek 3) (.cst (.int 0))) (.tup (.cons (.op2 .ix (.op2 .ix (.peek 1) (.op2 .ix (.peek 3) (.cst (.int 0)))) (.cst (.int 0))) (.cons (.op2 .add (.op2 .ix (.op2 .ix (.peek 1) (.op2 .ix (.peek 3) (.cst (.int 0)))) (.cst (.int 1))) (.cst (.int 1))) .nil)))) .nil)) .nil))) (.cons (.ret (.mov 1)) .nil)))⟩
/- rest_of: webs others left other near at web -/
def f82 : Fn := ⟨true, 2, 7, none,
  (.cons (.asg (.name 2) (.op1 .list (.peek 0))) (.cons (.for (.name 3) .val (.cons (.var 1) .nil) (.cons (.asg (.name 4) (.lcP [5, 6] 2 (.tup [(.name 5), (.name 6)]) .enum (.cons (.call 67 (.cons (.var 6) (.cons (.var 3) .nil)) none) .nil) (.var 5))) (.cons (.ife (.op2 .eq (.peek 4) (.lst .nil)) (.cons (.ret (.cst .none)) .nil) .nil) (.cons (.expr (.mut .popAt 2 .nil (.cons (.op2 .ix (.peek 4) (.cst (.int 0))) .nil))) .nil)))) (.cons (.ret (.mov 2)) .nil)))⟩
/- parted: web -/
def f83 : Fn := ⟨true, 1, 1, none,
  (.cons (.ret (.call 74 (.cons (.call 23 (.cons (.var 0) .nil) none) .nil) none)) .nil)⟩
/- is_parted: web thing own part -/
def f84 : Fn := ⟨true, 2, 4, none,
  (.cons (.asg (.name 2) (.call 23 (.cons (.var 0) .nil) none)) (.cons (.ife (.or (.not (.call 35 (.cons (.var 2) (.cons (.var 1) .nil)) none)) (.one (.not (.call 33 (.cons (.var 2) (.cons (.op2 .ix (.peek 1) (.cst (.int 0))) (.cons (.op2 .ix (.peek 1) (.cst (.int 1))) .nil))) none)))) (.cons (.ret (.cst (.bool false))) .nil) .nil) (.cons (.ret (.op1 .all (.lc [3] (.name 3) .val (.cons (.op2 .ix (.peek 1) (.cst (.int 0))) .nil) .nil (.call 75 (.cons (.var 3) .nil) none)))) .nil)))⟩
/- is_prime: web -/
def f85 : Fn := ⟨true, 1, 1, none,
  (.cons (.ret (.call 75 (.cons (.call 23 (.cons (.var 0) .nil) none) .nil) none)) .nil)⟩
/- prime_paper: web own webs rows -/
def f86 : Fn := ⟨true, 1, 4, none,
  (.cons (.asg (.name 1) (.call 78 (.cons (.call 23 (.cons (.var 0) .nil) none) .nil) none)) (.cons (.asg (.tup [(.name 2), (.name 3)]) (.call 74 (.cons (.var 1) .nil) none)) (.cons (.ret (.ite (.op2 .eq (.op1 .len (.peek 2)) (.cst (.int 1))) (.tup (.cons (.cst (.str "prime")) (.cons (.call 76 (.cons (.var 1) (.cons (.cst (.bool true)) .nil)) none) .nil))) (.tup (.cons (.cst (.str "product")) (.cons (.var 2) (.cons (.var 3) .nil)))))) .nil)))⟩
/- is_prime_paper: web thing own part -/
def f87 : Fn := ⟨true, 2, 4, none,
  (.cons (.asg (.name 2) (.call 78 (.cons (.call 23 (.cons (.var 0) .nil) none) .nil) none)) (.cons (.ife (.and (.call 3 (.cons (.var 1) (.cons (.cst (.int 2)) .nil)) none) (.and (.op1 .isStr (.op2 .ix (.peek 1) (.cst (.int 0)))) (.one (.op2 .eq (.op2 .ix (.peek 1) (.cst (.int 0))) (.cst (.str "prime")))))) (.cons (.ret (.call 77 (.cons (.var 2) (.cons (.op2 .ix (.peek 1) (.cst (.int 1))) (.cons (.cst (.bool true)) .nil))) none)) .nil) .nil) (.cons (.ife (.or (.not (.call 3 (.cons (.var 1) (.cons (.cst (.int 3)) .nil)) none)) (.or (.not (.op1 .isStr (.op2 .ix (.peek 1) (.cst (.int 0))))) (.one (.op2 .ne (.op2 .ix (.peek 1) (.cst (.int 0))) (.cst (.str "product")))))) (.cons (.ret (.cst (.bool false))) .nil) .nil) (.cons (.ife (.or (.not (.call 35 (.cons (.var 2) (.cons (.op3 .slice (.peek 1) (.cst (.int 1)) (.cst .none)) .nil)) none)) (.one (.op2 .lt (.op1 .len (.lc [3] (.name 3) .val (.cons (.op2 .ix (.peek 1) (.cst (.int 1))) .nil) (.cons (.op2 .gt (.op2 .ix (.peek 3) (.cst (.int 0))) (.cst (.int 1))) .nil) (.var 3))) (.cst (.int 2))))) (.cons (.ret (.cst (.bool false))) .nil) .nil) (.cons (.ret (.call 33 (.cons (.var 2) (.cons (.op2 .ix (.peek 1) (.cst (.int 1))) (.cons (.op2 .ix (.peek 1) (.cst (.int 2))) .nil))) none)) .nil)))))⟩
/- prime_heaps: web -/
def f88 : Fn := ⟨true, 1, 1, none,
  (.cons (.ret (.call 81 (.cons (.op2 .ix (.call 74 (.cons (.call 23 (.cons (.var 0) .nil) none) .nil) none) (.cst (.int 0))) .nil) none)) .nil)⟩
/- quotient: web other left own far -/
def f89 : Fn := ⟨true, 2, 5, none,
  (.cons (.asg (.tup [(.name 3), (.name 4)]) (.call 79 (.cons (.var 0) (.cons (.var 1) .nil)) none)) (.cons (.asg (.name 2) (.call 82 (.cons (.op2 .ix (.call 74 (.cons (.var 3) .nil) none) (.cst (.int 0))) (.cons (.op2 .ix (.call 74 (.cons (.var 4) .nil) none) (.cst (.int 0))) .nil)) none)) (.cons (.ife (.op1 .isNone (.peek 2)) (.cons (.raise 2 .nil) .nil) .nil) (.cons (.ret (.call 29 (.cons (.op1 .tuple (.peek 2)) .nil) none)) .nil))))⟩
/- is_quotient: web other thing own far -/
def f90 : Fn := ⟨true, 3, 5, none,
  (.cons (.asg (.tup [(.name 3), (.name 4)]) (.call 79 (.cons (.var 0) (.cons (.var 1) .nil)) none)) (.cons (.ife (.or (.not (.call 10 (.cons (.var 2) .nil) none)) (.or (.not (.call 21 (.cons (.var 2) .nil) none)) (.one (.op2 .ne (.op2 .mul (.op2 .ix (.peek 4) (.cst (.int 0))) (.op2 .ix (.peek 2) (.cst (.int 0)))) (.op2 .ix (.peek 3) (.cst (.int 0))))))) (.cons (.ret (.cst (.bool false))) .nil) .nil) (.cons (.ife (.op2 .ne (.call 28 (.cons (.tup (.cons (.var 4) (.cons (.var 2) .nil))) .nil) none) (.op1 .len (.op2 .ix (.peek 3) (.cst (.int 1))))) (.cons (.ret (.cst (.bool false))) .nil) .nil) (.cons (.ret (.call 67 (.cons (.call 29 (.cons (.tup (.cons (.var 4) (.cons (.var 2) .nil))) .nil) none) (.cons (.var 3) .nil)) none)) .nil))))⟩
/- root: web times own heaps part many lap -/
def f91 : Fn := ⟨true, 2, 7, none,
  (.cons (.asg (.name 2) (.call 22 (.cons (.call 80 (.cons (.var 0) (.cons (.var 1) .nil)) none) .nil) none)) (.cons (.asg (.name 3) (.call 81 (.cons (.op2 .ix (.call 74 (.cons (.var 2) .nil) none) (.cst (.int 0))) .nil) none)) (.cons (.ife (.op1 .any (.lc [4, 5] (.tup [(.name 4), (.name 5)]) .val (.cons (.var 3) .nil) .nil (.op2 .ne (.op2 .mod (.peek 5) (.peek 1)) (.cst (.int 0))))) (.cons (.raise 2 .nil) .nil) .nil) (.cons (.ret (.call 29 (.cons (.op1 .tuple (.lc2 [4, 5, 6] [6] (.tup [(.name 4), (.name 5)]) .val (.cons (.var 3) .nil) .nil (.name 6) .rng1 (.cons (.op2 .fdiv (.peek 5) (.peek 1)) .nil) .nil (.var 4))) .nil) none)) .nil))))⟩
/- is_root: web times thing own -/
def f92 : Fn := ⟨true, 3, 4, none,
  (.cons (.asg (.name 3) (.call 22 (.cons (.call 80 (.cons (.var 0) (.cons (.var 1) .nil)) none) .nil) none)) (.cons (.ife (.or (.not (.call 10 (.cons (.var 2) .nil) none)) (.one (.not (.call 21 (.cons (.var 2) .nil) none)))) (.cons (.ret (.cst (.bool false))) .nil) .nil) (.cons (.ife (.or (.op2 .eq (.op2 .ix (.peek 2) (.cst (.int 0))) (.cst (.int 1))) (.one (.op2 .gt (.peek 1) (.cst (.int 6))))) (.cons (.ret (.chain .eq .eq (.op2 .ix (.peek 2) (.cst (.int 0))) (.op2 .ix (.peek 3) (.cst (.int 0))) (.cst (.int 1)))) .nil) .nil) (.cons (.ife (.or (.op2 .ne (.call 27 (.cons (.op2 .mul (.tup (.cons (.var 2) .nil)) (.peek 1)) .nil) none) (.op2 .ix (.peek 3) (.cst (.int 0)))) (.one (.op2 .ne (.call 28 (.cons (.op2 .mul (.tup (.cons (.var 2) .nil)) (.peek 1)) .nil) none) (.op1 .len (.op2 .ix (.peek 3) (.cst (.int 1))))))) (.cons (.ret (.cst (.bool false))) .nil) .nil) (.cons (.ret (.call 67 (.cons (.call 29 (.cons (.op2 .mul (.tup (.cons (.var 2) .nil)) (.peek 1)) .nil) none) (.cons (.var 3) .nil)) none)) .nil)))))⟩
def f93 : Fn := ⟨false, 1, 1, none, .nil⟩
def f94 : Fn := ⟨false, 1, 1, none, .nil⟩
/- is_kept_pair: web thing -/
def f95 : Fn := ⟨true, 2, 2, none,
  (.cons (.ret (.and (.call 35 (.cons (.var 0) (.cons (.var 1) .nil)) none) (.and (.call 32 (.cons (.var 0) (.cons (.op2 .ix (.peek 1) (.cst (.int 0))) (.cons (.op2 .ix (.peek 1) (.cst (.int 1))) .nil))) none) (.one (.call 34 (.cons (.var 0) (.cons (.op2 .ix (.peek 1) (.cst (.int 0))) (.cons (.op2 .ix (.peek 1) (.cst (.int 1))) .nil))) none))))) .nil)⟩
/- laid: web -/
def f96 : Fn := ⟨true, 1, 1, none,
  (.cons (.ret (.call 93 (.cons (.call 23 (.cons (.var 0) .nil) none) .nil) none)) .nil)⟩
/- is_laid: web thing own part -/
def f97 : Fn := ⟨true, 2, 4, none,
  (.cons (.asg (.name 2) (.call 23 (.cons (.var 0) .nil) none)) (.cons (.ret (.and (.call 95 (.cons (.var 2) (.cons (.var 1) .nil)) none) (.one (.op1 .all (.lc [3] (.name 3) .val (.cons (.op2 .ix (.peek 1) (.cst (.int 0))) .nil) .nil (.call 94 (.cons (.var 3) .nil) none)))))) .nil))⟩
/- is_single: web -/
def f98 : Fn := ⟨true, 1, 1, none,
  (.cons (.ret (.call 94 (.cons (.call 23 (.cons (.var 0) .nil) none) .nil) none)) .nil)⟩
/- single_paper: web own webs rows -/
def f99 : Fn := ⟨true, 1, 4, none,
  (.cons (.asg (.name 1) (.call 78 (.cons (.call 23 (.cons (.var 0) .nil) none) .nil) none)) (.cons (.asg (.tup [(.name 2), (.name 3)]) (.call 93 (.cons (.var 1) .nil) none)) (.cons (.ret (.ite (.op2 .eq (.op1 .len (.peek 2)) (.cst (.int 1))) (.tup (.cons (.cst (.str "single")) (.cons (.call 76 (.cons (.var 1) (.cons (.cst (.bool false)) .nil)) none) .nil))) (.tup (.cons (.cst (.str "laid")) (.cons (.var 2) (.cons (.var 3) .nil)))))) .nil)))⟩
/- is_single_paper: web thing own part -/
def f100 : Fn := ⟨true, 2, 4, none,
  (.cons (.asg (.name 2) (.call 78 (.cons (.call 23 (.cons (.var 0) .nil) none) .nil) none)) (.cons (.ife (.and (.call 3 (.cons (.var 1) (.cons (.cst (.int 2)) .nil)) none) (.and (.op1 .isStr (.op2 .ix (.peek 1) (.cst (.int 0)))) (.one (.op2 .eq (.op2 .ix (.peek 1) (.cst (.int 0))) (.cst (.str "single")))))) (.cons (.ret (.call 77 (.cons (.var 2) (.cons (.op2 .ix (.peek 1) (.cst (.int 1))) (.cons (.cst (.bool false)) .nil))) none)) .nil) .nil) (.cons (.ife (.or (.not (.call 3 (.cons (.var 1) (.cons (.cst (.int 3)) .nil)) none)) (.or (.not (.op1 .isStr (.op2 .ix (.peek 1) (.cst (.int 0))))) (.one (.op2 .ne (.op2 .ix (.peek 1) (.cst (.int 0))) (.cst (.str "laid")))))) (.cons (.ret (.cst (.bool false))) .nil) .nil) (.cons (.ret (.and (.call 95 (.cons (.var 2) (.cons (.op3 .slice (.peek 1) (.cst (.int 1)) (.cst .none)) .nil)) none) (.one (.op2 .gt (.op1 .len (.lc [3] (.name 3) .val (.cons (.op2 .ix (.peek 1) (.cst (.int 1))) .nil) (.cons (.op2 .gt (.op2 .ix (.peek 3) (.cst (.int 0))) (.cst (.int 1))) .nil) (.var 3))) (.cst (.int 1)))))) .nil))))⟩
/- steps_by_factor: web place other own one two webs rows part a b -/
def f101 : Fn := ⟨true, 3, 11, none,
  (.cons (.asg (.name 3) (.call 11 (.cons (.var 0) .nil) none)) (.cons (.asg (.tup [(.name 4), (.name 5)]) (.call 14 (.cons (.var 3) (.cons (.var 1) (.cons (.var 2) .nil))) none)) (.cons (.asg (.tup [(.name 6), (.name 7)]) (.call 93 (.cons (.call 22 (.cons (.var 3) .nil) none) .nil) none)) (.cons (.ret (.op1 .tuple (.lc [8, 9, 10] (.tup [(.name 8), (.name 9), (.name 10)]) .zip3 (.cons (.var 6) (.cons (.op2 .ix (.peek 7) (.peek 4)) (.cons (.op2 .ix (.peek 7) (.peek 5)) .nil))) .nil (.op2 .ix (.op2 .ix (.call 20 (.cons (.var 8) .nil) none) (.peek 9)) (.peek 10))))) .nil))))⟩
/- distance_sum: web row -/
def f102 : Fn := ⟨true, 1, 2, none,
  (.cons (.ret (.op2 .fdiv (.op1 .sum (.lc [1] (.name 1) .val (.cons (.call 20 (.cons (.call 23 (.cons (.var 0) .nil) none) .nil) none) .nil) .nil (.op1 .sum (.peek 1)))) (.cst (.int 2)))) .nil)⟩
/- sums_by_factor: web own found webs rows at part far many spot row b a -/
def f103 : Fn := ⟨true, 1, 13, none,
  (.cons (.asg (.tup [(.name 1), (.name 2)]) (.tup (.cons (.call 23 (.cons (.var 0) .nil) none) (.cons (.lst .nil) .nil)))) (.cons (.asg (.tup [(.name 3), (.name 4)]) (.call 93 (.cons (.var 1) .nil) none)) (.cons (.for (.tup [(.name 5), (.name 6)]) .enum (.cons (.var 3) .nil) (.cons (.asg (.name 7) (.call 20 (.cons (.var 6) .nil) none)) (.cons (.asg (.name 8) (.lc [9] (.name 9) .rng1 (.cons (.op2 .ix (.peek 6) (.cst (.int 0))) .nil) .nil (.op1 .len (.lc [10] (.name 10) .val (.cons (.var 4) .nil) (.cons (.op2 .eq (.op2 .ix (.peek 10) (.peek 5)) (.peek 9)) .nil) (.var 10))))) (.cons (.expr (.mut .append 2 .nil (.cons (.op1 .sum (.lc2 [11, 12] [12] (.name 11) .rng1 (.cons (.op2 .ix (.peek 6) (.cst (.int 0))) .nil) .nil (.name 12) .rng1 (.cons (.var 11) .nil) .nil (.op2 .mul (.op2 .mul (.op2 .ix (.peek 8) (.peek 12)) (.op2 .ix (.peek 8) (.peek 11))) (.op2 .ix (.op2 .ix (.peek 7) (.peek 12)) (.peek 11))))) .nil))) .nil)))) (.cons (.ret (.op1 .tuple (.peek 2))) .nil))))⟩
/- distance_counts: web own far most found two one row -/
def f104 : Fn := ⟨true, 1, 8, none,
  (.cons (.asg (.name 1) (.call 23 (.cons (.var 0) .nil) none)) (.cons (.asg (.name 2) (.call 20 (.cons (.var 1) .nil) none)) (.cons (.asg (.name 3) (.op1 .max (.lc [7] (.name 7) .val (.cons (.var 2) .nil) .nil (.op1 .max (.peek 7))))) (.cons (.asg (.name 4) (.op2 .add (.lst (.cons (.op2 .ix (.peek 1) (.cst (.int 0))) .nil)) (.op2 .mul (.lst (.cons (.cst (.int 0)) .nil)) (.peek 3)))) (.cons (.for (.name 5) .rng1 (.cons (.op2 .ix (.peek 1) (.cst (.int 0))) .nil) (.cons (.for (.name 6) .rng1 (.cons (.var 5) .nil) (.cons (.augIx 4 (.op2 .ix (.op2 .ix (.peek 2) (.peek 6)) (.peek 5)) .add (.cst (.int 1))) .nil)) .nil)) (.cons (.ret (.op1 .tuple (.peek 4))) .nil))))))⟩
/- centre: web far row place own -/
def f105 : Fn := ⟨true, 1, 5, none,
  (.cons (.asg (.name 1) (.lc [2] (.name 2) .val (.cons (.call 20 (.cons (.call 23 (.cons (.var 0) .nil) none) .nil) none) .nil) .nil (.op1 .max (.peek 2)))) (.cons (.ret (.op1 .tuple (.lc [3, 4] (.tup [(.name 3), (.name 4)]) .enum (.cons (.var 1) .nil) (.cons (.op2 .eq (.peek 4) (.op1 .min (.peek 1))) .nil) (.var 3)))) .nil))⟩
/- least_sums: web sums row place own -/
def f106 : Fn := ⟨true, 1, 5, none,
  (.cons (.asg (.name 1) (.lc [2] (.name 2) .val (.cons (.call 20 (.cons (.call 23 (.cons (.var 0) .nil) none) .nil) none) .nil) .nil (.op1 .sum (.peek 2)))) (.cons (.ret (.op1 .tuple (.lc [3, 4] (.tup [(.name 3), (.name 4)]) .enum (.cons (.var 1) .nil) (.cons (.op2 .eq (.peek 4) (.op1 .min (.peek 1))) .nil) (.var 3)))) .nil))⟩
/- _law_box: script k bit_so -/
def f107 : Fn := ⟨true, 2, 3, none,
  (.cons (.asg (.name 2) (.ite (.op2 .lt (.peek 1) (.op1 .len (.peek 0))) (.op2 .ix (.peek 0) (.peek 1)) (.cst (.int 0)))) (.cons (.ret (.lst (.cons (.op2 .mul (.op1 .abs (.peek 2)) (.op1 .int (.op2 .ge (.op1 .abs (.peek 2)) (.op2 .pow (.cst (.int 10)) (.cst (.int 18)))))) (.cons (.op2 .add (.op2 .add (.op2 .mod (.op1 .int (.peek 2)) (.cst (.int 2305843009213693951))) (.op2 .mul (.cst (.int 39373)) (.peek 1))) (.cst (.int 9304061))) (.cons (.cst (.int 0)) .nil))))) .nil))⟩
/- _law_take: tin below_so once_so wide_so twice_so drawn_so -/
def f108 : Fn := ⟨true, 2, 6, some 0,
  (.cons (.ife (.op2 .gt (.op2 .ix (.peek 0) (.cst (.int 0))) (.cst (.int 0))) (.cons (.asg (.name 5) (.op2 .mod (.op1 .int (.op2 .ix (.peek 0) (.cst (.int 0)))) (.peek 1))) (.cons (.setIx 0 .nil (.cst (.int 0)) (.op2 .fdiv (.op2 .ix (.peek 0) (.cst (.int 0))) (.peek 1))) (.cons (.ret (.mov 5)) .nil))) .nil) (.cons (.setIx 0 .nil (.cst (.int 2)) (.op2 .add (.op2 .ix (.peek 0) (.cst (.int 2))) (.cst (.int 1)))) (.cons (.asg (.name 2) (.op2 .mod (.op1 .int (.op2 .mul (.op2 .add (.op2 .ix (.peek 0) (.cst (.int 1))) (.op2 .mul (.cst (.int 48271)) (.op2 .ix (.peek 0) (.cst (.int 2))))) (.op2 .add (.cst (.int 39373)) (.op2 .ix (.peek 0) (.cst (.int 2)))))) (.cst (.int 2147483647)))) (.cons (.asg (.name 3) (.op2 .add (.op2 .mod (.op1 .int (.peek 2)) (.cst (.int 40009))) (.cst (.int 7)))) (.cons (.asg (.name 4) (.op2 .mod (.op1 .int (.op2 .mul (.op2 .add (.op2 .add (.peek 2) (.op2 .ix (.peek 0) (.cst (.int 2)))) (.op2 .fdiv (.op2 .ix (.peek 0) (.cst (.int 1))) (.cst (.int 1000003)))) (.peek 3))) (.cst (.int 2147483629)))) (.cons (.ret (.op2 .mod (.op1 .int (.op2 .fdiv (.op2 .mod (.op1 .int (.op2 .add (.op2 .mul (.peek 4) (.cst (.int 48271))) (.peek 2))) (.cst (.int 2147483587))) (.cst (.int 64)))) (.peek 1))) .nil))))))⟩
/- _law_cells: script most_so cells_so k bit_so at_so -/
def f109 : Fn := ⟨true, 2, 6, none,
  (.cons (.asg (.name 2) (.orT (.op1 .list (.op3 .slice (.peek 0) (.cst .none) (.peek 1))) (.lst (.cons (.cst (.int 0)) .nil)))) (.cons (.for (.tup [(.name 3), (.name 4)]) .enum (.cons (.op3 .slice (.peek 0) (.peek 1) (.cst (.int 63))) .nil) (.cons (.asg (.name 5) (.op2 .mod (.op1 .int (.peek 3)) (.peek 1))) (.cons (.setIx 2 .nil (.peek 5) (.op2 .add (.op2 .ix (.peek 2) (.peek 5)) (.op2 .mul (.peek 4) (.op2 .add (.peek 3) (.cst (.int 2)))))) .nil))) (.cons (.ret (.mov 2)) .nil)))⟩
/- _law_pick: tin goods_so count_so lap pool_so found -/
def f110 : Fn := ⟨true, 3, 6, some 0,
  (.cons (.asg (.tup [(.name 4), (.name 5)]) (.tup (.cons (.op1 .list (.peek 1)) (.cons (.lst .nil) .nil)))) (.cons (.for (.name 3) .rng1 (.cons (.op2 .min2 (.op1 .int (.peek 2)) (.op1 .len (.peek 4))) .nil) (.cons (.expr (.mut .append 5 .nil (.cons (.mut .popAt 4 .nil (.cons (.call 108 (.cons (.peek 0) (.cons (.op1 .len (.peek 4)) .nil)) (some (0, 0))) .nil)) .nil))) .nil)) (.cons (.ret (.mov 5)) .nil)))⟩
/- _law_same: got due mine its -/
def f111 : Fn := ⟨true, 2, 4, none,
  (.cons (.ife (.op1 .isSeq (.peek 1)) (.cons (.ife (.or (.op2 .ne (.op1 .isList (.peek 0)) (.op1 .isList (.peek 1))) (.one (.op2 .ne (.op1 .isTup (.peek 0)) (.op1 .isTup (.peek 1))))) (.cons (.ret (.cst (.bool false))) .nil) .nil) (.cons (.ret (.and (.op2 .eq (.op1 .len (.peek 0)) (.op1 .len (.peek 1))) (.one (.op1 .all (.lc [2, 3] (.tup [(.name 2), (.name 3)]) .zip2 (.cons (.var 0) (.cons (.var 1) .nil)) .nil (.call 111 (.cons (.var 2) (.cons (.var 3) .nil)) none)))))) .nil)) .nil) (.cons (.ife (.op1 .isNone (.peek 1)) (.cons (.ret (.op1 .isNone (.peek 0))) .nil) .nil) (.cons (.ife (.op1 .isBoolStr (.peek 1)) (.cons (.ret (.and (.op2 .eq (.op1 .isBool (.peek 0)) (.op1 .isBool (.peek 1))) (.and (.op2 .eq (.op1 .isStr (.peek 0)) (.op1 .isStr (.peek 1))) (.one (.op2 .eq (.peek 0) (.peek 1)))))) .nil) .nil) (.cons (.ret (.and (.op1 .isInt (.peek 0)) (.and (.not (.op1 .isBool (.peek 0))) (.one (.op2 .eq (.peek 0) (.peek 1)))))) .nil))))⟩
/- _law_unmarked: told_so -/
def f112 : Fn := ⟨true, 1, 1, none,
  (.cons (.ret (.ite (.and (.op1 .isList (.peek 0)) (.and (.op2 .gt (.op1 .len (.peek 0)) (.cst (.int 0))) (.one (.op1 .isStr (.op2 .ix (.peek 0) (.cst (.int 0))))))) (.lst (.cons (.cst (.str "told")) (.cons (.cst (.str "a mark")) .nil))) (.var 0))) .nil)⟩
/- _law_made: many_so pairs_so own -/
def f113 : Fn := ⟨true, 2, 3, none,
  (.cons (.ret (.tup (.cons (.var 0) (.cons (.op1 .tuple (.op1 .sortedSet (.lc [2] (.name 2) .val (.cons (.var 1) .nil) .nil (.tup (.cons (.op1 .min (.peek 2)) (.cons (.op1 .max (.peek 2)) .nil)))))) .nil)))) .nil)⟩
/- _law_all_rows: sizes_so found size_so later own k -/
def f114 : Fn := ⟨true, 1, 6, none,
  (.cons (.asg (.name 1) (.lst (.cons (.tup .nil) .nil))) (.cons (.for (.name 2) .val (.cons (.var 0) .nil) (.cons (.asg (.name 3) (.lst .nil)) (.cons (.for (.name 4) .val (.cons (.var 1) .nil) (.cons (.expr (.mut .extend 3 .nil (.cons (.lc [5] (.name 5) .rng1 (.cons (.var 2) .nil) .nil (.op2 .add (.peek 4) (.tup (.cons (.var 5) .nil)))) .nil))) .nil)) (.cons (.asg (.name 1) (.var 3)) .nil)))) (.cons (.ret (.mov 1)) .nil)))⟩
/- _law_product: webs_so rows_so own numbers_so pairs_so at_so web_so a b k -/
def f115 : Fn := ⟨true, 1, 10, none,
  (.cons (.asg (.name 1) (.call 114 (.cons (.lc [2] (.name 2) .val (.cons (.var 0) .nil) .nil (.op2 .ix (.peek 2) (.cst (.int 0)))) .nil) none)) (.cons (.asg (.tup [(.name 3), (.name 4)]) (.tup (.cons (.op1 .dict (.lc [2, 9] (.tup [(.name 9), (.name 2)]) .enum (.cons (.var 1) .nil) .nil (.tup (.cons (.var 2) (.cons (.var 9) .nil))))) (.cons (.lst .nil) .nil)))) (.cons (.for (.name 2) .val (.cons (.var 1) .nil) (.cons (.for (.tup [(.name 5), (.name 6)]) .enum (.cons (.var 0) .nil) (.cons (.for (.tup [(.name 7), (.name 8)]) .val (.cons (.op2 .ix (.peek 6) (.cst (.int 1))) .nil) (.cons (.ife (.op2 .eq (.op2 .ix (.peek 2) (.peek 5)) (.peek 7)) (.cons (.expr (.mut .append 4 .nil (.cons (.tup (.cons (.op2 .ix (.peek 3) (.peek 2)) (.cons (.op2 .ix (.peek 3) (.op2 .add (.op2 .add (.op3 .slice (.peek 2) (.cst .none) (.peek 5)) (.tup (.cons (.var 8) .nil))) (.op3 .slice (.peek 2) (.op2 .add (.peek 5) (.cst (.int 1))) (.cst .none)))) .nil))) .nil))) .nil) .nil) .nil)) .nil)) .nil)) (.cons (.ret (.call 113 (.cons (.op1 .len (.peek 1)) (.cons (.var 4) .nil)) none)) .nil))))⟩
/- _law_heard: door_so goods_so doors_so slip_a slip_b slip_c slip_d slip_e slip_f caught told_so -/
def f116 : Fn := ⟨true, 2, 11, none,
  (.cons (.asg (.name 2) (.tup (.cons (.fn "opposite" 51) (.cons (.fn "cornered" 53) (.cons (.fn "factor_classes" 54) (.cons (.fn "wall_classes" 55) (.cons (.fn "factor_paper" 56) (.cons (.fn "is_factor_paper" 57) (.cons (.fn "opposite_paper" 58) (.cons (.fn "is_opposite_paper" 59) (.cons (.fn "parted" 83) (.cons (.fn "is_parted" 84) (.cons (.fn "is_prime" 85) (.cons (.fn "prime_paper" 86) (.cons (.fn "is_prime_paper" 87) (.cons (.fn "prime_heaps" 88) (.cons (.fn "quotient" 89) (.cons (.fn "is_quotient" 90) (.cons (.fn "root" 91) (.cons (.fn "is_root" 92) (.cons (.fn "likeness" 70) (.cons (.fn "is_likeness" 71) (.cons (.fn "own_likenesses" 72) (.cons (.fn "all_likenesses" 73) (.cons (.fn "laid" 96) (.cons (.fn "is_laid" 97) (.cons (.fn "is_single" 98) (.cons (.fn "single_paper" 99) (.cons (.fn "is_single_paper" 100) (.cons (.fn "steps_by_factor" 101) (.cons (.fn "distance_sum" 102) (.cons (.fn "sums_by_factor" 103) (.cons (.fn "distance_counts" 104) (.cons (.fn "centre" 105) (.cons (.fn "least_sums" 106) .nil))))))))))))))))))))))))))))))))))) (.cons (.asg (.tup [(.name 9), (.name 10)]) (.tup (.cons (.cst .none) (.cons (.cst .none) .nil)))) (.cons (.try (.cons (.ife (.op2 .eq (.op1 .len (.peek 1)) (.cst (.int 1))) (.cons (.asg (.name 10) (.call 112 (.cons (.callV (.op2 .ix (.peek 2) (.peek 0)) (.cons (.op2 .ix (.peek 1) (.cst (.int 0))) .nil)) .nil) none)) .nil) (.cons (.ife (.op2 .eq (.op1 .len (.peek 1)) (.cst (.int 2))) (.cons (.asg (.name 10) (.call 112 (.cons (.callV (.op2 .ix (.peek 2) (.peek 0)) (.cons (.op2 .ix (.peek 1) (.cst (.int 0))) (.cons (.op2 .ix (.peek 1) (.cst (.int 1))) .nil))) .nil) none)) .nil) (.cons (.ife (.op2 .eq (.op1 .len (.peek 1)) (.cst (.int 3))) (.cons (.asg (.name 10) (.call 112 (.cons (.callV (.op2 .ix (.peek 2) (.peek 0)) (.cons (.op2 .ix (.peek 1) (.cst (.int 0))) (.cons (.op2 .ix (.peek 1) (.cst (.int 1))) (.cons (.op2 .ix (.peek 1) (.cst (.int 2))) .nil)))) .nil) none)) .nil) (.cons (.asg (.name 10) (.call 112 (.cons (.callV (.op2 .ix (.peek 2) (.peek 0)) (.cons (.op2 .ix (.peek 1) (.cst (.int 0))) (.cons (.op2 .ix (.peek 1) (.cst (.int 1))) (.cons (.op2 .ix (.peek 1) (.cst (.int 2))) (.cons (.op2 .ix (.peek 1) (.cst (.int 3))) .nil))))) .nil) none)) .nil)) .nil)) .nil)) .nil) [⟨5, some 3, 9, [(.cst (.str "unfit")), (.isa "ValueError")]⟩, ⟨0, some 4, 9, [(.cst (.str "no place")), (.field "place"), (.isa "LookupError")]⟩, ⟨1, some 5, 9, [(.cst (.str "no tie")), (.field "tie"), (.isa "LookupError")]⟩, ⟨3, some 6, 9, [(.cst (.str "torn")), (.isa "ValueError")]⟩, ⟨4, some 7, 9, [(.cst (.str "many")), (.isa "ValueError")]⟩, ⟨2, some 8, 9, [(.cst (.str "can not")), (.isa "ValueError")]⟩]) (.cons (.ret (.ite (.op1 .isNone (.peek 9)) (.var 10) (.var 9))) .nil))))⟩
/- _law_rows_so: rows_so edge path3 three square claw five pairs grid torn_so odd_so wide_so unfit_so many_so none_so tears_so -/
def f117 : Fn := ⟨true, 0, 16, none,
  (.cons (.asg (.tup [(.name 1), (.name 2)]) (.tup (.cons (.tup (.cons (.cst (.int 2)) (.cons (.tup (.cons (.tup (.cons (.cst (.int 0)) (.cons (.cst (.int 1)) .nil))) .nil)) .nil))) (.cons (.tup (.cons (.cst (.int 3)) (.cons (.tup (.cons (.tup (.cons (.cst (.int 0)) (.cons (.cst (.int 1)) .nil))) (.cons (.tup (.cons (.cst (.int 1)) (.cons (.cst (.int 2)) .nil))) .nil))) .nil))) .nil)))) (.cons (.asg (.tup [(.name 3), (.name 4)]) (.tup (.cons (.tup (.cons (.cst (.int 3)) (.cons (.tup (.cons (.tup (.cons (.cst (.int 0)) (.cons (.cst (.int 1)) .nil))) (.cons (.tup (.cons (.cst (.int 0)) (.cons (.cst (.int 2)) .nil))) (.cons (.tup (.cons (.cst (.int 1)) (.cons (.cst (.int 2)) .nil))) .nil)))) .nil))) (.cons (.tup (.cons (.cst (.int 4)) (.cons (.tup (.cons (.tup (.cons (.cst (.int 0)) (.cons (.cst (.int 1)) .nil))) (.cons (.tup (.cons (.cst (.int 0)) (.cons (.cst (.int 2)) .nil))) (.cons (.tup (.cons (.cst (.int 1)) (.cons (.cst (.int 3)) .nil))) (.cons (.tup (.cons (.cst (.int 2)) (.cons (.cst (.int 3)) .nil))) .nil))))) .nil))) .nil)))) (.cons (.asg (.tup [(.name 5), (.name 6)]) (.tup (.cons (.tup (.cons (.cst (.int 4)) (.cons (.tup (.cons (.tup (.cons (.cst (.int 0)) (.cons (.cst (.int 1)) .nil))) (.cons (.tup (.cons (.cst (.int 0)) (.cons (.cst (.int 2)) .nil))) (.cons (.tup (.cons (.cst (.int 0)) (.cons (.cst (.int 3)) .nil))) .nil)))) .nil))) (.cons (.tup (.cons (.cst (.int 5)) (.cons (.tup (.cons (.tup (.cons (.cst (.int 0)) (.cons (.cst (.int 1)) .nil))) (.cons (.tup (.cons (.cst (.int 0)) (.cons (.cst (.int 4)) .nil))) (.cons (.tup (.cons (.cst (.int 1)) (.cons (.cst (.int 2)) .nil))) (.cons (.tup (.cons (.cst (.int 2)) (.cons (.cst (.int 3)) .nil))) (.cons (.tup (.cons (.cst (.int 3)) (.cons (.cst (.int 4)) .nil))) .nil)))))) .nil))) .nil)))) (.cons (.asg (.tup [(.name 7), (.name 8)]) (.tup (.cons (.tup (.cons (.cst (.int 5)) (.cons (.tup (.cons (.tup (.cons (.cst (.int 0)) (.cons (.cst (.int 2)) .nil))) (.cons (.tup (.cons (.cst (.int 0)) (.cons (.cst (.int 3)) .nil))) (.cons (.tup (.cons (.cst (.int 0)) (.cons (.cst (.int 4)) .nil))) (.cons (.tup (.cons (.cst (.int 1)) (.cons (.cst (.int 2)) .nil))) (.cons (.tup (.cons (.cst (.int 1)) (.cons (.cst (.int 3)) .nil))) (.cons (.tup (.cons (.cst (.int 1)) (.cons (.cst (.int 4)) .nil))) .nil))))))) .nil))) (.cons (.tup (.cons (.cst (.int 6)) (.cons (.tup (.cons (.tup (.cons (.cst (.int 0)) (.cons (.cst (.int 1)) .nil))) (.cons (.tup (.cons (.cst (.int 0)) (.cons (.cst (.int 3)) .nil))) (.cons (.tup (.cons (.cst (.int 1)) (.cons (.cst (.int 2)) .nil))) (.cons (.tup (.cons (.cst (.int 1)) (.cons (.cst (.int 4)) .nil))) (.cons (.tup (.cons (.cst (.int 2)) (.cons (.cst (.int 5)) .nil))) (.cons (.tup (.cons (.cst (.int 3)) (.cons (.cst (.int 4)) .nil))) (.cons (.tup (.cons (.cst (.int 4)) (.cons (.cst (.int 5)) .nil))) .nil)))))))) .nil))) .nil)))) (.cons (.asg (.tup [(.name 9), (.name 10), (.name 11)]) (.tup (.cons (.tup (.cons (.cst (.int 3)) (.cons (.tup (.cons (.tup (.cons (.cst (.int 0)) (.cons (.cst (.int 1)) .nil))) .nil)) .nil))) (.cons (.tup (.cons (.cst (.int 3)) (.cons (.tup (.cons (.tup (.cons (.cst (.int 1)) (.cons (.cst (.int 0)) .nil))) .nil)) .nil))) (.cons (.call 115 (.cons (.tup (.cons (.tup (.cons (.cst (.int 6)) (.cons (.tup (.cons (.tup (.cons (.cst (.int 0)) (.cons (.cst (.int 1)) .nil))) (.cons (.tup (.cons (.cst (.int 1)) (.cons (.cst (.int 2)) .nil))) (.cons (.tup (.cons (.cst (.int 2)) (.cons (.cst (.int 3)) .nil))) (.cons (.tup (.cons (.cst (.int 3)) (.cons (.cst (.int 4)) .nil))) (.cons (.tup (.cons (.cst (.int 4)) (.cons (.cst (.int 5)) .nil))) .nil)))))) .nil))) (.cons (.tup (.cons (.cst (.int 6)) (.cons (.tup (.cons (.tup (.cons (.cst (.int 0)) (.cons (.cst (.int 1)) .nil))) (.cons (.tup (.cons (.cst (.int 1)) (.cons (.cst (.int 2)) .nil))) (.cons (.tup (.cons (.cst (.int 2)) (.cons (.cst (.int 3)) .nil))) (.cons (.tup (.cons (.cst (.int 3)) (.cons (.cst (.int 4)) .nil))) (.cons (.tup (.cons (.cst (.int 4)) (.cons (.cst (.int 5)) .nil))) .nil)))))) .nil))) .nil))) .nil) none) .nil))))) (.cons (.asg (.tup [(.name 12), (.name 13), (.name 14), (.name 15)]) (.tup (.cons (.lst (.cons (.cst (.str "unfit")) (.cons (.cst (.bool true)) .nil))) (.cons (.lst (.cons (.cst (.str "many")) (.cons (.cst (.bool true)) .nil))) (.cons (.lst (.cons (.cst (.str "can not")) (.cons (.cst (.bool true)) .nil))) (.cons (.lst (.cons (.cst (.str "torn")) (.cons (.cst (.bool true)) .nil))) .nil)))))) (.cons (.asg (.name 0) (.lst (.cons (.tup (.cons (.cst (.int 0)) (.cons (.tup (.cons (.var 10) (.cons (.tup (.cons (.cst (.int 0)) (.cons (.cst (.int 1)) .nil))) (.cons (.tup (.cons (.cst (.int 0)) (.cons (.cst (.int 1)) .nil))) .nil)))) (.cons (.var 12) .nil)))) (.cons (.tup (.cons (.cst (.int 0)) (.cons (.tup (.cons (.var 2) (.cons (.tup (.cons (.cst (.int 1)) (.cons (.cst (.int 0)) .nil))) (.cons (.tup (.cons (.cst (.int 0)) (.cons (.cst (.int 1)) .nil))) .nil)))) (.cons (.var 12) .nil)))) (.cons (.tup (.cons (.cst (.int 0)) (.cons (.tup (.cons (.var 2) (.cons (.tup (.cons (.cst (.int 0)) (.cons (.cst (.int 3)) .nil))) (.cons (.tup (.cons (.cst (.int 0)) (.cons (.cst (.int 2)) .nil))) .nil)))) (.cons (.var 12) .nil)))) (.cons (.tup (.cons (.cst (.int 0)) (.cons (.tup (.cons (.var 2) (.cons (.tup (.cons (.cst (.int 0)) (.cons (.cst (.int 2)) .nil))) (.cons (.tup (.cons (.cst (.int 0)) (.cons (.cst (.int 2)) .nil))) .nil)))) (.cons (.lst (.cons (.cst (.str "no tie")) (.cons (.tup (.cons (.cst (.int 0)) (.cons (.cst (.int 2)) .nil))) (.cons (.cst (.bool true)) .nil)))) .nil)))) (.cons (.tup (.cons (.cst (.int 0)) (.cons (.tup (.cons (.var 2) (.cons (.tup (.cons (.cst (.int 0)) (.cons (.cst (.int 1)) .nil))) (.cons (.tup (.cons (.cst (.int 0)) (.cons (.cst (.int 2)) .nil))) .nil)))) (.cons (.lst (.cons (.cst (.str "no tie")) (.cons (.tup (.cons (.cst (.int 0)) (.cons (.cst (.int 2)) .nil))) (.cons (.cst (.bool true)) .nil)))) .nil)))) (.cons (.tup (.cons (.cst (.int 0)) (.cons (.tup (.cons (.var 2) (.cons (.tup (.cons (.cst (.int 0)) (.cons (.cst (.int 2)) .nil))) (.cons (.tup (.cons (.cst (.int 0)) (.cons (.cst (.int 0)) .nil))) .nil)))) (.cons (.var 12) .nil)))) (.cons (.tup (.cons (.cst (.int 0)) (.cons (.tup (.cons (.var 9) (.cons (.tup (.cons (.cst (.int 0)) (.cons (.cst (.int 1)) .nil))) (.cons (.tup (.cons (.cst (.int 0)) (.cons (.cst (.int 1)) .nil))) .nil)))) (.cons (.var 15) .nil)))) (.cons (.tup (.cons (.cst (.int 0)) (.cons (.tup (.cons (.var 9) (.cons (.tup (.cons (.cst (.int 0)) (.cons (.cst (.int 2)) .nil))) (.cons (.tup (.cons (.cst (.int 0)) (.cons (.cst (.int 1)) .nil))) .nil)))) (.cons (.lst (.cons (.cst (.str "no tie")) (.cons (.tup (.cons (.cst (.int 0)) (.cons (.cst (.int 2)) .nil))) (.cons (.cst (.bool true)) .nil)))) .nil)))) (.cons (.tup (.cons (.cst (.int 0)) (.cons (.tup (.cons (.var 2) (.cons (.cst (.int 0)) (.cons (.cst (.int 1)) .nil)))) (.cons (.var 12) .nil)))) (.cons (.tup (.cons (.cst (.int 1)) (.cons (.tup (.cons (.var 9) (.cons (.tup (.cons (.cst (.int 0)) (.cons (.cst (.int 1)) .nil))) (.cons (.tup (.cons (.cst (.int 1)) (.cons (.cst (.int 2)) .nil))) .nil)))) (.cons (.lst (.cons (.cst (.str "no tie")) (.cons (.tup (.cons (.cst (.int 1)) (.cons (.cst (.int 2)) .nil))) (.cons (.cst (.bool true)) .nil)))) .nil)))) (.cons (.tup (.cons (.cst (.int 1)) (.cons (.tup (.cons (.var 9) (.cons (.tup (.cons (.cst (.int 0)) (.cons (.cst (.int 1)) .nil))) (.cons (.tup (.cons (.cst (.int 0)) (.cons (.cst (.int 1)) .nil))) .nil)))) (.cons (.var 15) .nil)))) (.cons (.tup (.cons (.cst (.int 1)) (.cons (.tup (.cons (.var 2) (.cons (.cst .none) (.cons (.tup (.cons (.cst (.int 0)) (.cons (.cst (.int 1)) .nil))) .nil)))) (.cons (.var 12) .nil)))) (.cons (.tup (.cons (.cst (.int 2)) (.cons (.tup (.cons (.var 9) .nil)) (.cons (.var 15) .nil)))) (.cons (.tup (.cons (.cst (.int 2)) (.cons (.tup (.cons (.var 10) .nil)) (.cons (.var 12) .nil)))) .nil)))))))))))))))) (.cons (.asg (.name 0) (.op2 .add (.peek 0) (.lst (.cons (.tup (.cons (.cst (.int 2)) (.cons (.tup (.cons (.tup (.cons (.cst (.int 1)) (.cons (.tup .nil) .nil))) .nil)) (.cons (.tup .nil) .nil)))) (.cons (.tup (.cons (.cst (.int 3)) (.cons (.tup (.cons (.var 9) .nil)) (.cons (.var 15) .nil)))) (.cons (.tup (.cons (.cst (.int 3)) (.cons (.tup (.cons (.cst (.int 7)) .nil)) (.cons (.var 12) .nil)))) (.cons (.tup (.cons (.cst (.int 4)) (.cons (.tup (.cons (.var 2) (.cons (.tup (.cons (.cst (.int 0)) (.cons (.cst (.int 2)) .nil))) (.cons (.tup (.cons (.cst (.int 0)) (.cons (.cst (.int 1)) .nil))) .nil)))) (.cons (.lst (.cons (.cst (.str "no tie")) (.cons (.tup (.cons (.cst (.int 0)) (.cons (.cst (.int 2)) .nil))) (.cons (.cst (.bool true)) .nil)))) .nil)))) (.cons (.tup (.cons (.cst (.int 4)) (.cons (.tup (.cons (.var 9) (.cons (.tup (.cons (.cst (.int 0)) (.cons (.cst (.int 1)) .nil))) (.cons (.tup (.cons (.cst (.int 0)) (.cons (.cst (.int 1)) .nil))) .nil)))) (.cons (.var 15) .nil)))) (.cons (.tup (.cons (.cst (.int 4)) (.cons (.tup (.cons (.var 10) (.cons (.tup (.cons (.cst (.int 0)) (.cons (.cst (.int 2)) .nil))) (.cons (.tup (.cons (.cst (.int 0)) (.cons (.cst (.int 1)) .nil))) .nil)))) (.cons (.var 12) .nil)))) (.cons (.tup (.cons (.cst (.int 5)) (.cons (.tup (.cons (.var 2) (.cons (.tup (.cons (.cst (.int 0)) (.cons (.cst (.int 2)) .nil))) (.cons (.tup (.cons (.cst (.int 0)) (.cons (.cst (.int 1)) .nil))) (.cons (.cst .none) .nil))))) (.cons (.lst (.cons (.cst (.str "no tie")) (.cons (.tup (.cons (.cst (.int 0)) (.cons (.cst (.int 2)) .nil))) (.cons (.cst (.bool true)) .nil)))) .nil)))) (.cons (.tup (.cons (.cst (.int 5)) (.cons (.tup (.cons (.var 9) (.cons (.tup (.cons (.cst (.int 0)) (.cons (.cst (.int 1)) .nil))) (.cons (.tup (.cons (.cst (.int 0)) (.cons (.cst (.int 1)) .nil))) (.cons (.cst .none) .nil))))) (.cons (.var 15) .nil)))) (.cons (.tup (.cons (.cst (.int 5)) (.cons (.tup (.cons (.var 2) (.cons (.tup (.cons (.cst (.int 0)) (.cons (.cst (.int 1)) .nil))) (.cons (.tup (.cons (.cst (.int 0)) (.cons (.cst (.bool true)) .nil))) (.cons (.cst .none) .nil))))) (.cons (.var 12) .nil)))) (.cons (.tup (.cons (.cst (.int 5)) (.cons (.tup (.cons (.var 2) (.cons (.tup (.cons (.cst (.int 0)) (.cons (.cst (.int 1)) .nil))) (.cons (.tup (.cons (.cst (.int 0)) (.cons (.cst (.int 1)) .nil))) (.cons (.lst (.cons (.lst .nil) .nil)) .nil))))) (.cons (.cst (.bool false)) .nil)))) (.cons (.tup (.cons (.cst (.int 6)) (.cons (.tup (.cons (.var 2) (.cons (.tup (.cons (.cst (.int 0)) (.cons (.cst (.int 1)) .nil))) (.cons (.tup (.cons (.cst (.int 0)) (.cons (.cst (.int 2)) .nil))) .nil)))) (.cons (.lst (.cons (.cst (.str "no tie")) (.cons (.tup (.cons (.cst (.int 0)) (.cons (.cst (.int 2)) .nil))) (.cons (.cst (.bool true)) .nil)))) .nil)))) (.cons (.tup (.cons (.cst (.int 6)) (.cons (.tup (.cons (.var 9) (.cons (.tup (.cons (.cst (.int 0)) (.cons (.cst (.int 1)) .nil))) (.cons (.tup (.cons (.cst (.int 0)) (.cons (.cst (.int 1)) .nil))) .nil)))) (.cons (.var 15) .nil)))) (.cons (.tup (.cons (.cst (.int 7)) (.cons (.tup (.cons (.var 2) (.cons (.tup (.cons (.cst (.int 0)) (.cons (.cst (.int 1)) .nil))) (.cons (.tup (.cons (.cst (.int 2)) (.cons (.cst (.int 1)) .nil))) (.cons (.cst (.int 0)) .nil))))) (.cons (.var 12) .nil)))) (.cons (.tup (.cons (.cst (.int 7)) (.cons (.tup (.cons (.var 9) (.cons (.tup (.cons (.cst (.int 0)) (.cons (.cst (.int 1)) .nil))) (.cons (.tup (.cons (.cst (.int 0)) (.cons (.cst (.int 1)) .nil))) (.cons (.cst (.int 0)) .nil))))) (.cons (.var 15) .nil)))) .nil))))))))))))))))) (.cons (.asg (.name 0) (.op2 .add (.peek 0) (.lst (.cons (.tup (.cons (.cst (.int 7)) (.cons (.tup (.cons (.var 2) (.cons (.tup (.cons (.cst (.int 0)) (.cons (.cst (.int 1)) .nil))) (.cons (.tup (.cons (.cst (.int 0)) (.cons (.cst (.int 1)) .nil))) (.cons (.tup (.cons (.cst (.str "chain")) (.cons (.tup (.cons (.tup (.cons (.cst (.int 0)) (.cons (.cst (.int 1)) .nil))) (.cons (.cst .none) .nil))) .nil))) .nil))))) (.cons (.cst (.bool false)) .nil)))) (.cons (.tup (.cons (.cst (.int 8)) (.cons (.tup (.cons (.var 9) .nil)) (.cons (.var 15) .nil)))) (.cons (.tup (.cons (.cst (.int 8)) (.cons (.tup (.cons (.var 10) .nil)) (.cons (.var 12) .nil)))) (.cons (.tup (.cons (.cst (.int 9)) (.cons (.tup (.cons (.var 9) (.cons (.cst (.int 0)) .nil))) (.cons (.var 15) .nil)))) (.cons (.tup (.cons (.cst (.int 9)) (.cons (.tup (.cons (.var 10) (.cons (.cst (.int 0)) .nil))) (.cons (.var 12) .nil)))) (.cons (.tup (.cons (.cst (.int 9)) (.cons (.tup (.cons (.var 2) (.cons (.tup (.cons (.tup (.cons (.var 2) .nil)) (.cons (.tup (.cons (.tup (.cons (.cst (.int 0)) .nil)) (.cons (.tup (.cons (.cst (.int 1)) .nil)) (.cons (.tup (.cons (.cst .none) .nil)) .nil)))) .nil))) .nil))) (.cons (.cst (.bool false)) .nil)))) (.cons (.tup (.cons (.cst (.int 9)) (.cons (.tup (.cons (.tup (.cons (.cst (.int 1)) (.cons (.tup .nil) .nil))) (.cons (.tup (.cons (.tup .nil) (.cons (.tup (.cons (.tup .nil) .nil)) .nil))) .nil))) (.cons (.cst (.bool true)) .nil)))) (.cons (.tup (.cons (.cst (.int 9)) (.cons (.tup (.cons (.tup (.cons (.cst (.int 1)) (.cons (.tup .nil) .nil))) (.cons (.tup (.cons (.tup (.cons (.tup (.cons (.cst (.int 1)) (.cons (.tup .nil) .nil))) .nil)) (.cons (.tup (.cons (.tup (.cons (.cst (.int 0)) .nil)) .nil)) .nil))) .nil))) (.cons (.cst (.bool false)) .nil)))) (.cons (.tup (.cons (.cst (.int 10)) (.cons (.tup (.cons (.var 9) .nil)) (.cons (.var 15) .nil)))) (.cons (.tup (.cons (.cst (.int 10)) (.cons (.tup (.cons (.tup (.cons (.cst (.int 2)) (.cons (.lst (.cons (.lst (.cons (.cst (.int 0)) (.cons (.cst (.int 1)) .nil))) (.cons (.lst (.cons (.cst (.int 0)) (.cons (.cst (.int 1)) .nil))) .nil))) .nil))) .nil)) (.cons (.var 12) .nil)))) (.cons (.tup (.cons (.cst (.int 11)) (.cons (.tup (.cons (.tup (.cons (.cst (.int 1)) (.cons (.tup .nil) .nil))) .nil)) (.cons (.var 14) .nil)))) (.cons (.tup (.cons (.cst (.int 11)) (.cons (.tup (.cons (.tup (.cons (.cst (.int 2)) (.cons (.tup .nil) .nil))) .nil)) (.cons (.var 15) .nil)))) (.cons (.tup (.cons (.cst (.int 11)) (.cons (.tup (.cons (.var 10) .nil)) (.cons (.var 12) .nil)))) (.cons (.tup (.cons (.cst (.int 12)) (.cons (.tup (.cons (.tup (.cons (.cst (.int 1)) (.cons (.tup .nil) .nil))) (.cons (.cst .none) .nil))) (.cons (.var 14) .nil)))) .nil))))))))))))))))) (.cons (.asg (.name 0) (.op2 .add (.peek 0) (.lst (.cons (.tup (.cons (.cst (.int 12)) (.cons (.tup (.cons (.tup (.cons (.cst (.int 2)) (.cons (.tup .nil) .nil))) (.cons (.cst .none) .nil))) (.cons (.var 15) .nil)))) (.cons (.tup (.cons (.cst (.int 12)) (.cons (.tup (.cons (.var 10) (.cons (.cst .none) .nil))) (.cons (.var 12) .nil)))) (.cons (.tup (.cons (.cst (.int 12)) (.cons (.tup (.cons (.var 2) (.cons (.tup (.cons (.cst (.str "prime")) (.cons (.tup (.cons (.tup (.cons (.cst .none) .nil)) .nil)) .nil))) .nil))) (.cons (.cst (.bool false)) .nil)))) (.cons (.tup (.cons (.cst (.int 12)) (.cons (.tup (.cons (.var 1) (.cons (.tup (.cons (.cst (.str "prime")) (.cons (.tup .nil) .nil))) .nil))) (.cons (.cst (.bool true)) .nil)))) (.cons (.tup (.cons (.cst (.int 13)) (.cons (.tup (.cons (.var 9) .nil)) (.cons (.var 15) .nil)))) (.cons (.tup (.cons (.cst (.int 13)) (.cons (.tup (.cons (.cst .none) .nil)) (.cons (.var 12) .nil)))) (.cons (.tup (.cons (.cst (.int 14)) (.cons (.tup (.cons (.var 9) (.cons (.var 10) .nil))) (.cons (.var 12) .nil)))) (.cons (.tup (.cons (.cst (.int 14)) (.cons (.tup (.cons (.var 10) (.cons (.var 9) .nil))) (.cons (.var 12) .nil)))) (.cons (.tup (.cons (.cst (.int 14)) (.cons (.tup (.cons (.var 9) (.cons (.var 1) .nil))) (.cons (.var 15) .nil)))) (.cons (.tup (.cons (.cst (.int 14)) (.cons (.tup (.cons (.var 1) (.cons (.var 9) .nil))) (.cons (.var 15) .nil)))) (.cons (.tup (.cons (.cst (.int 14)) (.cons (.tup (.cons (.var 2) (.cons (.var 1) .nil))) (.cons (.var 14) .nil)))) (.cons (.tup (.cons (.cst (.int 14)) (.cons (.tup (.cons (.var 1) (.cons (.var 4) .nil))) (.cons (.var 14) .nil)))) (.cons (.tup (.cons (.cst (.int 14)) (.cons (.tup (.cons (.tup (.cons (.cst (.int 1)) (.cons (.tup .nil) .nil))) (.cons (.var 1) .nil))) (.cons (.var 14) .nil)))) (.cons (.tup (.cons (.cst (.int 15)) (.cons (.tup (.cons (.var 9) (.cons (.var 10) (.cons (.cst .none) .nil)))) (.cons (.var 12) .nil)))) .nil))))))))))))))))) (.cons (.asg (.name 0) (.op2 .add (.peek 0) (.lst (.cons (.tup (.cons (.cst (.int 15)) (.cons (.tup (.cons (.var 1) (.cons (.var 9) (.cons (.cst .none) .nil)))) (.cons (.var 15) .nil)))) (.cons (.tup (.cons (.cst (.int 15)) (.cons (.tup (.cons (.var 1) (.cons (.var 1) (.cons (.tup (.cons (.cst (.int 1)) (.cons (.tup .nil) .nil))) .nil)))) (.cons (.cst (.bool true)) .nil)))) (.cons (.tup (.cons (.cst (.int 15)) (.cons (.tup (.cons (.var 1) (.cons (.var 1) (.cons (.lst (.cons (.cst (.int 1)) (.cons (.tup .nil) .nil))) .nil)))) (.cons (.cst (.bool false)) .nil)))) (.cons (.tup (.cons (.cst (.int 15)) (.cons (.tup (.cons (.var 4) (.cons (.var 1) (.cons (.tup (.cons (.cst (.int 2)) (.cons (.tup .nil) .nil))) .nil)))) (.cons (.cst (.bool false)) .nil)))) (.cons (.tup (.cons (.cst (.int 15)) (.cons (.tup (.cons (.var 1) (.cons (.var 4) (.cons (.var 1) .nil)))) (.cons (.cst (.bool false)) .nil)))) (.cons (.tup (.cons (.cst (.int 16)) (.cons (.tup (.cons (.var 2) (.cons (.cst (.int 0)) .nil))) (.cons (.var 12) .nil)))) (.cons (.tup (.cons (.cst (.int 16)) (.cons (.tup (.cons (.var 2) (.cons (.cst (.bool true)) .nil))) (.cons (.var 12) .nil)))) (.cons (.tup (.cons (.cst (.int 16)) (.cons (.tup (.cons (.var 9) (.cons (.cst (.int 0)) .nil))) (.cons (.var 12) .nil)))) (.cons (.tup (.cons (.cst (.int 16)) (.cons (.tup (.cons (.var 9) (.cons (.cst (.int 1)) .nil))) (.cons (.var 15) .nil)))) (.cons (.tup (.cons (.cst (.int 16)) (.cons (.tup (.cons (.var 2) (.cons (.cst (.int 2)) .nil))) (.cons (.var 14) .nil)))) (.cons (.tup (.cons (.cst (.int 16)) (.cons (.tup (.cons (.var 2) (.cons (.cst .none) .nil))) (.cons (.var 12) .nil)))) (.cons (.tup (.cons (.cst (.int 16)) (.cons (.tup (.cons (.var 1) (.cons (.op2 .pow (.cst (.int 10)) (.cst (.int 5))) .nil))) (.cons (.var 14) .nil)))) (.cons (.tup (.cons (.cst (.int 16)) (.cons (.tup (.cons (.tup (.cons (.cst (.int 1)) (.cons (.tup .nil) .nil))) (.cons (.op2 .pow (.cst (.int 10)) (.cst (.int 5))) .nil))) (.cons (.tup (.cons (.cst (.int 1)) (.cons (.tup .nil) .nil))) .nil)))) (.cons (.tup (.cons (.cst (.int 17)) (.cons (.tup (.cons (.var 9) (.cons (.op1 .neg (.cst (.int 1))) (.cons (.cst .none) .nil)))) (.cons (.var 12) .nil)))) .nil))))))))))))))))) (.cons (.asg (.name 0) (.op2 .add (.peek 0) (.lst (.cons (.tup (.cons (.cst (.int 17)) (.cons (.tup (.cons (.var 9) (.cons (.cst (.int 2)) (.cons (.cst .none) .nil)))) (.cons (.var 15) .nil)))) (.cons (.tup (.cons (.cst (.int 17)) (.cons (.tup (.cons (.var 4) (.cons (.cst (.int 2)) (.cons (.tup (.cons (.cst (.int 2)) (.cons (.tup .nil) .nil))) .nil)))) (.cons (.cst (.bool false)) .nil)))) (.cons (.tup (.cons (.cst (.int 17)) (.cons (.tup (.cons (.var 4) (.cons (.cst (.int 2)) (.cons (.lst (.cons (.cst (.int 2)) (.cons (.tup (.cons (.tup (.cons (.cst (.int 0)) (.cons (.cst (.int 1)) .nil))) .nil)) .nil))) .nil)))) (.cons (.cst (.bool false)) .nil)))) (.cons (.tup (.cons (.cst (.int 17)) (.cons (.tup (.cons (.var 1) (.cons (.op2 .pow (.cst (.int 10)) (.cst (.int 5))) (.cons (.var 1) .nil)))) (.cons (.cst (.bool false)) .nil)))) (.cons (.tup (.cons (.cst (.int 17)) (.cons (.tup (.cons (.tup (.cons (.cst (.int 1)) (.cons (.tup .nil) .nil))) (.cons (.op2 .pow (.cst (.int 10)) (.cst (.int 5))) (.cons (.tup (.cons (.cst (.int 1)) (.cons (.tup .nil) .nil))) .nil)))) (.cons (.cst (.bool true)) .nil)))) (.cons (.tup (.cons (.cst (.int 18)) (.cons (.tup (.cons (.var 10) (.cons (.var 2) .nil))) (.cons (.var 12) .nil)))) (.cons (.tup (.cons (.cst (.int 18)) (.cons (.tup (.cons (.var 2) (.cons (.cst .none) .nil))) (.cons (.var 12) .nil)))) (.cons (.tup (.cons (.cst (.int 18)) (.cons (.tup (.cons (.var 9) (.cons (.var 2) .nil))) (.cons (.cst .none) .nil)))) (.cons (.tup (.cons (.cst (.int 19)) (.cons (.tup (.cons (.var 10) (.cons (.var 2) (.cons (.cst .none) .nil)))) (.cons (.var 12) .nil)))) (.cons (.tup (.cons (.cst (.int 19)) (.cons (.tup (.cons (.var 2) (.cons (.cst (.int 0)) (.cons (.cst .none) .nil)))) (.cons (.var 12) .nil)))) (.cons (.tup (.cons (.cst (.int 19)) (.cons (.tup (.cons (.var 9) (.cons (.tup (.cons (.cst (.int 3)) (.cons (.tup (.cons (.tup (.cons (.cst (.int 1)) (.cons (.cst (.int 2)) .nil))) .nil)) .nil))) (.cons (.tup (.cons (.cst (.int 1)) (.cons (.cst (.int 2)) (.cons (.cst (.int 0)) .nil)))) .nil)))) (.cons (.cst (.bool true)) .nil)))) (.cons (.tup (.cons (.cst (.int 19)) (.cons (.tup (.cons (.var 2) (.cons (.var 2) (.cons (.tup (.cons (.tup .nil) .nil)) .nil)))) (.cons (.cst (.bool false)) .nil)))) (.cons (.tup (.cons (.cst (.int 20)) (.cons (.tup (.cons (.var 10) .nil)) (.cons (.var 12) .nil)))) .nil)))))))))))))))) (.cons (.asg (.name 0) (.op2 .add (.peek 0) (.lst (.cons (.tup (.cons (.cst (.int 20)) (.cons (.tup (.cons (.var 9) .nil)) (.cons (.cst (.int 2)) .nil)))) (.cons (.tup (.cons (.cst (.int 21)) (.cons (.tup (.cons (.var 10) .nil)) (.cons (.var 12) .nil)))) (.cons (.tup (.cons (.cst (.int 21)) (.cons (.tup (.cons (.tup (.cons (.cst (.int 7)) (.cons (.tup .nil) .nil))) .nil)) (.cons (.var 13) .nil)))) (.cons (.tup (.cons (.cst (.int 21)) (.cons (.tup (.cons (.var 9) .nil)) (.cons (.lst (.cons (.tup (.cons (.cst (.int 0)) (.cons (.cst (.int 1)) (.cons (.cst (.int 2)) .nil)))) (.cons (.tup (.cons (.cst (.int 1)) (.cons (.cst (.int 0)) (.cons (.cst (.int 2)) .nil)))) .nil))) .nil)))) (.cons (.tup (.cons (.cst (.int 22)) (.cons (.tup (.cons (.var 9) .nil)) (.cons (.var 15) .nil)))) (.cons (.tup (.cons (.cst (.int 22)) (.cons (.tup (.cons (.var 10) .nil)) (.cons (.var 12) .nil)))) (.cons (.tup (.cons (.cst (.int 23)) (.cons (.tup (.cons (.var 9) (.cons (.cst .none) .nil))) (.cons (.var 15) .nil)))) (.cons (.tup (.cons (.cst (.int 23)) (.cons (.tup (.cons (.var 10) (.cons (.cst .none) .nil))) (.cons (.var 12) .nil)))) (.cons (.tup (.cons (.cst (.int 23)) (.cons (.tup (.cons (.var 1) (.cons (.tup (.cons (.tup (.cons (.var 1) .nil)) (.cons (.tup (.cons (.tup (.cons (.cst (.int 0)) .nil)) (.cons (.tup (.cons (.cst (.int 1)) (.cons (.cst (.int 1)) .nil))) .nil))) .nil))) .nil))) (.cons (.cst (.bool false)) .nil)))) (.cons (.tup (.cons (.cst (.int 24)) (.cons (.tup (.cons (.var 9) .nil)) (.cons (.var 15) .nil)))) (.cons (.tup (.cons (.cst (.int 24)) (.cons (.tup (.cons (.tup .nil) .nil)) (.cons (.var 12) .nil)))) (.cons (.tup (.cons (.cst (.int 25)) (.cons (.tup (.cons (.tup (.cons (.cst (.int 1)) (.cons (.tup .nil) .nil))) .nil)) (.cons (.var 14) .nil)))) (.cons (.tup (.cons (.cst (.int 25)) (.cons (.tup (.cons (.tup (.cons (.cst (.int 2)) (.cons (.tup .nil) .nil))) .nil)) (.cons (.var 15) .nil)))) (.cons (.tup (.cons (.cst (.int 25)) (.cons (.tup (.cons (.var 10) .nil)) (.cons (.var 12) .nil)))) .nil))))))))))))))))) (.cons (.asg (.name 0) (.op2 .add (.peek 0) (.lst (.cons (.tup (.cons (.cst (.int 26)) (.cons (.tup (.cons (.tup (.cons (.cst (.int 1)) (.cons (.tup .nil) .nil))) (.cons (.cst (.int 0)) .nil))) (.cons (.var 14) .nil)))) (.cons (.tup (.cons (.cst (.int 26)) (.cons (.tup (.cons (.tup (.cons (.cst (.int 2)) (.cons (.tup .nil) .nil))) (.cons (.cst (.int 0)) .nil))) (.cons (.var 15) .nil)))) (.cons (.tup (.cons (.cst (.int 26)) (.cons (.tup (.cons (.var 10) (.cons (.cst (.int 0)) .nil))) (.cons (.var 12) .nil)))) (.cons (.tup (.cons (.cst (.int 26)) (.cons (.tup (.cons (.var 1) (.cons (.tup (.cons (.cst (.str "single")) (.cons (.tup .nil) .nil))) .nil))) (.cons (.cst (.bool true)) .nil)))) (.cons (.tup (.cons (.cst (.int 26)) (.cons (.tup (.cons (.var 1) (.cons (.tup (.cons (.cst (.str "single")) (.cons (.tup (.cons (.tup .nil) .nil)) .nil))) .nil))) (.cons (.cst (.bool false)) .nil)))) (.cons (.tup (.cons (.cst (.int 27)) (.cons (.tup (.cons (.var 10) (.cons (.cst (.int 0)) (.cons (.cst (.int 5)) .nil)))) (.cons (.var 12) .nil)))) (.cons (.tup (.cons (.cst (.int 27)) (.cons (.tup (.cons (.var 2) (.cons (.cst (.int 5)) (.cons (.cst .none) .nil)))) (.cons (.var 12) .nil)))) (.cons (.tup (.cons (.cst (.int 27)) (.cons (.tup (.cons (.var 2) (.cons (.cst (.int 5)) (.cons (.op1 .neg (.cst (.int 2))) .nil)))) (.cons (.lst (.cons (.cst (.str "no place")) (.cons (.cst (.int 5)) (.cons (.cst (.bool true)) .nil)))) .nil)))) (.cons (.tup (.cons (.cst (.int 27)) (.cons (.tup (.cons (.var 9) (.cons (.cst (.int 0)) (.cons (.cst (.int 5)) .nil)))) (.cons (.lst (.cons (.cst (.str "no place")) (.cons (.cst (.int 5)) (.cons (.cst (.bool true)) .nil)))) .nil)))) (.cons (.tup (.cons (.cst (.int 27)) (.cons (.tup (.cons (.var 9) (.cons (.cst (.int 0)) (.cons (.cst (.int 1)) .nil)))) (.cons (.var 15) .nil)))) (.cons (.tup (.cons (.cst (.int 28)) (.cons (.tup (.cons (.var 9) .nil)) (.cons (.var 15) .nil)))) (.cons (.tup (.cons (.cst (.int 28)) (.cons (.tup (.cons (.var 10) .nil)) (.cons (.var 12) .nil)))) (.cons (.tup (.cons (.cst (.int 29)) (.cons (.tup (.cons (.var 9) .nil)) (.cons (.var 15) .nil)))) (.cons (.tup (.cons (.cst (.int 30)) (.cons (.tup (.cons (.var 9) .nil)) (.cons (.var 15) .nil)))) .nil))))))))))))))))) (.cons (.asg (.name 0) (.op2 .add (.peek 0) (.lst (.cons (.tup (.cons (.cst (.int 31)) (.cons (.tup (.cons (.var 9) .nil)) (.cons (.var 15) .nil)))) (.cons (.tup (.cons (.cst (.int 31)) (.cons (.tup (.cons (.cst .none) .nil)) (.cons (.var 12) .nil)))) (.cons (.tup (.cons (.cst (.int 32)) (.cons (.tup (.cons (.var 9) .nil)) (.cons (.var 15) .nil)))) (.cons (.tup (.cons (.cst (.int 32)) (.cons (.tup (.cons (.var 10) .nil)) (.cons (.var 12) .nil)))) .nil))))))) (.cons (.ret (.mov 0)) .nil))))))))))))))))⟩
/- law: script tin rows_so door_so goods_so due -/
def f118 : Fn := ⟨true, 1, 6, none,
  (.cons (.asg (.name 1) (.call 107 (.cons (.call 109 (.cons (.var 0) (.cons (.cst (.int 1)) .nil)) none) (.cons (.cst (.int 0)) .nil)) none)) (.cons (.asg (.name 2) (.call 117 .nil none)) (.cons (.for (.tup [(.name 3), (.name 4), (.name 5)]) .val (.cons (.call 110 (.cons (.peek 1) (.cons (.var 2) (.cons (.op1 .len (.peek 2)) .nil))) (some (0, 1))) .nil) (.cons (.ife (.not (.call 111 (.cons (.lst (.cons (.call 116 (.cons (.var 3) (.cons (.var 4) .nil)) none) (.cons (.call 116 (.cons (.var 3) (.cons (.var 4) .nil)) none) .nil))) (.cons (.lst (.cons (.var 5) (.cons (.var 5) .nil))) .nil)) none)) (.cons (.ret (.cst (.bool false))) .nil) .nil) .nil)) (.cons (.ret (.cst (.bool true))) .nil))))⟩
/- Likener.__init__: self web other -/
def f119 : Fn := ⟨true, 3, 3, some 0,
  (.cons (.setF 0 "near" (.call 18 (.cons (.var 1) .nil) none)) (.cons (.setF 0 "far" (.call 18 (.cons (.var 2) .nil) none)) (.cons (.setF 0 "colours" (.call 63 (.cons (.var 1) (.cons (.var 2) .nil)) none)) (.cons (.setF 0 "order" (.call 64 (.cons (.var 1) .nil) none)) .nil))))⟩
/- Likener.fits: self found spot place own led -/
def f120 : Fn := ⟨true, 3, 6, none,
  (.cons (.asg (.name 3) (.op2 .ix (.op1 (.fld "order") (.peek 0)) (.op1 .len (.peek 1)))) (.cons (.ife (.or (.op2 .isin (.peek 2) (.peek 1)) (.one (.op2 .ne (.op2 .ix (.op2 .ix (.op1 (.fld "colours") (.peek 0)) (.cst (.int 0))) (.peek 3)) (.op2 .ix (.op2 .ix (.op1 (.fld "colours") (.peek 0)) (.cst (.int 1))) (.peek 2))))) (.cons (.ret (.cst (.bool false))) .nil) .nil) (.cons (.for (.tup [(.name 4), (.name 5)]) .zip2 (.cons (.op1 (.fld "order") (.peek 0)) (.cons (.var 1) .nil)) (.cons (.ife (.op2 .ne (.op2 .isin (.peek 4) (.op2 .ix (.op1 (.fld "near") (.peek 0)) (.peek 3))) (.op2 .isin (.peek 5) (.op2 .ix (.op1 (.fld "far") (.peek 0)) (.peek 2)))) (.cons (.ret (.cst (.bool false))) .nil) .nil) .nil)) (.cons (.ret (.cst (.bool true))) .nil))))⟩
/- Likener.first: self found spot told -/
def f121 : Fn := ⟨true, 2, 4, none,
  (.cons (.ife (.op2 .eq (.op1 .len (.peek 1)) (.op1 .len (.op1 (.fld "order") (.peek 0)))) (.cons (.ret (.mov 1)) .nil) .nil) (.cons (.for (.name 2) .rng1 (.cons (.op1 .len (.op1 (.fld "far") (.peek 0))) .nil) (.cons (.ife (.meth 120 0 "fits" (.peek 0) (.cons (.var 1) (.cons (.var 2) .nil))) (.cons (.asg (.name 3) (.meth 121 0 "first" (.peek 0) (.cons (.op2 .add (.peek 1) (.lst (.cons (.var 2) .nil))) .nil))) (.cons (.ife (.op1 .notNone (.peek 3)) (.cons (.ret (.mov 3)) .nil) .nil) .nil)) .nil) .nil)) (.cons (.ret (.cst .none)) .nil)))⟩
/- Likener.every: self found rows spot -/
def f122 : Fn := ⟨true, 2, 4, none,
  (.cons (.ife (.op2 .eq (.op1 .len (.peek 1)) (.op1 .len (.op1 (.fld "order") (.peek 0)))) (.cons (.ret (.lst (.cons (.var 1) .nil))) .nil) .nil) (.cons (.asg (.name 2) (.lst .nil)) (.cons (.for (.name 3) .rng1 (.cons (.op1 .len (.op1 (.fld "far") (.peek 0))) .nil) (.cons (.ife (.meth 120 0 "fits" (.peek 0) (.cons (.var 1) (.cons (.var 3) .nil))) (.cons (.asg (.name 2) (.op2 .add (.peek 2) (.meth 122 0 "every" (.peek 0) (.cons (.op2 .add (.peek 1) (.lst (.cons (.var 3) .nil))) .nil)))) .nil) .nil) .nil)) (.cons (.ret (.mov 2)) .nil))))⟩
/- Likener.as_map: self row found place led -/
def f123 : Fn := ⟨true, 2, 5, none,
  (.cons (.asg (.name 2) (.op2 .mul (.lst (.cons (.cst (.int 0)) .nil)) (.op1 .len (.peek 1)))) (.cons (.for (.tup [(.name 3), (.name 4)]) .zip2 (.cons (.op1 (.fld "order") (.peek 0)) (.cons (.var 1) .nil)) (.cons (.setIx 2 .nil (.peek 3) (.var 4)) .nil)) (.cons (.ret (.op1 .tuple (.peek 2))) .nil)))⟩
def cs : Clss := ["LookupError", "LookupError", "ValueError", "ValueError", "ValueError", "ValueError"]
def rws0 : List Rw := [⟨("is_number" : Str), top 1, [("thing" : Str)], f0, none⟩, ⟨("is_from" : Str), top 2, [("thing" : Str), ("least" : Str)], f1, none⟩, ⟨("is_within" : Str), top 3, [("thing" : Str), ("least" : Str), ("most" : Str)], f2, none⟩, ⟨("is_long" : Str), top 4, [("thing" : Str), ("length" : Str)], f3, none⟩, ⟨("tupled" : Str), top 5, [("value" : Str), ("own" : Str)], f4, none⟩, ⟨("ascends" : Str), top 6, [("row" : Str), ("k" : Str)], f5, none⟩, ⟨("are_numbers" : Str), top 7, [("thing" : Str), ("own" : Str)], f6, none⟩, ⟨("is_set_below" : Str), top 8, [("thing" : Str), ("many" : Str), ("own" : Str)], f7, none⟩, ⟨("are_unlike" : Str), top 9, [("thing" : Str), ("many" : Str)], f8, none⟩, ⟨("is_tie_of" : Str), top 20, [("thing" : Str), ("many" : Str)], f9, none⟩, ⟨("is_web_of" : Str), top 21, [("thing" : Str), ("tie" : Str)], f10, none⟩, ⟨("sure_web" : Str), top 22, [("web" : Str), ("own" : Str)], f11, none⟩, ⟨("sure_number" : Str), top 23, [("place" : Str)], f12, none⟩, ⟨("sure_place" : Str), top 24, [("web" : Str), ("place" : Str)], f13, none⟩, ⟨("sure_two" : Str), top 25, [("web" : Str), ("place" : Str), ("other" : Str), ("one" : Str), ("two" : Str)], f14, none⟩, ⟨("sure_pair" : Str), top 26, [("tie" : Str), ("many" : Str), ("own" : Str)], f15, none⟩, ⟨("sure_tie" : Str), top 27, [("web" : Str), ("tie" : Str)], f16, none⟩, ⟨("made" : Str), top 28, [("many" : Str), ("ties" : Str), ("pair" : Str)], f17, none⟩, ⟨("near_of" : Str), top 29, [("web" : Str), ("found" : Str), ("one" : Str), ("two" : Str), ("place" : Str), ("own" : Str)], f18, none⟩, ⟨("far_from" : Str), top 30, [("near" : Str), ("place" : Str), ("found" : Str), ("row" : Str), ("later" : Str), ("own" : Str), ("next_one" : Str)], f19, none⟩, ⟨("distances_of" : Str), top 31, [("web" : Str), ("near" : Str), ("place" : Str)], f20, none⟩, ⟨("has_one_part" : Str), top 32, [("web" : Str)], f21, none⟩, ⟨("sure_joined" : Str), top 33, [("web" : Str)], f22, none⟩, ⟨("sure_whole" : Str), top 34, [("web" : Str)], f23, none⟩, ⟨("parts_of" : Str), top 35, [("web" : Str), ("near" : Str), ("left" : Str), ("found" : Str), ("far" : Str), ("place" : Str)], f24, none⟩, ⟨("is_webs_of" : Str), top 38, [("thing" : Str), ("own" : Str)], f25, none⟩, ⟨("all_rows" : Str), top 39, [("sizes" : Str), ("found" : Str), ("size" : Str), ("row" : Str), ("own" : Str)], f26, none⟩, ⟨("places_in" : Str), top 40, [("webs" : Str), ("found" : Str), ("web" : Str)], f27, none⟩, ⟨("ties_in" : Str), top 41, [("webs" : Str), ("many" : Str), ("web" : Str)], f28, none⟩, ⟨("product_of" : Str), top 42, [("webs" : Str), ("rows" : Str), ("row" : Str), ("numbers" : Str), ("ties" : Str), ("at" : Str), ("web" : Str), ("one" : Str), ("two" : Str), ("number" : Str)], f29, none⟩]
def rws1 : List Rw := [⟨("are_rows_of" : Str), top 43, [("webs" : Str), ("rows" : Str), ("many" : Str), ("row" : Str), ("own" : Str), ("web" : Str)], f30, none⟩, ⟨("gap_of" : Str), top 44, [("fars" : Str), ("one" : Str), ("other" : Str), ("far" : Str), ("a" : Str), ("b" : Str)], f31, none⟩, ⟨("keeps_of" : Str), top 45, [("web" : Str), ("webs" : Str), ("rows" : Str), ("one" : Str), ("fars" : Str), ("far" : Str), ("own" : Str), ("row" : Str)], f32, none⟩, ⟨("is_whole_of" : Str), top 46, [("web" : Str), ("webs" : Str), ("rows" : Str), ("two" : Str), ("fars" : Str), ("ties" : Str), ("own" : Str), ("one" : Str)], f33, none⟩, ⟨("is_used_of" : Str), top 47, [("web" : Str), ("webs" : Str), ("rows" : Str), ("at" : Str), ("own" : Str), ("steps" : Str), ("one" : Str), ("two" : Str), ("step" : Str), ("row" : Str)], f34, none⟩, ⟨("is_pair_of" : Str), top 48, [("web" : Str), ("thing" : Str)], f35, none⟩, ⟨("is_opposite" : Str), top 50, [("far" : Str), ("tie" : Str), ("other" : Str), ("straight" : Str)], f36, none⟩, ⟨("far_ends" : Str), top 51, [("tie" : Str), ("other" : Str), ("shared" : Str), ("place" : Str)], f37, none⟩, ⟨("is_corner" : Str), top 52, [("near" : Str), ("tie" : Str), ("other" : Str), ("told" : Str), ("place" : Str)], f38, none⟩, ⟨("linked_by" : Str), top 53, [("web" : Str), ("corners" : Str), ("tie" : Str), ("far" : Str), ("near" : Str), ("found" : Str), ("other" : Str)], f39, none⟩, ⟨("is_linked" : Str), top 54, [("far" : Str), ("near" : Str), ("tie" : Str), ("other" : Str), ("corners" : Str)], f40, none⟩, ⟨("classes_of" : Str), top 55, [("links" : Str), ("left" : Str), ("found" : Str), ("some" : Str), ("tie" : Str)], f41, none⟩, ⟨("come_to" : Str), top 56, [("links" : Str), ("tie" : Str), ("found" : Str), ("row" : Str), ("later" : Str), ("own" : Str), ("far" : Str)], f42, none⟩, ⟨("chain_of" : Str), top 57, [("links" : Str), ("tie" : Str), ("other" : Str), ("told" : Str), ("found" : Str)], f43, none⟩, ⟨("is_chain_of" : Str), top 58, [("web" : Str), ("thing" : Str), ("corners" : Str), ("far" : Str), ("near" : Str), ("tie" : Str), ("other" : Str)], f44, none⟩, ⟨("laid_by" : Str), top 59, [("web" : Str), ("classes" : Str), ("ties" : Str), ("webs" : Str), ("columns" : Str), ("rest" : Str), ("numbers" : Str), ("heaps" : Str), ("number" : Str), ("heap" : Str), ("place" : Str), ("tie" : Str), ("one" : Str), ("two" : Str), ("column" : Str)], f45, none⟩, ⟨("two_classes" : Str), top 60, [("classes" : Str), ("tie" : Str), ("mine" : Str), ("ties" : Str), ("own" : Str)], f46, none⟩, ⟨("paper_of" : Str), top 61, [("web" : Str), ("tie" : Str), ("other" : Str), ("corners" : Str), ("links" : Str), ("chain" : Str), ("webs" : Str), ("rows" : Str)], f47, none⟩, ⟨("is_paper_of" : Str), top 62, [("web" : Str), ("tie" : Str), ("other" : Str), ("thing" : Str), ("corners" : Str)], f48, none⟩, ⟨("parts_ties" : Str), top 63, [("rows" : Str), ("tie" : Str), ("other" : Str), ("near" : Str), ("far" : Str)], f49, none⟩, ⟨("sure_ties" : Str), top 64, [("web" : Str), ("tie" : Str), ("other" : Str), ("one" : Str), ("two" : Str)], f50, none⟩, ⟨("opposite" : Str), top 65, [("web" : Str), ("tie" : Str), ("other" : Str), ("own" : Str), ("one" : Str), ("two" : Str)], f51, none⟩, ⟨("sure_web_and" : Str), top 66, [("web" : Str), ("tie" : Str), ("other" : Str), ("own" : Str), ("one" : Str), ("two" : Str)], f52, none⟩, ⟨("cornered" : Str), top 67, [("web" : Str), ("tie" : Str), ("other" : Str), ("own" : Str), ("one" : Str), ("two" : Str)], f53, none⟩, ⟨("factor_classes" : Str), top 68, [("web" : Str)], f54, none⟩, ⟨("wall_classes" : Str), top 69, [("web" : Str)], f55, none⟩, ⟨("factor_paper" : Str), top 70, [("web" : Str), ("tie" : Str), ("other" : Str), ("own" : Str), ("one" : Str), ("two" : Str)], f56, none⟩, ⟨("is_factor_paper" : Str), top 71, [("web" : Str), ("tie" : Str), ("other" : Str), ("thing" : Str), ("own" : Str), ("one" : Str), ("two" : Str)], f57, none⟩, ⟨("opposite_paper" : Str), top 72, [("web" : Str), ("tie" : Str), ("other" : Str), ("own" : Str), ("one" : Str), ("two" : Str)], f58, none⟩, ⟨("is_opposite_paper" : Str), top 73, [("web" : Str), ("tie" : Str), ("other" : Str), ("thing" : Str), ("own" : Str), ("one" : Str), ("two" : Str)], f59, none⟩]
def rws2 : List Rw := [⟨("first_keys" : Str), top 76, [("web" : Str), ("found" : Str), ("row" : Str), ("own" : Str)], f60, none⟩, ⟨("ranked" : Str), top 77, [("keys" : Str), ("all_keys" : Str), ("order" : Str), ("key" : Str)], f61, none⟩, ⟨("keys_around" : Str), top 78, [("colours" : Str), ("near" : Str), ("place" : Str), ("spot" : Str)], f62, none⟩, ⟨("colours_of" : Str), top 79, [("web" : Str), ("other" : Str), ("colours" : Str), ("many" : Str), ("nears" : Str), ("keys" : Str), ("told" : Str), ("own" : Str), ("near" : Str)], f63, none⟩, ⟨("order_of" : Str), top 80, [("web" : Str), ("start" : Str), ("near" : Str), ("found" : Str), ("far" : Str), ("gaps" : Str), ("spot" : Str), ("gap" : Str)], f64, none⟩, ⟨("could_be_like" : Str), top 82, [("web" : Str), ("other" : Str)], f65, none⟩, ⟨("likeness_of" : Str), top 83, [("web" : Str), ("other" : Str), ("liker" : Str), ("row" : Str)], f66, none⟩, ⟨("are_like" : Str), top 84, [("web" : Str), ("other" : Str)], f67, none⟩, ⟨("own_many" : Str), top 85, [("web" : Str), ("at" : Str), ("liker" : Str), ("found" : Str), ("spot" : Str), ("ahead" : Str), ("goods" : Str)], f68, none⟩, ⟨("is_likeness_of" : Str), top 86, [("web" : Str), ("other" : Str), ("thing" : Str), ("led" : Str), ("one" : Str), ("two" : Str), ("pair" : Str)], f69, none⟩, ⟨("likeness" : Str), top 87, [("web" : Str), ("other" : Str), ("own" : Str), ("far" : Str)], f70, none⟩, ⟨("is_likeness" : Str), top 88, [("web" : Str), ("other" : Str), ("thing" : Str), ("own" : Str), ("far" : Str)], f71, none⟩, ⟨("own_likenesses" : Str), top 89, [("web" : Str)], f72, none⟩, ⟨("all_likenesses" : Str), top 90, [("web" : Str), ("own" : Str), ("liker" : Str), ("row" : Str)], f73, none⟩, ⟨("prime_laying" : Str), top 92, [("web" : Str)], f74, none⟩, ⟨("has_one_class" : Str), top 93, [("web" : Str)], f75, none⟩, ⟨("chains_of" : Str), top 94, [("web" : Str), ("corners" : Str), ("links" : Str), ("tie" : Str)], f76, none⟩, ⟨("are_chains_of" : Str), top 95, [("web" : Str), ("thing" : Str), ("corners" : Str), ("ends" : Str), ("chain" : Str), ("tie" : Str)], f77, none⟩, ⟨("sure_tied" : Str), top 96, [("web" : Str)], f78, none⟩, ⟨("sure_webs_two" : Str), top 97, [("web" : Str), ("other" : Str), ("own" : Str), ("far" : Str)], f79, none⟩, ⟨("sure_timed" : Str), top 98, [("web" : Str), ("times" : Str), ("own" : Str)], f80, none⟩, ⟨("heaps_of" : Str), top 99, [("webs" : Str), ("found" : Str), ("web" : Str), ("near" : Str), ("at" : Str), ("pair" : Str)], f81, none⟩, ⟨("rest_of" : Str), top 100, [("webs" : Str), ("others" : Str), ("left" : Str), ("other" : Str), ("near" : Str), ("at" : Str), ("web" : Str)], f82, none⟩, ⟨("parted" : Str), top 101, [("web" : Str)], f83, none⟩, ⟨("is_parted" : Str), top 102, [("web" : Str), ("thing" : Str), ("own" : Str), ("part" : Str)], f84, none⟩, ⟨("is_prime" : Str), top 103, [("web" : Str)], f85, none⟩, ⟨("prime_paper" : Str), top 104, [("web" : Str), ("own" : Str), ("webs" : Str), ("rows" : Str)], f86, none⟩, ⟨("is_prime_paper" : Str), top 105, [("web" : Str), ("thing" : Str), ("own" : Str), ("part" : Str)], f87, none⟩, ⟨("prime_heaps" : Str), top 106, [("web" : Str)], f88, none⟩, ⟨("quotient" : Str), top 107, [("web" : Str), ("other" : Str), ("left" : Str), ("own" : Str), ("far" : Str)], f89, none⟩]
def rws3 : List Rw := [⟨("is_quotient" : Str), top 108, [("web" : Str), ("other" : Str), ("thing" : Str), ("own" : Str), ("far" : Str)], f90, none⟩, ⟨("root" : Str), top 109, [("web" : Str), ("times" : Str), ("own" : Str), ("heaps" : Str), ("part" : Str), ("many" : Str), ("lap" : Str)], f91, none⟩, ⟨("is_root" : Str), top 110, [("web" : Str), ("times" : Str), ("thing" : Str), ("own" : Str)], f92, none⟩, ⟨("wall_laying" : Str), top 112, [("web" : Str)], f93, none⟩, ⟨("has_one_wall_class" : Str), top 113, [("web" : Str)], f94, none⟩, ⟨("is_kept_pair" : Str), top 114, [("web" : Str), ("thing" : Str)], f95, none⟩, ⟨("laid" : Str), top 115, [("web" : Str)], f96, none⟩, ⟨("is_laid" : Str), top 116, [("web" : Str), ("thing" : Str), ("own" : Str), ("part" : Str)], f97, none⟩, ⟨("is_single" : Str), top 117, [("web" : Str)], f98, none⟩, ⟨("single_paper" : Str), top 118, [("web" : Str), ("own" : Str), ("webs" : Str), ("rows" : Str)], f99, none⟩, ⟨("is_single_paper" : Str), top 119, [("web" : Str), ("thing" : Str), ("own" : Str), ("part" : Str)], f100, none⟩, ⟨("steps_by_factor" : Str), top 120, [("web" : Str), ("place" : Str), ("other" : Str), ("own" : Str), ("one" : Str), ("two" : Str), ("webs" : Str), ("rows" : Str), ("part" : Str), ("a" : Str), ("b" : Str)], f101, none⟩, ⟨("distance_sum" : Str), top 121, [("web" : Str), ("row" : Str)], f102, none⟩, ⟨("sums_by_factor" : Str), top 122, [("web" : Str), ("own" : Str), ("found" : Str), ("webs" : Str), ("rows" : Str), ("at" : Str), ("part" : Str), ("far" : Str), ("many" : Str), ("spot" : Str), ("row" : Str), ("b" : Str), ("a" : Str)], f103, none⟩, ⟨("distance_counts" : Str), top 123, [("web" : Str), ("own" : Str), ("far" : Str), ("most" : Str), ("found" : Str), ("two" : Str), ("one" : Str), ("row" : Str)], f104, none⟩, ⟨("centre" : Str), top 124, [("web" : Str), ("far" : Str), ("row" : Str), ("place" : Str), ("own" : Str)], f105, none⟩, ⟨("least_sums" : Str), top 125, [("web" : Str), ("sums" : Str), ("row" : Str), ("place" : Str), ("own" : Str)], f106, none⟩, ⟨("_law_box" : Str), top 127, [("script" : Str), ("k" : Str), ("bit_so" : Str)], f107, none⟩, ⟨("_law_take" : Str), top 128, [("tin" : Str), ("below_so" : Str), ("once_so" : Str), ("wide_so" : Str), ("twice_so" : Str), ("drawn_so" : Str)], f108, none⟩, ⟨("_law_cells" : Str), top 129, [("script" : Str), ("most_so" : Str), ("cells_so" : Str), ("k" : Str), ("bit_so" : Str), ("at_so" : Str)], f109, none⟩, ⟨("_law_pick" : Str), top 130, [("tin" : Str), ("goods_so" : Str), ("count_so" : Str), ("lap" : Str), ("pool_so" : Str), ("found" : Str)], f110, none⟩, ⟨("_law_same" : Str), top 131, [("got" : Str), ("due" : Str), ("mine" : Str), ("its" : Str)], f111, none⟩, ⟨("_law_unmarked" : Str), top 132, [("told_so" : Str)], f112, none⟩, ⟨("_law_made" : Str), top 133, [("many_so" : Str), ("pairs_so" : Str), ("own" : Str)], f113, none⟩, ⟨("_law_all_rows" : Str), top 134, [("sizes_so" : Str), ("found" : Str), ("size_so" : Str), ("later" : Str), ("own" : Str), ("k" : Str)], f114, none⟩, ⟨("_law_product" : Str), top 135, [("webs_so" : Str), ("rows_so" : Str), ("own" : Str), ("numbers_so" : Str), ("pairs_so" : Str), ("at_so" : Str), ("web_so" : Str), ("a" : Str), ("b" : Str), ("k" : Str)], f115, none⟩, ⟨("_law_heard" : Str), top 136, [("door_so" : Str), ("goods_so" : Str), ("doors_so" : Str), ("slip_a" : Str), ("slip_b" : Str), ("slip_c" : Str), ("slip_d" : Str), ("slip_e" : Str), ("slip_f" : Str), ("caught" : Str), ("told_so" : Str)], f116, none⟩, ⟨("_law_rows_so" : Str), top 137, [("rows_so" : Str), ("edge" : Str), ("path3" : Str), ("three" : Str), ("square" : Str), ("claw" : Str), ("five" : Str), ("pairs" : Str), ("grid" : Str), ("torn_so" : Str), ("odd_so" : Str), ("wide_so" : Str), ("unfit_so" : Str), ("many_so" : Str), ("none_so" : Str), ("tears_so" : Str)], f117, none⟩, ⟨("law" : Str), top 138, [("script" : Str), ("tin" : Str), ("rows_so" : Str), ("door_so" : Str), ("goods_so" : Str), ("due" : Str)], f118, none⟩, ⟨("__init__" : Str), sub 81 0, [("self" : Str), ("web" : Str), ("other" : Str)], f119, some ("Likener" : Str)⟩]
def rws4 : List Rw := [⟨("fits" : Str), sub 81 1, [("self" : Str), ("found" : Str), ("spot" : Str), ("place" : Str), ("own" : Str), ("led" : Str)], f120, some ("Likener" : Str)⟩, ⟨("first" : Str), sub 81 2, [("self" : Str), ("found" : Str), ("spot" : Str), ("told" : Str)], f121, some ("Likener" : Str)⟩, ⟨("every" : Str), sub 81 3, [("self" : Str), ("found" : Str), ("rows" : Str), ("spot" : Str)], f122, some ("Likener" : Str)⟩, ⟨("as_map" : Str), sub 81 4, [("self" : Str), ("row" : Str), ("found" : Str), ("place" : Str), ("led" : Str)], f123, some ("Likener" : Str)⟩]
def rws : List Rw := rws0 ++ rws1 ++ rws2 ++ rws3 ++ rws4
def dfs0 : List Str := [("is_number" : Str), ("is_from" : Str), ("is_within" : Str), ("is_long" : Str), ("tupled" : Str), ("ascends" : Str), ("are_numbers" : Str), ("is_set_below" : Str), ("are_unlike" : Str), ("is_tie_of" : Str), ("is_web_of" : Str), ("sure_web" : Str), ("sure_number" : Str), ("sure_place" : Str), ("sure_two" : Str), ("sure_pair" : Str), ("sure_tie" : Str), ("made" : Str), ("near_of" : Str), ("far_from" : Str), ("distances_of" : Str), ("has_one_part" : Str), ("sure_joined" : Str), ("sure_whole" : Str), ("parts_of" : Str), ("is_webs_of" : Str), ("all_rows" : Str), ("places_in" : Str), ("ties_in" : Str), ("product_of" : Str)]
def dfs1 : List Str := [("are_rows_of" : Str), ("gap_of" : Str), ("keeps_of" : Str), ("is_whole_of" : Str), ("is_used_of" : Str), ("is_pair_of" : Str), ("is_opposite" : Str), ("far_ends" : Str), ("is_corner" : Str), ("linked_by" : Str), ("is_linked" : Str), ("classes_of" : Str), ("come_to" : Str), ("chain_of" : Str), ("is_chain_of" : Str), ("laid_by" : Str), ("two_classes" : Str), ("paper_of" : Str), ("is_paper_of" : Str), ("parts_ties" : Str), ("sure_ties" : Str), ("opposite" : Str), ("sure_web_and" : Str), ("cornered" : Str), ("factor_classes" : Str), ("wall_classes" : Str), ("factor_paper" : Str), ("is_factor_paper" : Str), ("opposite_paper" : Str), ("is_opposite_paper" : Str)]
def dfs2 : List Str := [("first_keys" : Str), ("ranked" : Str), ("keys_around" : Str), ("colours_of" : Str), ("order_of" : Str), ("could_be_like" : Str), ("likeness_of" : Str), ("are_like" : Str), ("own_many" : Str), ("is_likeness_of" : Str), ("likeness" : Str), ("is_likeness" : Str), ("own_likenesses" : Str), ("all_likenesses" : Str), ("prime_laying" : Str), ("has_one_class" : Str), ("chains_of" : Str), ("are_chains_of" : Str), ("sure_tied" : Str), ("sure_webs_two" : Str), ("sure_timed" : Str), ("heaps_of" : Str), ("rest_of" : Str), ("parted" : Str), ("is_parted" : Str), ("is_prime" : Str), ("prime_paper" : Str), ("is_prime_paper" : Str), ("prime_heaps" : Str), ("quotient" : Str)]
def dfs3 : List Str := [("is_quotient" : Str), ("root" : Str), ("is_root" : Str), ("wall_laying" : Str), ("has_one_wall_class" : Str), ("is_kept_pair" : Str), ("laid" : Str), ("is_laid" : Str), ("is_single" : Str), ("single_paper" : Str), ("is_single_paper" : Str), ("steps_by_factor" : Str), ("distance_sum" : Str), ("sums_by_factor" : Str), ("distance_counts" : Str), ("centre" : Str), ("least_sums" : Str), ("_law_box" : Str), ("_law_take" : Str), ("_law_cells" : Str), ("_law_pick" : Str), ("_law_same" : Str), ("_law_unmarked" : Str), ("_law_made" : Str), ("_law_all_rows" : Str), ("_law_product" : Str), ("_law_heard" : Str), ("_law_rows_so" : Str), ("law" : Str)]
def ots0 : List (Option Nat) := [none, none, none, none, none, none, none, none, none, none, none, none, none, none, none, none, none, none, none, none, none, none, none, none, none, none, none, none, none, none, none, none, none, none, none, none, none, none, none, none, none, none, none, none, none, none, none, none, none, none, none, none, none, none, none, none, none, none, none, none]
def ots1 : List (Option Nat) := [none, none, none, none, none, none, none, none, none, none, none, none, none, none, none, none, none, none, none, none, none, none, none, none, none, none, none, none, none, none, none, none, none, none, none, none, none, none, none, none, none, none, none, none, none, none, none, none, some 0, none, some 0, none, none, none, none, none, none, none, none, some 0]
def ots2 : List (Option Nat) := [none, none, none, none]
def T : Tab := { defs := dfs0 ++ dfs1 ++ dfs2 ++ dfs3, out := ots0 ++ ots1 ++ ots2, csts := [(("MOST_PLACES" : Str), (.int 36)), (("MOST_TIES" : Str), (.int 150)), (("MOST_WEBS" : Str), (.int 36)), (("MOST_LIKENESSES" : Str), (.int 1000))], clss := [("NoPlace" : Str), ("NoTie" : Str), ("CanNot" : Str), ("Torn" : Str), ("TooMany" : Str), ("Unfit" : Str)], own := [("Likener" : Str)], inits := [119], meths := [(120, 0, ("fits" : Str)), (121, 0, ("first" : Str)), (122, 0, ("every" : Str)), (123, 0, ("as_map" : Str))], flds := [("colours" : Str), ("far" : Str), ("near" : Str), ("order" : Str)] }
def xn : Nat → Option Str := fun i => (([some ("place" : Str), some ("tie" : Str), none, none, none, none] : List (Option Str))[i]?).getD none
def tb : List Fn := rws.map (·.fn)
end K61
end
section
set_option maxRecDepth 100000

set_option maxHeartbeats 0
namespace K61
open PySem PySem.Spec PyProof.Rows L2 Pv
def lo0 : List Str := [("is_number" : Str), ("is_from" : Str), ("is_within" : Str), ("is_long" : Str), ("tupled" : Str), ("ascends" : Str), ("are_numbers" : Str), ("is_set_below" : Str), ("are_unlike" : Str), ("NoPlace" : Str), ("NoTie" : Str), ("CanNot" : Str), ("Torn" : Str), ("TooMany" : Str), ("Unfit" : Str), ("MOST_PLACES" : Str), ("MOST_TIES" : Str), ("is_tie_of" : Str), ("is_web_of" : Str), ("sure_web" : Str), ("sure_number" : Str), ("sure_place" : Str), ("sure_two" : Str), ("sure_pair" : Str), ("sure_tie" : Str), ("made" : Str), ("near_of" : Str), ("far_from" : Str), ("distances_of" : Str), ("has_one_part" : Str)]
def lo1 : List Str := [("sure_joined" : Str), ("sure_whole" : Str), ("parts_of" : Str), ("MOST_WEBS" : Str), ("is_webs_of" : Str), ("all_rows" : Str), ("places_in" : Str), ("ties_in" : Str), ("product_of" : Str), ("are_rows_of" : Str), ("gap_of" : Str), ("keeps_of" : Str), ("is_whole_of" : Str), ("is_used_of" : Str), ("is_pair_of" : Str), ("is_opposite" : Str), ("far_ends" : Str), ("is_corner" : Str), ("linked_by" : Str), ("is_linked" : Str), ("classes_of" : Str), ("come_to" : Str), ("chain_of" : Str), ("is_chain_of" : Str), ("laid_by" : Str), ("two_classes" : Str), ("paper_of" : Str), ("is_paper_of" : Str), ("parts_ties" : Str), ("sure_ties" : Str)]
def lo2 : List Str := [("opposite" : Str), ("sure_web_and" : Str), ("cornered" : Str), ("factor_classes" : Str), ("wall_classes" : Str), ("factor_paper" : Str), ("is_factor_paper" : Str), ("opposite_paper" : Str), ("is_opposite_paper" : Str), ("MOST_LIKENESSES" : Str), ("first_keys" : Str), ("ranked" : Str), ("keys_around" : Str), ("colours_of" : Str), ("order_of" : Str), ("Likener" : Str), ("could_be_like" : Str), ("likeness_of" : Str), ("are_like" : Str), ("own_many" : Str), ("is_likeness_of" : Str), ("likeness" : Str), ("is_likeness" : Str), ("own_likenesses" : Str), ("all_likenesses" : Str), ("prime_laying" : Str), ("has_one_class" : Str), ("chains_of" : Str), ("are_chains_of" : Str), ("sure_tied" : Str)]
def lo3 : List Str := [("sure_webs_two" : Str), ("sure_timed" : Str), ("heaps_of" : Str), ("rest_of" : Str), ("parted" : Str), ("is_parted" : Str), ("is_prime" : Str), ("prime_paper" : Str), ("is_prime_paper" : Str), ("prime_heaps" : Str), ("quotient" : Str), ("is_quotient" : Str), ("root" : Str), ("is_root" : Str), ("wall_laying" : Str), ("has_one_wall_class" : Str), ("is_kept_pair" : Str), ("laid" : Str), ("is_laid" : Str), ("is_single" : Str), ("single_paper" : Str), ("is_single_paper" : Str), ("steps_by_factor" : Str), ("distance_sum" : Str), ("sums_by_factor" : Str), ("distance_counts" : Str), ("centre" : Str), ("least_sums" : Str), ("_law_box" : Str), ("_law_take" : Str)]
def lo4 : List Str := [("_law_cells" : Str), ("_law_pick" : Str), ("_law_same" : Str), ("_law_unmarked" : Str), ("_law_made" : Str), ("_law_all_rows" : Str), ("_law_product" : Str), ("_law_heard" : Str), ("_law_rows_so" : Str)]
def loose : List Str := lo0 ++ lo1 ++ lo2 ++ lo3 ++ lo4
abbrev R : PySem.W.OpenRow := PySem.W.OpenLaw.row PySem.Challenge.rw_primewebs_k61_chains_primes_likenesses_l
def ex (K : PySem.W.Frag) : Bool := exA Pr T rws xn cs K
abbrev hk : PySem.W.Hook := hookP [] (rws.map ddOf) ex
def ob (s : PySem.W.SharedT) : AlP := obsP [] (rws.map ddOf) ex (HandSHeadRun.getT s)
theorem ob_eq (s : PySem.W.SharedT) : ob s = hk.obs s.abs := obsP_eq (HandSHeadRun.getT_eq s)
theorem runA (w : World) (os : OsState) : (HandSHeadRun.endF (HandSHeadRun.stepQ (HandSHeadRun.denQ HandSHeadRun.tabQ) R.prog w) 20000 R.prog w os).map (fun s => (HandSHeadRun.looksF R.prog (PySem.W.boot_heap w.params) s.abs, HandSHeadRun.seenQ (PySem.W.view R.prog [138]) loose (importedModules R.prog.main.body) (fun s => PySem.W.xlAt (PySem.W.view R.prog [138]) [] s && PySem.W.recOk R.toRowW.records s) s.abs)) = some (true, PySem.W.openGood (PySem.W.view R.prog [138]) loose) := by
  kernel_rfl
theorem runB (w : World) (os : OsState) : (HandSHeadRun.endF (HandSHeadRun.stepQ (HandSHeadRun.denQ HandSHeadRun.tabQ) R.prog w) 20000 R.prog w os).map (fun s => ob s) = some (hk.val w) := by
  kernel_rfl
theorem run (w : World) : HandSHeadRun.RunEq R (PySem.W.view R.prog [138]) hk ob 20000 loose w := fun os => Pv.two_runs (runA w os) (runB w os)
end K61
end
section
set_option maxRecDepth 100000
set_option maxHeartbeats 4000000
/-! PvPick: what the laws' own drawing does, in the evaluator: no program in sight. -/
namespace Pv
open PySem
/-- the laws' _law_take, in parts -/
def posB : Ss := (.cons (.asg (.name 5) (.op2 .mod (.op1 .int (.op2 .ix (.peek 0) (.cst (.int 0)))) (.peek 1))) (.cons (.setIx 0 .nil (.cst (.int 0)) (.op2 .fdiv (.op2 .ix (.peek 0) (.cst (.int 0))) (.peek 1))) (.cons (.ret (.mov 5)) .nil)))
def tstE : E := (.op2 .gt (.op2 .ix (.peek 0) (.cst (.int 0))) (.cst (.int 0)))
def cntE : E := (.op2 .add (.op2 .ix (.peek 0) (.cst (.int 2))) (.cst (.int 1)))
def onceE : E := (.op2 .mod (.op1 .int (.op2 .mul (.op2 .add (.op2 .ix (.peek 0) (.cst (.int 1))) (.op2 .mul (.cst (.int 48271)) (.op2 .ix (.peek 0) (.cst (.int 2))))) (.op2 .add (.cst (.int 39373)) (.op2 .ix (.peek 0) (.cst (.int 2)))))) (.cst (.int 2147483647)))
def wideE : E := (.op2 .add (.op2 .mod (.op1 .int (.peek 2)) (.cst (.int 40009))) (.cst (.int 7)))
def twiceE : E := (.op2 .mod (.op1 .int (.op2 .mul (.op2 .add (.op2 .add (.peek 2) (.op2 .ix (.peek 0) (.cst (.int 2)))) (.op2 .fdiv (.op2 .ix (.peek 0) (.cst (.int 1))) (.cst (.int 1000003)))) (.peek 3))) (.cst (.int 2147483629)))
def lastE : E := (.op2 .mod (.op1 .int (.op2 .fdiv (.op2 .mod (.op1 .int (.op2 .add (.op2 .mul (.peek 4) (.cst (.int 48271))) (.peek 2))) (.cst (.int 2147483587))) (.cst (.int 64)))) (.peek 1))
def takeC : Fn := ⟨true, 2, 6, some 0, (.cons (.ife tstE posB .nil) (.cons (.setIx 0 .nil (.cst (.int 2)) cntE) (.cons (.asg (.name 2) onceE) (.cons (.asg (.name 3) wideE) (.cons (.asg (.name 4) twiceE) (.cons (.ret lastE) .nil))))))⟩
/-- _law_box, its constant bc -/
def boxC (bc : Int) : Fn := ⟨true, 2, 3, none,
  (.cons (.asg (.name 2) (.ite (.op2 .lt (.peek 1) (.op1 .len (.peek 0))) (.op2 .ix (.peek 0) (.peek 1)) (.cst (.int 0)))) (.cons (.ret (.lst (.cons (.op2 .mul (.op1 .abs (.peek 2)) (.op1 .int (.op2 .ge (.op1 .abs (.peek 2)) (.op2 .pow (.cst (.int 10)) (.cst (.int 18)))))) (.cons (.op2 .add (.op2 .add (.op2 .mod (.op1 .int (.peek 2)) (.cst (.int 2305843009213693951))) (.op2 .mul (.cst (.int 39373)) (.peek 1))) (.cst (.int bc))) (.cons (.cst (.int 0)) .nil))))) .nil))⟩
def cellsB : Ss := (.cons (.asg (.name 5) (.op2 .mod (.op1 .int (.peek 3)) (.peek 1))) (.cons (.setIx 2 .nil (.peek 5) (.op2 .add (.op2 .ix (.peek 2) (.peek 5)) (.op2 .mul (.peek 4) (.op2 .add (.peek 3) (.cst (.int 2)))))) .nil))
def cellsC : Fn := ⟨true, 2, 6, none,
  (.cons (.asg (.name 2) (.orT (.op1 .list (.op3 .slice (.peek 0) (.cst .none) (.peek 1))) (.lst (.cons (.cst (.int 0)) .nil)))) (.cons (.for (.tup [(.name 3), (.name 4)]) .enum (.cons (.op3 .slice (.peek 0) (.peek 1) (.cst (.int 63))) .nil) cellsB) (.cons (.ret (.mov 2)) .nil)))⟩
def pickB (it : Nat) : Ss := (.cons (.expr (.mut .append 5 .nil (.cons (.mut .popAt 4 .nil (.cons (.call it (.cons (.peek 0) (.cons (.op1 .len (.peek 4)) .nil)) (some (0, 0))) .nil)) .nil))) .nil)
def pickC (it : Nat) : Fn := ⟨true, 3, 6, some 0,
  (.cons (.asg (.tup [(.name 4), (.name 5)]) (.tup (.cons (.op1 .list (.peek 1)) (.cons (.lst .nil) .nil)))) (.cons (.for (.name 3) .rng1 (.cons (.op2 .min2 (.op1 .int (.peek 2)) (.op1 .len (.peek 4))) .nil) (pickB it)) (.cons (.ret (.mov 5)) .nil)))⟩
section
variable {C : Calls} {cs : Clss} {wf : Nat}
/-! ### ints and the like: no slot changes -/
def At (C : Calls) (env : Env) (e : E) (d : D) : Prop := ∃ k, opd e env (evE C e env) = .ok env k d
def isPeek : E → Bool
  | .peek _ => true
  | _ => false
theorem opd_no {e : E} {env : Env} {r : Res} (h : isPeek e = false) : opd e env r = r := by
  cases e <;> first | rfl | cases h
theorem At.peek {env : Env} {i k : Nat} {d : D} (h : getS env i = some (k, d)) : At C env (.peek i) d := ⟨k, by simp only [opd, h]⟩
theorem At.cst {env : Env} {d : D} : At C env (.cst d) d := ⟨9, rfl⟩
theorem At.of {env : Env} {e : E} {d : D} {k : Nat} (h : evE C e env = .ok env k d) (hp : isPeek e = false := by rfl) : At C env e d := ⟨k, by rw [opd_no hp]; exact h⟩
theorem At.again {env : Env} {e : E} {d : D} {k : Nat} (h : opd e env (evE C e env) = .ok env k d) : again e env k d = some (k, d) := by
  cases e with
  | peek i =>
    simp only [opd] at h
    split at h
    · rename_i k' d' e
      cases h
      exact e
    · cases h
  | _ => rfl
theorem ev_op1 {env : Env} {o : O1} {a : E} {da r : D} (A : At C env a da) (h : ap1 o da = some r) (hr : atom r = true) : evE C (.op1 o a) env = .ok env 9 r := by
  obtain ⟨k, e⟩ := A
  simp only [evE, e, h, hr, if_true]
theorem pre_of {o : O2} {da db r : D} (h : ap2 o da db = some r) : preOk o da = true := by
  cases o <;> first | rfl | skip
  cases da <;> first | rfl | (have h : (none : Option D) = some r := h; cases h)
theorem ev_op2 {env : Env} {o : O2} {a b : E} {da db r : D} (A : At C env a da) (B : At C env b db) (h : ap2 o da db = some r) (hr : atom r = true) (hs : ∀ k, sideOk o k da = true := by first | exact fun _ => rfl | (intro k; cases k <;> rfl)) : evE C (.op2 o a b) env = .ok env 9 r := by
  obtain ⟨k, e⟩ := A
  obtain ⟨k2, e2⟩ := B
  simp only [evE, e, e2, At.again e, hs k, if_true, h, hr, pre_of h]
theorem At.op1 {env : Env} {o : O1} {a : E} {da r : D} (A : At C env a da) (h : ap1 o da = some r) (hr : atom r = true := by rfl) : At C env (.op1 o a) r := .of (ev_op1 A h hr)
theorem At.op2 {env : Env} {o : O2} {a b : E} {da db r : D} (A : At C env a da) (B : At C env b db) (h : ap2 o da db = some r) (hr : atom r = true := by rfl) (hs : ∀ k, sideOk o k da = true := by exact fun _ => rfl) : At C env (.op2 o a b) r := .of (ev_op2 A B h hr hs)
theorem ev_ite {env env1 : Env} {t a b : E} {k : Nat} {c : Bool} (h : opd t env (evE C t env) = .ok env1 k (.bool c)) : evE C (.ite t a b) env = if c then evE C a env1 else evE C b env1 := by
  cases c <;> simp only [evE, h] <;> rfl
theorem ev_lst3 {env : Env} {e1 e2 e3 : E} {x y z : Int} (h1 : evE C e1 env = .ok env 9 (.int x)) (h2 : evE C e2 env = .ok env 9 (.int y)) (h3 : evE C e3 env = .ok env 9 (.int z)) : evE C (.lst (.cons e1 (.cons e2 (.cons e3 .nil)))) env = .ok env 10 (.list [.int x, .int y, .int z]) := by
  simp only [evE, evL, h1, h2, h3]
  rfl
/-! ### operations on ints -/
theorem i_add (i j : Int) : ap2 .add (.int i) (.int j) = some (.int (i + j)) := rfl
theorem i_gt (i j : Int) : ap2 .gt (.int i) (.int j) = some (.bool (decide (i > j))) := rfl
theorem i_lt (i j : Int) : ap2 .lt (.int i) (.int j) = some (.bool (decide (i < j))) := rfl
theorem i_ge (i j : Int) : ap2 .ge (.int i) (.int j) = some (.bool (decide (i ≥ j))) := rfl
theorem i_mod {i j : Int} (h : 0 < j) : ap2 .mod (.int i) (.int j) = some (.int (i % j)) := by
  simp [ap2, bin2, h]
theorem i_fdiv {i j : Int} (h : 0 < j) (h2 : j < 1073741824) : ap2 .fdiv (.int i) (.int j) = some (.int (i / j)) := by
  simp [ap2, bin2, h, h2]
theorem i_mul {i j : Int} (h : mulOk i j = true) : ap2 .mul (.int i) (.int j) = some (.int (i * j)) := by
  simp [ap2, mulD, h]
theorem mul_l {i j : Int} (h : -(2 ^ 64) < i ∧ i < 2 ^ 64) : mulOk i j = true := by
  unfold mulOk
  rw [decide_eq_true h, Bool.true_or]
theorem mul_r {i j : Int} (h : -(2 ^ 64) < j ∧ j < 2 ^ 64) : mulOk i j = true := by
  unfold mulOk
  rw [decide_eq_true h, Bool.or_true]
theorem i_int (i : Int) : ap1 .int (.int i) = some (.int i) := rfl
theorem i_len (xs : List D) : ap1 .len (.list xs) = some (.int xs.length) := rfl
theorem ix0 (a b c : D) : ap2 .ix (.list [a, b, c]) (.int 0) = some a := rfl
theorem ix1 (a b c : D) : ap2 .ix (.list [a, b, c]) (.int 1) = some b := rfl
theorem ix2 (a b c : D) : ap2 .ix (.list [a, b, c]) (.int 2) = some c := rfl
/-! ### statements -/
theorem s_asg {env env1 : Env} {i k : Nat} {e : E} {d : D} (h : evE C e env = .ok env1 k d) : evS C cs wf (.asg (.name i) e) env = .nx (putS env1 i (some (k, d))) := by
  simp only [evS, h, bindG]
theorem s_set {env env1 env2 env3 : Env} {i ke kj : Nat} {v : Nat × D} {ix e : E} {d j : D} (hg : getS env i = some v) (h : evE C e env = .ok env1 ke d) (hj : opd ix env1 (evE C ix env1) = .ok env2 kj j) (hs : setIxS env2 i j ke d = .nx env3) : evS C cs wf (.setIx i .nil ix e) env = .nx env3 := by
  simp only [evS, hg, h, hj, hs]
theorem s_ife {env env1 : Env} {t : E} {a b : Ss} {k : Nat} {c : Bool} (h : opd t env (evE C t env) = .ok env1 k (.bool c)) : evS C cs wf (.ife t a b) env = if c then evSs C cs wf a env1 else evSs C cs wf b env1 := by
  cases c <;> simp only [evS, h] <;> rfl
theorem s_ret {env env1 : Env} {e : E} {k : Nat} {d : D} (h : evE C e env = .ok env1 k d) : evS C cs wf (.ret e) env = .ret env1 k d := by
  simp only [evS, h]
theorem ss_cons {s : S} {r : Ss} {env env1 : Env} (h : evS C cs wf s env = .nx env1) : evSs C cs wf (.cons s r) env = evSs C cs wf r env1 := by
  simp only [evSs, h]
theorem ss_ret {s : S} {r : Ss} {env env1 : Env} {k : Nat} {d : D} (h : evS C cs wf s env = .ret env1 k d) : evSs C cs wf (.cons s r) env = .ret env1 k d := by
  simp only [evSs, h]
theorem ss_nil {env : Env} : evSs C cs wf .nil env = .nx env := by simp only [evSs]
theorem s_for {env env1 : Env} {g : G} {sk : Sk} {src : Es} {b : Ss} {l : List (Nat × D)} {xs : List D} (h : evL C src env = .ok env1 l) (hx : srcL sk (l.map (·.2)) = some xs) : evS C cs wf (.for g sk src b) env = forLoop g (fun env => evSs C cs wf b env) xs env1 := by
  simp only [evS, h, hx]
theorem src_rng {j : Int} (h : rngOk j = true) : srcL .rng1 [.int j] = some (rngL 0 j.toNat) := by
  simp only [srcL, h, if_true]
/-! ### _law_take -/
theorem take_body {a b c m : Int} (hm : 0 < m) (hm2 : m < 1073741824) (hc : 0 ≤ c) (hc2 : c < 2 ^ 62) :
    ∃ r a' c' env, evSs C cs wf takeC.body [some (10, .list [.int a, .int b, .int c]), some (9, .int m), none, none, none, none] = .ret env 9 (.int r) ∧ getS env 0 = some (10, .list [.int a', .int b, .int c']) ∧ 0 ≤ r ∧ r < m ∧ 0 ≤ c' ∧ c' ≤ c + 1 := by
  have t0 : At C [some (10, .list [.int a, .int b, .int c]), some (9, .int m), none, none, none, none] tstE (.bool (decide (a > 0))) := .op2 (.op2 (.peek rfl) .cst (ix0 _ _ _)) .cst (i_gt _ _)
  obtain ⟨k0, t0⟩ := t0
  unfold takeC
  by_cases ha : a > 0
  · rw [decide_eq_true ha] at t0
    have e1 : evS C cs wf (.ife tstE posB .nil) [some (10, .list [.int a, .int b, .int c]), some (9, .int m), none, none, none, none] = .ret [some (10, .list [.int (a / m), .int b, .int c]), some (9, .int m), none, none, none, none] 9 (.int (a % m)) := by
      rw [s_ife t0, if_pos rfl]
      unfold posB
      rw [ss_cons (s_asg (ev_op2 (.op1 (.op2 (.peek rfl) .cst (ix0 _ _ _)) (i_int _)) (.peek rfl) (i_mod hm) rfl))]
      rw [ss_cons (s_set rfl (ev_op2 (.op2 (.peek rfl) .cst (ix0 _ _ _)) (.peek rfl) (i_fdiv hm hm2) rfl) rfl rfl)]
      exact ss_ret (s_ret rfl)
    exact ⟨a % m, a / m, c, _, ss_ret e1, rfl, Int.emod_nonneg _ (by omega), Int.emod_lt_of_pos _ hm, hc, by omega⟩
  · rw [decide_eq_false ha] at t0
    have e1 : evS C cs wf (.ife tstE posB .nil) [some (10, .list [.int a, .int b, .int c]), some (9, .int m), none, none, none, none] = .nx [some (10, .list [.int a, .int b, .int c]), some (9, .int m), none, none, none, none] := by
      rw [s_ife t0, if_neg Bool.false_ne_true, ss_nil]
    have e2 : evS C cs wf (.setIx 0 .nil (.cst (.int 2)) cntE) [some (10, .list [.int a, .int b, .int c]), some (9, .int m), none, none, none, none] = .nx [some (10, .list [.int a, .int b, .int (c + 1)]), some (9, .int m), none, none, none, none] :=
      s_set rfl (ev_op2 (.op2 (.peek rfl) .cst (ix2 _ _ _)) .cst (i_add _ _) rfl) rfl rfl
    have m1 : mulOk 48271 (c + 1) = true := mul_l (by decide)
    have m2 : ∀ z, mulOk z (39373 + (c + 1)) = true := fun z => mul_r (by omega)
    have e3 : evE C onceE [some (10, .list [.int a, .int b, .int (c + 1)]), some (9, .int m), none, none, none, none] = .ok [some (10, .list [.int a, .int b, .int (c + 1)]), some (9, .int m), none, none, none, none] 9 (.int (((b + 48271 * (c + 1)) * (39373 + (c + 1))) % 2147483647)) :=
      ev_op2 (.op1 (.op2 (.op2 (.op2 (.peek rfl) .cst (ix1 _ _ _)) (.op2 .cst (.op2 (.peek rfl) .cst (ix2 _ _ _)) (i_mul m1)) (i_add _ _)) (.op2 .cst (.op2 (.peek rfl) .cst (ix2 _ _ _)) (i_add _ _)) (i_mul (m2 _))) (i_int _)) .cst (i_mod (by decide)) rfl
    generalize ho : ((b + 48271 * (c + 1)) * (39373 + (c + 1))) % 2147483647 = once at e3
    have hw : 0 ≤ once % 40009 ∧ once % 40009 < 40009 := ⟨Int.emod_nonneg _ (by decide), Int.emod_lt_of_pos _ (by decide)⟩
    have e4 : evE C wideE [some (10, .list [.int a, .int b, .int (c + 1)]), some (9, .int m), some (9, .int once), none, none, none] = .ok [some (10, .list [.int a, .int b, .int (c + 1)]), some (9, .int m), some (9, .int once), none, none, none] 9 (.int (once % 40009 + 7)) :=
      ev_op2 (.op2 (.op1 (.peek rfl) (i_int _)) .cst (i_mod (by decide))) .cst (i_add _ _) rfl
    have m3 : ∀ z, mulOk z (once % 40009 + 7) = true := fun z => mul_r (by omega)
    have e5 : evE C twiceE [some (10, .list [.int a, .int b, .int (c + 1)]), some (9, .int m), some (9, .int once), some (9, .int (once % 40009 + 7)), none, none] = .ok [some (10, .list [.int a, .int b, .int (c + 1)]), some (9, .int m), some (9, .int once), some (9, .int (once % 40009 + 7)), none, none] 9 (.int (((once + (c + 1) + b / 1000003) * (once % 40009 + 7)) % 2147483629)) :=
      ev_op2 (.op1 (.op2 (.op2 (.op2 (.peek rfl) (.op2 (.peek rfl) .cst (ix2 _ _ _)) (i_add _ _)) (.op2 (.op2 (.peek rfl) .cst (ix1 _ _ _)) .cst (i_fdiv (by decide) (by decide))) (i_add _ _)) (.peek rfl) (i_mul (m3 _))) (i_int _)) .cst (i_mod (by decide)) rfl
    generalize ((once + (c + 1) + b / 1000003) * (once % 40009 + 7)) % 2147483629 = twice at e5
    have m4 : mulOk twice 48271 = true := mul_r (by decide)
    have e6 : evE C lastE [some (10, .list [.int a, .int b, .int (c + 1)]), some (9, .int m), some (9, .int once), some (9, .int (once % 40009 + 7)), some (9, .int twice), none] = .ok [some (10, .list [.int a, .int b, .int (c + 1)]), some (9, .int m), some (9, .int once), some (9, .int (once % 40009 + 7)), some (9, .int twice), none] 9 (.int (((twice * 48271 + once) % 2147483587 / 64) % m)) :=
      ev_op2 (.op1 (.op2 (.op2 (.op1 (.op2 (.op2 (.peek rfl) .cst (i_mul m4)) (.peek rfl) (i_add _ _)) (i_int _)) .cst (i_mod (by decide))) .cst (i_fdiv (by decide) (by decide))) (i_int _)) (.peek rfl) (i_mod hm) rfl
    refine ⟨_, a, c + 1, _, (ss_cons e1).trans ((ss_cons e2).trans ((ss_cons (s_asg e3)).trans ((ss_cons (s_asg e4)).trans ((ss_cons (s_asg e5)).trans (ss_ret (s_ret e6)))))), rfl, Int.emod_nonneg _ (by omega), Int.emod_lt_of_pos _ hm, by omega, Int.le_refl _⟩
/-- what _law_take is asked for -/
def DrawsC (C : Calls) (it : Nat) : Prop := ∀ a b c m : Int, 0 < m → m < 1073741824 → 0 ≤ c → c < 2 ^ 62 → ∃ r a' c', C it [some (10, .list [.int a, .int b, .int c]), some (9, .int m)] = .ok 9 (.int r) (some (10, .list [.int a', .int b, .int c'])) ∧ 0 ≤ r ∧ r < m ∧ 0 ≤ c' ∧ c' ≤ c + 1
theorem call_at {tb : List Fn} {n i : Nat} {fn : Fn} {l : Env} (ht : tb[i]? = some fn) (hl : fn.live = true) (hn : l.length = fn.np) : callN tb cs wf (n + 1) i l = endOf fn.out (evSs (callN tb cs wf n) cs wf fn.body (startS l fn.slots)) := by
  simp only [callN, ht, hl, hn, decide_true, Bool.and_self, if_true]
theorem take_call {tb : List Fn} {n it : Nat} (ht : tb[it]? = some takeC) : DrawsC (callN tb cs wf (n + 1)) it := by
  intro a b c m h1 h2 h3 h4
  obtain ⟨r, a', c', env, e1, e2, k⟩ := take_body (C := callN tb cs wf n) (cs := cs) (wf := wf) (a := a) (b := b) (c := c) h1 h2 h3 h4
  refine ⟨r, a', c', ?_, k⟩
  rw [call_at ht rfl rfl]
  have e3 : evSs (callN tb cs wf n) cs wf takeC.body (startS [some (10, .list [.int a, .int b, .int c]), some (9, .int m)] takeC.slots) = .ret env 9 (.int r) := e1
  rw [e3]
  show (match getS env 0 with
    | some v => CRes.ok 9 (.int r) (some v)
    | none => .bad) = _
  rw [e2]
/-! ### _law_pick -/
theorem pick_step {it : Nat} (HT : DrawsC C it) {a b c : Int} {g u lap : Option (Nat × D)} {pool found : List D} {kf : Nat} (h1 : 0 < pool.length) (h2 : pool.length ≤ 16777216) (h3 : 0 ≤ c) (h4 : c < 2 ^ 62) (h5 : found.length + 1 ≤ 16777216) :
    ∃ a' c' kf' r x, pool[r]? = some x ∧ 0 ≤ c' ∧ c' ≤ c + 1 ∧ evSs C cs wf (pickB it) [some (10, .list [.int a, .int b, .int c]), g, u, lap, some (1, .list pool), some (kf + 1, .list found)] =
      .nx [some (10, .list [.int a', .int b, .int c']), g, u, lap, some (1, .list (pool.eraseIdx r)), some (kf' + 1, .list (found ++ [x]))] := by
  obtain ⟨r, a', c', e, r1, r2, c1, c2⟩ := HT a b c pool.length (by omega) (by omega) h3 h4
  have rl : r.toNat < pool.length := by omega
  have er : pool[r.toNat]? = some pool[r.toNat] := List.getElem?_eq_getElem rl
  have hp : (decide (0 ≤ r ∧ r < 2 ^ 62)) = true := decide_eq_true ⟨r1, by omega⟩
  have hs : szOk (found.length + 1) = true := by
    unfold szOk
    exact decide_eq_true h5
  refine ⟨a', c', min kf (lvl (lvl 0 pool[r.toNat]) pool[r.toNat]), r.toNat, _, er, c1, c2, ?_⟩
  have eA : evA C (.cons (.peek 0) (.cons (.op1 .len (.peek 4)) .nil)) [some (10, .list [.int a, .int b, .int c]), g, u, lap, some (1, .list pool), some (kf + 1, .list found)] = .ok [some (10, .list [.int a, .int b, .int c]), g, u, lap, some (1, .list pool), some (kf + 1, .list found)] [none, some (9, .int pool.length)] := rfl
  have eC : evE C (.call it (.cons (.peek 0) (.cons (.op1 .len (.peek 4)) .nil)) (some (0, 0))) [some (10, .list [.int a, .int b, .int c]), g, u, lap, some (1, .list pool), some (kf + 1, .list found)] = .ok [some (10, .list [.int a', .int b, .int c']), g, u, lap, some (1, .list pool), some (kf + 1, .list found)] 9 (.int r) := by
    simp only [evE, eA, insIo, getS, putS, e, putIo]
  have eL : evL C (.cons (.call it (.cons (.peek 0) (.cons (.op1 .len (.peek 4)) .nil)) (some (0, 0))) .nil) [some (10, .list [.int a, .int b, .int c]), g, u, lap, some (1, .list pool), some (kf + 1, .list found)] = .ok [some (10, .list [.int a', .int b, .int c']), g, u, lap, some (1, .list pool), some (kf + 1, .list found)] [(9, .int r)] := by
    simp only [evL, eC]
    rfl
  have eP : evE C (.mut .popAt 4 .nil (.cons (.call it (.cons (.peek 0) (.cons (.op1 .len (.peek 4)) .nil)) (some (0, 0))) .nil)) [some (10, .list [.int a, .int b, .int c]), g, u, lap, some (1, .list pool), some (kf + 1, .list found)] =
      .ok [some (10, .list [.int a', .int b, .int c']), g, u, lap, some (1, .list (pool.eraseIdx r.toNat)), some (kf + 1, .list found)] (lvl 0 pool[r.toNat]) pool[r.toNat] := by
    simp only [evE, getS, eL, mutL, hp, if_true, er, putS]
  have eQ : evL C (.cons (.mut .popAt 4 .nil (.cons (.call it (.cons (.peek 0) (.cons (.op1 .len (.peek 4)) .nil)) (some (0, 0))) .nil)) .nil) [some (10, .list [.int a, .int b, .int c]), g, u, lap, some (1, .list pool), some (kf + 1, .list found)] =
      .ok [some (10, .list [.int a', .int b, .int c']), g, u, lap, some (1, .list (pool.eraseIdx r.toNat)), some (kf + 1, .list found)] [(lvl (lvl 0 pool[r.toNat]) pool[r.toNat], pool[r.toNat])] := by
    simp only [evL, eP]
  simp only [pickB, evSs, evS, evE, getS, eQ, mutL, hs, if_true, putS]
theorem pick_loop {it : Nat} (HT : DrawsC C it) {b : Int} {g u : Option (Nat × D)} : ∀ (laps : List D) {a c : Int} {lap : Option (Nat × D)} {pool found : List D} {kf : Nat}, laps.length ≤ pool.length → pool.length ≤ 16777216 → 0 ≤ c → c + laps.length < 2 ^ 62 → found.length + laps.length ≤ 16777216 →
    ∃ a' c' lap' pool' found' kf', forLoop (.name 3) (fun env => evSs C cs wf (pickB it) env) laps [some (10, .list [.int a, .int b, .int c]), g, u, lap, some (1, .list pool), some (kf + 1, .list found)] =
      .nx [some (10, .list [.int a', .int b, .int c']), g, u, lap', some (1, .list pool'), some (kf' + 1, .list found')] ∧ (∀ x, x ∈ found' → x ∈ found ∨ x ∈ pool)
  | [], a, c, lap, pool, found, kf, _, _, _, _, _ => ⟨a, c, lap, pool, found, kf, rfl, fun x h => .inl h⟩
  | l :: laps, a, c, lap, pool, found, kf, h1, h2, h3, h4, h5 => by
    rw [List.length_cons] at h1 h4 h5
    obtain ⟨a', c', kf', r, x, hx, c1, c2, e⟩ := pick_step (cs := cs) (wf := wf) HT (a := a) (b := b) (g := g) (u := u) (lap := some (0, l)) (found := found) (kf := kf) (pool := pool) (by omega) h2 h3 (by omega) (by omega)
    have hr : r < pool.length := (List.getElem?_eq_some_iff.mp hx).1
    have hl : (pool.eraseIdx r).length = pool.length - 1 := List.length_eraseIdx_of_lt hr
    obtain ⟨a2, c3, lap2, pool2, found2, kf2, e2, m⟩ := pick_loop HT laps (a := a') (c := c') (lap := some (0, l)) (pool := pool.eraseIdx r) (found := found ++ [x]) (kf := kf') (by omega) (by omega) c1 (by omega) (by simp; omega)
    refine ⟨a2, c3, lap2, pool2, found2, kf2, ?_, fun y hy => ?_⟩
    · have e3 : forLoop (.name 3) (fun env => evSs C cs wf (pickB it) env) (l :: laps) [some (10, .list [.int a, .int b, .int c]), g, u, lap, some (1, .list pool), some (kf + 1, .list found)] =
          (match evSs C cs wf (pickB it) [some (10, .list [.int a, .int b, .int c]), g, u, some (0, l), some (1, .list pool), some (kf + 1, .list found)] with
            | .nx env => forLoop (.name 3) (fun env => evSs C cs wf (pickB it) env) laps env
            | .cnt env => forLoop (.name 3) (fun env => evSs C cs wf (pickB it) env) laps env
            | .brk env => .nx env
            | y => y) := rfl
      rw [e3, e]
      exact e2
    · rcases m y hy with hy | hy
      · rcases List.mem_append.mp hy with hy | hy
        · exact .inl hy
        · rw [List.mem_singleton.mp hy]
          exact .inr (List.mem_of_getElem? hx)
      · exact .inr (List.mem_of_mem_eraseIdx hy)
theorem pick_call {tb : List Fn} {n ip it : Nat} (hp : tb[ip]? = some (pickC it)) (HT : DrawsC (callN tb cs wf n) it) {a b : Int} {rows : List D} (hl : rows.length ≤ 1000000) :
    ∃ kf found a' c', callN tb cs wf (n + 1) ip [some (10, .list [.int a, .int b, .int 0]), some (0, .list rows), some (9, .int rows.length)] = .ok kf (.list found) (some (10, .list [.int a', .int b, .int c'])) ∧ ∀ x, x ∈ found → x ∈ rows := by
  rw [call_at hp rfl rfl]
  have e0 : startS [some (10, .list [.int a, .int b, .int 0]), some (0, .list rows), some (9, .int rows.length)] (pickC it).slots = [some (10, .list [.int a, .int b, .int 0]), some (0, .list rows), some (9, .int rows.length), none, none, none] := rfl
  rw [e0]
  have e1 : evS (callN tb cs wf n) cs wf (.asg (.tup [(.name 4), (.name 5)]) (.tup (.cons (.op1 .list (.peek 1)) (.cons (.lst .nil) .nil)))) [some (10, .list [.int a, .int b, .int 0]), some (0, .list rows), some (9, .int rows.length), none, none, none] =
      .nx [some (10, .list [.int a, .int b, .int 0]), some (0, .list rows), some (9, .int rows.length), none, some (1, .list rows), some (10, .list [])] := rfl
  have rl : (min (rows.length : Int) rows.length) = rows.length := by omega
  have e2 : evL (callN tb cs wf n) (.cons (.op2 .min2 (.op1 .int (.peek 2)) (.op1 .len (.peek 4))) .nil) [some (10, .list [.int a, .int b, .int 0]), some (0, .list rows), some (9, .int rows.length), none, some (1, .list rows), some (10, .list [])] =
      .ok [some (10, .list [.int a, .int b, .int 0]), some (0, .list rows), some (9, .int rows.length), none, some (1, .list rows), some (10, .list [])] [(9, .int rows.length)] := by
    have z : evE (callN tb cs wf n) (.op2 .min2 (.op1 .int (.peek 2)) (.op1 .len (.peek 4))) [some (10, .list [.int a, .int b, .int 0]), some (0, .list rows), some (9, .int rows.length), none, some (1, .list rows), some (10, .list [])] = .ok _ 9 (.int rows.length) :=
      ev_op2 (.op1 (.peek rfl) (i_int _)) (.op1 (.peek rfl) (i_len _)) (by
        have : ap2 .min2 (.int rows.length) (.int rows.length) = some (.int (if (rows.length : Int) < rows.length then rows.length else rows.length)) := rfl
        rw [this, if_neg (Int.lt_irrefl _)]) rfl
    simp only [evL, z]
    rfl
  have rr : rngOk (rows.length : Int) = true := by
    unfold rngOk
    exact decide_eq_true ⟨by omega, by omega⟩
  have ll : ∀ (m : Nat) (z : Int), (rngL z m).length = m := fun m => by
    induction m with
    | zero => exact fun _ => rfl
    | succ m ih => exact fun z => congrArg (· + 1) (ih _)
  obtain ⟨a', c', lap', pool', found', kf', e3, m⟩ := pick_loop (cs := cs) (wf := wf) HT (b := b) (g := some (0, .list rows)) (u := some (9, .int rows.length)) (rngL 0 (rows.length : Int).toNat) (a := a) (c := 0) (lap := none) (pool := rows) (found := []) (kf := 9)
    (by rw [ll]; exact Nat.le_refl _) (by omega) (Int.le_refl _) (by rw [ll]; simp; omega) (by rw [ll]; simp; omega)
  refine ⟨kf' + 1, found', a', c', ?_, fun x hx => (m x hx).resolve_left (by simp)⟩
  unfold pickC
  dsimp only
  rw [ss_cons e1]
  have e4 : evS (callN tb cs wf n) cs wf (.for (.name 3) .rng1 (.cons (.op2 .min2 (.op1 .int (.peek 2)) (.op1 .len (.peek 4))) .nil) (pickB it)) [some (10, .list [.int a, .int b, .int 0]), some (0, .list rows), some (9, .int rows.length), none, some (1, .list rows), some (10, .list [])] =
      .nx [some (10, .list [.int a', .int b, .int c']), some (0, .list rows), some (9, .int rows.length), lap', some (1, .list pool'), some (kf' + 1, .list found')] := (s_for e2 (src_rng rr)).trans e3
  rw [ss_cons e4]
  rfl
/-! ### _law_box -/
theorem i_abs (i : Int) : ap1 .abs (.int i) = some (.int (if i < 0 then -i else i)) := rfl
theorem i_intb (b : Bool) : ap1 .int (.bool b) = some (.int (if b then 1 else 0)) := rfl
theorem i_pow : ∃ z, ap2 .pow (.int 10) (.int 18) = some (.int z) := ⟨_, rfl⟩
theorem box_call {tb : List Fn} {n ib k : Nat} {bc : Int} (hb : tb[ib]? = some (boxC bc)) {c : Int} : ∃ a b, callN tb cs wf (n + 1) ib [some (k, .list [.int c]), some (9, .int 0)] = .ok 10 (.list [.int a, .int b, .int 0]) none := by
  rw [call_at hb rfl rfl]
  have e0 : startS [some (k, .list [.int c]), some (9, .int 0)] (boxC bc).slots = [some (k, .list [.int c]), some (9, .int 0), none] := rfl
  rw [e0]
  have e1 : evS (callN tb cs wf n) cs wf (.asg (.name 2) (.ite (.op2 .lt (.peek 1) (.op1 .len (.peek 0))) (.op2 .ix (.peek 0) (.peek 1)) (.cst (.int 0)))) [some (k, .list [.int c]), some (9, .int 0), none] = .nx [some (k, .list [.int c]), some (9, .int 0), some (9, .int c)] := by
    have t : At (callN tb cs wf n) [some (k, .list [.int c]), some (9, .int 0), none] (.op2 .lt (.peek 1) (.op1 .len (.peek 0))) (.bool true) := .op2 (.peek rfl) (.op1 (.peek rfl) (i_len _)) (by
      rw [i_lt, decide_eq_true (show (0 : Int) < (([PyData.int c] : List D).length : Int) by simp)])
    obtain ⟨kt, t⟩ := t
    have x : evE (callN tb cs wf n) (.op2 .ix (.peek 0) (.peek 1)) [some (k, .list [.int c]), some (9, .int 0), none] = .ok [some (k, .list [.int c]), some (9, .int 0), none] 9 (.int c) := ev_op2 (.peek rfl) (.peek rfl) rfl rfl
    exact s_asg ((ev_ite t).trans ((if_pos rfl).trans x))
  obtain ⟨z, hz⟩ := i_pow
  have m1 : ∀ (i : Int) (b : Bool), mulOk i (if b then 1 else 0) = true := fun i b => mul_r (by cases b <;> simp)
  have m2 : mulOk 39373 0 = true := mul_l (by decide)
  obtain ⟨vx, e2⟩ : ∃ v, evE (callN tb cs wf n) (.op2 .mul (.op1 .abs (.peek 2)) (.op1 .int (.op2 .ge (.op1 .abs (.peek 2)) (.op2 .pow (.cst (.int 10)) (.cst (.int 18)))))) [some (k, .list [.int c]), some (9, .int 0), some (9, .int c)] = .ok [some (k, .list [.int c]), some (9, .int 0), some (9, .int c)] 9 (.int v) :=
    ⟨_, ev_op2 (.op1 (.peek rfl) (i_abs _)) (.op1 (.op2 (.op1 (.peek rfl) (i_abs _)) (.op2 .cst .cst hz) (i_ge _ _)) (i_intb _)) (i_mul (m1 _ _)) rfl⟩
  obtain ⟨vy, e3⟩ : ∃ v, evE (callN tb cs wf n) (.op2 .add (.op2 .add (.op2 .mod (.op1 .int (.peek 2)) (.cst (.int 2305843009213693951))) (.op2 .mul (.cst (.int 39373)) (.peek 1))) (.cst (.int bc))) [some (k, .list [.int c]), some (9, .int 0), some (9, .int c)] = .ok [some (k, .list [.int c]), some (9, .int 0), some (9, .int c)] 9 (.int v) :=
    ⟨_, ev_op2 (.op2 (.op2 (.op1 (.peek rfl) (i_int _)) .cst (i_mod (by decide))) (.op2 .cst (.peek rfl) (i_mul m2)) (i_add _ _)) .cst (i_add _ _) rfl⟩
  refine ⟨vx, vy, ?_⟩
  unfold boxC
  dsimp only
  exact congrArg (endOf none) ((ss_cons e1).trans (ss_ret (s_ret (ev_lst3 e2 e3 rfl))))
/-! ### _law_cells, of one -/
theorem cells_loop : ∀ (xs : List Int) (j : Nat) {S p q r : Option (Nat × D)} {k : Nat} {c : Int}, j + xs.length < 1000 → ∃ p' q' r' c', forLoop (.tup [(.name 3), (.name 4)]) (fun env => evSs C cs wf cellsB env) (enumL j (xs.map PyData.int)) [S, some (9, .int 1), some (k + 1, .list [.int c]), p, q, r] =
    .nx [S, some (9, .int 1), some (min k 9 + 1, .list [.int c']), p', q', r'] ∨ forLoop (.tup [(.name 3), (.name 4)]) (fun env => evSs C cs wf cellsB env) (enumL j (xs.map PyData.int)) [S, some (9, .int 1), some (k + 1, .list [.int c]), p, q, r] = .nx [S, some (9, .int 1), some (k + 1, .list [.int c']), p', q', r']
  | [], j, S, p, q, r, k, c, _ => ⟨p, q, r, c, .inr rfl⟩
  | x :: xs, j, S, p, q, r, k, c, h => by
    rw [List.length_cons] at h
    have m1 : mulOk x ((j : Int) + 2) = true := mul_r (by omega)
    have a1 : (j : Int) % 1 = 0 := Int.emod_one _
    have e1 : evS C cs wf (.asg (.name 5) (.op2 .mod (.op1 .int (.peek 3)) (.peek 1))) [S, some (9, .int 1), some (k + 1, .list [.int c]), some (0, .int j), some (0, .int x), r] = .nx [S, some (9, .int 1), some (k + 1, .list [.int c]), some (0, .int j), some (0, .int x), some (9, .int 0)] := by
      have z := s_asg (C := C) (cs := cs) (wf := wf) (i := 5) (ev_op2 (o := .mod) (a := .op1 .int (.peek 3)) (b := .peek 1) (env := [S, some (9, .int 1), some (k + 1, .list [.int c]), some (0, .int j), some (0, .int x), r]) (.op1 (.peek rfl) (i_int _)) (.peek rfl) (i_mod (by decide)) rfl)
      rw [a1] at z
      exact z
    have e2 : evS C cs wf (.setIx 2 .nil (.peek 5) (.op2 .add (.op2 .ix (.peek 2) (.peek 5)) (.op2 .mul (.peek 4) (.op2 .add (.peek 3) (.cst (.int 2)))))) [S, some (9, .int 1), some (k + 1, .list [.int c]), some (0, .int j), some (0, .int x), some (9, .int 0)] =
        .nx [S, some (9, .int 1), some (min k 9 + 1, .list [.int (c + x * (j + 2))]), some (0, .int j), some (0, .int x), some (9, .int 0)] :=
      s_set rfl (ev_op2 (.op2 (.peek rfl) (.peek rfl) rfl) (.op2 (.peek rfl) (.op2 (.peek rfl) .cst (i_add _ _)) (i_mul m1)) (i_add _ _) rfl) rfl rfl
    obtain ⟨p', q', r', c', e3⟩ := cells_loop xs (j + 1) (S := S) (p := some (0, .int j)) (q := some (0, .int x)) (r := some (9, .int 0)) (k := min k 9) (c := c + x * (j + 2)) (by omega)
    have e4 : forLoop (.tup [(.name 3), (.name 4)]) (fun env => evSs C cs wf cellsB env) (enumL j ((x :: xs).map PyData.int)) [S, some (9, .int 1), some (k + 1, .list [.int c]), p, q, r] =
        (match evSs C cs wf cellsB [S, some (9, .int 1), some (k + 1, .list [.int c]), some (0, .int j), some (0, .int x), r] with
          | .nx env => forLoop (.tup [(.name 3), (.name 4)]) (fun env => evSs C cs wf cellsB env) (enumL (j + 1) (xs.map PyData.int)) env
          | .cnt env => forLoop (.tup [(.name 3), (.name 4)]) (fun env => evSs C cs wf cellsB env) (enumL (j + 1) (xs.map PyData.int)) env
          | .brk env => .nx env
          | y => y) := rfl
    refine ⟨p', q', r', c', ?_⟩
    rw [e4]
    unfold cellsB at e3 ⊢
    rw [ss_cons e1, ss_cons e2, ss_nil]
    left
    rcases e3 with e3 | e3
    · rw [show min (min k 9) 9 = min k 9 by omega] at e3
      exact e3
    · exact e3
theorem ev_slice {env : Env} {d dl dh : D} {lo hi : E} {ys : List D} (hg : getS env 0 = some (0, d)) (L : At C env lo dl) (hl : partOk lo dl = true) (U : At C env hi dh) (hh : partOk hi dh = true) (h : ap3 .slice d dl dh = some (.list ys)) : evE C (.op3 .slice (.peek 0) lo hi) env = .ok env 1 (.list ys) := by
  obtain ⟨k1, e1⟩ := L
  obtain ⟨k2, e2⟩ := U
  have e0 : opd (.peek 0) env (evE C (.peek 0) env) = .ok env 0 d := by simp only [opd, hg]
  have a0 : again (.peek 0) env 0 d = some (0, d) := hg
  simp only [evE, e1, e2, hl, hh, if_true]
  simp only [evE] at e0
  simp only [e0, e1, e2, a0, h, hl, hh, if_true]
  rfl
theorem cut_one (x : D) (xs : List D) : ap3 .slice (.list (x :: xs)) .none (.int 1) = some (.list [x]) := by
  show some (PyData.list (cutD (x :: xs) none (some 1))) = _
  have : cutD (x :: xs) none (some 1) = [x] := by
    have e : (1 : Int) = ((1 : Nat) : Int) := rfl
    unfold cutD
    rw [e, HT.sIx_nat, HT.sIx_none, List.length_cons, show min 1 (xs.length + 1) - 0 = 1 by omega]
    rfl
  rw [this]
theorem cut_rest (x : D) (xs : List D) (h : xs.length ≤ 62) : ap3 .slice (.list (x :: xs)) (.int 1) (.int 63) = some (.list xs) := by
  show some (PyData.list (cutD (x :: xs) (some 1) (some 63))) = _
  have : cutD (x :: xs) (some 1) (some 63) = xs := by
    have e : (1 : Int) = ((1 : Nat) : Int) := rfl
    have e2 : (63 : Int) = ((63 : Nat) : Int) := rfl
    unfold cutD
    rw [e, e2, HT.sIx_nat, HT.sIx_nat, List.length_cons, show min 1 (xs.length + 1) = 1 by omega, show min 63 (xs.length + 1) - 1 = xs.length by omega]
    show (xs.take xs.length) = xs
    exact List.take_length
  rw [this]
theorem cells_call {tb : List Fn} {n ic : Nat} (hc : tb[ic]? = some cellsC) : ∀ {ns : List Int}, ns.length ≤ 63 → ∃ k' c, callN tb cs wf (n + 1) ic [some (0, .list (ns.map PyData.int)), some (9, .int 1)] = .ok (k' + 1) (.list [.int c]) none
  | [], _ => by
    rw [call_at hc rfl rfl]
    exact ⟨9, 0, rfl⟩
  | x :: xs, hn => by
    rw [call_at hc rfl rfl]
    rw [List.length_cons] at hn
    have e0 : startS [some (0, .list ((x :: xs).map PyData.int)), some (9, .int 1)] cellsC.slots = [some (0, .list (.int x :: xs.map PyData.int)), some (9, .int 1), none, none, none, none] := rfl
    rw [e0]
    have s1 : evE (callN tb cs wf n) (.op3 .slice (.peek 0) (.cst .none) (.peek 1)) [some (0, .list (.int x :: xs.map PyData.int)), some (9, .int 1), none, none, none, none] = .ok [some (0, .list (.int x :: xs.map PyData.int)), some (9, .int 1), none, none, none, none] 1 (.list [.int x]) :=
      ev_slice rfl .cst rfl (.peek rfl) rfl (cut_one _ _)
    have s2 : evE (callN tb cs wf n) (.op1 .list (.op3 .slice (.peek 0) (.cst .none) (.peek 1))) [some (0, .list (.int x :: xs.map PyData.int)), some (9, .int 1), none, none, none, none] = .ok [some (0, .list (.int x :: xs.map PyData.int)), some (9, .int 1), none, none, none, none] 1 (.list [.int x]) := by
      rw [evE]
      simp only [opd, s1]
      rfl
    have s3 : evE (callN tb cs wf n) (.orT (.op1 .list (.op3 .slice (.peek 0) (.cst .none) (.peek 1))) (.lst (.cons (.cst (.int 0)) .nil))) [some (0, .list (.int x :: xs.map PyData.int)), some (9, .int 1), none, none, none, none] = .ok [some (0, .list (.int x :: xs.map PyData.int)), some (9, .int 1), none, none, none, none] 1 (.list [.int x]) := by
      rw [evE]
      simp only [s2]
    have s4 : evE (callN tb cs wf n) (.op3 .slice (.peek 0) (.peek 1) (.cst (.int 63))) [some (0, .list (.int x :: xs.map PyData.int)), some (9, .int 1), some (1, .list [.int x]), none, none, none] = .ok [some (0, .list (.int x :: xs.map PyData.int)), some (9, .int 1), some (1, .list [.int x]), none, none, none] 1 (.list (xs.map PyData.int)) :=
      ev_slice rfl (.peek rfl) rfl .cst rfl (cut_rest _ _ (by rw [List.length_map]; omega))
    have s5 : evL (callN tb cs wf n) (.cons (.op3 .slice (.peek 0) (.peek 1) (.cst (.int 63))) .nil) [some (0, .list (.int x :: xs.map PyData.int)), some (9, .int 1), some (1, .list [.int x]), none, none, none] = .ok [some (0, .list (.int x :: xs.map PyData.int)), some (9, .int 1), some (1, .list [.int x]), none, none, none] [(1, .list (xs.map PyData.int))] := by
      simp only [evL, s4]
      rfl
    obtain ⟨p', q', r', c', e3⟩ := cells_loop (C := callN tb cs wf n) (cs := cs) (wf := wf) xs 0 (S := some (0, .list (.int x :: xs.map PyData.int))) (p := none) (q := none) (r := none) (k := 0) (c := x) (by omega)
    refine ⟨0, c', ?_⟩
    have e3 : forLoop (.tup [(.name 3), (.name 4)]) (fun env => evSs (callN tb cs wf n) cs wf cellsB env) (enumL 0 (xs.map PyData.int)) [some (0, .list (.int x :: xs.map PyData.int)), some (9, .int 1), some (1, .list [.int x]), none, none, none] = .nx [some (0, .list (.int x :: xs.map PyData.int)), some (9, .int 1), some (1, .list [.int c']), p', q', r'] := by
      rcases e3 with e3 | e3 <;> exact e3
    have e4 := (ss_cons (cs := cs) (wf := wf) (s_asg (i := 2) s3)).trans ((ss_cons ((s_for (g := .tup [(.name 3), (.name 4)]) (sk := .enum) (b := cellsB) s5 rfl).trans e3)).trans (ss_ret (r := .nil) (s_ret (e := .mov 2) rfl)))
    exact congrArg (endOf none) e4
/-! ### law -/
def lawT (is ih : Nat) : E := (.call is (.cons (.lst (.cons (.call ih (.cons (.var 3) (.cons (.var 4) .nil)) none) (.cons (.call ih (.cons (.var 3) (.cons (.var 4) .nil)) none) .nil))) (.cons (.lst (.cons (.var 5) (.cons (.var 5) .nil))) .nil)) none)
def lawB (is ih : Nat) : Ss := (.cons (.ife (.not (lawT is ih)) (.cons (.ret (.cst (.bool false))) .nil) .nil) .nil)
def lawS (ip : Nat) : E := (.call ip (.cons (.peek 1) (.cons (.var 2) (.cons (.op1 .len (.peek 2)) .nil))) (some (0, 1)))
def lawC (ib ic ir ip is ih : Nat) : Fn := ⟨true, 1, 6, none,
  (.cons (.asg (.name 1) (.call ib (.cons (.call ic (.cons (.var 0) (.cons (.cst (.int 1)) .nil)) none) (.cons (.cst (.int 0)) .nil)) none)) (.cons (.asg (.name 2) (.call ir .nil none)) (.cons (.for (.tup [(.name 3), (.name 4), (.name 5)]) .val (.cons (lawS ip) .nil) (lawB is ih)) (.cons (.ret (.cst (.bool true))) .nil))))⟩
/-- a row of the law's holds -/
def rowB (C : Calls) (is ih : Nat) : D → Bool
  | .tuple [d, g, due] => (match C ih [some (lvl 0 d, d), some (lvl 0 g, g)] with
    | .ok k r none => (match C is [some (1 + min (lvl k r) (min (lvl k r) 9), .list [r, r]), some (1 + min (lvl 0 due) (min (lvl 0 due) 9), .list [due, due])] with
      | .ok _ (.bool true) none => true
      | _ => false)
    | _ => false)
  | _ => false
theorem row_step {is ih : Nat} {row : D} (h : rowB C is ih row = true) (a b c x y z : Option (Nat × D)) : ∃ x' y' z', (match bindG (.tup [(.name 3), (.name 4), (.name 5)]) 0 row [a, b, c, x, y, z] with
    | none => SR.bad
    | some env => evSs C cs wf (lawB is ih) env) = .nx [a, b, c, x', y', z'] := by
  unfold rowB at h
  split at h
  · rename_i d g due
    split at h
    · rename_i k r e1
      split at h
      · rename_i k2 e2
        refine ⟨some (0, d), some (0, g), some (0, due), ?_⟩
        have b1 : bindG (.tup [(.name 3), (.name 4), (.name 5)]) 0 (.tuple [d, g, due]) [a, b, c, x, y, z] = some [a, b, c, some (0, d), some (0, g), some (0, due)] := rfl
        rw [b1]
        dsimp only
        have v3 : evE C (.var 3) [a, b, c, some (0, d), some (0, g), some (0, due)] = .ok [a, b, c, some (0, d), some (0, g), some (0, due)] 0 d := rfl
        have v4 : evE C (.var 4) [a, b, c, some (0, d), some (0, g), some (0, due)] = .ok [a, b, c, some (0, d), some (0, g), some (0, due)] 0 g := rfl
        have v5 : evE C (.var 5) [a, b, c, some (0, d), some (0, g), some (0, due)] = .ok [a, b, c, some (0, d), some (0, g), some (0, due)] 0 due := rfl
        have c1 : evE C (.call ih (.cons (.var 3) (.cons (.var 4) .nil)) none) [a, b, c, some (0, d), some (0, g), some (0, due)] = .ok [a, b, c, some (0, d), some (0, g), some (0, due)] k r := by
          rw [evE]
          simp only [evA, v3, v4, insIo, e1, putIo]
        have l1 : evE C (.lst (.cons (.call ih (.cons (.var 3) (.cons (.var 4) .nil)) none) (.cons (.call ih (.cons (.var 3) (.cons (.var 4) .nil)) none) .nil))) [a, b, c, some (0, d), some (0, g), some (0, due)] =
            .ok [a, b, c, some (0, d), some (0, g), some (0, due)] (1 + min (lvl k r) (min (lvl k r) 9)) (.list [r, r]) := by
          rw [evE]
          simp only [evL, c1]
          rfl
        have l2 : evE C (.lst (.cons (.var 5) (.cons (.var 5) .nil))) [a, b, c, some (0, d), some (0, g), some (0, due)] = .ok [a, b, c, some (0, d), some (0, g), some (0, due)] (1 + min (lvl 0 due) (min (lvl 0 due) 9)) (.list [due, due]) := by
          rw [evE]
          simp only [evL, v5]
          rfl
        have lv1 : ∀ (k : Nat) (l : List D), lvl k (.list l) = k := fun _ _ => rfl
        have c2 : evE C (lawT is ih) [a, b, c, some (0, d), some (0, g), some (0, due)] = .ok [a, b, c, some (0, d), some (0, g), some (0, due)] k2 (.bool true) := by
          unfold lawT
          rw [evE]
          simp only [evA, l1, l2, insIo, lv1, e2, putIo]
        have c3 : evE C (.not (lawT is ih)) [a, b, c, some (0, d), some (0, g), some (0, due)] = .ok [a, b, c, some (0, d), some (0, g), some (0, due)] 9 (.bool false) := by
          rw [evE]
          rw [show opd (lawT is ih) [a, b, c, some (0, d), some (0, g), some (0, due)] (evE C (lawT is ih) [a, b, c, some (0, d), some (0, g), some (0, due)]) = evE C (lawT is ih) [a, b, c, some (0, d), some (0, g), some (0, due)] from rfl, c2]
          rfl
        unfold lawB
        rw [ss_cons (s_ife (t := .not (lawT is ih)) (c := false) c3)]
        rfl
      · cases h
    · cases h
  · cases h
theorem rows_loop {is ih : Nat} : ∀ (found : List D) (a b c x y z : Option (Nat × D)), (∀ r, r ∈ found → rowB C is ih r = true) → ∃ x' y' z', forLoop (.tup [(.name 3), (.name 4), (.name 5)]) (fun env => evSs C cs wf (lawB is ih) env) found [a, b, c, x, y, z] = .nx [a, b, c, x', y', z']
  | [], a, b, c, x, y, z, _ => ⟨x, y, z, rfl⟩
  | r :: found, a, b, c, x, y, z, h => by
    obtain ⟨x1, y1, z1, e1⟩ := row_step (cs := cs) (wf := wf) (h r List.mem_cons_self) a b c x y z
    obtain ⟨x2, y2, z2, e2⟩ := rows_loop found a b c x1 y1 z1 fun q hq => h q (List.mem_cons_of_mem _ hq)
    refine ⟨x2, y2, z2, ?_⟩
    unfold forLoop
    cases hb : bindG (.tup [(.name 3), (.name 4), (.name 5)]) 0 r [a, b, c, x, y, z] with
    | none =>
      rw [hb] at e1
      cases e1
    | some env =>
      rw [hb] at e1
      dsimp only at e1 ⊢
      rw [e1]
      exact e2
/-- THE LAW: rows in a drawn order -/
theorem law_plain {tb : List Fn} {n ib ic ir it ip is ih il : Nat} {bc : Int} {rows : List D} (hb : tb[ib]? = some (boxC bc)) (hc : tb[ic]? = some cellsC) (ht : tb[it]? = some takeC) (hp : tb[ip]? = some (pickC it)) (hl : tb[il]? = some (lawC ib ic ir ip is ih))
    (hr : callN tb cs wf (n + 2) ir [] = .ok 1 (.list rows) none) (hz : rows.length ≤ 1000000) (hok : ∀ r, r ∈ rows → rowB (callN tb cs wf (n + 2)) is ih r = true) (ns : List Int) (hn : ns.length ≤ 63) :
    callN tb cs wf (n + 3) il [some (0, .list (ns.map PyData.int))] = .ok 9 (.bool true) none := by
  rw [call_at hl rfl rfl]
  have e0 : startS [some (0, .list (ns.map PyData.int))] (lawC ib ic ir ip is ih).slots = [some (0, .list (ns.map PyData.int)), none, none, none, none, none] := rfl
  rw [e0]
  obtain ⟨k', c, e1⟩ := cells_call (cs := cs) (wf := wf) (n := n + 1) hc hn
  obtain ⟨a, b, e2⟩ := box_call (cs := cs) (wf := wf) (n := n + 1) (k := k' + 1) hb (c := c)
  have v0 : ∀ l, evE (callN tb cs wf (n + 2)) (.var 0) (some (0, .list (ns.map PyData.int)) :: l) = .ok (some (0, .list (ns.map PyData.int)) :: l) 0 (.list (ns.map PyData.int)) := fun _ => rfl
  have lvL : ∀ (k : Nat) (l : List D), lvl k (.list l) = k := fun _ _ => rfl
  have lvI : ∀ (k : Nat) (i : Int), lvl k (.int i) = 9 := fun _ _ => rfl
  have ci : ∀ (i : Int) (env : Env), evE (callN tb cs wf (n + 2)) (.cst (.int i)) env = .ok env 9 (.int i) := fun _ _ => rfl
  have c1 : evE (callN tb cs wf (n + 2)) (.call ic (.cons (.var 0) (.cons (.cst (.int 1)) .nil)) none) [some (0, .list (ns.map PyData.int)), none, none, none, none, none] = .ok [some (0, .list (ns.map PyData.int)), none, none, none, none, none] (k' + 1) (.list [.int c]) := by
    rw [evE]
    simp only [evA, v0, ci, insIo, lvL, lvI, e1, putIo]
  have c2 : evE (callN tb cs wf (n + 2)) (.call ib (.cons (.call ic (.cons (.var 0) (.cons (.cst (.int 1)) .nil)) none) (.cons (.cst (.int 0)) .nil)) none) [some (0, .list (ns.map PyData.int)), none, none, none, none, none] = .ok [some (0, .list (ns.map PyData.int)), none, none, none, none, none] 10 (.list [.int a, .int b, .int 0]) := by
    rw [evE]
    simp only [evA, c1, ci, insIo, lvL, lvI, e2, putIo]
  have c3 : evE (callN tb cs wf (n + 2)) (.call ir .nil none) [some (0, .list (ns.map PyData.int)), some (10, .list [.int a, .int b, .int 0]), none, none, none, none] = .ok [some (0, .list (ns.map PyData.int)), some (10, .list [.int a, .int b, .int 0]), none, none, none, none] 1 (.list rows) := by
    rw [evE]
    simp only [evA, insIo, hr, putIo]
  obtain ⟨kf, found, a', c', e4, sub⟩ := pick_call (cs := cs) (wf := wf) (n := n + 1) hp (take_call (cs := cs) (wf := wf) (n := n) ht) (a := a) (b := b) hz
  have a4 : evA (callN tb cs wf (n + 2)) (.cons (.peek 1) (.cons (.var 2) (.cons (.op1 .len (.peek 2)) .nil))) [some (0, .list (ns.map PyData.int)), some (10, .list [.int a, .int b, .int 0]), some (1, .list rows), none, none, none] =
      .ok [some (0, .list (ns.map PyData.int)), some (10, .list [.int a, .int b, .int 0]), some (0, .list rows), none, none, none] [none, some (0, .list rows), some (9, .int rows.length)] := rfl
  have c4 : evE (callN tb cs wf (n + 2)) (lawS ip) [some (0, .list (ns.map PyData.int)), some (10, .list [.int a, .int b, .int 0]), some (1, .list rows), none, none, none] =
      .ok [some (0, .list (ns.map PyData.int)), some (10, .list [.int a', .int b, .int c']), some (0, .list rows), none, none, none] kf (.list found) := by
    unfold lawS
    rw [evE]
    simp only [a4, insIo, getS, putS, e4, putIo]
  have c5 : evL (callN tb cs wf (n + 2)) (.cons (lawS ip) .nil) [some (0, .list (ns.map PyData.int)), some (10, .list [.int a, .int b, .int 0]), some (1, .list rows), none, none, none] =
      .ok [some (0, .list (ns.map PyData.int)), some (10, .list [.int a', .int b, .int c']), some (0, .list rows), none, none, none] [(kf, .list found)] := by
    simp only [evL, c4, lvL]
  obtain ⟨x, y, z, e5⟩ := rows_loop (C := callN tb cs wf (n + 2)) (cs := cs) (wf := wf) found (some (0, .list (ns.map PyData.int))) (some (10, .list [.int a', .int b, .int c'])) (some (0, .list rows)) none none none fun r hr => hok r (sub r hr)
  have e6 := (ss_cons (cs := cs) (wf := wf) (s_asg (i := 1) c2)).trans ((ss_cons (s_asg (i := 2) c3)).trans ((ss_cons ((s_for (g := .tup [(.name 3), (.name 4), (.name 5)]) (sk := .val) (b := lawB is ih) c5 rfl).trans e5)).trans (ss_ret (r := .nil) (s_ret (e := .cst (.bool true)) rfl))))
  exact congrArg (endOf none) e6
end
end Pv
end
section
set_option maxRecDepth 100000

set_option maxHeartbeats 0
namespace K61
open PySem PySem.Spec PyProof.Rows L2 Pv
def wf : Nat := 2000
def deep : Nat := 22
def rowsT : Bool := match callN (rws.map (·.fn)) cs wf 22 117 [] with
  | .ok 1 (.list l) none => decide (l.length ≤ 1000000) && l.all (rowB (callN (rws.map (·.fn)) cs wf 22) 111 116)
  | _ => false
theorem rowsOk : rowsT = true := by decide +kernel
theorem plain (ns : List Int) (hn : ns.length ≤ 63) : callN (rws.map (·.fn)) cs wf (deep + 1) 118 [some (0, .list (ns.map PyData.int))] = .ok 9 (.bool true) none := by
  have h := rowsOk
  unfold rowsT at h
  split at h
  · rename_i l e
    rw [Bool.and_eq_true] at h
    exact law_plain (n := 20) (ib := 107) (ic := 109) (ir := 117) (it := 108) (ip := 110) (is := 111) (ih := 116) (il := 118) (bc := 9304061) (rows := l) rfl rfl rfl rfl rfl e (of_decide_eq_true h.1) (fun r hr => List.all_eq_true.mp h.2 r hr) ns hn
  · cases h
end K61
end
section
set_option maxRecDepth 100000
set_option maxHeartbeats 4000000
/-! PvRep: how data stand in the heap: frozen (F) or owned. -/
namespace Pv
open PySem PySem.Spec PyProof.Rows L2
/-- what does not change: the written part, where the defs stand -/
structure Cn where
  K : PySem.W.Frag
  fa : Nat → Option Addr
  cl : Nat → Option Addr
def dk : Key → D
  | .inl i => .int i
  | .inr x => .str x
/-- a list that nobody can change -/
def SqC (H : Hp) (a : Addr) (xs : List V) : Prop := ∃ o, H a = some (.frz o (.lst xs))
theorem SqC_sq {K : PySem.W.Frag} {H : Hp} {a : Addr} {xs : List V} (h : SqC H a xs) : SqL K H a xs := .inl (.inr h)
mutual
inductive Rep (c : Cn) (F : Addr → Prop) (H : Hp) : Nat → V → D → List Addr → Prop
  | non (k : Nat) : Rep c F H k .non .none []
  | bl (k : Nat) (b : Bool) : Rep c F H k (.bl b) (.bool b) []
  | int (k : Nat) (i : Int) : Rep c F H k (.int i) (.int i) []
  | str (k : Nat) (x : Str) : Rep c F H k (.str x) (.str x) []
  | tup {k : Nat} {a : Addr} {xs : List V} {ds : List D} {fp : List Addr} (h : H a = some (.tup xs)) (r : RepL c F H k xs ds fp) : Rep c F H k (.ref a) (.tuple ds) fp
  | lfz {a : Addr} {xs : List V} {ds : List D} (f : F a) (h : H a = some (.lst xs)) (r : RepL c F H 0 xs ds []) : Rep c F H 0 (.ref a) (.list ds) []
  | lcon {a : Addr} {xs : List V} {ds : List D} (h : SqC H a xs) (r : RepL c F H 0 xs ds []) : Rep c F H 0 (.ref a) (.list ds) []
  | lown {k : Nat} {a : Addr} {xs : List V} {ds : List D} {fp : List Addr} (h : H a = some (.lst xs)) (r : RepL c F H k xs ds fp) : Rep c F H (k + 1) (.ref a) (.list ds) (a :: fp)
  | dkfz {a : Addr} {kvs : List (Key × V)} {ds : List (D × D)} (f : F a) (h : H a = some (.dK kvs)) (e : ds.map (·.1) = kvs.map fun p => dk p.1) (r : RepL c F H 0 (kvs.map (·.2)) (ds.map (·.2)) []) : Rep c F H 0 (.ref a) (.dict ds) []
  | dkown {k : Nat} {a : Addr} {kvs : List (Key × V)} {ds : List (D × D)} {fp : List Addr} (h : H a = some (.dK kvs)) (e : ds.map (·.1) = kvs.map fun p => dk p.1) (r : RepL c F H k (kvs.map (·.2)) (ds.map (·.2)) fp) : Rep c F H (k + 1) (.ref a) (.dict ds) (a :: fp)
  | dtfz {a : Addr} {kvs : List (List Key × V)} {ds : List (D × D)} (f : F a) (h : H a = some (.dT kvs)) (ne : ds ≠ []) (e : ds.map (·.1) = kvs.map fun p => PyData.tuple (p.1.map dk)) (r : RepL c F H 0 (kvs.map (·.2)) (ds.map (·.2)) []) : Rep c F H 0 (.ref a) (.dict ds) []
  | dtown {k : Nat} {a : Addr} {kvs : List (List Key × V)} {ds : List (D × D)} {fp : List Addr} (h : H a = some (.dT kvs)) (ne : ds ≠ []) (e : ds.map (·.1) = kvs.map fun p => PyData.tuple (p.1.map dk)) (r : RepL c F H k (kvs.map (·.2)) (ds.map (·.2)) fp) : Rep c F H (k + 1) (.ref a) (.dict ds) (a :: fp)
  | objfz {a C dx : Addr} {fs : List (Str × V)} {ds : List (D × D)} {i : Nat} (f : F a) (h : H a = some (.ins C dx fs)) (hc : c.cl i = some C) (e : ds.map (·.1) = fs.map fun p => PyData.str p.1) (r : RepL c F H 0 (fs.map (·.2)) (ds.map (·.2)) []) : Rep c F H 0 (.ref a) (objD i ds) []
  | objown {k : Nat} {a C dx : Addr} {fs : List (Str × V)} {ds : List (D × D)} {i : Nat} {fp : List Addr} (h : H a = some (.ins C dx fs)) (hc : c.cl i = some C) (e : ds.map (·.1) = fs.map fun p => PyData.str p.1) (r : RepL c F H k (fs.map (·.2)) (ds.map (·.2)) fp) : Rep c F H (k + 1) (.ref a) (objD i ds) (a :: fp)
  | fn {f : Nat} {a : Addr} (k : Nat) (h : c.fa f = some a) : Rep c F H k (.ref a) (fnD f) []
inductive RepL (c : Cn) (F : Addr → Prop) (H : Hp) : Nat → List V → List D → List Addr → Prop
  | nil (k : Nat) : RepL c F H k [] [] []
  | cons {k : Nat} {v : V} {vs : List V} {d : D} {ds : List D} {fp fq : List Addr} (r : Rep c F H k v d fp) (rs : RepL c F H k vs ds fq) : RepL c F H k (v :: vs) (d :: ds) (fp ++ fq)
end
/-- a thing that may be changed in place -/
def Mt : HO → Prop
  | .lst _ => True
  | .dK _ => True
  | .dT _ => True
  | .ins _ _ _ => True
  | _ => False
section
variable {c : Cn} {F F' : Addr → Prop} {H H' : Hp}
mutual
theorem Rep.mem : ∀ {k : Nat} {v : V} {d : D} {fp : List Addr}, Rep c F H k v d fp → ∀ a, a ∈ fp → ∃ o, H a = some o ∧ Mt o
  | _, _, _, _, .non _, _, h => by cases h
  | _, _, _, _, .bl _ _, _, h => by cases h
  | _, _, _, _, .int _ _, _, h => by cases h
  | _, _, _, _, .str _ _, _, h => by cases h
  | _, _, _, _, .tup _ r, a, h => r.mem a h
  | _, _, _, _, .lfz _ _ _, _, h => by cases h
  | _, _, _, _, .lcon _ _, _, h => by cases h
  | _, _, _, _, .lown h r, b, hb => by
    rcases List.mem_cons.mp hb with rfl | hb
    · exact ⟨_, h, trivial⟩
    · exact r.mem b hb
  | _, _, _, _, .dkfz _ _ _ _, _, h => by cases h
  | _, _, _, _, .dkown h _ r, b, hb => by
    rcases List.mem_cons.mp hb with rfl | hb
    · exact ⟨_, h, trivial⟩
    · exact r.mem b hb
  | _, _, _, _, .dtfz _ _ _ _ _, _, h => by cases h
  | _, _, _, _, .dtown h _ _ r, b, hb => by
    rcases List.mem_cons.mp hb with rfl | hb
    · exact ⟨_, h, trivial⟩
    · exact r.mem b hb
  | _, _, _, _, .objfz _ _ _ _ _, _, h => by cases h
  | _, _, _, _, .objown h _ _ r, b, hb => by
    rcases List.mem_cons.mp hb with rfl | hb
    · exact ⟨_, h, trivial⟩
    · exact r.mem b hb
  | _, _, _, _, .fn _ _, _, h => by cases h
theorem RepL.mem : ∀ {k : Nat} {vs : List V} {ds : List D} {fp : List Addr}, RepL c F H k vs ds fp → ∀ a, a ∈ fp → ∃ o, H a = some o ∧ Mt o
  | _, _, _, _, .nil _, _, h => by cases h
  | _, _, _, _, .cons r rs, a, h => by
    rcases List.mem_append.mp h with h | h
    · exact r.mem a h
    · exact rs.mem a h
end
theorem SqC_stay {a : Addr} {xs : List V} (h : SqC H a xs) (k : ∀ a o, H a = some o → ¬ Mt o → H' a = some o) : SqC H' a xs := by
  obtain ⟨o, h⟩ := h
  exact ⟨o, k _ _ h fun z => z⟩
mutual
theorem Rep.keep (k0 : ∀ a o, H a = some o → ¬ Mt o → H' a = some o) (kF : ∀ a o, F a → H a = some o → H' a = some o) (m : ∀ a, F a → F' a) : ∀ {k : Nat} {v : V} {d : D} {fp : List Addr}, (∀ a o, a ∈ fp → H a = some o → H' a = some o) → Rep c F H k v d fp → Rep c F' H' k v d fp
  | _, _, _, _, _, .non _ => .non _
  | _, _, _, _, _, .bl _ _ => .bl _ _
  | _, _, _, _, _, .int _ _ => .int _ _
  | _, _, _, _, _, .str _ _ => .str _ _
  | _, _, _, _, q, .tup h r => .tup (k0 _ _ h fun z => z) (RepL.keep k0 kF m q r)
  | _, _, _, _, _, .lfz f h r => .lfz (m _ f) (kF _ _ f h) (RepL.keep k0 kF m (fun _ _ z => by cases z) r)
  | _, _, _, _, _, .lcon h r => .lcon (SqC_stay h k0) (RepL.keep k0 kF m (fun _ _ z => by cases z) r)
  | _, _, _, _, q, .lown h r => .lown (q _ _ List.mem_cons_self h) (RepL.keep k0 kF m (fun a o z => q a o (List.mem_cons_of_mem _ z)) r)
  | _, _, _, _, _, .dkfz f h e r => .dkfz (m _ f) (kF _ _ f h) e (RepL.keep k0 kF m (fun _ _ z => by cases z) r)
  | _, _, _, _, q, .dkown h e r => .dkown (q _ _ List.mem_cons_self h) e (RepL.keep k0 kF m (fun a o z => q a o (List.mem_cons_of_mem _ z)) r)
  | _, _, _, _, _, .dtfz f h ne e r => .dtfz (m _ f) (kF _ _ f h) ne e (RepL.keep k0 kF m (fun _ _ z => by cases z) r)
  | _, _, _, _, q, .dtown h ne e r => .dtown (q _ _ List.mem_cons_self h) ne e (RepL.keep k0 kF m (fun a o z => q a o (List.mem_cons_of_mem _ z)) r)
  | _, _, _, _, _, .objfz f h hc e r => .objfz (m _ f) (kF _ _ f h) hc e (RepL.keep k0 kF m (fun _ _ z => by cases z) r)
  | _, _, _, _, q, .objown h hc e r => .objown (q _ _ List.mem_cons_self h) hc e (RepL.keep k0 kF m (fun a o z => q a o (List.mem_cons_of_mem _ z)) r)
  | _, _, _, _, _, .fn _ h => .fn _ h
theorem RepL.keep (k0 : ∀ a o, H a = some o → ¬ Mt o → H' a = some o) (kF : ∀ a o, F a → H a = some o → H' a = some o) (m : ∀ a, F a → F' a) : ∀ {k : Nat} {vs : List V} {ds : List D} {fp : List Addr}, (∀ a o, a ∈ fp → H a = some o → H' a = some o) → RepL c F H k vs ds fp → RepL c F' H' k vs ds fp
  | _, _, _, _, _, .nil _ => .nil _
  | _, _, _, _, q, .cons r rs => .cons (Rep.keep k0 kF m (fun a o z => q a o (List.mem_append_left _ z)) r) (RepL.keep k0 kF m (fun a o z => q a o (List.mem_append_right _ z)) rs)
end
/-- more is frozen -/
theorem Rep.more {k : Nat} {v : V} {d : D} {fp : List Addr} (r : Rep c F H k v d fp) (m : ∀ a, F a → F' a) : Rep c F' H k v d fp := Rep.keep (fun _ _ e _ => e) (fun _ _ _ e => e) m (fun _ _ _ e => e) r
theorem RepL.more {k : Nat} {v : List V} {d : List D} {fp : List Addr} (r : RepL c F H k v d fp) (m : ∀ a, F a → F' a) : RepL c F' H k v d fp := RepL.keep (fun _ _ e _ => e) (fun _ _ _ e => e) m (fun _ _ _ e => e) r
mutual
/-- all of it frozen -/
theorem Rep.freeze : ∀ {k : Nat} {v : V} {d : D} {fp : List Addr}, (∀ a, F a → F' a) → (∀ a, a ∈ fp → F' a) → Rep c F H k v d fp → Rep c F' H 0 v d []
  | _, _, _, _, _, _, .non _ => .non _
  | _, _, _, _, _, _, .bl _ _ => .bl _ _
  | _, _, _, _, _, _, .int _ _ => .int _ _
  | _, _, _, _, _, _, .str _ _ => .str _ _
  | _, _, _, _, m, q, .tup h r => .tup h (RepL.freeze m q r)
  | _, _, _, _, m, _, .lfz f h r => .lfz (m _ f) h (r.more m)
  | _, _, _, _, m, _, .lcon h r => .lcon h (r.more m)
  | _, _, _, _, m, q, .lown h r => .lfz (q _ List.mem_cons_self) h (RepL.freeze m (fun a z => q a (List.mem_cons_of_mem _ z)) r)
  | _, _, _, _, m, _, .dkfz f h e r => .dkfz (m _ f) h e (r.more m)
  | _, _, _, _, m, q, .dkown h e r => .dkfz (q _ List.mem_cons_self) h e (RepL.freeze m (fun a z => q a (List.mem_cons_of_mem _ z)) r)
  | _, _, _, _, m, _, .dtfz f h ne e r => .dtfz (m _ f) h ne e (r.more m)
  | _, _, _, _, m, q, .dtown h ne e r => .dtfz (q _ List.mem_cons_self) h ne e (RepL.freeze m (fun a z => q a (List.mem_cons_of_mem _ z)) r)
  | _, _, _, _, m, _, .objfz f h hc e r => .objfz (m _ f) h hc e (r.more m)
  | _, _, _, _, m, q, .objown h hc e r => .objfz (q _ List.mem_cons_self) h hc e (RepL.freeze m (fun a z => q a (List.mem_cons_of_mem _ z)) r)
  | _, _, _, _, _, _, .fn _ h => .fn _ h
theorem RepL.freeze : ∀ {k : Nat} {vs : List V} {ds : List D} {fp : List Addr}, (∀ a, F a → F' a) → (∀ a, a ∈ fp → F' a) → RepL c F H k vs ds fp → RepL c F' H 0 vs ds []
  | _, _, _, _, _, _, .nil _ => .nil _
  | _, _, _, _, m, q, .cons r rs => .cons (fp := []) (fq := []) (Rep.freeze m (fun a z => q a (List.mem_append_left _ z)) r) (RepL.freeze m (fun a z => q a (List.mem_append_right _ z)) rs)
end
mutual
/-- less of it owned: what is no longer is frozen -/
theorem Rep.down : ∀ {k : Nat} {v : V} {d : D} {fp : List Addr} (j : Nat), j ≤ k → Rep c F H k v d fp → ∃ fp', fp'.Sublist fp ∧ ∀ F' : Addr → Prop, (∀ a, F a → F' a) → (∀ a, a ∈ fp → a ∉ fp' → F' a) → fp.Nodup → Rep c F' H j v d fp'
  | _, _, _, _, _, _, .non _ => ⟨[], List.nil_sublist _, fun _ _ _ _ => .non _⟩
  | _, _, _, _, _, _, .bl _ _ => ⟨[], List.nil_sublist _, fun _ _ _ _ => .bl _ _⟩
  | _, _, _, _, _, _, .int _ _ => ⟨[], List.nil_sublist _, fun _ _ _ _ => .int _ _⟩
  | _, _, _, _, _, _, .str _ _ => ⟨[], List.nil_sublist _, fun _ _ _ _ => .str _ _⟩
  | _, _, _, _, j, hj, .tup h r => by
    obtain ⟨fp', s, q⟩ := RepL.down j hj r
    exact ⟨fp', s, fun F' m n nd => .tup h (q F' m n nd)⟩
  | _, _, _, _, j, hj, .lfz f h r => by
    obtain rfl : j = 0 := by omega
    exact ⟨[], List.Sublist.refl _, fun F' m _ _ => .lfz (m _ f) h (r.more m)⟩
  | _, _, _, _, j, hj, .lcon h r => by
    obtain rfl : j = 0 := by omega
    exact ⟨[], List.Sublist.refl _, fun F' m _ _ => .lcon h (r.more m)⟩
  | _, _, _, _, 0, _, .lown h r => ⟨[], List.nil_sublist _, fun F' m n _ => Rep.freeze m (fun a z => n a z (by simp)) (.lown h r)⟩
  | _, _, _, _, j + 1, hj, .lown h r => by
    obtain ⟨fp', s, q⟩ := RepL.down j (by omega) r
    refine ⟨_ :: fp', s.cons₂ _, fun F' m n nd => .lown h (q F' m (fun a z zn => n a (List.mem_cons_of_mem _ z) fun y => ?_) (List.nodup_cons.mp nd).2)⟩
    rcases List.mem_cons.mp y with rfl | y
    · exact (List.nodup_cons.mp nd).1 z
    · exact zn y
  | _, _, _, _, j, hj, .dkfz f h e r => by
    obtain rfl : j = 0 := by omega
    exact ⟨[], List.Sublist.refl _, fun F' m _ _ => .dkfz (m _ f) h e (r.more m)⟩
  | _, _, _, _, 0, _, .dkown h e r => ⟨[], List.nil_sublist _, fun F' m n _ => Rep.freeze m (fun a z => n a z (by simp)) (.dkown h e r)⟩
  | _, _, _, _, j + 1, hj, .dkown h e r => by
    obtain ⟨fp', s, q⟩ := RepL.down j (by omega) r
    refine ⟨_ :: fp', s.cons₂ _, fun F' m n nd => .dkown h e (q F' m (fun a z zn => n a (List.mem_cons_of_mem _ z) fun y => ?_) (List.nodup_cons.mp nd).2)⟩
    rcases List.mem_cons.mp y with rfl | y
    · exact (List.nodup_cons.mp nd).1 z
    · exact zn y
  | _, _, _, _, j, hj, .dtfz f h ne e r => by
    obtain rfl : j = 0 := by omega
    exact ⟨[], List.Sublist.refl _, fun F' m _ _ => .dtfz (m _ f) h ne e (r.more m)⟩
  | _, _, _, _, 0, _, .dtown h ne e r => ⟨[], List.nil_sublist _, fun F' m n _ => Rep.freeze m (fun a z => n a z (by simp)) (.dtown h ne e r)⟩
  | _, _, _, _, j + 1, hj, .dtown h ne e r => by
    obtain ⟨fp', s, q⟩ := RepL.down j (by omega) r
    refine ⟨_ :: fp', s.cons₂ _, fun F' m n nd => .dtown h ne e (q F' m (fun a z zn => n a (List.mem_cons_of_mem _ z) fun y => ?_) (List.nodup_cons.mp nd).2)⟩
    rcases List.mem_cons.mp y with rfl | y
    · exact (List.nodup_cons.mp nd).1 z
    · exact zn y
  | _, _, _, _, j, hj, .objfz f h hc e r => by
    obtain rfl : j = 0 := by omega
    exact ⟨[], List.Sublist.refl _, fun F' m _ _ => .objfz (m _ f) h hc e (r.more m)⟩
  | _, _, _, _, 0, _, .objown h hc e r => ⟨[], List.nil_sublist _, fun F' m n _ => Rep.freeze m (fun a z => n a z (by simp)) (.objown h hc e r)⟩
  | _, _, _, _, j + 1, hj, .objown h hc e r => by
    obtain ⟨fp', s, q⟩ := RepL.down j (by omega) r
    refine ⟨_ :: fp', s.cons₂ _, fun F' m n nd => .objown h hc e (q F' m (fun a z zn => n a (List.mem_cons_of_mem _ z) fun y => ?_) (List.nodup_cons.mp nd).2)⟩
    rcases List.mem_cons.mp y with rfl | y
    · exact (List.nodup_cons.mp nd).1 z
    · exact zn y
  | _, _, _, _, _, _, .fn _ h => ⟨[], List.nil_sublist _, fun _ _ _ _ => .fn _ h⟩
theorem RepL.down : ∀ {k : Nat} {vs : List V} {ds : List D} {fp : List Addr} (j : Nat), j ≤ k → RepL c F H k vs ds fp → ∃ fp', fp'.Sublist fp ∧ ∀ F' : Addr → Prop, (∀ a, F a → F' a) → (∀ a, a ∈ fp → a ∉ fp' → F' a) → fp.Nodup → RepL c F' H j vs ds fp'
  | _, _, _, _, _, _, .nil _ => ⟨[], List.nil_sublist _, fun _ _ _ _ => .nil _⟩
  | _, _, _, _, j, hj, .cons (fp := fp) (fq := fq) r rs => by
    obtain ⟨f1, s1, q1⟩ := Rep.down j hj r
    obtain ⟨f2, s2, q2⟩ := RepL.down j hj rs
    refine ⟨f1 ++ f2, s1.append s2, fun F' m n nd => ?_⟩
    obtain ⟨n1, n2, n3⟩ := List.nodup_append.mp nd
    refine .cons (q1 F' m (fun a z zn => n a (List.mem_append_left _ z) fun y => ?_) n1) (q2 F' m (fun a z zn => n a (List.mem_append_right _ z) fun y => ?_) n2)
    · rcases List.mem_append.mp y with y | y
      · exact zn y
      · exact n3 a z a (s2.subset y) rfl
    · rcases List.mem_append.mp y with y | y
      · exact n3 a (s1.subset y) a z rfl
      · exact zn y
end
mutual
/-- what has no list within owns nothing -/
theorem Rep.flat : ∀ {k : Nat} {v : V} {d : D} {fp : List Addr}, flat d = true → Rep c F H k v d fp → fp = [] ∧ ∀ (F' : Addr → Prop) (j : Nat), Rep c F' H j v d []
  | _, _, _, _, _, .non _ => ⟨rfl, fun _ _ => .non _⟩
  | _, _, _, _, _, .bl _ _ => ⟨rfl, fun _ _ => .bl _ _⟩
  | _, _, _, _, _, .int _ _ => ⟨rfl, fun _ _ => .int _ _⟩
  | _, _, _, _, _, .str _ _ => ⟨rfl, fun _ _ => .str _ _⟩
  | _, _, _, _, q, .tup h r => by
    obtain ⟨e, z⟩ := RepL.flat (by simpa only [Pv.flat] using q) r
    exact ⟨e, fun F' j => .tup h (z F' j)⟩
  | _, _, _, _, q, .lfz _ _ _ => by simp [Pv.flat] at q
  | _, _, _, _, q, .lcon _ _ => by simp [Pv.flat] at q
  | _, _, _, _, q, .lown _ _ => by simp [Pv.flat] at q
  | _, _, _, _, q, .dkfz _ _ _ _ => by simp [Pv.flat] at q
  | _, _, _, _, q, .dkown _ _ _ => by simp [Pv.flat] at q
  | _, _, _, _, q, .dtfz _ _ _ _ _ => by simp [Pv.flat] at q
  | _, _, _, _, q, .dtown _ _ _ _ => by simp [Pv.flat] at q
  | _, _, _, _, q, .objfz _ _ _ _ _ => by simp [Pv.flat, objD] at q
  | _, _, _, _, q, .objown _ _ _ _ => by simp [Pv.flat, objD] at q
  | _, _, _, _, _, .fn _ h => ⟨rfl, fun _ _ => .fn _ h⟩
theorem RepL.flat : ∀ {k : Nat} {vs : List V} {ds : List D} {fp : List Addr}, flatL ds = true → RepL c F H k vs ds fp → fp = [] ∧ ∀ (F' : Addr → Prop) (j : Nat), RepL c F' H j vs ds []
  | _, _, _, _, _, .nil _ => ⟨rfl, fun _ _ => .nil _⟩
  | _, _, _, _, q, .cons r rs => by
    simp only [flatL, Bool.and_eq_true] at q
    obtain ⟨e1, z1⟩ := Rep.flat q.1 r
    obtain ⟨e2, z2⟩ := RepL.flat q.2 rs
    exact ⟨by rw [e1, e2]; rfl, fun F' j => .cons (fp := []) (fq := []) (z1 F' j) (z2 F' j)⟩
end
theorem Rep.atom {k : Nat} {v : V} {d : D} {fp : List Addr} (q : atom d = true) (r : Rep c F H k v d fp) : fp = [] ∧ ∀ (F' : Addr → Prop) (H' : Hp) (j : Nat), Rep c F' H' j v d [] := by
  cases r with
  | non => exact ⟨rfl, fun _ _ _ => .non _⟩
  | bl => exact ⟨rfl, fun _ _ _ => .bl _ _⟩
  | int => exact ⟨rfl, fun _ _ _ => .int _ _⟩
  | str => exact ⟨rfl, fun _ _ _ => .str _ _⟩
  | fn => exact ⟨rfl, fun _ _ _ => .fn _ (by assumption)⟩
  | _ => simp [Pv.atom, objD] at q
theorem RepL.length : ∀ {ds : List D} {k : Nat} {vs : List V} {fp : List Addr}, RepL c F H k vs ds fp → vs.length = ds.length
  | [], _, _, _, r => by cases r; rfl
  | d :: ds, _, _, _, r => by
    cases r with
    | cons r rs => simp [RepL.length rs]
mutual
/-- as the library's data -/
theorem Rep.dp : ∀ {d : D} {k : Nat} {v : V} {fp : List Addr}, d.canLay0 = true → Rep c F H k v d fp → Dp c.K H v d
  | .none, _, _, _, _, r => by cases r; exact .non
  | .bool _, _, _, _, _, r => by cases r; exact .bl _
  | .int _, _, _, _, _, r => by cases r; exact .int _
  | .str _, _, _, _, _, r => by cases r; exact .str _
  | .list ds, _, _, _, q, r => by
    have q' : PyData.canLayAll0 ds = true := by simpa only [PyData.canLay0] using q
    cases r with
    | lfz f h r => exact .lst (SqL.of h) (RepL.dp q' r)
    | lcon h r => exact .lst (SqC_sq h) (RepL.dp q' r)
    | lown h r => exact .lst (SqL.of h) (RepL.dp q' r)
  | .tuple ds, _, _, _, q, r => by
    have q' : PyData.canLayAll0 ds = true := by simpa only [PyData.canLay0] using q
    cases r with
    | tup h r => exact .tup (SqT.of h) (RepL.dp q' r)
  | .dict _, _, _, _, q, _ => by simp [PyData.canLay0] at q
theorem RepL.dp : ∀ {ds : List D} {k : Nat} {vs : List V} {fp : List Addr}, PyData.canLayAll0 ds = true → RepL c F H k vs ds fp → DpAll c.K H vs ds
  | [], _, _, _, _, r => by cases r; exact .nil
  | d :: ds, _, _, _, q, r => by
    have q' : (d.canLay0 && PyData.canLayAll0 ds) = true := by simpa only [PyData.canLayAll0] using q
    rw [Bool.and_eq_true] at q'
    cases r with
    | cons r rs => exact .cons (Rep.dp q'.1 r) (RepL.dp q'.2 rs)
end
end
end Pv
end
section
set_option maxRecDepth 100000
set_option maxHeartbeats 4000000
/-! PvGood: slots and what they own; steps. -/
namespace Pv
open PySem PySem.Spec PyProof.Rows L2
inductive Slots (c : Cn) (F : Addr → Prop) (H : Hp) : Env → L2.St → List Addr → Prop
  | nil : Slots c F H [] [] []
  | non {env : Env} {σ : L2.St} {O : List Addr} (o : Option V) (r : Slots c F H env σ O) : Slots c F H (none :: env) (o :: σ) O
  | som {env : Env} {σ : L2.St} {O fp : List Addr} {k : Nat} {v : V} {d : D} (h : Rep c F H k v d fp) (r : Slots c F H env σ O) : Slots c F H (some (k, d) :: env) (some v :: σ) (fp ++ O)
/-- O: what the slots own; F: what is frozen -/
structure Good (c : Cn) (F : Addr → Prop) (env : Env) (σ : L2.St) (H : Hp) (O : Addr → Prop) : Prop where
  l : ∃ l, Slots c F H env σ l ∧ l.Nodup ∧ ∀ a, a ∈ l ↔ O a
  disj : ∀ a, O a → ¬ F a
  dom : ∀ a, F a → H a ≠ none
/-- what may have happened between two states -/
structure Step (F O : Addr → Prop) (H : Hp) (F' O' : Addr → Prop) (H' : Hp) : Prop where
  mono : ∀ a, F a → F' a
  own : ∀ a, O' a → O a ∨ H a = none
  frz : ∀ a, F' a → F a ∨ O a ∨ H a = none
  keep : ∀ a o, H a = some o → ¬ O a → H' a = some o
  dom : ∀ a, H' a = none → H a = none
/-- a value that is held: it owns fp, apart from the slots -/
structure Tmp (c : Cn) (F O : Addr → Prop) (H : Hp) (k : Nat) (v : V) (d : D) (fp : List Addr) : Prop where
  rep : Rep c F H k v d fp
  nd : fp.Nodup
  nO : ∀ a, a ∈ fp → ¬ O a
  nF : ∀ a, a ∈ fp → ¬ F a
structure TmpL (c : Cn) (F O : Addr → Prop) (H : Hp) (k : Nat) (v : List V) (d : List D) (fp : List Addr) : Prop where
  rep : RepL c F H k v d fp
  nd : fp.Nodup
  nO : ∀ a, a ∈ fp → ¬ O a
  nF : ∀ a, a ∈ fp → ¬ F a
section
variable {c : Cn} {F F' F'' O O' O'' : Addr → Prop} {H H' H'' : Hp} {env : Env} {σ : L2.St}
theorem Step.refl : Step F O H F O H := ⟨fun _ h => h, fun _ h => .inl h, fun _ h => .inl h, fun _ _ h _ => h, fun _ h => h⟩
theorem Step.trans (a : Step F O H F' O' H') (b : Step F' O' H' F'' O'' H'') : Step F O H F'' O'' H'' where
  mono := fun x h => b.mono x (a.mono x h)
  own := fun x h => by
    rcases b.own x h with z | z
    · exact a.own x z
    · exact .inr (a.dom x z)
  frz := fun x h => by
    rcases b.frz x h with z | z | z
    · exact a.frz x z
    · exact .inr (a.own x z)
    · exact .inr (.inr (a.dom x z))
  keep := fun x o h n => b.keep x o (a.keep x o h n) fun z => by
    rcases a.own x z with z | z
    · exact n z
    · rw [h] at z; cases z
  dom := fun x h => a.dom x (b.dom x h)
theorem Slots.len : ∀ {env : Env} {σ : L2.St} {l : List Addr}, Slots c F H env σ l → σ.length = env.length
  | _, _, _, .nil => rfl
  | _, _, _, .non _ r => congrArg (· + 1) r.len
  | _, _, _, .som _ r => congrArg (· + 1) r.len
theorem Slots.mem : ∀ {env : Env} {σ : L2.St} {l : List Addr}, Slots c F H env σ l → ∀ a, a ∈ l → ∃ o, H a = some o ∧ Mt o
  | _, _, _, .nil, _, h => by cases h
  | _, _, _, .non _ r, a, h => r.mem a h
  | _, _, _, .som q r, a, h => by
    rcases List.mem_append.mp h with h | h
    · exact Rep.mem q a h
    · exact r.mem a h
theorem Good.mt (g : Good c F env σ H O) {a : Addr} (h : O a) : ∃ o, H a = some o ∧ Mt o := by
  obtain ⟨l, s, _, e⟩ := g.l
  exact s.mem a ((e a).mpr h)
theorem Slots.keep (k0 : ∀ a o, H a = some o → ¬ Mt o → H' a = some o) (kF : ∀ a o, F a → H a = some o → H' a = some o) (m : ∀ a, F a → F' a) : ∀ {env : Env} {σ : L2.St} {l : List Addr}, (∀ a o, a ∈ l → H a = some o → H' a = some o) → Slots c F H env σ l → Slots c F' H' env σ l
  | _, _, _, _, .nil => .nil
  | _, _, _, q, .non o r => .non o (Slots.keep k0 kF m q r)
  | _, _, _, q, .som h r => .som (Rep.keep k0 kF m (fun a o z => q a o (List.mem_append_left _ z)) h) (Slots.keep k0 kF m (fun a o z => q a o (List.mem_append_right _ z)) r)
/-- a slot's value taken out -/
theorem Slots.take : ∀ {env : Env} {σ : L2.St} {l : List Addr} {i : Nat} {k : Nat} {d : D}, Slots c F H env σ l → getS env i = some (k, d) → ∃ v fp l', σ[i]? = some (some v) ∧ Rep c F H k v d fp ∧ Slots c F H (putS env i none) σ l' ∧ l.Perm (fp ++ l')
  | _, _, _, i, _, _, .nil, h => by simp [getS] at h
  | _, _, _, 0, _, _, .non _ r, h => by simp [getS] at h
  | _, _, _, i + 1, _, _, .non o r, h => by
    obtain ⟨v, fp, l', e, q, s, p⟩ := r.take (i := i) h
    exact ⟨v, fp, l', by simpa using e, q, .non o s, p⟩
  | _, _, _, 0, _, _, .som q r, h => by
    simp only [getS, Option.some.injEq, Prod.mk.injEq] at h
    obtain ⟨rfl, rfl⟩ := h
    exact ⟨_, _, _, rfl, q, .non _ r, List.Perm.refl _⟩
  | _, _, _, i + 1, _, _, .som (fp := f0) q0 r, h => by
    obtain ⟨v, fp, l', e, q, s, p⟩ := r.take (i := i) h
    refine ⟨v, fp, f0 ++ l', by simpa using e, q, .som q0 s, ?_⟩
    exact (p.append_left f0).trans (by
      rw [← List.append_assoc, ← List.append_assoc]
      exact (List.perm_append_comm).append_right l')
/-- a value put into a slot that is empty -/
theorem Slots.put : ∀ {env : Env} {σ : L2.St} {l : List Addr} {i : Nat} {k : Nat} {d : D} {v : V} {fp : List Addr}, Slots c F H env σ l → getS env i = none → σ[i]? = some (some v) → Rep c F H k v d fp → ∃ l', Slots c F H (putS env i (some (k, d))) σ l' ∧ l'.Perm (fp ++ l)
  | _, _, _, _, _, _, _, _, .nil, _, h, _ => by simp at h
  | _, _, _, 0, _, _, _, _, .non o r, _, h, q => by
    obtain rfl : o = some _ := by simpa using h
    exact ⟨_, .som q r, List.Perm.refl _⟩
  | _, _, _, i + 1, _, _, _, _, .non o r, g, h, q => by
    obtain ⟨l', s, p⟩ := r.put (i := i) g (by simpa using h) q
    exact ⟨l', .non o s, p⟩
  | _, _, _, 0, _, _, _, _, .som q0 r, g, _, _ => by simp [getS] at g
  | _, _, _, i + 1, _, _, _, _, .som (fp := f0) q0 r, g, h, q => by
    obtain ⟨l', s, p⟩ := r.put (i := i) g (by simpa using h) q
    refine ⟨f0 ++ l', .som q0 s, ?_⟩
    refine (p.append_left f0).trans ?_
    rw [← List.append_assoc, ← List.append_assoc]
    exact (List.perm_append_comm).append_right _
theorem getS_put_same : ∀ {env : Env} {i : Nat} {v : Option (Nat × D)}, i < env.length → getS (putS env i v) i = v
  | _ :: _, 0, _, _ => rfl
  | _ :: r, i + 1, _, h => getS_put_same (env := r) (i := i) (by simpa using h)
theorem getS_put_ne : ∀ {env : Env} {i j : Nat} {v : Option (Nat × D)}, j ≠ i → getS (putS env i v) j = getS env j
  | [], _, _, _, _ => rfl
  | _ :: _, 0, 0, _, h => absurd rfl h
  | _ :: _, 0, _ + 1, _, _ => rfl
  | _ :: _, _ + 1, 0, _, _ => rfl
  | _ :: r, i + 1, j + 1, _, h => getS_put_ne (env := r) (fun e => h (congrArg (· + 1) e))
theorem getS_put_none : ∀ {env : Env} {i : Nat}, getS (putS env i none) i = none
  | [], _ => rfl
  | _ :: _, 0 => rfl
  | _ :: r, i + 1 => getS_put_none (env := r) (i := i)
theorem putS_put : ∀ {env : Env} {i : Nat} {v w : Option (Nat × D)}, putS (putS env i v) i w = putS env i w
  | [], _, _, _ => rfl
  | _ :: _, 0, _, _ => rfl
  | o :: r, i + 1, _, _ => congrArg (o :: ·) (putS_put (env := r) (i := i))
theorem putS_len : ∀ {env : Env} {i : Nat} {v : Option (Nat × D)}, (putS env i v).length = env.length
  | [], _, _ => rfl
  | _ :: _, 0, _ => rfl
  | o :: r, i + 1, _ => congrArg (· + 1) (putS_len (env := r) (i := i))
theorem getS_lt : ∀ {env : Env} {i : Nat} {v : Nat × D}, getS env i = some v → i < env.length
  | [], _, _, h => by simp [getS] at h
  | _ :: _, 0, _, _ => Nat.zero_lt_succ _
  | _ :: r, i + 1, _, h => Nat.succ_lt_succ (getS_lt (env := r) (i := i) h)
/-- a slot is emptied: any value may stand there -/
theorem Slots.drop : ∀ {env : Env} {σ : L2.St} {l : List Addr} (i : Nat) (o : Option V), Slots c F H env σ l → ∃ l', Slots c F H (putS env i none) (σ.set i o) l' ∧ l'.Sublist l
  | _, _, _, _, _, .nil => ⟨[], .nil, List.Sublist.refl _⟩
  | _, _, _, 0, o, .non _ r => ⟨_, .non o r, List.Sublist.refl _⟩
  | _, _, _, i + 1, o, .non o' r => by
    obtain ⟨l', s, p⟩ := r.drop i o
    exact ⟨l', .non o' s, p⟩
  | _, _, _, 0, o, .som (fp := fp) _ r => ⟨_, .non o r, List.sublist_append_right fp _⟩
  | _, _, _, i + 1, o, .som (fp := fp) q r => by
    obtain ⟨l', s, p⟩ := r.drop i o
    exact ⟨fp ++ l', .som q s, p.append_left fp⟩
theorem Step.k0 (s : Step F O H F' O' H') (g : Good c F env σ H O) : ∀ a o, H a = some o → ¬ Mt o → H' a = some o := fun a o h n => s.keep a o h fun z => by
  obtain ⟨o', e, m⟩ := g.mt z
  rw [h] at e; cases e; exact n m
theorem Step.kF (s : Step F O H F' O' H') (g : Good c F env σ H O) : ∀ a o, F a → H a = some o → H' a = some o := fun a o f h => s.keep a o h fun z => g.disj a z f
theorem Tmp.step {k : Nat} {v : V} {d : D} {fp : List Addr} (t : Tmp c F O H k v d fp) (s : Step F O H F' O' H') (g : Good c F env σ H O) : Tmp c F' O' H' k v d fp where
  rep := Rep.keep (s.k0 g) (s.kF g) s.mono (fun a o z h => s.keep a o h (t.nO a z)) t.rep
  nd := t.nd
  nO := fun a z h => by
    rcases s.own a h with q | q
    · exact t.nO a z q
    · obtain ⟨o, e, _⟩ := Rep.mem t.rep a z
      rw [e] at q; cases q
  nF := fun a z h => by
    rcases s.frz a h with q | q | q
    · exact t.nF a z q
    · exact t.nO a z q
    · obtain ⟨o, e, _⟩ := Rep.mem t.rep a z
      rw [e] at q; cases q
theorem TmpL.step {k : Nat} {v : List V} {d : List D} {fp : List Addr} (t : TmpL c F O H k v d fp) (s : Step F O H F' O' H') (g : Good c F env σ H O) : TmpL c F' O' H' k v d fp where
  rep := RepL.keep (s.k0 g) (s.kF g) s.mono (fun a o z h => s.keep a o h (t.nO a z)) t.rep
  nd := t.nd
  nO := fun a z h => by
    rcases s.own a h with q | q
    · exact t.nO a z q
    · obtain ⟨o, e, _⟩ := RepL.mem t.rep a z
      rw [e] at q; cases q
  nF := fun a z h => by
    rcases s.frz a h with q | q | q
    · exact t.nF a z q
    · exact t.nO a z q
    · obtain ⟨o, e, _⟩ := RepL.mem t.rep a z
      rw [e] at q; cases q
/-- the slots' own things outlive a step that leaves them alone -/
theorem Good.keep (g : Good c F env σ H O) (m : ∀ a, F a → F' a) (d : ∀ a, F' a → ¬ O a ∧ H' a ≠ none) (k : ∀ a o, H a = some o → H' a = some o) : Good c F' env σ H' O := by
  obtain ⟨l, s, nd, e⟩ := g.l
  exact ⟨⟨l, Slots.keep (fun a o h _ => k a o h) (fun a o _ h => k a o h) m (fun a o _ h => k a o h) s, nd, e⟩, fun a o f => (d a f).1 o, fun a f => (d a f).2⟩
/-- a held value is frozen -/
theorem Tmp.freeze {k : Nat} {v : V} {d : D} {fp : List Addr} (t : Tmp c F O H k v d fp) (g : Good c F env σ H O) :
    Good c (fun a => F a ∨ a ∈ fp) env σ H O ∧ Tmp c (fun a => F a ∨ a ∈ fp) O H 0 v d [] := by
  refine ⟨g.keep (fun a h => .inl h) (fun a h => ?_) fun _ _ h => h, Rep.freeze (fun a h => .inl h) (fun a h => .inr h) t.rep, List.nodup_nil, (fun a z => by cases z), (fun a z => by cases z)⟩
  rcases h with h | h
  · exact ⟨fun z => g.disj a z h, g.dom a h⟩
  · refine ⟨t.nO a h, fun z => ?_⟩
    obtain ⟨o, e, _⟩ := Rep.mem t.rep a h
    rw [e] at z; cases z
/-- a slot's value, looked at -/
theorem Good.get {i k : Nat} {d : D} (g : Good c F env σ H O) (h : getS env i = some (k, d)) : ∃ v fp, σ[i]? = some (some v) ∧ Rep c F H k v d fp ∧ ∀ a, a ∈ fp → O a := by
  obtain ⟨l, s, nd, e⟩ := g.l
  obtain ⟨v, fp, l', h1, r, _, p⟩ := s.take h
  exact ⟨v, fp, h1, r, fun a z => (e a).mp (p.symm.subset (List.mem_append_left _ z))⟩
/-- a slot's value taken out: held -/
theorem Good.out {i k : Nat} {d : D} (g : Good c F env σ H O) (h : getS env i = some (k, d)) : ∃ v fp O1, σ[i]? = some (some v) ∧ Good c F (putS env i none) σ H O1 ∧ Tmp c F O1 H k v d fp ∧ (∀ a, O a ↔ a ∈ fp ∨ O1 a) := by
  obtain ⟨l, s, nd, e⟩ := g.l
  obtain ⟨v, fp, l', h1, r, s', p⟩ := s.take h
  have nd' := p.nodup_iff.mp nd
  obtain ⟨n1, n2, n3⟩ := List.nodup_append.mp nd'
  have eq : ∀ a, O a ↔ a ∈ fp ∨ a ∈ l' := fun a => (e a).symm.trans ((p.mem_iff).trans List.mem_append)
  refine ⟨v, fp, fun a => a ∈ l', h1, ⟨⟨l', s', n2, fun a => Iff.rfl⟩, fun a z f => g.disj a ((eq a).mpr (.inr z)) f, g.dom⟩, ⟨r, n1, fun a z y => n3 a z a y rfl, fun a z f => g.disj a ((eq a).mpr (.inl z)) f⟩, eq⟩
/-- a held value put into an empty slot that has it -/
theorem Good.into {i k : Nat} {d : D} {v : V} {fp : List Addr} (g : Good c F env σ H O) (h : getS env i = none) (hv : σ[i]? = some (some v)) (t : Tmp c F O H k v d fp) : Good c F (putS env i (some (k, d))) σ H (fun a => a ∈ fp ∨ O a) := by
  obtain ⟨l, s, nd, e⟩ := g.l
  obtain ⟨l', s', p⟩ := s.put h hv t.rep
  refine ⟨⟨l', s', p.nodup_iff.mpr (List.nodup_append.mpr ⟨t.nd, nd, fun a z b y q => t.nO a z ((e a).mp (q ▸ y))⟩), fun a => (p.mem_iff).trans (List.mem_append.trans (or_congr Iff.rfl (e a)))⟩, fun a z f => ?_, g.dom⟩
  rcases z with z | z
  · exact t.nF a z f
  · exact g.disj a z f
theorem set_some {σ : L2.St} {i : Nat} {v : V} (h : i < σ.length) : (σ.set i (some v))[i]? = some (some v) := by simp [h]
/-- a store into a slot -/
theorem Good.store {i k : Nat} {d : D} {v : V} {fp : List Addr} (g : Good c F env σ H O) (hi : i < env.length) (t : Tmp c F O H k v d fp) :
    ∃ O', Good c F (putS env i (some (k, d))) (σ.set i (some v)) H O' ∧ ∀ a, O' a → O a ∨ a ∈ fp := by
  obtain ⟨l, s, nd, e⟩ := g.l
  obtain ⟨l1, s1, p1⟩ := s.drop i (some v)
  have hl : i < σ.length := by rw [s.len]; exact hi
  have g1 : Good c F (putS env i none) (σ.set i (some v)) H (fun a => a ∈ l1) := ⟨⟨l1, s1, p1.nodup nd, fun a => Iff.rfl⟩, fun a z f => g.disj a ((e a).mp (p1.subset z)) f, g.dom⟩
  have t1 : Tmp c F (fun a => a ∈ l1) H k v d fp := ⟨t.rep, t.nd, fun a z y => t.nO a z ((e a).mp (p1.subset y)), t.nF⟩
  have g2 := g1.into getS_put_none (set_some hl) t1
  rw [putS_put] at g2
  refine ⟨_, g2, fun a z => ?_⟩
  rcases z with z | z
  · exact .inr z
  · exact .inl ((e a).mp (p1.subset z))
/-- a slot emptied -/
theorem Good.clear (g : Good c F env σ H O) (i : Nat) (o : Option V) : ∃ O', Good c F (putS env i none) (σ.set i o) H O' ∧ ∀ a, O' a → O a := by
  obtain ⟨l, s, nd, e⟩ := g.l
  obtain ⟨l1, s1, p1⟩ := s.drop i o
  exact ⟨fun a => a ∈ l1, ⟨⟨l1, s1, p1.nodup nd, fun a => Iff.rfl⟩, fun a z f => g.disj a ((e a).mp (p1.subset z)) f, g.dom⟩, fun a z => (e a).mp (p1.subset z)⟩
theorem Good.len (g : Good c F env σ H O) : σ.length = env.length := by
  obtain ⟨l, s, _, _⟩ := g.l
  exact s.len
/-- a new object -/
theorem Step.new {p : Addr} {o : HO} (hp : H p = none) : Step F O H F O (upd H p o) where
  mono := fun _ h => h
  own := fun _ h => .inl h
  frz := fun _ h => .inl h
  keep := fun a o' h _ => by rw [upd_ne (ne_of_none h hp)]; exact h
  dom := fun a h => by
    by_cases e : a = p
    · rw [e]; exact hp
    · rw [upd_ne e] at h; exact h
theorem Good.new {p : Addr} {o : HO} (g : Good c F env σ H O) (hp : H p = none) : Good c F env σ (upd H p o) O :=
  g.keep (fun _ h => h) (fun a f => ⟨fun z => g.disj a z f, fun z => g.dom a f ((Step.new (F := F) (O := O) hp).dom a z)⟩) fun a o' h => by rw [upd_ne (ne_of_none h hp)]; exact h
end
end Pv
end
section
set_option maxRecDepth 100000
set_option maxHeartbeats 4000000
/-! PvOps: the operations on values do what the evaluator's do on data. -/
namespace Pv
open PySem PySem.Spec PyProof.Rows L2
structure Cc (c : Cn) (X : Cx) : Prop where
  hK : X.K = c.K
  calm : X.calm = true
  un : X.A.units + 200 < cLine
/-- what may be gone on with: the value stands for r, what it shares is frozen, what it owns is new -/
def Out (c : Cn) (F : Addr → Prop) (H : Hp) (fp : Addr → Prop) (k : Nat) (r : D) (Q : VK) : Prop :=
  ∀ v H', Same H H' → (∀ F' : Addr → Prop, (∀ a, F a → F' a) → (∀ a, fp a → F' a) → ∃ fq, Rep c F' H' k v r fq ∧ fq.Nodup ∧ ∀ a, a ∈ fq → H a = none) → Q v H'
def R1 (c : Cn) (o : O1) : V → Hp → VK → Prop := fun x H Q => ∃ (F : Addr → Prop) (k1 : Nat) (d1 : D) (fp1 : List Addr) (r : D), Rep c F H k1 x d1 fp1 ∧ ap1 o d1 = some r ∧ Out c F H (fun a => a ∈ fp1) (lv1 o r) r Q
def R2 (c : Cn) (o : O2) : L2.R2 := fun x y H Q => ∃ (F : Addr → Prop) (k1 k2 : Nat) (d1 d2 : D) (fp1 fp2 : List Addr) (r : D), Rep c F H k1 x d1 fp1 ∧ Rep c F H k2 y d2 fp2 ∧ sideOk o k1 d1 = true ∧ ap2 o d1 d2 = some r ∧ Out c F H (fun a => a ∈ fp1 ∨ a ∈ fp2) (lv2 o r) r Q
section
variable {c : Cn} {F : Addr → Prop} {H : Hp} {fp : Addr → Prop} {Q : VK}
theorem Out.int {n : Int} {k : Nat} (q : Out c F H fp k (.int n) Q) : Q (.int n) H := q _ H (Same.refl H) fun _ _ _ => ⟨[], .int _ _, List.nodup_nil, by simp⟩
theorem Out.bl {n : Bool} {k : Nat} (q : Out c F H fp k (.bool n) Q) : Q (.bl n) H := q _ H (Same.refl H) fun _ _ _ => ⟨[], .bl _ _, List.nodup_nil, by simp⟩
theorem Out.str {n : Str} {k : Nat} (q : Out c F H fp k (.str n) Q) : Q (.str n) H := q _ H (Same.refl H) fun _ _ _ => ⟨[], .str _ _, List.nodup_nil, by simp⟩
theorem Out.non {k : Nat} (q : Out c F H fp k .none Q) : Q .non H := q _ H (Same.refl H) fun _ _ _ => ⟨[], .non _, List.nodup_nil, by simp⟩
theorem Same.new {p : Addr} {o : HO} (hp : H p = none) : Same H (upd H p o) := fun b o' h => by rw [upd_ne (ne_of_none h hp)]; exact h
theorem RepL.same {F : Addr → Prop} {H H' : Hp} {k : Nat} {vs : List V} {ds : List D} {fp : List Addr} (r : RepL c F H k vs ds fp) (s : Same H H') : RepL c F H' k vs ds fp :=
  RepL.keep (fun a o h _ => s a o h) (fun a o _ h => s a o h) (fun _ h => h) (fun a o _ h => s a o h) r
theorem Rep.same {F : Addr → Prop} {H H' : Hp} {k : Nat} {vs : V} {ds : D} {fp : List Addr} (r : Rep c F H k vs ds fp) (s : Same H H') : Rep c F H' k vs ds fp :=
  Rep.keep (fun a o h _ => s a o h) (fun a o _ h => s a o h) (fun _ h => h) (fun a o _ h => s a o h) r
theorem Out.lst {xs : List V} {ds : List D} (q : Out c F H fp 1 (.list ds) Q) (r : ∀ F' : Addr → Prop, (∀ a, F a → F' a) → (∀ a, fp a → F' a) → RepL c F' H 0 xs ds []) : ∀ p, H p = none → Q (.ref p) (upd H p (.lst xs)) := fun p hp =>
  q _ _ (Same.new hp) fun F' m n => ⟨[p], .lown upd_same ((r F' m n).same (Same.new hp)), by simp, fun a h => by simp at h; rw [h]; exact hp⟩
theorem Out.tup {xs : List V} {ds : List D} (q : Out c F H fp 0 (.tuple ds) Q) (r : ∀ F' : Addr → Prop, (∀ a, F a → F' a) → (∀ a, fp a → F' a) → RepL c F' H 0 xs ds []) : ∀ p, H p = none → Q (.ref p) (upd H p (.tup xs)) := fun p hp =>
  q _ _ (Same.new hp) fun F' m n => ⟨[], .tup upd_same ((r F' m n).same (Same.new hp)), List.nodup_nil, by simp⟩
/-- the value is one that was there -/
theorem Out.old {v : V} {d : D} {k : Nat} (q : Out c F H fp k d Q) (r : ∀ F' : Addr → Prop, (∀ a, F a → F' a) → (∀ a, fp a → F' a) → Rep c F' H k v d []) : Q v H := q _ H (Same.refl H) fun F' m n => ⟨[], r F' m n, List.nodup_nil, by simp⟩
theorem RepL.append {F : Addr → Prop} {k : Nat} : ∀ {vs ws : List V} {ds es : List D} {fp fq : List Addr}, RepL c F H k vs ds fp → RepL c F H k ws es fq → RepL c F H k (vs ++ ws) (ds ++ es) (fp ++ fq)
  | _, _, _, _, _, _, .nil _, s => s
  | _, _, _, _, _, _, .cons r rs, s => by
    rw [List.append_assoc]
    exact .cons r (RepL.append rs s)
theorem RepL.app0 {F : Addr → Prop} {k : Nat} {vs ws : List V} {ds es : List D} (r : RepL c F H k vs ds []) (s : RepL c F H k ws es []) : RepL c F H k (vs ++ ws) (ds ++ es) [] := RepL.append r s
theorem RepL.take0 {F : Addr → Prop} {k : Nat} : ∀ (n : Nat) {vs : List V} {ds : List D}, RepL c F H k vs ds [] → RepL c F H k (vs.take n) (ds.take n) []
  | 0, _, _, _ => .nil _
  | n + 1, _, _, r => by
    generalize hf : ([] : List Addr) = f at r
    cases r with
    | nil => exact .nil _
    | cons r rs =>
      obtain ⟨e1, e2⟩ := List.append_eq_nil_iff.mp hf.symm
      subst e1 e2
      exact .cons (fp := []) (fq := []) r (RepL.take0 n rs)
theorem RepL.drop0 {F : Addr → Prop} {k : Nat} : ∀ (n : Nat) {vs : List V} {ds : List D}, RepL c F H k vs ds [] → RepL c F H k (vs.drop n) (ds.drop n) []
  | 0, _, _, r => r
  | n + 1, _, _, r => by
    generalize hf : ([] : List Addr) = f at r
    cases r with
    | nil => exact .nil _
    | cons r rs =>
      obtain ⟨e1, e2⟩ := List.append_eq_nil_iff.mp hf.symm
      subst e1 e2
      exact RepL.drop0 n rs
theorem RepL.rev0 {F : Addr → Prop} {k : Nat} : ∀ {ds : List D} {vs : List V}, RepL c F H k vs ds [] → RepL c F H k vs.reverse ds.reverse []
  | [], _, r => by
    generalize hf : ([] : List Addr) = f at r
    cases r with
    | nil => exact .nil _
  | d :: ds, _, r => by
    generalize hf : ([] : List Addr) = f at r
    cases r with
    | cons r rs =>
      obtain ⟨e1, e2⟩ := List.append_eq_nil_iff.mp hf.symm
      subst e1 e2
      simp only [List.reverse_cons]
      exact RepL.app0 (RepL.rev0 rs) (.cons (fp := []) (fq := []) r (.nil _))
theorem RepL.get0 {F : Addr → Prop} {k : Nat} : ∀ {vs : List V} {ds : List D} {fp : List Addr} {i : Nat} {d : D}, RepL c F H k vs ds fp → ds[i]? = some d → ∃ v fq, vs[i]? = some v ∧ Rep c F H k v d fq ∧ ∀ a, a ∈ fq → a ∈ fp
  | _, _, _, _, _, .nil _, h => by simp at h
  | _, _, _, 0, _, .cons r rs, h => by
    obtain rfl := Option.some.inj (show some _ = some _ from h)
    exact ⟨_, _, rfl, r, fun a z => List.mem_append_left _ z⟩
  | _, _, _, i + 1, _, .cons r rs, h => by
    obtain ⟨v, fq, e, q, m⟩ := RepL.get0 (i := i) rs (by simpa using h)
    exact ⟨v, fq, by simpa using e, q, fun a z => List.mem_append_right _ (m a z)⟩
theorem RepL.rep0 {F : Addr → Prop} {k : Nat} {vs : List V} {ds : List D} (r : RepL c F H k vs ds []) : ∀ n : Nat, RepL c F H k (List.replicate n vs).flatten (List.replicate n ds).flatten []
  | 0 => .nil _
  | n + 1 => by
    simp only [List.replicate_succ, List.flatten_cons]
    exact RepL.app0 r (RepL.rep0 r n)
/-- all that a list or a tuple stands for, frozen -/
theorem rep_list {F F' : Addr → Prop} {k : Nat} {v : V} {ds : List D} {fp : List Addr} (r : Rep c F H k v (.list ds) fp) : ∃ a xs, v = .ref a ∧ (H a = some (.lst xs) ∨ SqC H a xs) ∧ xs.length = ds.length ∧ ∀ F' : Addr → Prop, (∀ a, F a → F' a) → (∀ a, a ∈ fp → F' a) → RepL c F' H 0 xs ds [] := by
  cases r with
  | lfz f h r => exact ⟨_, _, rfl, .inl h, RepL.length r, fun F' m n => RepL.freeze m (fun a z => by cases z) r⟩
  | lcon h r => exact ⟨_, _, rfl, .inr h, RepL.length r, fun F' m n => RepL.freeze m (fun a z => by cases z) r⟩
  | lown h r => exact ⟨_, _, rfl, .inl h, RepL.length r, fun F' m n => RepL.freeze m (fun a z => n a (List.mem_cons_of_mem _ z)) r⟩
theorem rep_tup {F : Addr → Prop} {k : Nat} {v : V} {ds : List D} {fp : List Addr} (r : Rep c F H k v (.tuple ds) fp) : ∃ a xs, v = .ref a ∧ H a = some (.tup xs) ∧ xs.length = ds.length ∧ ∀ F' : Addr → Prop, (∀ a, F a → F' a) → (∀ a, a ∈ fp → F' a) → RepL c F' H 0 xs ds [] := by
  cases r with
  | tup h r => exact ⟨_, _, rfl, h, RepL.length r, fun F' m n => RepL.freeze m n r⟩
theorem sq_of {a : Addr} {xs : List V} (h : H a = some (.lst xs) ∨ SqC H a xs) : SqL c.K H a xs := by
  rcases h with h | h
  · exact SqL.of h
  · exact SqC_sq h
theorem intsL_map : ∀ {ds : List D} {ns : List Int}, intsL ds = some ns → ds = ns.map PyData.int
  | [], ns, h => by simp [intsL] at h; subst h; rfl
  | d :: ds, ns, h => by
    cases d with
    | int i =>
      simp only [intsL, Option.map_eq_some_iff] at h
      obtain ⟨ms, h1, rfl⟩ := h
      rw [intsL_map h1]; rfl
    | _ => simp [intsL] at h
theorem boolsL_map : ∀ {ds : List D} {ns : List Bool}, boolsL ds = some ns → ds = ns.map PyData.bool
  | [], ns, h => by simp [boolsL] at h; subst h; rfl
  | d :: ds, ns, h => by
    cases d with
    | bool i =>
      simp only [boolsL, Option.map_eq_some_iff] at h
      obtain ⟨ms, h1, rfl⟩ := h
      rw [boolsL_map h1]; rfl
    | _ => simp [boolsL] at h
theorem RepL.ints {F : Addr → Prop} {k : Nat} : ∀ {ns : List Int} {xs : List V} {fp : List Addr}, RepL c F H k xs (ns.map PyData.int) fp → xs = ns.map V.int
  | [], _, _, r => by cases r; rfl
  | n :: ns, _, _, r => by
    cases r with
    | cons r rs =>
      cases r
      rw [RepL.ints rs]; rfl
theorem RepL.bools {F : Addr → Prop} {k : Nat} : ∀ {ns : List Bool} {xs : List V} {fp : List Addr}, RepL c F H k xs (ns.map PyData.bool) fp → xs = ns.map V.bl
  | [], _, _, r => by cases r; rfl
  | n :: ns, _, _, r => by
    cases r with
    | cons r rs =>
      cases r
      rw [RepL.bools rs]; rfl
theorem szOk_le {n : Nat} (h : szOk n = true) : n ≤ sizeLine := by
  rw [sizeLine_eq]
  exact of_decide_eq_true h
theorem lay_shaped {d : D} (h : lay d = true) : SeqAt.shaped d = true := by
  cases d with
  | none => decide
  | bool b => simp [SeqAt.shaped, PyData.canLay0, PyData.depth]
  | int b => simp [SeqAt.shaped, PyData.canLay0, PyData.depth]
  | _ => exact h
theorem Rep.lay {F : Addr → Prop} {k : Nat} {v : V} {d : D} {fp : List Addr} (h : lay d = true) (r : Rep c F H k v d fp) : Dp c.K H v d := Rep.dp (SeqAt.canLay_of_shaped (lay_shaped h)) r
theorem memD_any (x : D) : ∀ xs : List D, memD x xs = xs.any fun z => PyData.eqv z x
  | [] => rfl
  | y :: r => by simp only [memD, List.any_cons]; rw [memD_any x r]
end
theorem op_cat' {X : Cx} : OpR X (binaryOp .Add) (fun x y H Q => ∃ l b xs zs, x = .ref l ∧ y = .ref b ∧ Rd H l (.lst xs) ∧ Rd H b (.lst zs) ∧ xs.length + zs.length ≤ sizeLine ∧ ∀ p, H p = none → Q (.ref p) (upd H p (.lst (xs ++ zs)))) := by
  intro pins s σ H x y v u Q I rx ry h
  obtain ⟨l, b, xs, zs, rfl, rfl, hH, hB, hz, q⟩ := h
  cases rx
  cases ry
  obtain ⟨z, its, n, r, e⟩ := hH.ok I.hok
  obtain ⟨z2, its2, n2, r2, e2⟩ := hB.ok I.hok
  have hl := r.length
  have hl2 := r2.length
  refine PySem.P.add_list e e2 ?_ (by rw [List.size_toArray, List.size_toArray]; omega)
  have ea : its.toArray ++ its2.toArray = (its ++ its2).toArray := by simp
  rw [ea]
  exact ⟨.ref _, _, I.lnew (t' := s.toks) (r.append r2) (by rw [List.length_append]; omega), rfl, q _ I.fresh⟩
theorem rd_of {H : Hp} {a : Addr} {xs : List V} (h : H a = some (.lst xs) ∨ SqC H a xs) : Rd H a (.lst xs) := h
section
variable {c : Cn} {X : Cx} (cc : Cc c X)
include cc
theorem s_add : OpR X (binaryOp .Add) (R2 c .add) := by
  intro pins s σ H x y v u Q I rx ry ⟨F, k1, k2, d1, d2, fp1, fp2, r, r1, r2, sd, e, q⟩
  have e : addD d1 d2 = some r := e
  unfold addD at e
  split at e
  · cases r1; cases r2; cases e
    exact op_add pins s σ H _ _ v u Q I rx ry ⟨_, _, rfl, rfl, q.int⟩
  · cases r1; cases r2; cases e
    exact op_add_ib pins s σ H _ _ v u Q I rx ry ⟨_, _, rfl, rfl, q.int⟩
  · split at e
    · rename_i xs ys hz
      cases e
      obtain ⟨a, vs, rfl, ha, la, fa⟩ := rep_list (F' := F) r1
      obtain ⟨b, ws, rfl, hb, lb, fb⟩ := rep_list (F' := F) r2
      have hz' : vs.length + ws.length ≤ sizeLine := by rw [la, lb]; exact szOk_le hz
      exact op_cat' pins s σ H _ _ v u Q I rx ry ⟨a, b, vs, ws, rfl, rfl, rd_of ha, rd_of hb, hz', q.lst fun F' m n => RepL.app0 (fa F' m fun a z => n a (.inl z)) (fb F' m fun a z => n a (.inr z))⟩
    · cases e
  · split at e
    · rename_i xs ys _ hz
      cases e
      obtain ⟨a, vs, rfl, ha, la, fa⟩ := rep_tup r1
      obtain ⟨b, ws, rfl, hb, lb, fb⟩ := rep_tup r2
      have hz' : vs.length + ws.length ≤ sizeLine := by rw [la, lb]; exact szOk_le hz
      refine op_catA pins s σ H _ _ v u Q I rx ry ⟨a, b, vs, ws, rfl, rfl, SqT.of ha, SqT.of hb, hz', fun h => ?_, fun _ h => ?_, fun _ _ => ?_⟩
      · subst h
        obtain rfl : xs = [] := List.eq_nil_of_length_eq_zero (by simpa using la.symm)
        exact q.old fun F' m n => .tup hb (fb F' m fun a z => n a (.inr z))
      · subst h
        obtain rfl : ys = [] := List.eq_nil_of_length_eq_zero (by simpa using lb.symm)
        rw [List.append_nil] at q
        exact q.old fun F' m n => .tup ha (fa F' m fun a z => n a (.inl z))
      · exact q.tup fun F' m n => RepL.app0 (fa F' m fun a z => n a (.inl z)) (fb F' m fun a z => n a (.inr z))
    · cases e
  · split at e
    · rename_i hz
      cases r1; cases r2; cases e
      exact op_add_str pins s σ H _ _ v u Q I rx ry ⟨_, _, rfl, rfl, szOk_le hz, q.str⟩
    · cases e
  · cases e
theorem s_bin {f : Value → Value → Sem Value} {o : O2} {ok : Int → Int → Bool} {g : Int → Int → Int} {C : Int → Int → Prop} (ho : ap2 o = bin2 ok g) (hC : ∀ i j, ok i j = true → C i j) (h : OpR X f (rI C fun i j => .int (g i j))) : OpR X f (R2 c o) := by
  intro pins s σ H x y v u Q I rx ry ⟨F, k1, k2, d1, d2, fp1, fp2, r, r1, r2, sd, e, q⟩
  rw [ho] at e
  unfold bin2 at e
  split at e
  · split at e
    · rename_i hk
      cases r1; cases r2; cases e
      exact h pins s σ H _ _ v u Q I rx ry ⟨_, _, rfl, rfl, hC _ _ hk, q.int⟩
    · cases e
  · cases e
theorem s_bin0 {f : Value → Value → Sem Value} {o : O2} {g : Int → Int → Int} (ho : ap2 o = bin2 (fun _ _ => true) g) (h : OpR X f (rI0 fun i j => .int (g i j))) : OpR X f (R2 c o) := by
  intro pins s σ H x y v u Q I rx ry ⟨F, k1, k2, d1, d2, fp1, fp2, r, r1, r2, sd, e, q⟩
  rw [ho] at e
  unfold bin2 at e
  split at e
  · cases r1; cases r2; cases e
    exact h pins s σ H _ _ v u Q I rx ry ⟨_, _, rfl, rfl, q.int⟩
  · cases e
theorem s_sub : OpR X (binaryOp .Sub) (R2 c .sub) := s_bin0 cc rfl op_sub
theorem s_fdiv : OpR X (binaryOp .FloorDiv) (R2 c .fdiv) := s_bin cc rfl (fun i j h => of_decide_eq_true h) op_fdiv
theorem s_mod : OpR X (binaryOp .Mod) (R2 c .mod) := s_bin cc rfl (fun i j h => of_decide_eq_true h) op_mod
theorem s_pow : OpR X (binaryOp .Pow) (R2 c .pow) := s_bin cc rfl (fun i j h => of_decide_eq_true h) op_pow
theorem s_shl : OpR X (binaryOp .LShift) (R2 c .shl) := s_bin cc rfl (fun i j h => of_decide_eq_true h) op_shl
theorem s_shr : OpR X (binaryOp .RShift) (R2 c .shr) := s_bin cc rfl (fun i j h => of_decide_eq_true h) op_shr
theorem s_and : OpR X (binaryOp .BitAnd) (R2 c .band) := s_bin0 cc rfl op_and
theorem s_or : OpR X (binaryOp .BitOr) (R2 c .bor) := s_bin0 cc rfl op_or
theorem s_xor : OpR X (binaryOp .BitXor) (R2 c .bxor) := s_bin0 cc rfl op_xor
theorem mulOk_C {i j : Int} (h : mulOk i j = true) : CMul i j := by
  unfold mulOk at h
  rw [Bool.or_eq_true] at h
  rcases h with h | h
  · exact .inl (of_decide_eq_true h)
  · exact .inr (of_decide_eq_true h)
theorem s_eq : OpR X (compareOp .Eq) (R2 c .eq) := by
  intro pins s σ H x y v u Q I rx ry ⟨F, k1, k2, d1, d2, fp1, fp2, r, r1, r2, sd, e, q⟩
  have e : eqOp d1 d2 = some r := e
  unfold eqOp at e
  split at e
  · rename_i hl
    rw [Bool.and_eq_true] at hl
    cases e
    refine op_eqD (by have := cc.un; omega) pins s σ H _ _ v u Q I rx ry ⟨d1, d2, ?_, ?_, lay_shaped hl.1, lay_shaped hl.2, q.bl⟩
    · rw [cc.hK]; exact Rep.lay hl.1 r1
    · rw [cc.hK]; exact Rep.lay hl.2 r2
  · cases e
theorem s_ne : OpR X (compareOp .NotEq) (R2 c .ne) := by
  intro pins s σ H x y v u Q I rx ry ⟨F, k1, k2, d1, d2, fp1, fp2, r, r1, r2, sd, e, q⟩
  have e : neOp d1 d2 = some r := e
  unfold neOp at e
  split at e
  · rename_i hl
    rw [Bool.and_eq_true] at hl
    cases e
    refine op_neD (by have := cc.un; omega) pins s σ H _ _ v u Q I rx ry ⟨d1, d2, ?_, ?_, lay_shaped hl.1, lay_shaped hl.2, q.bl⟩
    · rw [cc.hK]; exact Rep.lay hl.1 r1
    · rw [cc.hK]; exact Rep.lay hl.2 r2
  · cases e
theorem s_cmp {f : Value → Value → Sem Value} {o : O2} {g : Int → Int → Bool} (ho : ap2 o = cmpI g) (h : OpR X f (rI0 fun i j => .bl (g i j))) : OpR X f (R2 c o) := by
  intro pins s σ H x y v u Q I rx ry ⟨F, k1, k2, d1, d2, fp1, fp2, r, r1, r2, sd, e, q⟩
  rw [ho] at e
  unfold cmpI at e
  split at e
  · cases r1; cases r2; cases e
    exact h pins s σ H _ _ v u Q I rx ry ⟨_, _, rfl, rfl, q.bl⟩
  · cases e
theorem s_le : OpR X (compareOp .LtE) (R2 c .le) := s_cmp cc rfl op_le
theorem s_gt : OpR X (compareOp .Gt) (R2 c .gt) := s_cmp cc rfl op_gt
theorem s_ge : OpR X (compareOp .GtE) (R2 c .ge) := s_cmp cc rfl op_ge
theorem s_lt : OpR X (compareOp .Lt) (R2 c .lt) := by
  intro pins s σ H x y v u Q I rx ry ⟨F, k1, k2, d1, d2, fp1, fp2, r, r1, r2, sd, e, q⟩
  have e : ltOp d1 d2 = some r := e
  unfold ltOp at e
  split at e
  · cases r1; cases r2; cases e
    exact op_lt pins s σ H _ _ v u Q I rx ry ⟨_, _, rfl, rfl, q.bl⟩
  · rename_i xs ys
    simp only [Option.bind_eq_some_iff, Option.map_eq_some_iff] at e
    obtain ⟨ns, e1, ms, e2, rfl⟩ := e
    obtain rfl := intsL_map e1
    obtain rfl := intsL_map e2
    obtain ⟨a, vs, rfl, ha, la, fa⟩ := rep_tup r1
    obtain ⟨b, ws, rfl, hb, lb, fb⟩ := rep_tup r2
    obtain rfl := RepL.ints (fa (fun _ => True) (fun _ _ => trivial) fun _ _ => trivial)
    obtain rfl := RepL.ints (fb (fun _ => True) (fun _ _ => trivial) fun _ _ => trivial)
    exact op_ltT (by have := cc.un; omega) pins s σ H _ _ v u Q I rx ry ⟨a, b, ns, ms, rfl, rfl, SqT.of ha, SqT.of hb, q.bl⟩
  · cases e
end
end Pv
end
section
set_option maxRecDepth 100000
set_option maxHeartbeats 4000000
/-! PvOps2: more operations. -/
namespace Pv
open PySem PySem.Spec PyProof.Rows L2
/-- a built-in of one argument, of two -/
def C1 (c : Cn) (o : O1) : List V → Hp → VK → Prop := fun xs H Q => ∃ x, xs = [x] ∧ R1 c o x H Q
def C2 (c : Cn) (o : O2) : List V → Hp → VK → Prop := fun xs H Q => ∃ x y, xs = [x, y] ∧ R2 c o x y H Q
theorem dk_kV : ∀ k : Key, ∃ v, kV k = v ∧ (∀ (c : Cn) (F : Addr → Prop) (H : Hp) (j : Nat), Rep c F H j v (dk k) [])
  | .inl i => ⟨.int i, rfl, fun _ _ _ _ => .int _ _⟩
  | .inr x => ⟨.str x, rfl, fun _ _ _ _ => .str _ _⟩
/-- a key as data is the key -/
def keyOf : D → Option Key
  | .int i => some (.inl i)
  | .str x => some (.inr x)
  | _ => none
def keysOf : List D → Option (List Key)
  | [] => some []
  | d :: r => (keyOf d).bind fun k => (keysOf r).map (k :: ·)
theorem keyOf_dk {d : D} {k : Key} (h : keyOf d = some k) : d = dk k := by
  cases d with
  | int i => simp only [keyOf, Option.some.injEq] at h; subst h; rfl
  | str i => simp only [keyOf, Option.some.injEq] at h; subst h; rfl
  | _ => simp [keyOf] at h
theorem keysOf_dk : ∀ {ds : List D} {ks : List Key}, keysOf ds = some ks → ds = ks.map dk
  | [], ks, h => by simp [keysOf] at h; subst h; rfl
  | d :: r, ks, h => by
    simp only [keysOf, Option.bind_eq_some_iff, Option.map_eq_some_iff] at h
    obtain ⟨k, h1, ks', h2, rfl⟩ := h
    rw [keyOf_dk h1, keysOf_dk h2]; rfl
theorem eqv_dk (a b : Key) : PyData.eqv (dk a) (dk b) = decide (a = b) := by
  cases a with
  | inl i => cases b with
    | inl j =>
      simp only [dk, PyData.eqv]
      by_cases h : i = j
      · subst h; simp
      · simp [h]
    | inr y => simp [dk, PyData.eqv]
  | inr x => cases b with
    | inl j => simp [dk, PyData.eqv]
    | inr y =>
      simp only [dk, PyData.eqv]
      by_cases h : x = y
      · subst h; simp
      · simp [h]
theorem eqv_dks : ∀ a b : List Key, PyData.eqvAll (a.map dk) (b.map dk) = decide (a = b)
  | [], [] => by simp [PyData.eqvAll]
  | [], _ :: _ => by simp [PyData.eqvAll]
  | _ :: _, [] => by simp [PyData.eqvAll]
  | x :: a, y :: b => by
    simp only [List.map_cons, PyData.eqvAll, eqv_dk, eqv_dks a b]
    by_cases h : x = y
    · subst h; simp
    · simp [h]
section
variable {c : Cn} {F : Addr → Prop} {H : Hp}
theorem findKey_k {kvs : List (Key × V)} (k : Key) : ∀ {ds : List (D × D)} {j : Nat} {fp : List Addr}, ds.map (·.1) = kvs.map (fun p => dk p.1) → RepL c F H j (kvs.map (·.2)) (ds.map (·.2)) fp →
    (findKey ds (dk k) = none ∧ valV kvs k = none) ∨ ∃ d v fq, findKey ds (dk k) = some d ∧ valV kvs k = some v ∧ Rep c F H j v d fq ∧ ∀ a, a ∈ fq → a ∈ fp := by
  induction kvs with
  | nil =>
    intro ds j fp e r
    cases ds with
    | nil => exact .inl ⟨rfl, rfl⟩
    | cons _ _ => simp at e
  | cons p kvs ih =>
    intro ds j fp e r
    cases ds with
    | nil => simp at e
    | cons q ds =>
      obtain ⟨q1, q2⟩ := q
      simp only [List.map_cons, List.cons.injEq] at e
      obtain ⟨e1, e2⟩ := e
      subst e1
      simp only [List.map_cons] at r
      cases r with
      | cons r rs =>
        by_cases h : p.1 = k
        · refine .inr ⟨q2, p.2, _, ?_, valV_pos h, r, fun a z => List.mem_append_left _ z⟩
          simp [findKey, eqv_dk, h]
        · rcases ih e2 rs with ⟨h1, h2⟩ | ⟨d, v, fq, h1, h2, h3, h4⟩
          · exact .inl ⟨by simp [findKey, eqv_dk, h, h1], by rw [valV_neg h, h2]⟩
          · exact .inr ⟨d, v, fq, by simp [findKey, eqv_dk, h, h1], by rw [valV_neg h, h2], h3, fun a z => List.mem_append_right _ (h4 a z)⟩
theorem findKey_t {kvs : List (List Key × V)} (k : List Key) : ∀ {ds : List (D × D)} {j : Nat} {fp : List Addr}, ds.map (·.1) = kvs.map (fun p => PyData.tuple (p.1.map dk)) → RepL c F H j (kvs.map (·.2)) (ds.map (·.2)) fp →
    (findKey ds (.tuple (k.map dk)) = none ∧ valV kvs k = none) ∨ ∃ d v fq, findKey ds (.tuple (k.map dk)) = some d ∧ valV kvs k = some v ∧ Rep c F H j v d fq ∧ ∀ a, a ∈ fq → a ∈ fp := by
  induction kvs with
  | nil =>
    intro ds j fp e r
    cases ds with
    | nil => exact .inl ⟨rfl, rfl⟩
    | cons _ _ => simp at e
  | cons p kvs ih =>
    intro ds j fp e r
    cases ds with
    | nil => simp at e
    | cons q ds =>
      obtain ⟨q1, q2⟩ := q
      simp only [List.map_cons, List.cons.injEq] at e
      obtain ⟨e1, e2⟩ := e
      subst e1
      simp only [List.map_cons] at r
      cases r with
      | cons r rs =>
        by_cases h : p.1 = k
        · refine .inr ⟨q2, p.2, _, ?_, valV_pos h, r, fun a z => List.mem_append_left _ z⟩
          simp [findKey, PyData.eqv, eqv_dks, h]
        · rcases ih e2 rs with ⟨h1, h2⟩ | ⟨d, v, fq, h1, h2, h3, h4⟩
          · exact .inl ⟨by simp [findKey, PyData.eqv, eqv_dks, h, h1], by rw [valV_neg h, h2]⟩
          · exact .inr ⟨d, v, fq, by simp [findKey, PyData.eqv, eqv_dks, h, h1], by rw [valV_neg h, h2], h3, fun a z => List.mem_append_right _ (h4 a z)⟩
theorem RepL.keys : ∀ {ks : List Key} {xs : List V} {j : Nat} {fp : List Addr}, RepL c F H j xs (ks.map dk) fp → xs = ks.map kV
  | [], _, _, _, r => by cases r; rfl
  | .inl i :: ks, _, _, _, r => by
    cases r with
    | cons r rs =>
      cases r
      rw [RepL.keys rs]; rfl
  | .inr i :: ks, _, _, _, r => by
    cases r with
    | cons r rs =>
      cases r
      rw [RepL.keys rs]; rfl
end

theorem keyD_all : ∀ {ds : List D}, ds.all isKey = true → ∃ ks : List Key, ds = ks.map dk
  | [], _ => ⟨[], rfl⟩
  | d :: r, h => by
    simp only [List.all_cons, Bool.and_eq_true] at h
    obtain ⟨ks, e⟩ := keyD_all h.2
    cases d with
    | int i => exact ⟨.inl i :: ks, by rw [e]; rfl⟩
    | str i => exact ⟨.inr i :: ks, by rw [e]; rfl⟩
    | _ => simp [isKey] at h
/-- a look into a dict by a key that fits: what the heap has and what the data has -/
theorem dict_look {c : Cn} {F : Addr → Prop} {H : Hp} {k1 k2 : Nat} {x y : V} {kvs : List (D × D)} {k : D} {fp1 fp2 : List Addr} (r1 : Rep c F H k1 x (.dict kvs) fp1) (r2 : Rep c F H k2 y k fp2) (h : keyOk kvs k = true) :
    ∃ a o, x = .ref a ∧ DGet H a y o ∧ ((findKey kvs k = none ∧ o = none) ∨ ∃ (d : D) (v : V), findKey kvs k = some d ∧ o = some v ∧ ∀ F' : Addr → Prop, (∀ a, F a → F' a) → (∀ a, a ∈ fp1 → F' a) → Rep c F' H 0 v d []) := by
  have intK : ∀ {a : Addr} {kv : List (Key × V)} {j : Nat} {fq : List Addr} (hH : H a = some (.dK kv)) (e : kvs.map (·.1) = kv.map fun p => dk p.1) (r : RepL c F H j (kv.map (·.2)) (kvs.map (·.2)) fq) (m : ∀ b, b ∈ fq → b ∈ fp1),
      ∃ o, DGet H a y o ∧ ((findKey kvs k = none ∧ o = none) ∨ ∃ (d : D) (v : V), findKey kvs k = some d ∧ o = some v ∧ ∀ F' : Addr → Prop, (∀ a, F a → F' a) → (∀ a, a ∈ fp1 → F' a) → Rep c F' H 0 v d []) := by
    intro a kv j fq hH e r m
    have hk : ∃ q : Key, k = dk q ∧ y = kV q := by
      cases k with
      | int i => cases r2; exact ⟨.inl i, rfl, rfl⟩
      | str i => cases r2; exact ⟨.inr i, rfl, rfl⟩
      | tuple ks =>
        exfalso
        cases kvs with
        | nil => simp [keyOk] at h
        | cons p ps =>
          obtain ⟨p1, p2⟩ := p
          cases kv with
          | nil => simp at e
          | cons q qs =>
            simp only [List.map_cons, List.cons.injEq] at e
            rw [e.1] at h
            obtain ⟨q1, q2⟩ := q
            cases q1 <;> simp [keyOk, dk] at h
      | _ => simp [keyOk, isKey] at h
    obtain ⟨q, rfl, rfl⟩ := hk
    refine ⟨valV kv q, DGet.k hH, ?_⟩
    rcases findKey_k q e r with ⟨h1, h2⟩ | ⟨d, v, fq', h1, h2, h3, h4⟩
    · exact .inl ⟨h1, h2⟩
    · exact .inr ⟨d, v, h1, h2, fun F' mm n => Rep.freeze mm (fun b z => n b (m b (h4 b z))) h3⟩
  have tupK : ∀ {a : Addr} {kv : List (List Key × V)} {j : Nat} {fq : List Addr} (hH : H a = some (.dT kv)) (e : kvs.map (·.1) = kv.map fun p => PyData.tuple (p.1.map dk)) (r : RepL c F H j (kv.map (·.2)) (kvs.map (·.2)) fq) (m : ∀ b, b ∈ fq → b ∈ fp1),
      (∀ ks, k = .tuple ks → ∃ o, DGet H a y o ∧ ((findKey kvs k = none ∧ o = none) ∨ ∃ (d : D) (v : V), findKey kvs k = some d ∧ o = some v ∧ ∀ F' : Addr → Prop, (∀ a, F a → F' a) → (∀ a, a ∈ fp1 → F' a) → Rep c F' H 0 v d [])) := by
    intro a kv j fq hH e r m ks hks
    subst hks
    have hall : ks.all isKey = true := by
      simp only [keyOk, Bool.and_eq_true] at h
      exact h.1
    obtain ⟨q, rfl⟩ := keyD_all hall
    cases r2 with
    | tup hb rb =>
      obtain rfl := RepL.keys rb
      refine ⟨valV kv q, DGet.t hH hb, ?_⟩
      rcases findKey_t q e r with ⟨h1, h2⟩ | ⟨d, v, fq', h1, h2, h3, h4⟩
      · exact .inl ⟨h1, h2⟩
      · exact .inr ⟨d, v, h1, h2, fun F' mm n => Rep.freeze mm (fun b z => n b (m b (h4 b z))) h3⟩
  have tupOf : ∀ {kv : List (List Key × V)}, kvs.map (·.1) = kv.map (fun p => PyData.tuple (p.1.map dk)) → kvs ≠ [] → ∃ ks, k = .tuple ks := by
    intro kv e hne
    cases kvs with
    | nil => exact absurd rfl hne
    | cons p ps =>
      obtain ⟨p1, p2⟩ := p
      cases kv with
      | nil => simp at e
      | cons q qs =>
        simp only [List.map_cons, List.cons.injEq] at e
        rw [e.1] at h
        cases k with
        | tuple ks => exact ⟨ks, rfl⟩
        | _ => simp [keyOk, isKey] at h
  cases r1 with
  | dkfz f hH e r =>
    obtain ⟨o, g, z⟩ := intK hH e r (fun b z => by cases z)
    exact ⟨_, o, rfl, g, z⟩
  | dkown hH e r =>
    obtain ⟨o, g, z⟩ := intK hH e r (fun b z => List.mem_cons_of_mem _ z)
    exact ⟨_, o, rfl, g, z⟩
  | dtfz f hH hne e r =>
    obtain ⟨ks, hk⟩ := tupOf e hne
    obtain ⟨o, g, z⟩ := tupK hH e r (fun b z => by cases z) ks hk
    exact ⟨_, o, rfl, g, z⟩
  | dtown hH hne e r =>
    obtain ⟨ks, hk⟩ := tupOf e hne
    obtain ⟨o, g, z⟩ := tupK hH e r (fun b z => List.mem_cons_of_mem _ z) ks hk
    exact ⟨_, o, rfl, g, z⟩
  | fn _ _ => cases k <;> simp [keyOk, isKey] at h
  | objfz _ _ _ _ _ => cases k <;> simp [keyOk, isKey] at h
  | objown _ _ _ _ => cases k <;> simp [keyOk, isKey] at h

theorem lay_room {A : Around} {ds : List D} {x : D} (hx : SeqAt.shaped x = true) (hu : A.units + 200 < cLine) : A.units + 1 + min (PyData.depthAll ds) x.depth < cLine := by
  have h : x.depth ≤ 64 := by
    unfold SeqAt.shaped at hx
    rw [Bool.and_eq_true] at hx
    exact of_decide_eq_true hx.2
  have := Nat.min_le_right (PyData.depthAll ds) x.depth
  omega
section
variable {c : Cn} {X : Cx} (cc : Cc c X)
include cc
theorem in_core {op : CmpOp} {neg : Bool} (hop : (op = .In ∧ neg = false) ∨ (op = .NotIn ∧ neg = true)) {pins : List (Addr × Obj)} {s : Shared} {σ : L2.St} {H : Hp} {x y : V} {v u : Value} {Q : VK} (I : Inv X pins σ H s) (rx : RelV x v) (ry : RelV y u)
    {F : Addr → Prop} {k1 k2 : Nat} {d1 d2 : D} {fp1 fp2 : List Addr} {b : Bool} (r1 : Rep c F H k1 x d1 fp1) (r2 : Rep c F H k2 y d2 fp2) (e : inD d1 d2 = some b) (q : Q (.bl (b != neg)) H) :
    wpAny (model X.prog X.w) X.A (compareOp op v u) (EP X pins σ Q) X.xe s := by
  have hu : X.A.units + 1 < cLine := by have := cc.un; omega
  cases d2 with
  | list xs =>
    simp only [inD] at e
    split at e
    · rename_i hl
      rw [Bool.and_eq_true] at hl
      have eb := Option.some.inj e
      subst eb
      obtain ⟨as, q1⟩ := Dp.reads I d1 x v (by rw [cc.hK]; exact Rep.lay hl.1 r1) rx
      obtain ⟨bs, q2⟩ := Dp.reads I _ y u (by rw [cc.hK]; exact Rep.lay hl.2 r2) ry
      have hc : PyData.canLayAll0 xs = true := by simpa only [PyData.canLay0] using SeqAt.canLay_of_shaped (lay_shaped hl.2)
      rcases hop with ⟨rfl, rfl⟩ | ⟨rfl, rfl⟩
      · refine SeqAt.in_list_reads q2 q1 hc (SeqAt.canLay_of_shaped (lay_shaped hl.1)) (lay_room (lay_shaped hl.1) cc.un) ⟨.bl _, H, I, rfl, ?_⟩
        rw [← memD_any]
        simpa using q
      · refine SeqAt.notIn_list_reads q2 q1 hc (SeqAt.canLay_of_shaped (lay_shaped hl.1)) (lay_room (lay_shaped hl.1) cc.un) ⟨.bl _, H, I, rfl, ?_⟩
        rw [← memD_any]
        simpa using q
    · cases e
  | tuple xs =>
    simp only [inD] at e
    split at e
    · rename_i hl
      rw [Bool.and_eq_true] at hl
      have eb := Option.some.inj e
      subst eb
      obtain ⟨as, q1⟩ := Dp.reads I d1 x v (by rw [cc.hK]; exact Rep.lay hl.1 r1) rx
      obtain ⟨bs, q2⟩ := Dp.reads I _ y u (by rw [cc.hK]; exact Rep.lay hl.2 r2) ry
      have hc : PyData.canLayAll0 xs = true := by simpa only [PyData.canLay0] using SeqAt.canLay_of_shaped (lay_shaped hl.2)
      rcases hop with ⟨rfl, rfl⟩ | ⟨rfl, rfl⟩
      · refine SeqAt.in_tuple_reads q2 q1 hc (SeqAt.canLay_of_shaped (lay_shaped hl.1)) (lay_room (lay_shaped hl.1) cc.un) ⟨.bl _, H, I, rfl, ?_⟩
        rw [← memD_any]
        simpa using q
      · refine SeqAt.notIn_tuple_reads q2 q1 hc (SeqAt.canLay_of_shaped (lay_shaped hl.1)) (lay_room (lay_shaped hl.1) cc.un) ⟨.bl _, H, I, rfl, ?_⟩
        rw [← memD_any]
        simpa using q
    · cases e
  | dict kvs =>
    simp only [inD] at e
    split at e
    · rename_i hk
      have eb := Option.some.inj e
      subst eb
      obtain ⟨a, o, rfl, g, h⟩ := dict_look r2 r1 hk
      cases ry
      have eo : (findKey kvs d1).isSome = o.isSome := by
        rcases h with ⟨h1, h2⟩ | ⟨d, v, h1, h2, _⟩ <;> rw [h1, h2] <;> rfl
      rcases hop with ⟨rfl, rfl⟩ | ⟨rfl, rfl⟩
      · refine d_in hu I g rx fun s' I' => ⟨.bl _, H, I', rfl, ?_⟩
        rw [eo] at q
        simpa using q
      · refine d_notIn hu I g rx fun s' I' => ⟨.bl _, H, I', rfl, ?_⟩
        rw [eo] at q
        simpa using q
    · cases e
  | _ => simp [inD] at e
theorem s_in : OpR X (compareOp .In) (R2 c .isin) := by
  intro pins s σ H x y v u Q I rx ry ⟨F, k1, k2, d1, d2, fp1, fp2, r, r1, r2, sd, e, q⟩
  obtain ⟨b, e1, rfl⟩ := Option.map_eq_some_iff.mp (show (inD d1 d2).map PyData.bool = some r from e)
  exact in_core cc (.inl ⟨rfl, rfl⟩) I rx ry r1 r2 e1 (by simpa using q.bl)
theorem s_notin : OpR X (compareOp .NotIn) (R2 c .notin) := by
  intro pins s σ H x y v u Q I rx ry ⟨F, k1, k2, d1, d2, fp1, fp2, r, r1, r2, sd, e, q⟩
  obtain ⟨b, e1, rfl⟩ := Option.map_eq_some_iff.mp (show (inD d1 d2).map (fun b => PyData.bool (!b)) = some r from e)
  exact in_core cc (.inr ⟨rfl, rfl⟩) I rx ry r1 r2 e1 (by simpa using q.bl)
theorem atI_at {α : Type} {xs : List α} {i : Int} {x : α} (h : atI xs i = some x) : ∃ j : Nat, ixN xs.length i = some j ∧ xs[j]? = some x := by
  unfold atI at h
  rw [Option.bind_eq_some_iff] at h
  exact h
theorem s_ix : IxR X (R2 c .ix) := by
  intro value slice pins s σ H x y v u Q I rx ry ⟨F, k1, k2, d1, d2, fp1, fp2, r, r1, r2, sd, e, q⟩ hs
  have e : ixD d1 d2 = some r := e
  unfold ixD at e
  split at e
  · cases r2
    obtain ⟨a, vs, rfl, ha, la, fa⟩ := rep_list (F' := F) r1
    obtain ⟨j, h1, h2⟩ := atI_at cc e
    obtain ⟨w, _, h3, _⟩ := RepL.get0 (fa (fun _ => True) (fun _ _ => trivial) fun _ _ => trivial) h2
    refine ix_list value slice pins s σ H _ _ v u Q I rx ry ⟨a, vs, _, w, rfl, rfl, sq_of (c := ⟨X.K, c.fa, c.cl⟩) ha, ?_, q.old fun F' m n => ?_⟩ hs
    · unfold atI
      rw [la, h1]
      exact h3
    · obtain ⟨w', fq, h3', r', mm⟩ := RepL.get0 (fa F' m fun a z => n a (.inl z)) h2
      rw [h3] at h3'
      cases h3'
      have : fq = [] := List.eq_nil_iff_forall_not_mem.mpr fun a z => by cases mm a z
      subst this
      exact r'
  · cases r2
    obtain ⟨a, vs, rfl, ha, la, fa⟩ := rep_tup r1
    obtain ⟨j, h1, h2⟩ := atI_at cc e
    obtain ⟨w, _, h3, _⟩ := RepL.get0 (fa (fun _ => True) (fun _ _ => trivial) fun _ _ => trivial) h2
    refine ix_tup value slice pins s σ H _ _ v u Q I rx ry ⟨a, vs, _, w, rfl, rfl, SqT.of ha, ?_, q.old fun F' m n => ?_⟩ hs
    · unfold atI
      rw [la, h1]
      exact h3
    · obtain ⟨w', fq, h3', r', mm⟩ := RepL.get0 (fa F' m fun a z => n a (.inl z)) h2
      rw [h3] at h3'
      cases h3'
      have : fq = [] := List.eq_nil_iff_forall_not_mem.mpr fun a z => by cases mm a z
      subst this
      exact r'
  · split at e
    · rename_i hk
      obtain ⟨a, o, rfl, g, h⟩ := dict_look r1 r2 hk
      cases rx
      rcases h with ⟨h1, h2⟩ | ⟨d, w, h1, h2, h3⟩
      · rw [h1] at e; cases e
      · rw [h1] at e
        cases e
        subst h2
        exact PyProof.Rows.tail_any (dict_typeIs I g) PySem.F.slot_dict_getitem.lookup (d_getItem (by have := cc.un; omega) I g ry fun w' s' I' rw' => ⟨w, H, I', rw', q.old fun F' m n => h3 F' m fun a z => n a (.inl z)⟩) hs
    · cases e
  · cases e
theorem s_min2 : CallR X (.builtin "min") (C2 c .min2) := by
  intro pins s σ H xs us Q I rv ⟨x, y, ex, F, k1, k2, d1, d2, fp1, fp2, r, r1, r2, sd, e, q⟩
  have e : bin2 (fun _ _ => true) (fun i j => if j < i then j else i) d1 d2 = some r := e
  unfold bin2 at e
  split at e
  · cases r1; cases r2; cases e
    exact call_min2 cc.calm pins s σ H xs us Q I rv ⟨_, _, ex, q.int⟩
  · cases e
theorem s_max2 : CallR X (.builtin "max") (C2 c .max2) := by
  intro pins s σ H xs us Q I rv ⟨x, y, ex, F, k1, k2, d1, d2, fp1, fp2, r, r1, r2, sd, e, q⟩
  have e : bin2 (fun _ _ => true) (fun i j => if j > i then j else i) d1 d2 = some r := e
  unfold bin2 at e
  split at e
  · cases r1; cases r2; cases e
    exact call_max2 cc.calm pins s σ H xs us Q I rv ⟨_, _, ex, q.int⟩
  · cases e
theorem s_len : CallR X (.builtin "len") (C1 c .len) := by
  intro pins s σ H xs us Q I rv ⟨x, ex, F, k1, d1, fp1, r, r1, e, q⟩
  have e : lenD d1 = some r := e
  unfold lenD at e
  split at e
  · cases e
    obtain ⟨a, vs, rfl, ha, la, fa⟩ := rep_list (F' := F) r1
    refine call_len pins s σ H xs us Q I rv ⟨_, vs.length, ex, .inl ⟨vs, sq_of (c := ⟨X.K, c.fa, c.cl⟩) ha, rfl⟩, ?_⟩
    rw [la]; exact q.int
  · cases e
    obtain ⟨a, vs, rfl, ha, la, fa⟩ := rep_tup r1
    refine call_len pins s σ H xs us Q I rv ⟨_, vs.length, ex, .inr ⟨vs, SqT.of ha, rfl⟩, ?_⟩
    rw [la]; exact q.int
  · split at e
    · rename_i hd
      cases e
      have len : ∀ {α : Type} {f : α × V → D} {kv : List (α × V)} {ds : List (D × D)}, ds.map (·.1) = kv.map f → kv.length = ds.length := fun e => by
        have := congrArg List.length e
        simpa using this.symm
      cases r1 with
      | dkfz f h e r => exact call_lenD pins s σ H xs us Q I rv ⟨_, _, ex, h, by rw [len e]; exact q.int⟩
      | dkown h e r => exact call_lenD pins s σ H xs us Q I rv ⟨_, _, ex, h, by rw [len e]; exact q.int⟩
      | dtfz f h ne e r => exact call_len_dT pins s σ H xs us Q I rv ⟨_, _, ex, h, by rw [len e]; exact q.int⟩
      | dtown h ne e r => exact call_len_dT pins s σ H xs us Q I rv ⟨_, _, ex, h, by rw [len e]; exact q.int⟩
      | fn _ _ => simp [dOk] at hd
      | objfz _ _ _ _ _ => simp [dOk] at hd
      | objown _ _ _ _ => simp [dOk] at hd
    · cases e
  · split at e
    · rename_i hz
      cases e
      cases r1
      exact call_len pins s σ H xs us Q I rv ⟨_, _, ex, ⟨szOk_le hz, rfl⟩, q.int⟩
    · cases e
  · cases e
theorem s_un {f : Value → Sem Value} {o : O1} {g : Int → Int} (ho : ap1 o = un1 g) (h : UnR X f (rU fun i => .int (g i))) : UnR X f (R1 c o) := by
  intro pins s σ H x v Q I rx ⟨F, k1, d1, fp1, r, r1, e, q⟩
  rw [ho] at e
  unfold un1 at e
  split at e
  · cases r1; cases e
    exact h pins s σ H _ v Q I rx ⟨_, rfl, q.int⟩
  · cases e
theorem s_neg : UnR X (unaryOp .USub) (R1 c .neg) := s_un cc rfl un_neg
theorem s_inv : UnR X (unaryOp .Invert) (R1 c .inv) := s_un cc rfl un_inv
theorem s_abs : CallR X (.builtin "abs") (C1 c .abs) := by
  intro pins s σ H xs us Q I rv ⟨x, ex, F, k1, d1, fp1, r, r1, e, q⟩
  have e : un1 (fun i => if i < 0 then -i else i) d1 = some r := e
  unfold un1 at e
  split at e
  · cases r1; cases e
    exact call_abs pins s σ H xs us Q I rv ⟨_, ex, q.int⟩
  · cases e
theorem s_int : CallR X (.type "int") (C1 c .int) := by
  intro pins s σ H xs us Q I rv ⟨x, ex, F, k1, d1, fp1, r, r1, e, q⟩
  have e : intD d1 = some r := e
  unfold intD at e
  split at e
  · cases r1; cases e
    exact call_int1 pins s σ H xs us Q I rv (.inl ⟨_, ex, q.int⟩)
  · cases r1; cases e
    exact call_int1 pins s σ H xs us Q I rv (.inr ⟨_, ex, q.int⟩)
  · cases e
theorem s_str : CallR X (.type "str") (C1 c .str) := by
  intro pins s σ H xs us Q I rv ⟨x, ex, F, k1, d1, fp1, r, r1, e, q⟩
  have e : strD d1 = some r := e
  unfold strD at e
  split at e
  · split at e
    · rename_i hz
      cases r1; cases e
      exact call_str_int pins s σ H xs us Q I rv ⟨_, ex, hz, q.str⟩
    · cases e
  · cases e
theorem s_tuple : CallR X (.type "tuple") (C1 c .tuple) := by
  intro pins s σ H xs us Q I rv ⟨x, ex, F, k1, d1, fp1, r, r1, e, q⟩
  have e : tupD d1 = some r := e
  unfold tupD at e
  split at e
  · cases e
    obtain ⟨a, vs, rfl, ha, la, fa⟩ := rep_list (F' := F) r1
    exact call_tuple_of pins s σ H xs us Q I rv ⟨a, vs, ex, .inl ⟨sq_of (c := ⟨X.K, c.fa, c.cl⟩) ha, q.tup fun F' m n => fa F' m n⟩⟩
  · cases e
    obtain ⟨a, vs, rfl, ha, la, fa⟩ := rep_tup r1
    exact call_tuple_of pins s σ H xs us Q I rv ⟨a, vs, ex, .inr ⟨SqT.of ha, q.old fun F' m n => .tup ha (fa F' m n)⟩⟩
  · cases e
theorem s_list : CallR X (.type "list") (C1 c .list) := by
  intro pins s σ H xs us Q I rv ⟨x, ex, F, k1, d1, fp1, r, r1, e, q⟩
  have e : listD d1 = some r := e
  unfold listD at e
  split at e
  · cases e
    obtain ⟨a, vs, rfl, ha, la, fa⟩ := rep_list (F' := F) r1
    exact call_list_of pins s σ H xs us Q I rv ⟨a, vs, ex, .inl (sq_of (c := ⟨X.K, c.fa, c.cl⟩) ha), q.lst fun F' m n => fa F' m n⟩
  · cases e
    obtain ⟨a, vs, rfl, ha, la, fa⟩ := rep_tup r1
    exact call_list_of pins s σ H xs us Q I rv ⟨a, vs, ex, .inr (SqT.of ha), q.lst fun F' m n => fa F' m n⟩
  · cases e
end
end Pv
end
section
set_option maxRecDepth 100000
set_option maxHeartbeats 4000000
/-! PvKeep: operands, and what a result shares with them. -/
namespace Pv
open PySem PySem.Spec PyProof.Rows L2
section
variable {c : Cn} {F F' : Addr → Prop} {H : Hp}
theorem fnD_key {f : Nat} {kvs : List (Key × V)} (e : [((.none : D), (.int f : D))].map (·.1) = kvs.map fun p => dk p.1) : False := by
  cases kvs with
  | nil => simp at e
  | cons p r =>
    obtain ⟨k, v⟩ := p
    cases k <;> simp [dk] at e
theorem fnD_keyT {f : Nat} {kvs : List (List Key × V)} (e : [((.none : D), (.int f : D))].map (·.1) = kvs.map fun p => PyData.tuple (p.1.map dk)) : False := by
  cases kvs with
  | nil => simp at e
  | cons p r => simp at e
theorem one_of {H : Hp} {a : Addr} {x y : HO} (h : H a = some x) (h' : H a = some y) : x = y := Option.some.inj (h.symm.trans h')
mutual
theorem Rep.det : ∀ {k : Nat} {v : V} {d : D} {fp fq : List Addr}, Rep c F H k v d fp → Rep c F' H k v d fq → fp = fq
  | _, _, _, _, _, .non _, q => by cases q; rfl
  | _, _, _, _, _, .bl _ _, q => by cases q; rfl
  | _, _, _, _, _, .int _ _, q => by cases q; rfl
  | _, _, _, _, _, .str _ _, q => by cases q; rfl
  | _, _, _, _, _, .tup h r, q => by
    cases q with
    | tup h' q =>
      injection one_of h h' with h'
      subst h'
      exact RepL.det r q
  | _, _, _, _, _, .lfz f h r, q => by cases q <;> rfl
  | _, _, _, _, _, .lcon h r, q => by cases q <;> rfl
  | _, _, _, _, _, .lown h r, q => by
    cases q with
    | lown h' q =>
      injection one_of h h' with h'
      subst h'
      rw [RepL.det r q]
  | _, _, _, _, _, .dkfz f h e r, q => by
    cases q <;> rfl
  | _, _, _, _, _, .dtfz f h ne e r, q => by
    cases q <;> rfl
  | _, _, _, _, _, .fn (f := f) k h, q => by
    generalize hd : fnD f = dd at q
    unfold fnD at hd
    cases q with
    | dkown h' e q => cases hd; exact (fnD_key e).elim
    | dtown h' ne e q => cases hd; exact (fnD_keyT e).elim
    | tup _ _ => cases hd
    | lown _ _ => cases hd
    | objown _ _ _ _ => exact absurd hd (by simp [objD])
    | _ => rfl
  | _, _, _, _, _, .objfz (ds := ds) (i := i) f h hc e r, q => by
    generalize hd : objD i ds = dd at q
    unfold objD at hd
    cases q <;> first | rfl | cases hd
  | _, _, _, _, _, .objown (ds := ds) (i := i) h hc e r, q => by
    generalize hd : objD i ds = dd at q
    unfold objD at hd
    cases q with
    | dkown h' e' q => cases one_of h h'
    | dtown h' ne' e' q => cases one_of h h'
    | objown h' hc' e' q =>
      have z := one_of h h'
      injection z with z1 z2 z3
      subst z3
      have hd : PyData.dict ((.none, .tuple [.int i]) :: ds) = PyData.dict ((.none, .tuple [.int _]) :: _) := hd
      injection hd with hd
      injection hd with _ hd
      subst hd
      rw [RepL.det r q]
    | fn _ _ => exact absurd hd (by simp [fnD])
    | _ => cases hd
  | _, _, _, _, _, .dkown h e r, q => by
    cases q with
    | dkown h' e' q =>
      injection one_of h h' with h'
      subst h'
      rw [RepL.det r q]
    | dtown h' ne e' q => cases one_of h h'
    | objown h' _ _ _ => cases one_of h h'
    | fn _ _ => exact (fnD_key e).elim
  | _, _, _, _, _, .dtown h ne e r, q => by
    cases q with
    | dtown h' ne' e' q =>
      injection one_of h h' with h'
      subst h'
      rw [RepL.det r q]
    | dkown h' e' q => cases one_of h h'
    | objown h' _ _ _ => cases one_of h h'
    | fn _ _ => exact (fnD_keyT e).elim
theorem RepL.det : ∀ {k : Nat} {vs : List V} {ds : List D} {fp fq : List Addr}, RepL c F H k vs ds fp → RepL c F' H k vs ds fq → fp = fq
  | _, _, _, _, _, .nil _, q => by cases q; rfl
  | _, _, _, _, _, .cons r rs, q => by
    cases q with
    | cons q qs => rw [Rep.det r q, RepL.det rs qs]
end

/-- frozen things own nothing -/
theorem Rep.zero {v : V} {d : D} {fp : List Addr} (r : Rep c F H 0 v d fp) : fp = [] := Rep.det r (Rep.freeze (F' := fun _ => True) (fun _ _ => trivial) (fun _ _ => trivial) r)
theorem RepL.zero {v : List V} {d : List D} {fp : List Addr} (r : RepL c F H 0 v d fp) : fp = [] := RepL.det r (RepL.freeze (F' := fun _ => True) (fun _ _ => trivial) (fun _ _ => trivial) r)
/-- what shares nothing that may be changed needs no frozen thing -/
theorem Rep.share {k : Nat} {v : V} {d : D} {fp : List Addr} (h : shareOk k d = true) (r : Rep c F H k v d fp) : Rep c F' H k v d fp := by
  unfold shareOk at h
  split at h
  · rename_i hk
    obtain ⟨e, z⟩ := Rep.flat h r
    rw [e]; exact z _ _
  · rename_i hk
    cases r with
    | non => exact .non _
    | bl => exact .bl _ _
    | int => exact .int _ _
    | str => exact .str _ _
    | tup hH r =>
      obtain ⟨e, z⟩ := RepL.flat (by simpa [inner] using h) r
      rw [e]; exact .tup hH (z _ _)
    | lfz => exact absurd rfl hk
    | lcon => exact absurd rfl hk
    | lown hH r =>
      obtain ⟨e, z⟩ := RepL.flat (by simpa [inner] using h) r
      rw [e]; exact .lown hH (z _ _)
    | dkfz => exact absurd rfl hk
    | dkown => simp [inner] at h
    | dtfz => exact absurd rfl hk
    | dtown => simp [inner] at h
    | objfz => exact absurd rfl hk
    | objown => simp [objD, inner] at h
    | fn => simp [fnD, inner] at h
end
section
variable {c : Cn} {F F0 O O0 : Addr → Prop} {H H0 : Hp} {env : Env} {σ : L2.St}
/-- an operand: a slot that is looked at (its things are the slot's), or a held value -/
def Opn (c : Cn) (F0 O0 : Addr → Prop) (H0 : Hp) (F O : Addr → Prop) (H : Hp) (env : Env) (σ : L2.St) (x : E) (k : Nat) (v : V) (d : D) : Prop :=
  (∃ i, x = .peek i ∧ getS env i = some (k, d) ∧ σ[i]? = some (some v)) ∨ ((∀ i, x ≠ .peek i) ∧ ∃ fp, Tmp c F O H k v d fp ∧ ∀ a, a ∈ fp → O0 a ∨ H0 a = none)
theorem Opn.rep {x : E} {k : Nat} {v : V} {d : D} (g : Good c F env σ H O) (o : Opn c F0 O0 H0 F O H env σ x k v d) : ∃ fp, Rep c F H k v d fp ∧ ∀ a, a ∈ fp → ¬ F a := by
  rcases o with ⟨i, _, hi, hv⟩ | ⟨_, fp, t, _⟩
  · obtain ⟨v', fp, h1, r, z⟩ := g.get hi
    rw [hv] at h1
    cases h1
    exact ⟨fp, r, fun a m f => g.disj a (z a m) f⟩
  · exact ⟨fp, t.rep, t.nF⟩
theorem set_same {σ : L2.St} {i : Nat} {v : V} (h : σ[i]? = some (some v)) : σ.set i (some v) = σ := by
  apply List.ext_getElem?
  intro j
  rw [List.getElem?_set]
  by_cases e : i = j
  · subst e
    obtain ⟨hl, e⟩ := List.getElem?_eq_some_iff.mp h
    simp [hl, e]
  · simp [e]
/-- a slot is frozen -/
theorem Good.freezeS {i k : Nat} {d : D} {v : V} {fp : List Addr} (g : Good c F env σ H O) (hi : getS env i = some (k, d)) (hv : σ[i]? = some (some v)) (r : Rep c F H k v d fp) :
    ∃ O', Good c (fun a => F a ∨ a ∈ fp) (putS env i (some (0, d))) σ H O' ∧ (∀ a, O' a → O a) ∧ (∀ a, O a → O' a ∨ a ∈ fp) ∧ ∀ a, a ∈ fp → O a := by
  obtain ⟨v', fp', O1, h1, g1, t, eq⟩ := g.out hi
  rw [hv] at h1
  cases h1
  obtain rfl := Rep.det r t.rep
  obtain ⟨g2, t2⟩ := t.freeze g1
  have g3 := g2.into getS_put_none hv t2
  rw [putS_put] at g3
  have e : (fun a => a ∈ ([] : List Addr) ∨ O1 a) = O1 := by funext a; simp
  rw [e] at g3
  exact ⟨O1, g3, fun a z => (eq a).mpr (.inr z), fun a z => ((eq a).mp z).elim .inr .inl, fun a z => (eq a).mpr (.inl z)⟩
/-- behind keepO: what the operand owned is frozen, or nothing of it is shared -/
theorem opn_keep {x : E} {k : Nat} {v : V} {d : D} {fp : List Addr} (g : Good c F env σ H O) (st : Step F0 O0 H0 F O H) (o : Opn c F0 O0 H0 F O H env σ x k v d) (r : Rep c F H k v d fp) (sh : Bool) :
    ∃ F' O', Good c F' (keepO x env k sh) σ H O' ∧ Step F0 O0 H0 F' O' H ∧ (∀ a, F a → F' a) ∧ (∀ a, F' a → F a ∨ a ∈ fp) ∧ (∀ a, O' a → O a) ∧ (∀ a, O a → O' a ∨ a ∈ fp) ∧ (sh = true ∨ ∀ a, a ∈ fp → F' a) := by
  have triv : keepO x env k sh = env → (sh = true ∨ fp = []) → ∃ F' O', Good c F' (keepO x env k sh) σ H O' ∧ Step F0 O0 H0 F' O' H ∧ (∀ a, F a → F' a) ∧ (∀ a, F' a → F a ∨ a ∈ fp) ∧ (∀ a, O' a → O a) ∧ (∀ a, O a → O' a ∨ a ∈ fp) ∧ (sh = true ∨ ∀ a, a ∈ fp → F' a) := fun e h => by
    rw [e]
    refine ⟨F, O, g, st, fun _ z => z, fun _ z => .inl z, fun _ z => z, fun _ z => .inl z, ?_⟩
    rcases h with h | h
    · exact .inl h
    · exact .inr fun a z => by rw [h] at z; cases z
  by_cases hk : k = 0
  · subst hk
    exact triv (by cases x <;> rfl) (.inr (Rep.zero r))
  · obtain ⟨k', rfl⟩ : ∃ k', k = k' + 1 := ⟨k - 1, by omega⟩
    rcases o with ⟨i, rfl, hi, hv⟩ | ⟨hx, fq, t, fr⟩
    · cases sh with
      | true => exact triv rfl (.inl rfl)
      | false =>
        obtain ⟨O', g', m1, m2, m3⟩ := g.freezeS hi hv r
        have e : Pv.keepO (.peek i) env (k' + 1) false = putS env i (some (0, d)) := by
          show Pv.freezeS env i = _
          unfold Pv.freezeS
          rw [hi]
          rfl
        rw [e]
        refine ⟨_, O', g', ⟨fun a z => .inl (st.mono a z), fun a z => st.own a (m1 a z), fun a z => ?_, st.keep, st.dom⟩, fun a z => .inl z, fun a z => z, m1, m2, .inr fun a z => .inr z⟩
        rcases z with z | z
        · exact st.frz a z
        · exact .inr (st.own a (m3 a z))
    · obtain rfl := Rep.det r t.rep
      obtain ⟨g', _⟩ := t.freeze g
      have e : Pv.keepO x env (k' + 1) sh = env := by
        cases x with
        | peek i => exact absurd rfl (hx i)
        | _ => rfl
      rw [e]
      refine ⟨_, O, g', ⟨fun a z => .inl (st.mono a z), st.own, fun a z => ?_, st.keep, st.dom⟩, fun a z => .inl z, fun a z => z, fun _ z => z, fun _ z => .inl z, .inr fun a z => .inr z⟩
      rcases z with z | z
      · exact st.frz a z
      · exact .inr (fr a z)
/-- the operand read again behind another one -/
theorem opn_again {F1 O1 : Addr → Prop} {H1 : Hp} {env1 : Env} {x : E} {k k' : Nat} {v : V} {d d' : D} (o : Opn c F0 O0 H0 F O H env σ x k v d) (g : Good c F env σ H O) (st : Step F O H F1 O1 H1) (hb : Pv.again x env1 k d = some (k', d')) :
    Opn c F0 O0 H0 F1 O1 H1 env1 σ x k' v d' := by
  rcases o with ⟨i, rfl, hi, hv⟩ | ⟨hx, fp, t, fr⟩
  · exact .inl ⟨i, rfl, hb, hv⟩
  · have e : Pv.again x env1 k d = some (k, d) := by
      cases x with
      | peek i => exact absurd rfl (hx i)
      | _ => rfl
    rw [e] at hb
    cases hb
    exact .inr ⟨hx, fp, t.step st g, fr⟩
end
end Pv
end
section
set_option maxRecDepth 100000
set_option maxHeartbeats 4000000
/-! PvExp: the readings of expressions by the evaluator. -/
namespace Pv
open PySem PySem.Spec PyProof.Rows L2
/-- the classes of exceptions: where they stand, their field -/
abbrev Xc := Nat → Option (Addr × Option Str)
def ExcAt (c : Cn) (xc : Xc) (F : Addr → Prop) (H : Hp) (x : Exn) (cls : Value) (dct : Option Addr) : Prop :=
  ∃ a fld, xc x.cls = some (a, fld) ∧ cls = .ref a ∧ ((x.val = none ∧ fld = none ∧ dct = none) ∨ ∃ d f dd v, x.val = some d ∧ fld = some f ∧ dct = some dd ∧ H dd = some (.xd [(f, v)]) ∧ Rep c F H 0 v d [])
section
variable (c : Cn) (xc : Xc) (W : WX) (C : Calls)
/-- nothing is owned -/
abbrev NoO : Addr → Prop := fun _ => False
/-- behind an error -/
def PostX (σ : L2.St) (F O : Addr → Prop) (H : Hp) (x : Exn) : Prop :=
  ∀ F' H' cls dct σ', Step F O H F' NoO H' → (∀ a, F' a → H' a ≠ none) → σ'.length = σ.length → ExcAt c xc F' H' x cls dct → W cls dct σ' H'
def PostE (σ : L2.St) (F O : Addr → Prop) (H : Hp) (Q : VK) : Res → Prop
  | .ok env' k d => ∀ F' O' H' v fp, Step F O H F' O' H' → Good c F' env' σ H' O' → Tmp c F' O' H' k v d fp → (∀ a, a ∈ fp → O a ∨ H a = none) → Q v H'
  | .exc _ x => PostX c xc W σ F O H x
  | .bad => False
/-- the reading of an expression -/
def rE (x : E) : TE := fun σ H Q => ∃ env F O, Good c F env σ H O ∧ PostE c xc W σ F O H Q (evE C x env)
/-- .. of an operand -/
def rO : E → TE
  | .peek i => tVar i
  | x => rE c xc W C x
def PostO (σ : L2.St) (F0 O0 : Addr → Prop) (H0 : Hp) (F O : Addr → Prop) (H : Hp) (x : E) (R : VK) : Res → Prop
  | .ok env' k d => ∀ F' O' H' v, Step F O H F' O' H' → Good c F' env' σ H' O' → Opn c F0 O0 H0 F' O' H' env' σ x k v d → R v H'
  | .exc _ y => PostX c xc W σ F O H y
  | .bad => False
/-- arguments, each a held value -/
inductive Args (c : Cn) (F : Addr → Prop) (H : Hp) : List (Nat × D) → List V → List Addr → Prop
  | nil : Args c F H [] [] []
  | cons {k : Nat} {v : V} {d : D} {fp fq : List Addr} {l : List (Nat × D)} {vs : List V} (r : Rep c F H k v d fp) (rs : Args c F H l vs fq) : Args c F H ((k, d) :: l) (v :: vs) (fp ++ fq)
structure ArgsT (c : Cn) (F O : Addr → Prop) (H : Hp) (l : List (Nat × D)) (vs : List V) (fp : List Addr) : Prop where
  rep : Args c F H l vs fp
  nd : fp.Nodup
  nO : ∀ a, a ∈ fp → ¬ O a
  nF : ∀ a, a ∈ fp → ¬ F a
def PostL (σ : L2.St) (F O : Addr → Prop) (H : Hp) (Q : List V → Hp → Prop) : ResL → Prop
  | .ok env' l => ∀ F' O' H' vs fp, Step F O H F' O' H' → Good c F' env' σ H' O' → ArgsT c F' O' H' l vs fp → (∀ a, a ∈ fp → O a ∨ H a = none) → Q vs H'
  | .exc _ x => PostX c xc W σ F O H x
  | .bad => False
def rL (es : Es) : TA := fun σ H Q => ∃ env F O, Good c F env σ H O ∧ PostL c xc W σ F O H Q (evL C es env)
end
section
variable {c : Cn} {xc : Xc} {W : WX} {C : Calls}
theorem Args.mem {F : Addr → Prop} {H : Hp} : ∀ {l : List (Nat × D)} {vs : List V} {fp : List Addr}, Args c F H l vs fp → ∀ a, a ∈ fp → ∃ o, H a = some o ∧ Mt o
  | _, _, _, .nil, _, h => by cases h
  | _, _, _, .cons r rs, a, h => by
    rcases List.mem_append.mp h with h | h
    · exact Rep.mem r a h
    · exact rs.mem a h
theorem Args.keep {F F' : Addr → Prop} {H H' : Hp} (k0 : ∀ a o, H a = some o → ¬ Mt o → H' a = some o) (kF : ∀ a o, F a → H a = some o → H' a = some o) (m : ∀ a, F a → F' a) : ∀ {l : List (Nat × D)} {vs : List V} {fp : List Addr}, (∀ a o, a ∈ fp → H a = some o → H' a = some o) → Args c F H l vs fp → Args c F' H' l vs fp
  | _, _, _, _, .nil => .nil
  | _, _, _, q, .cons r rs => .cons (Rep.keep k0 kF m (fun a o z => q a o (List.mem_append_left _ z)) r) (Args.keep k0 kF m (fun a o z => q a o (List.mem_append_right _ z)) rs)
theorem Args.length {F : Addr → Prop} {H : Hp} : ∀ {l : List (Nat × D)} {vs : List V} {fp : List Addr}, Args c F H l vs fp → vs.length = l.length
  | _, _, _, .nil => rfl
  | _, _, _, .cons _ rs => congrArg (· + 1) rs.length
theorem ArgsT.step {F O F' O' : Addr → Prop} {H H' : Hp} {env : Env} {σ : L2.St} {l : List (Nat × D)} {vs : List V} {fp : List Addr} (t : ArgsT c F O H l vs fp) (s : Step F O H F' O' H') (g : Good c F env σ H O) : ArgsT c F' O' H' l vs fp where
  rep := Args.keep (s.k0 g) (s.kF g) s.mono (fun a o z h => s.keep a o h (t.nO a z)) t.rep
  nd := t.nd
  nO := fun a z h => by
    rcases s.own a h with q | q
    · exact t.nO a z q
    · obtain ⟨o, e, _⟩ := t.rep.mem a z
      rw [e] at q; cases q
  nF := fun a z h => by
    rcases s.frz a h with q | q | q
    · exact t.nF a z q
    · exact t.nO a z q
    · obtain ⟨o, e, _⟩ := t.rep.mem a z
      rw [e] at q; cases q
theorem rO_of {σ : L2.St} {F O : Addr → Prop} {H : Hp} {env : Env} {x : E} {R : VK} (g : Good c F env σ H O) (h : PostO c xc W σ F O H F O H x R (opd x env (evE C x env))) : rO c xc W C x σ H R := by
  have gen : (∀ i, x ≠ .peek i) → rE c xc W C x σ H R := fun hx => by
    have e : opd x env (evE C x env) = evE C x env := by
      cases x with
      | peek i => exact absurd rfl (hx i)
      | _ => rfl
    rw [e] at h
    refine ⟨env, F, O, g, ?_⟩
    cases q : evE C x env with
    | ok env' k d =>
      rw [q] at h
      exact fun F' O' H' v fp s g' t fr => h F' O' H' v s g' (.inr ⟨hx, fp, t, fr⟩)
    | exc env' y => rw [q] at h; exact h
    | bad => rw [q] at h; exact h
  cases x with
  | peek i =>
    simp only [opd] at h
    cases q : getS env i with
    | none => rw [q] at h; exact h.elim
    | some w =>
      obtain ⟨k, d⟩ := w
      rw [q] at h
      obtain ⟨v, fp, hv, r, m⟩ := g.get q
      exact ⟨v, hv, h F O H v Step.refl g (.inl ⟨i, rfl, q, hv⟩)⟩
  | _ => exact gen fun i e => by cases e
/-- from a later state on -/
theorem PostX.later {σ : L2.St} {F O F1 O1 : Addr → Prop} {H H1 : Hp} {y : Exn} (p : PostX c xc W σ F O H y) (s : Step F O H F1 O1 H1) : PostX c xc W σ F1 O1 H1 y :=
  fun F' H' cls dct σ' s' d hl e => p F' H' cls dct σ' (s.trans s') d hl e
theorem PE.imp {X : Cx} {e : Expr} {t t' : TE} (h : PE X e t) (i : ∀ σ H Q, t' σ H Q → t σ H Q) : PE X e t' := ⟨fun pins s σ H Q I q => h.run pins s σ H Q I (i σ H Q q)⟩
theorem PT.imp {X : Cx} {e : Expr} {t t' : TT} (h : PT X e t) (i : ∀ σ H Q, t' σ H Q → t σ H Q) : PT X e t' := ⟨fun pins s σ H Q I q => h.run pins s σ H Q I (i σ H Q q)⟩
theorem PA.imp {X : Cx} {e : List Expr} {t t' : TA} (h : PA X e t) (i : ∀ σ H Q, t' σ H Q → t σ H Q) : PA X e t' := ⟨fun pos pins s σ H Q I q => h.run pos pins s σ H Q I (i σ H Q q)⟩
theorem PS.imp {X : Cx} {e : Stmt} {t t' : TS} (h : PS X e t) (i : ∀ D σ H, t' D σ H → t D σ H) : PS X e t' := ⟨fun pins s σ H D I q => h.run pins s σ H D I (i D σ H q)⟩
/-- an atom is handed on -/
theorem PostE.atom {σ : L2.St} {F O F1 O1 : Addr → Prop} {H H1 : Hp} {env1 : Env} {Q : VK} {k : Nat} {r : D} (p : PostE c xc W σ F O H Q (.ok env1 k r)) (s : Step F O H F1 O1 H1) (g : Good c F1 env1 σ H1 O1) {v : V} (h : ∀ (F' : Addr → Prop) (H' : Hp) (j : Nat), Rep c F' H' j v r []) : Q v H1 :=
  p F1 O1 H1 v [] s g ⟨h _ _ _, List.nodup_nil, (fun a z => by cases z), fun a z => by cases z⟩ fun a z => by cases z
/-- two operands, an operation upon them, and what the first operand is ahead of the second -/
theorem op2_pre {o : O2} {a b : E} {σ : L2.St} {H : Hp} {Q : VK} (h : rE c xc W C (.op2 o a b) σ H Q) : rO c xc W C a σ H fun x H1 => (∃ F k d fp, Rep c F H1 k x d fp ∧ preOk o d = true) ∧ rO c xc W C b σ H1 fun y H2 => R2 c o x y H2 Q := by
  obtain ⟨env, F, O, g, p⟩ := h
  unfold evE at p
  refine rO_of (F := F) (O := O) (env := env) g ?_
  cases ea : opd a env (evE C a env) with
  | bad => rw [ea] at p; exact p
  | exc env1 y => rw [ea] at p; exact p
  | ok env1 k1 d1 =>
    rw [ea] at p
    intro F1 O1 H1 v1 s1 g1 o1
    cases hpre : preOk o d1 with
    | false => simp only [hpre] at p; exact p.elim
    | true =>
    refine ⟨let ⟨fp0, r0, _⟩ := o1.rep g1; ⟨F1, k1, d1, fp0, r0, hpre⟩, rO_of (F := F1) (O := O1) (env := env1) g1 ?_⟩
    simp only [hpre, if_true] at p
    cases eb : opd b env1 (evE C b env1) with
    | bad => rw [eb] at p; exact p
    | exc env2 y => rw [eb] at p; exact PostX.later p s1
    | ok env2 k2 d2 =>
      rw [eb] at p
      intro F2 O2 H2 v2 s2 g2 o2
      simp only at p
      cases e3 : again a env2 k1 d1 with
      | none => rw [e3] at p; exact p.elim
      | some w =>
        obtain ⟨k1', d1'⟩ := w
        rw [e3] at p
        simp only at p
        have st2 : Step F O H F2 O2 H2 := s1.trans s2
        have o1' := opn_again o1 g1 s2 e3
        obtain ⟨fp1, r1, n1⟩ := o1'.rep g2
        obtain ⟨fp2, r2, n2⟩ := o2.rep g2
        cases hs : sideOk o k1' d1' with
        | false => rw [hs] at p; exact p.elim
        | true =>
          rw [hs] at p
          simp only [if_true] at p
          cases er : ap2 o d1' d2 with
          | none => rw [er] at p; exact p.elim
          | some r =>
            rw [er] at p
            simp only at p
            refine ⟨F2, k1', k2, d1', d2, fp1, fp2, r, r1, r2, hs, er, fun v H' same mk => ?_⟩
            have extH : ∀ {F3 O3 : Addr → Prop} {env3 : Env}, Good c F3 env3 σ H2 O3 → Good c F3 env3 σ H' O3 := fun {F3 O3 env3} g3 => g3.keep (fun _ z => z) (fun a z => ⟨fun y => g3.disj a y z, fun y => by
              cases q : H2 a with
              | none => exact g3.dom a z q
              | some u => rw [same a u q] at y; cases y⟩) same
            have domH : ∀ a, H' a = none → H2 a = none := fun a z => by
              cases q : H2 a with
              | none => rfl
              | some u => rw [same a u q] at z; cases z
            cases hr : atom r with
            | true =>
              rw [hr] at p
              obtain ⟨fq, rr, nd, nw⟩ := mk (fun a => F2 a ∨ a ∈ fp1 ∨ a ∈ fp2) (fun a z => .inl z) (fun a z => .inr z)
              obtain ⟨_, z⟩ := Rep.atom hr rr
              exact PostE.atom (F1 := F2) (O1 := O2) (H1 := H') (env1 := env2) p ⟨st2.mono, st2.own, st2.frz, fun a u q n => same a u (st2.keep a u q n), fun a q => st2.dom a (domH a q)⟩ (extH g2) z
            | false =>
              rw [hr] at p
              simp only [Bool.false_eq_true, if_false] at p
              obtain ⟨F3, O3, g3, st3, m3, l3, ow3, ov3, sh3⟩ := opn_keep g2 st2 o1' r1 (shareOk (lv2 o r) r)
              generalize hsh : shareOk (lv2 o r) r = sh at p g3 sh3
              obtain ⟨F4, O4, g4, st4, m4, sh4⟩ : ∃ F4 O4, Good c F4 (keepO b (keepO a env2 k1' sh) k2 sh) σ H2 O4 ∧ Step F O H F4 O4 H2 ∧ (∀ a, F3 a → F4 a) ∧ (sh = true ∨ ∀ a, a ∈ fp2 → F4 a) := by
                rcases o2 with ⟨j, rfl, hj, hv⟩ | ⟨hb, fq, t, fr⟩
                · -- a slot: as it was, or frozen by the first
                  by_cases same_slot : getS (keepO a env2 k1' sh) j = some (k2, d2)
                  · obtain ⟨F4, O4, g4, st4, m4, _, _, _, sh4⟩ := opn_keep (F0 := F) (O0 := O) (H0 := H) g3 st3 (.inl ⟨j, rfl, same_slot, hv⟩) (r2.more m3) sh
                    exact ⟨F4, O4, g4, st4, m4, sh4⟩
                  · -- the first froze it
                    have hk : ∃ i, a = .peek i ∧ i = j ∧ sh = false ∧ ∃ k', k1' = k' + 1 ∧ keepO a env2 k1' sh = freezeS env2 i := by
                      cases k1' with
                      | zero => exact absurd (by cases a <;> exact hj) same_slot
                      | succ k' =>
                        cases a with
                        | peek i =>
                          cases sh with
                          | true => exact absurd hj same_slot
                          | false =>
                            refine ⟨i, rfl, ?_, rfl, k', rfl, rfl⟩
                            by_cases e : i = j
                            · exact e
                            · exfalso
                              refine same_slot ?_
                              show getS (freezeS env2 i) j = _
                              unfold freezeS
                              split
                              · exact hj
                              · rw [getS_put_ne (Ne.symm e)]; exact hj
                              · exact hj
                        | _ => exact absurd hj same_slot
                    obtain ⟨i, rfl, rfl, rfl, k', rfl, ek⟩ := hk
                    have hi : getS env2 i = some (k' + 1, d1') := e3
                    rw [hj] at hi
                    cases hi
                    have ev : v1 = v2 := by
                      rcases o1' with ⟨i', e, _, hv1⟩ | ⟨hx, _⟩
                      · cases e
                        rw [hv] at hv1
                        exact (Option.some.inj (Option.some.inj hv1)).symm
                      · exact absurd rfl (hx i)
                    subst ev
                    obtain rfl := Rep.det r1 r2
                    have e4 : keepO (.peek i) (keepO (.peek i) env2 (k' + 1) false) (k' + 1) false = keepO (.peek i) env2 (k' + 1) false := by
                      rw [ek]
                      show freezeS (freezeS env2 i) i = freezeS env2 i
                      have e5 : freezeS env2 i = putS env2 i (some (0, d2)) := by
                        unfold freezeS
                        rw [hj]
                        rfl
                      rw [e5]
                      unfold freezeS
                      rw [getS_put_same (getS_lt hj)]
                      rfl
                    rw [e4]
                    exact ⟨F3, O3, g3, st3, fun _ z => z, sh3⟩
                · obtain rfl := Rep.det r2 t.rep
                  have nF3 : ∀ x, x ∈ fp2 → ¬ F3 x := fun x z f => by
                    rcases l3 x f with f | f
                    · exact t.nF x z f
                    · rcases o1 with ⟨i, rfl, hi, hv⟩ | ⟨ha, fq1, t1, fr1⟩
                      · have hi' : getS env2 i = some (k1', d1') := e3
                        obtain ⟨v', fp', hv', rr, mm⟩ := g2.get hi'
                        rw [hv] at hv'
                        cases hv'
                        obtain rfl := Rep.det r1 rr
                        exact t.nO x z (mm x f)
                      · have e5 : again a env2 k1 d1 = some (k1, d1) := by
                          cases a with
                          | peek i => exact absurd rfl (ha i)
                          | _ => rfl
                        rw [e5] at e3
                        cases e3
                        have t1' := t1.step s2 g1
                        obtain rfl := Rep.det r1 t1'.rep
                        rcases fr x z with y | y
                        · exact t1.nO x f y
                        · obtain ⟨u, q, _⟩ := Rep.mem t1.rep x f
                          rw [q] at y
                          cases y
                  obtain ⟨F4, O4, g4, st4, m4, _, _, _, sh4⟩ := opn_keep (F0 := F) (O0 := O) (H0 := H) g3 st3 (.inr ⟨hb, fp2, ⟨r2.more m3, t.nd, fun x z y => t.nO x z (ow3 x y), nF3⟩, fun x z => by
                    rcases fr x z with y | y
                    · exact s1.own x y
                    · exact .inr (s1.dom x y)⟩) (r2.more m3) sh
                  exact ⟨F4, O4, g4, st4, m4, sh4⟩
              -- the result
              have fin : ∀ (G : Addr → Prop), (∀ x, F4 x → G x) → (∀ x, x ∈ fp1 → G x) → (∀ x, x ∈ fp2 → G x) → ∃ fq, Rep c F4 H' (lv2 o r) v r fq ∧ fq.Nodup ∧ ∀ x, x ∈ fq → H2 x = none := fun G m1 n1 n2 => by
                by_cases hG : sh = true
                · obtain ⟨fq, rr, nd, nw⟩ := mk G (fun x z => m1 x (m4 x (m3 x z))) (fun x z => z.elim (n1 x) (n2 x))
                  exact ⟨fq, Rep.share (by rw [hsh]; exact hG) rr, nd, nw⟩
                · obtain ⟨fq, rr, nd, nw⟩ := mk F4 (fun x z => m4 x (m3 x z)) (fun x z => z.elim (fun z => m4 x ((sh3.resolve_left hG) x z)) ((sh4.resolve_left hG) x))
                  exact ⟨fq, rr, nd, nw⟩
              obtain ⟨fq, rr, nd, nw⟩ := fin (fun x => F4 x ∨ x ∈ fp1 ∨ x ∈ fp2) (fun _ z => .inl z) (fun _ z => .inr (.inl z)) (fun _ z => .inr (.inr z))
              refine p F4 O4 H' v fq ⟨st4.mono, st4.own, st4.frz, fun x u q n => same x u (st4.keep x u q n), fun x q => st4.dom x (domH x q)⟩ (extH g4) ⟨rr, nd, fun x z y => ?_, fun x z y => g4.dom x y (nw x z)⟩ fun x z => .inr (st2.dom x (nw x z))
              obtain ⟨u, q, _⟩ := g4.mt y
              rw [nw x z] at q
              cases q

theorem rO_mono {x : E} {σ : L2.St} {H : Hp} {Q Q' : VK} (h : rO c xc W C x σ H Q) (i : ∀ v H1, Q v H1 → Q' v H1) : rO c xc W C x σ H Q' := by
  have gen : rE c xc W C x σ H Q → rE c xc W C x σ H Q' := fun ⟨env, F, O, g, p⟩ => by
    refine ⟨env, F, O, g, ?_⟩
    cases e : evE C x env with
    | bad => rw [e] at p; exact p
    | exc env1 y => rw [e] at p; exact p
    | ok env1 k d =>
      rw [e] at p
      exact fun F1 O1 H1 v fp s1 g1 t fr => i _ _ (p F1 O1 H1 v fp s1 g1 t fr)
  cases x with
  | peek j =>
    obtain ⟨v, e, q⟩ := h
    exact ⟨v, e, i _ _ q⟩
  | _ => exact gen h
theorem op2_ok {o : O2} {a b : E} {σ : L2.St} {H : Hp} {Q : VK} (h : rE c xc W C (.op2 o a b) σ H Q) : tOp (R2 c o) (rO c xc W C a) (rO c xc W C b) σ H Q := rO_mono (op2_pre h) fun _ _ z => z.2
/-- the heap grown by new things -/
theorem Good.same {F O : Addr → Prop} {H H' : Hp} {env : Env} {σ : L2.St} (g : Good c F env σ H O) (s : Same H H') : Good c F env σ H' O := g.keep (fun _ z => z) (fun a z => ⟨fun y => g.disj a y z, fun y => by
  cases q : H a with
  | none => exact g.dom a z q
  | some u => rw [s a u q] at y; cases y⟩) s
theorem Same.dom {H H' : Hp} (s : Same H H') {a : Addr} (h : H' a = none) : H a = none := by
  cases q : H a with
  | none => rfl
  | some u => rw [s a u q] at h; cases h
theorem Step.same {F O F' O' : Addr → Prop} {H H1 H' : Hp} (st : Step F O H F' O' H1) (s : Same H1 H') : Step F O H F' O' H' := ⟨st.mono, st.own, st.frz, fun x u q n => s x u (st.keep x u q n), fun x q => st.dom x (Same.dom s q)⟩
/-- one operand, an operation upon it -/
theorem op1_ok {o : O1} {a : E} {σ : L2.St} {H : Hp} {Q : VK} (h : rE c xc W C (.op1 o a) σ H Q) : rO c xc W C a σ H fun v H1 => R1 c o v H1 Q := by
  obtain ⟨env, F, O, g, p⟩ := h
  unfold evE at p
  refine rO_of (F := F) (O := O) (env := env) g ?_
  cases ea : opd a env (evE C a env) with
  | bad => rw [ea] at p; exact p
  | exc env1 y => rw [ea] at p; exact p
  | ok env1 k1 d1 =>
    rw [ea] at p
    intro F1 O1 H1 v1 s1 g1 o1
    simp only at p
    obtain ⟨fp1, r1, n1⟩ := o1.rep g1
    cases er : ap1 o d1 with
    | none => rw [er] at p; exact p.elim
    | some r =>
      rw [er] at p
      simp only at p
      refine ⟨F1, k1, d1, fp1, r, r1, er, fun v H' same mk => ?_⟩
      cases hr : atom r with
      | true =>
        rw [hr] at p
        obtain ⟨fq, rr, nd, nw⟩ := mk (fun a => F1 a ∨ a ∈ fp1) (fun a z => .inl z) (fun a z => .inr z)
        obtain ⟨_, z⟩ := Rep.atom hr rr
        exact PostE.atom p (s1.same same) (Good.same g1 same) z
      | false =>
        rw [hr] at p
        simp only [Bool.false_eq_true, if_false] at p
        obtain ⟨F3, O3, g3, st3, m3, l3, ow3, ov3, sh3⟩ := opn_keep g1 s1 o1 r1 (shareOk (lv1 o r) r)
        have fin : ∃ fq, Rep c F3 H' (lv1 o r) v r fq ∧ fq.Nodup ∧ ∀ x, x ∈ fq → H1 x = none := by
          by_cases hG : shareOk (lv1 o r) r = true
          · obtain ⟨fq, rr, nd, nw⟩ := mk (fun x => F3 x ∨ x ∈ fp1) (fun x z => .inl (m3 x z)) (fun x z => .inr z)
            exact ⟨fq, Rep.share hG rr, nd, nw⟩
          · exact mk F3 m3 (sh3.resolve_left hG)
        obtain ⟨fq, rr, nd, nw⟩ := fin
        refine p F3 O3 H' v fq (st3.same same) (Good.same g3 same) ⟨rr, nd, fun x z y => ?_, fun x z y => g3.dom x y (nw x z)⟩ fun x z => .inr (s1.dom x (nw x z))
        obtain ⟨u, q, _⟩ := g3.mt y
        rw [nw x z] at q
        cases q
/-- constants -/
theorem cst_ok {d : D} {v : V} {σ : L2.St} {H : Hp} {Q : VK} (h : rE c xc W C (.cst d) σ H Q) (r : ∀ (F' : Addr → Prop) (H' : Hp) (j : Nat), Rep c F' H' j v d []) : Q v H := by
  obtain ⟨env, F, O, g, p⟩ := h
  unfold evE at p
  exact PostE.atom p Step.refl g r
/-- a name -/
theorem var_ok {i : Nat} {σ : L2.St} {H : Hp} {Q : VK} (h : rE c xc W C (.var i) σ H Q) : tVar i σ H Q := by
  obtain ⟨env, F, O, g, p⟩ := h
  unfold evE at p
  cases e : getS env i with
  | none => rw [e] at p; exact p.elim
  | some w =>
    obtain ⟨k, d⟩ := w
    obtain ⟨v, fp, hv, r, m⟩ := g.get e
    refine ⟨v, hv, ?_⟩
    rw [e] at p
    cases k with
    | zero =>
      simp only at p
      obtain rfl := Rep.zero r
      exact p F O H v [] Step.refl g ⟨r, List.nodup_nil, (fun a z => by cases z), fun a z => by cases z⟩ fun a z => by cases z
    | succ k =>
      simp only at p
      cases ha : atom d with
      | true =>
        rw [ha] at p
        obtain ⟨_, z⟩ := Rep.atom ha r
        exact PostE.atom p Step.refl g z
      | false =>
        rw [ha] at p
        simp only [Bool.false_eq_true, if_false] at p
        obtain ⟨O', g', m1, m2, m3⟩ := g.freezeS e hv r
        refine p _ O' H v [] ⟨fun a z => .inl z, fun a z => .inl (m1 a z), fun a z => ?_, fun _ _ q _ => q, fun _ q => q⟩ g' ⟨Rep.freeze (fun a z => .inl z) (fun a z => .inr z) r, List.nodup_nil, (fun a z => by cases z), fun a z => by cases z⟩ fun a z => by cases z
        rcases z with z | z
        · exact .inl z
        · exact .inr (.inl (m3 a z))
/-- a name whose slot is given up -/
theorem mov_ok {i : Nat} {σ : L2.St} {H : Hp} {Q : VK} (h : rE c xc W C (.mov i) σ H Q) : tVar i σ H Q := by
  obtain ⟨env, F, O, g, p⟩ := h
  unfold evE at p
  cases e : getS env i with
  | none => rw [e] at p; exact p.elim
  | some w =>
    obtain ⟨k, d⟩ := w
    obtain ⟨v, fp, O1, hv, g1, t, eq⟩ := g.out e
    refine ⟨v, hv, ?_⟩
    rw [e] at p
    exact p F O1 H v fp ⟨fun _ z => z, fun a z => .inl ((eq a).mpr (.inr z)), fun a z => .inl z, fun _ _ q _ => q, fun _ q => q⟩ g1 t fun a z => .inl ((eq a).mpr (.inl z))
/-- arguments: one, and the rest -/
theorem lcons_ok {e : E} {r : Es} {σ : L2.St} {H : Hp} {Q : List V → Hp → Prop} (h : rL c xc W C (.cons e r) σ H Q) : tCons (rE c xc W C e) (rL c xc W C r) σ H Q := by
  obtain ⟨env, F, O, g, p⟩ := h
  unfold evL at p
  refine ⟨env, F, O, g, ?_⟩
  cases ea : evE C e env with
  | bad => rw [ea] at p; exact p
  | exc env1 y => rw [ea] at p; exact p
  | ok env1 k1 d1 =>
    rw [ea] at p
    intro F1 O1 H1 v1 fp1 s1 g1 t1 fr1
    refine ⟨env1, F1, O1, g1, ?_⟩
    simp only at p
    cases er : evL C r env1 with
    | bad => rw [er] at p; exact p
    | exc env2 y => rw [er] at p; exact PostX.later p s1
    | ok env2 l =>
      rw [er] at p
      intro F2 O2 H2 vs fp2 s2 g2 t2 fr2
      have t1' := t1.step s2 g1
      have r1 : Rep c F2 H2 (lvl k1 d1) v1 d1 fp1 := by
        unfold lvl
        split
        · rename_i hd
          obtain ⟨e1, z⟩ := Rep.atom hd t1'.rep
          rw [e1]; exact z _ _ _
        · exact t1'.rep
      refine p F2 O2 H2 (v1 :: vs) (fp1 ++ fp2) (s1.trans s2) g2 ⟨.cons r1 t2.rep, List.nodup_append.mpr ⟨t1'.nd, t2.nd, fun a z b y q => ?_⟩, fun a z => (List.mem_append.mp z).elim (t1'.nO a) (t2.nO a), fun a z => (List.mem_append.mp z).elim (t1'.nF a) (t2.nF a)⟩ fun a z => ?_
      · subst q
        rcases fr2 a y with w | w
        · exact t1.nO a z w
        · obtain ⟨u, q, _⟩ := Rep.mem t1.rep a z
          rw [q] at w; cases w
      · rcases List.mem_append.mp z with z | z
        · exact fr1 a z
        · rcases fr2 a z with w | w
          · exact s1.own a w
          · exact .inr (s1.dom a w)
theorem lnil_ok {σ : L2.St} {H : Hp} {Q : List V → Hp → Prop} (h : rL c xc W C .nil σ H Q) : tNil σ H Q := by
  obtain ⟨env, F, O, g, p⟩ := h
  unfold evL at p
  exact p F O H [] [] Step.refl g ⟨.nil, List.nodup_nil, (fun a z => by cases z), fun a z => by cases z⟩ fun a z => by cases z
theorem minK_le : ∀ {l : List (Nat × D)} {k : Nat} {d : D}, (k, d) ∈ l → minK l ≤ k
  | (k', d') :: r, k, d, h => by
    simp only [minK]
    rcases List.mem_cons.mp h with e | h
    · cases e; exact Nat.min_le_left _ _
    · exact Nat.le_trans (Nat.min_le_right _ _) (minK_le h)
/-- held values as one row, by their least level -/
theorem Args.row {F F' : Addr → Prop} {H : Hp} (j : Nat) : ∀ {l : List (Nat × D)} {vs : List V} {fp : List Addr}, (∀ k d, (k, d) ∈ l → j ≤ k) → Args c F H l vs fp → ∃ fp', fp'.Sublist fp ∧ ∀ F' : Addr → Prop, (∀ a, F a → F' a) → (∀ a, a ∈ fp → a ∉ fp' → F' a) → fp.Nodup → RepL c F' H j vs (l.map (·.2)) fp'
  | _, _, _, _, .nil => ⟨[], List.Sublist.refl _, fun _ _ _ _ => .nil _⟩
  | _, _, _, hj, .cons (fp := fp) (fq := fq) r rs => by
    obtain ⟨f1, s1, q1⟩ := Rep.down j (hj _ _ List.mem_cons_self) r
    obtain ⟨f2, s2, q2⟩ := Args.row (F' := F') j (fun k d z => hj k d (List.mem_cons_of_mem _ z)) rs
    refine ⟨f1 ++ f2, s1.append s2, fun F' m n nd => ?_⟩
    obtain ⟨n1, n2, n3⟩ := List.nodup_append.mp nd
    refine .cons (q1 F' m (fun a z zn => n a (List.mem_append_left _ z) fun y => ?_) n1) (q2 F' m (fun a z zn => n a (List.mem_append_right _ z) fun y => ?_) n2)
    · rcases List.mem_append.mp y with y | y
      · exact zn y
      · exact n3 a z a (s2.subset y) rfl
    · rcases List.mem_append.mp y with y | y
      · exact n3 a (s1.subset y) a z rfl
      · exact zn y
/-- held values become one, laid in a new object -/
theorem ArgsT.row {F O : Addr → Prop} {H : Hp} {env : Env} {σ : L2.St} {l : List (Nat × D)} {vs : List V} {fp : List Addr} (t : ArgsT c F O H l vs fp) (g : Good c F env σ H O) : ∃ F' fp', Good c F' env σ H O ∧ TmpL c F' O H (minK l) vs (l.map (·.2)) fp' ∧ (∀ a, F a → F' a) ∧ (∀ a, F' a → F a ∨ a ∈ fp) ∧ ∀ a, a ∈ fp' → a ∈ fp := by
  obtain ⟨fp', s, q⟩ := Args.row (F' := F) (minK l) (fun k d z => minK_le z) t.rep
  refine ⟨fun a => F a ∨ (a ∈ fp ∧ a ∉ fp'), fp', ?_, ⟨q _ (fun a z => .inl z) (fun a z zn => .inr ⟨z, zn⟩) t.nd, s.nodup t.nd, fun a z => t.nO a (s.subset z), fun a z y => ?_⟩, fun a z => .inl z, fun a z => z.elim .inl fun z => .inr z.1, fun a z => s.subset z⟩
  · refine g.keep (fun a z => .inl z) (fun a z => ?_) fun _ _ h => h
    rcases z with z | ⟨z, _⟩
    · exact ⟨fun y => g.disj a y z, g.dom a z⟩
    · refine ⟨t.nO a z, fun y => ?_⟩
      obtain ⟨u, e, _⟩ := t.rep.mem a z
      rw [e] at y; cases y
  · rcases y with y | ⟨_, y⟩
    · exact t.nF a (s.subset z) y
    · exact y z
theorem tup_ok {es : Es} {σ : L2.St} {H : Hp} {Q : VK} (h : rE c xc W C (.tup es) σ H Q) : rL c xc W C es σ H fun vs H1 => ∀ p, H1 p = none → Q (.ref p) (upd H1 p (.tup vs)) := by
  obtain ⟨env, F, O, g, p⟩ := h
  unfold evE at p
  refine ⟨env, F, O, g, ?_⟩
  cases ea : evL C es env with
  | bad => rw [ea] at p; exact p
  | exc env1 y => rw [ea] at p; exact p
  | ok env1 l =>
    rw [ea] at p
    intro F1 O1 H1 vs fp s1 g1 t fr q hq
    obtain ⟨F2, fp', g2, t2, m2, l2, sb⟩ := t.row g1
    have t3 := t2.step (Step.new hq (F := F2) (O := O1) (o := .tup vs)) g2
    refine p F2 O1 _ _ fp' (Step.same ⟨fun a z => m2 a (s1.mono a z), s1.own, fun a z => ?_, s1.keep, s1.dom⟩ (Same.new hq)) (g2.new hq) ⟨.tup upd_same t3.rep, t3.nd, t3.nO, t3.nF⟩ fun a z => fr a (sb a z)
    rcases l2 a z with z | z
    · exact s1.frz a z
    · exact .inr (fr a z)
theorem lst_ok {es : Es} {σ : L2.St} {H : Hp} {Q : VK} (h : rE c xc W C (.lst es) σ H Q) : rL c xc W C es σ H fun vs H1 => ∀ p, H1 p = none → Q (.ref p) (upd H1 p (.lst vs)) := by
  obtain ⟨env, F, O, g, p⟩ := h
  unfold evE at p
  refine ⟨env, F, O, g, ?_⟩
  cases ea : evL C es env with
  | bad => rw [ea] at p; exact p
  | exc env1 y => rw [ea] at p; exact p
  | ok env1 l =>
    rw [ea] at p
    intro F1 O1 H1 vs fp s1 g1 t fr q hq
    obtain ⟨F2, fp', g2, t2, m2, l2, sb⟩ := t.row g1
    have t3 := t2.step (Step.new hq (F := F2) (O := O1) (o := .lst vs)) g2
    have nq : q ∉ fp' := fun z => by
      obtain ⟨u, e, _⟩ := RepL.mem t2.rep q z
      rw [hq] at e; cases e
    have nqO : ¬ O1 q := fun z => by
      obtain ⟨u, e, _⟩ := g2.mt z
      rw [hq] at e; cases e
    have e1 : 1 + minK l = minK l + 1 := Nat.add_comm _ _
    simp only [e1] at p
    refine p F2 O1 _ _ (q :: fp') (Step.same ⟨fun a z => m2 a (s1.mono a z), s1.own, fun a z => ?_, s1.keep, s1.dom⟩ (Same.new hq)) (g2.new hq) ⟨.lown upd_same t3.rep, List.nodup_cons.mpr ⟨nq, t3.nd⟩, fun a z => ?_, fun a z => ?_⟩ fun a z => ?_
    · rcases l2 a z with z | z
      · exact s1.frz a z
      · exact .inr (fr a z)
    · rcases List.mem_cons.mp z with rfl | z
      · exact nqO
      · exact t3.nO a z
    · rcases List.mem_cons.mp z with rfl | z
      · exact fun y => g2.dom _ y hq
      · exact t3.nF a z
    · rcases List.mem_cons.mp z with rfl | z
      · exact .inr (s1.dom _ hq)
      · exact fr a (sb a z)
end
end Pv
end
section
set_option maxRecDepth 100000
set_option maxHeartbeats 4000000
/-! PvOps3: more operations: *, slices, all, any, sum, min, max, isinstance. -/
namespace Pv
open PySem PySem.Spec PyProof.Rows L2
section
variable {c : Cn} {X : Cx} (cc : Cc c X)
include cc
theorem s_mul : OpR X (binaryOp .Mult) (R2 c .mul) := by
  intro pins s σ H x y v u Q I rx ry ⟨F, k1, k2, d1, d2, fp1, fp2, r, r1, r2, sd, e, q⟩
  have e : mulD d1 d2 = some r := e
  unfold mulD at e
  split at e
  · split at e
    · rename_i hm
      cases r1; cases r2; cases e
      exact op_mul pins s σ H _ _ v u Q I rx ry ⟨_, _, rfl, rfl, mulOk_C cc hm, q.int⟩
    · cases e
  · split at e
    · rename_i xs j _ hz
      cases e
      rw [Bool.and_eq_true] at hz
      have h1 := of_decide_eq_true hz.1
      have h2 := szOk_le hz.2
      have hk : 0 < k1 := of_decide_eq_true sd
      cases r2
      cases r1 with
      | lfz _ _ _ => exact absurd hk (Nat.lt_irrefl _)
      | lcon _ _ => exact absurd hk (Nat.lt_irrefl _)
      | lown ha rl =>
        rename_i k a vs fp
        have hl := rl.length
        exact op_rep pins s σ H _ _ v u Q I rx ry ⟨a, j, vs, rfl, rfl, ha, by omega, by omega, by rw [hl]; exact h2, q.lst fun F' m n => RepL.rep0 (RepL.freeze m (fun x z => n x (.inl (List.mem_cons_of_mem _ z))) rl) _⟩
    · cases e
  · split at e
    · rename_i xs j _ hz
      cases e
      simp only [Bool.and_eq_true, Bool.not_eq_true', decide_eq_true_eq] at hz
      obtain ⟨⟨h0, h1⟩, h2⟩ := hz
      cases r2
      obtain ⟨a, vs, rfl, ha, la, fa⟩ := rep_tup r1
      have hne : vs ≠ [] := fun z => by
        subst z
        have : xs = [] := List.eq_nil_of_length_eq_zero (by simpa using la.symm)
        rw [this] at h0
        cases h0
      exact op_repT pins s σ H _ _ v u Q I rx ry ⟨a, j, vs, rfl, rfl, SqT.of ha, hne, h1.1, h1.2, by rw [la]; exact h2, q.tup fun F' m n => RepL.rep0 (fa F' m fun a z => n a (.inl z)) _⟩
    · cases e
  · cases e
theorem s_all : CallR X (.builtin "all") (C1 c .all) := by
  intro pins s σ H xs us Q I rv ⟨x, ex, F, k1, d1, fp1, r, r1, e, q⟩
  have e : allD d1 = some r := e
  unfold allD at e
  split at e
  · rename_i ds
    rw [Option.map_eq_some_iff] at e
    obtain ⟨bs, hb, rfl⟩ := e
    obtain rfl := boolsL_map hb
    obtain ⟨a, vs, rfl, ha, la, fa⟩ := rep_list (F' := F) r1
    have := RepL.bools (fa (fun _ => True) (fun _ _ => trivial) fun _ _ => trivial)
    subst this
    exact cr_all cc.calm pins s σ H xs us Q I rv ⟨a, bs, ex, sq_of (c := ⟨X.K, c.fa, c.cl⟩) ha, q.bl⟩
  · cases e
theorem s_any : CallR X (.builtin "any") (C1 c .any) := by
  intro pins s σ H xs us Q I rv ⟨x, ex, F, k1, d1, fp1, r, r1, e, q⟩
  have e : anyD d1 = some r := e
  unfold anyD at e
  split at e
  · rename_i ds
    rw [Option.map_eq_some_iff] at e
    obtain ⟨bs, hb, rfl⟩ := e
    obtain rfl := boolsL_map hb
    obtain ⟨a, vs, rfl, ha, la, fa⟩ := rep_list (F' := F) r1
    have := RepL.bools (fa (fun _ => True) (fun _ _ => trivial) fun _ _ => trivial)
    subst this
    exact cr_any cc.calm pins s σ H xs us Q I rv ⟨a, bs, ex, sq_of (c := ⟨X.K, c.fa, c.cl⟩) ha, q.bl⟩
  · cases e
theorem s_sum : CallR X (.builtin "sum") (C1 c .sum) := by
  intro pins s σ H xs us Q I rv ⟨x, ex, F, k1, d1, fp1, r, r1, e, q⟩
  have e : sumD d1 = some r := e
  unfold sumD at e
  split at e
  · rename_i ds
    rw [Option.map_eq_some_iff] at e
    obtain ⟨ns, hb, rfl⟩ := e
    obtain rfl := intsL_map hb
    obtain ⟨a, vs, rfl, ha, la, fa⟩ := rep_list (F' := F) r1
    have := RepL.ints (fa (fun _ => True) (fun _ _ => trivial) fun _ _ => trivial)
    subst this
    exact cr_sum cc.calm pins s σ H xs us Q I rv ⟨a, ns, ex, sq_of (c := ⟨X.K, c.fa, c.cl⟩) ha, q.int⟩
  · rename_i ds
    rw [Option.map_eq_some_iff] at e
    obtain ⟨ns, hb, rfl⟩ := e
    obtain rfl := intsL_map hb
    obtain ⟨a, vs, rfl, ha, la, fa⟩ := rep_tup r1
    have := RepL.ints (fa (fun _ => True) (fun _ _ => trivial) fun _ _ => trivial)
    subst this
    subst ex
    obtain ⟨u, rfl, ru⟩ := vals1 rv
    obtain rfl : u = Value.ref a := ru
    obtain ⟨its, rvs, ht, hz⟩ := I.tuple (SqT.of ha)
    obtain ⟨zs, ez⟩ := rvs.ints.allInts.items
    have hn : numsOf (intItems zs).toList = ns := by rw [← ez]; exact rvs.ints.numsOf
    rw [nums_intItems] at hn
    rw [ez] at ht
    refine PySem.W.ktm_sumG (I.ok.hd cc.calm) ht fun h' tk t' hk => ⟨.int _, H, I.kept hk, ⟨_, rfl⟩, ?_⟩
    rw [preSum_eq, List.take_of_length_le (by simp), hn]
    exact q.int
  · cases e
omit cc in
theorem minI_le : ∀ (m : Int) (r : List Int), (minI m r ∈ m :: r) ∧ ∀ y, y ∈ m :: r → minI m r ≤ y
  | m, [] => ⟨List.mem_cons_self, fun y h => by simp at h; subst h; exact Int.le_refl _⟩
  | m, x :: r => by
    simp only [minI]
    obtain ⟨h1, h2⟩ := minI_le (if x < m then x else m) r
    refine ⟨?_, fun y hy => ?_⟩
    · rcases List.mem_cons.mp h1 with h | h
      · rw [h]
        split
        · simp
        · simp
      · simp [h]
    · rcases List.mem_cons.mp hy with rfl | hy
      · have := h2 _ List.mem_cons_self
        by_cases hx : x < y <;> simp only [hx, if_true, if_false] at this ⊢ <;> omega
      · rcases List.mem_cons.mp hy with rfl | hy
        · have := h2 _ List.mem_cons_self
          by_cases hx : y < m <;> simp only [hx, if_true, if_false] at this ⊢ <;> omega
        · exact h2 y (List.mem_cons_of_mem _ hy)
omit cc in
theorem maxI_le : ∀ (m : Int) (r : List Int), (maxI m r ∈ m :: r) ∧ ∀ y, y ∈ m :: r → y ≤ maxI m r
  | m, [] => ⟨List.mem_cons_self, fun y h => by simp at h; subst h; exact Int.le_refl _⟩
  | m, x :: r => by
    simp only [maxI]
    obtain ⟨h1, h2⟩ := maxI_le (if x > m then x else m) r
    refine ⟨?_, fun y hy => ?_⟩
    · rcases List.mem_cons.mp h1 with h | h
      · rw [h]
        split
        · simp
        · simp
      · simp [h]
    · rcases List.mem_cons.mp hy with rfl | hy
      · have := h2 _ List.mem_cons_self
        by_cases hx : x > y <;> simp only [hx, if_true, if_false] at this ⊢ <;> omega
      · rcases List.mem_cons.mp hy with rfl | hy
        · have := h2 _ List.mem_cons_self
          by_cases hx : y > m <;> simp only [hx, if_true, if_false] at this ⊢ <;> omega
        · exact h2 y (List.mem_cons_of_mem _ hy)
omit cc in
/-- the iterator of a tuple -/
theorem iter_tup {prog : Program} {w : World} {A : Around} {E : Value → Shared → Prop} {s : Shared} {t : Addr} {its : Array Value} {Q : Value → Shared → Prop} (ht : s.heap.IsTuple t its)
    (h : ∀ s2 : Shared, s2 = { s with heap := s.heap.push { cls := .type "tuple_iterator", data := .fields #[.ref t, .int 0 0] } } → (s2.heap.IsTupleIter s.heap.objs.size t 0 ∧ s2.heap.IsTuple t its) → (∀ b ∈ [s.heap.objs.size, t], b < s2.heap.objs.size) → t ≠ s.heap.objs.size → Q (.ref s.heap.objs.size) s2) :
    wpAny (model prog w) A (pyIter (.ref t)) Q E s := by
  have hlt : t < s.heap.objs.size := by obtain ⟨_, e, _⟩ := ht; exact Heap.lt_size e
  refine wpAny_pyIter_tuple ht (h _ rfl ⟨⟨_, Heap.get?_push_size _ rfl, rfl, rfl⟩, ht.at fun o e => Heap.get?_push_of_some _ e⟩ (fun b hb => ?_) (Nat.ne_of_lt hlt))
  have hb' : b = s.heap.objs.size ∨ b = t := by simpa using hb
  show b < (s.heap.push _).objs.size
  rw [Heap.size_push]
  rcases hb' with z | z
  · rw [z]; exact Nat.lt_succ_self _
  · rw [z]; exact Nat.lt_succ_of_lt hlt
omit cc in
theorem minmaxT {X : Cx} {op : String} {pins : List (Addr × Obj)} {s : Shared} {σ : L2.St} {H : Hp} {a : Addr} {ns : List Int} {Q : VK} (I : Inv X pins σ H s) (hc : X.calm = true) (ha : SqT X.K H a (ns.map V.int)) (hne : 0 < ns.length) :
    (op = "max" → (∀ m, m ∈ ns → (∀ y, y ∈ ns → y ≤ m) → Q (.int m) H) → wpAny (model X.prog X.w) X.A (call (.builtin "max") [.ref a]) (EP X pins σ Q) X.xe s) ∧
    (op = "min" → (∀ m, m ∈ ns → (∀ y, y ∈ ns → m ≤ y) → Q (.int m) H) → wpAny (model X.prog X.w) X.A (call (.builtin "min") [.ref a]) (EP X pins σ Q) X.xe s) := by
  obtain ⟨its, rv, ht, _⟩ := I.tuple ha
  obtain ⟨xs, e⟩ := rv.ints.allInts.items
  have hn : numsOf (intItems xs).toList = ns := by rw [← e]; exact rv.ints.numsOf
  rw [nums_intItems] at hn
  subst hn
  have ht : s.heap.IsTuple a (intItems xs) := by
    have : s.heap.IsTuple a its.toArray := ht
    rw [e] at this
    exact this
  have hsz : 0 < xs.size := by simpa using hne
  have len : (intItems xs).size = xs.size := by simp [intItems]
  constructor
  · intro _ q
    refine call_max_walk (iter_tup ht fun s2 e2 st hfp hlI => ?_)
    subst e2
    refine ⟨_, _, _, _, _, _, _, rfl, Walks.tuple (A := X.A.in1) (I.ok.hd hc) _ a hlI (intItems xs), st, hfp, by rw [len]; exact hsz, CmpOf.ints_gt (numAt xs) (fun _ _ => intItems_at), fun v h' tk hv hk => ?_⟩
    obtain ⟨t, rfl⟩ := intItems_at hv
    rw [len] at *
    obtain ⟨h1, h2⟩ := argBest_gt (numAt xs) (xs.size - 1)
    refine ⟨.int _, H, I.kept fun b o eo => hk b o (fun hm => ?_) (Heap.get?_push_of_some _ eo), ⟨_, rfl⟩, q _ ?_ fun y hy => ?_⟩
    · have hm' : b = s.heap.objs.size := by simpa using hm
      exact absurd (hm' ▸ Heap.lt_size eo) (Nat.lt_irrefl _)
    · rw [numAt_eq]; exact PySem.getD_mem (by rw [List.length_map, Array.length_toList]; omega)
    · obtain ⟨j, hj, rfl⟩ := mem_getD hy
      rw [List.length_map, Array.length_toList] at hj
      have := h2 j (by omega)
      rw [← numAt_eq]; exact this
  · intro _ q
    refine call_min_walk (iter_tup ht fun s2 e2 st hfp hlI => ?_)
    subst e2
    refine ⟨_, _, _, _, _, _, _, rfl, Walks.tuple (A := X.A.in1) (I.ok.hd hc) _ a hlI (intItems xs), st, hfp, by rw [len]; exact hsz, CmpOf.ints_lt (numAt xs) (fun _ _ => intItems_at), fun v h' tk hv hk => ?_⟩
    obtain ⟨t, rfl⟩ := intItems_at hv
    rw [len] at *
    obtain ⟨h1, h2⟩ := argBest_lt (numAt xs) (xs.size - 1)
    refine ⟨.int _, H, I.kept fun b o eo => hk b o (fun hm => ?_) (Heap.get?_push_of_some _ eo), ⟨_, rfl⟩, q _ ?_ fun y hy => ?_⟩
    · have hm' : b = s.heap.objs.size := by simpa using hm
      exact absurd (hm' ▸ Heap.lt_size eo) (Nat.lt_irrefl _)
    · rw [numAt_eq]; exact PySem.getD_mem (by rw [List.length_map, Array.length_toList]; omega)
    · obtain ⟨j, hj, rfl⟩ := mem_getD hy
      rw [List.length_map, Array.length_toList] at hj
      have := h2 j (by omega)
      rw [← numAt_eq]; exact this
theorem s_max : CallR X (.builtin "max") (C1 c .max) := by
  intro pins s σ H xs us Q I rv ⟨x, ex, F, k1, d1, fp1, r, r1, e, q⟩
  have e : maxD d1 = some r := e
  unfold maxD at e
  split at e
  · rename_i ds
    obtain ⟨ns, hb, e2⟩ := Option.bind_eq_some_iff.mp e
    clear e
    obtain rfl := intsL_map hb
    obtain ⟨a, vs, rfl, ha, la, fa⟩ := rep_list (F' := F) r1
    have := RepL.ints (fa (fun _ => True) (fun _ _ => trivial) fun _ _ => trivial)
    subst this
    cases ns with
    | nil => cases e2
    | cons m0 rest =>
      cases e2
      obtain ⟨h1, h2⟩ := maxI_le m0 rest
      refine cr_max cc.calm pins s σ H xs us Q I rv ⟨a, m0 :: rest, ex, sq_of (c := ⟨X.K, c.fa, c.cl⟩) ha, Nat.succ_pos _, fun m hm hy => ?_⟩
      have : m = maxI m0 rest := Int.le_antisymm (h2 m hm) (hy _ h1)
      rw [this]; exact q.int
  · rename_i ds
    obtain ⟨ns, hb, e2⟩ := Option.bind_eq_some_iff.mp e
    clear e
    obtain rfl := intsL_map hb
    obtain ⟨a, vs, rfl, ha, la, fa⟩ := rep_tup r1
    have := RepL.ints (fa (fun _ => True) (fun _ _ => trivial) fun _ _ => trivial)
    subst this
    cases ns with
    | nil => cases e2
    | cons m0 rest =>
      cases e2
      obtain ⟨h1, h2⟩ := maxI_le m0 rest
      subst ex
      obtain ⟨u, rfl, ru⟩ := vals1 rv
      obtain rfl : u = Value.ref a := ru
      refine (minmaxT (op := "max") I cc.calm (SqT.of ha) (Nat.succ_pos _)).1 rfl fun m hm hy => ?_
      have : m = maxI m0 rest := Int.le_antisymm (h2 m hm) (hy _ h1)
      rw [this]; exact q.int
  · cases e
theorem s_min : CallR X (.builtin "min") (C1 c .min) := by
  intro pins s σ H xs us Q I rv ⟨x, ex, F, k1, d1, fp1, r, r1, e, q⟩
  have e : minD d1 = some r := e
  unfold minD at e
  split at e
  · rename_i ds
    obtain ⟨ns, hb, e2⟩ := Option.bind_eq_some_iff.mp e
    clear e
    obtain rfl := intsL_map hb
    obtain ⟨a, vs, rfl, ha, la, fa⟩ := rep_list (F' := F) r1
    have := RepL.ints (fa (fun _ => True) (fun _ _ => trivial) fun _ _ => trivial)
    subst this
    cases ns with
    | nil => cases e2
    | cons m0 rest =>
      cases e2
      obtain ⟨h1, h2⟩ := minI_le m0 rest
      refine cr_min cc.calm pins s σ H xs us Q I rv ⟨a, m0 :: rest, ex, sq_of (c := ⟨X.K, c.fa, c.cl⟩) ha, Nat.succ_pos _, fun m hm hy => ?_⟩
      have : m = minI m0 rest := Int.le_antisymm (hy _ h1) (h2 m hm)
      rw [this]; exact q.int
  · rename_i ds
    obtain ⟨ns, hb, e2⟩ := Option.bind_eq_some_iff.mp e
    clear e
    obtain rfl := intsL_map hb
    obtain ⟨a, vs, rfl, ha, la, fa⟩ := rep_tup r1
    have := RepL.ints (fa (fun _ => True) (fun _ _ => trivial) fun _ _ => trivial)
    subst this
    cases ns with
    | nil => cases e2
    | cons m0 rest =>
      cases e2
      obtain ⟨h1, h2⟩ := minI_le m0 rest
      subst ex
      obtain ⟨u, rfl, ru⟩ := vals1 rv
      obtain rfl : u = Value.ref a := ru
      refine (minmaxT (op := "min") I cc.calm (SqT.of ha) (Nat.succ_pos _)).2 rfl fun m hm hy => ?_
      have : m = minI m0 rest := Int.le_antisymm (hy _ h1) (h2 m hm)
      rw [this]; exact q.int
  · cases e
/-! ### slices -/
omit cc in
theorem RepL.cut0 {F : Addr → Prop} {H : Hp} {k : Nat} {vs : List V} {ds : List D} (r : RepL c F H k vs ds []) (lo hi : Option Int) : RepL c F H k (cutV vs lo hi) (cutD ds lo hi) [] := by
  unfold cutV cutD
  rw [r.length]
  exact RepL.take0 _ (RepL.drop0 _ r)
/-- what a slice gives -/
def RSl (c : Cn) : V → Option Int → Option Int → Hp → VK → Prop := fun x lo hi H Q => ∃ (F : Addr → Prop) (k1 : Nat) (d1 : D) (fp1 : List Addr) (r : D) (a b : D), Rep c F H k1 x d1 fp1 ∧ partD a = some lo ∧ partD b = some hi ∧ sliceD d1 a b = some r ∧ Out c F H (fun a => a ∈ fp1) (lv r) r Q
theorem s_slice : SlR X (RSl c) := by
  intro pins s σ H x v vl vu lo hi sl Q I rx hs pl pu ⟨F, k1, d1, fp1, r, a, b, r1, ea, eb, e, q⟩
  unfold sliceD at e
  split at e
  · rw [ea, eb] at e
    cases e
    obtain ⟨p, vs, rfl, hp, la, fa⟩ := rep_list (F' := F) r1
    exact sl_list pins s σ H _ v vl vu lo hi sl Q I rx hs pl pu ⟨p, vs, rfl, sq_of (c := ⟨X.K, c.fa, c.cl⟩) hp, q.lst fun F' m n => RepL.cut0 (fa F' m n) lo hi⟩
  · rw [ea, eb] at e
    cases e
    obtain ⟨p, vs, rfl, hp, la, fa⟩ := rep_tup r1
    refine sl_tupA pins s σ H _ v vl vu lo hi sl Q I rx hs pl pu ⟨p, vs, rfl, SqT.of hp, fun hw => ?_, fun _ => q.tup fun F' m n => RepL.cut0 (fa F' m n) lo hi⟩
    have whole : ∀ ds : List D, vs.length = ds.length → cutD ds lo hi = ds := fun ds la => by
      unfold cutD
      rw [← la, hw.1, hw.2, List.drop_zero, Nat.sub_zero]
      exact List.take_of_length_le (by omega)
    simp only [whole _ la] at q
    exact q.old fun F' m n => .tup hp (fa F' m n)
  · cases e
/-! ### isinstance -/
omit cc in
def kdName : Kd → String
  | .non => "NoneType"
  | .bool => "bool"
  | .int => "int"
  | .str => "str"
  | .list => "list"
  | .tuple => "tuple"
  | .dict => "dict"
omit cc in
def clsKd : Kd → Bool
  | .non => false
  | .dict => false
  | _ => true
omit cc in
theorem kit_kd {K : PySem.W.Frag} (k t : Kd) (h : clsKd t = true) : PySem.W.kitOne K (.type (kdName k)) (.type (kdName t)) = some (isaK k t) := by
  refine kit_ty ?_
  cases t <;> first | (cases h; done) | (cases k <;> decide +kernel)
omit cc in
theorem tyx_of {F : Addr → Prop} {H : Hp} {k : Nat} {x : V} {d : D} {fp : List Addr} (r : Rep c F H k x d fp) (hd : ∀ kvs, d = .dict kvs → dOk kvs = true) : TyX c.K H x (.type (kdName (kd d))) := by
  cases r with
  | non => exact .base .non
  | bl _ b => exact .base (.bl b)
  | int _ i => exact .base (.int i)
  | str _ z => exact .base (.str z)
  | tup h _ => exact .base (.tup h)
  | lfz _ h _ => exact .base (.lst h)
  | lcon h _ => obtain ⟨o, h⟩ := h; exact .base (.frz h)
  | lown h _ => exact .base (.lst h)
  | dkfz _ h _ _ => exact .base (.dK h)
  | dkown h _ _ => exact .base (.dK h)
  | dtfz _ h _ _ _ => exact .base (.dT h)
  | dtown h _ _ _ => exact .base (.dT h)
  | objfz _ _ _ _ _ => exact absurd (hd _ rfl) (by simp [dOk])
  | objown _ _ _ _ => exact absurd (hd _ rfl) (by simp [dOk])
  | fn _ h => cases hd _ rfl
omit cc in
theorem isaD_ok {ts : List Kd} {d r : D} (h : isaD ts d = some r) : r = .bool (ts.any (isaK (kd d))) ∧ ∀ kvs, d = .dict kvs → dOk kvs = true := by
  unfold isaD at h
  split at h
  · split at h
    · rename_i hk
      cases h
      exact ⟨rfl, fun _ e => by cases e; exact hk⟩
    · cases h
  · rename_i hn
    cases h
    exact ⟨rfl, fun kvs e => absurd e (hn kvs)⟩
/-- isinstance(x, t) -/
def RIsa (c : Cn) (ts : List Kd) : V → Hp → VK → Prop := fun x H Q => ∃ (F : Addr → Prop) (k1 : Nat) (d1 : D) (fp1 : List Addr) (r : D), Rep c F H k1 x d1 fp1 ∧ isaD ts d1 = some r ∧ Out c F H (fun a => a ∈ fp1) (lv r) r Q
theorem s_isa1 {t : Kd} (ht : clsKd t = true) : CallR X (.builtin "isinstance") (fun xs H Q => ∃ x, xs = [x, .ty (kdName t)] ∧ RIsa c [t] x H Q) := by
  intro pins s σ H xs us Q I rv ⟨x, ex, F, k1, d1, fp1, r, r1, e, q⟩
  obtain ⟨rfl, hd⟩ := isaD_ok e
  have ty := tyx_of r1 hd
  rw [← cc.hK] at ty
  refine call_isi pins s σ H xs us Q I rv ⟨x, _, _, _, isaK (kd d1) t, ex, .ty _, ty, kit_kd _ _ ht, ?_⟩
  have := q.bl
  simpa using this
theorem s_isa2 {t u : Kd} (ht : clsKd t = true) (hu : clsKd u = true) : CallR X (.builtin "isinstance") (fun xs H Q => ∃ x tp H0, xs = [x, .ref tp] ∧ H0 tp = none ∧ H = upd H0 tp (.tup [.ty (kdName t), .ty (kdName u)]) ∧ RIsa c [t, u] x H0 Q) := by
  intro pins s σ H xs us Q I rv ⟨x, tp, H0, ex, hn, eH, F, k1, d1, fp1, r, r1, e, q⟩
  obtain ⟨rfl, hd⟩ := isaD_ok e
  have r2 : Rep c F H k1 x d1 fp1 := by rw [eH]; exact Rep.same r1 (Same.new hn)
  have ty := tyx_of r2 hd
  rw [← cc.hK] at ty
  refine call_isiT pins s σ H xs us Q I rv ⟨x, tp, _, _, _, isaK (kd d1) t || isaK (kd d1) u, ex, by rw [eH]; exact upd_same, .cons (.ty _) (.cons (.ty _) .nil), ty, ?_, ?_⟩
  · refine kitAny_cons (kit_kd _ _ ht) (fun h => kitAny_cons (kit_kd _ _ hu) (fun h2 => ?_) fun h2 => ?_) fun h => ?_
    · rw [h, h2]; rfl
    · rw [h2, Bool.or_true]
    · rw [h, Bool.true_or]
  · have := q (.bl (([t, u] : List Kd).any (isaK (kd d1)))) H (by rw [eH]; exact Same.new hn) fun _ _ _ => ⟨[], .bl _ _, List.nodup_nil, by simp⟩
    simpa using this
end
end Pv
end
section
set_option maxRecDepth 100000
set_option maxHeartbeats 4000000
/-! PvFlow: tests, and, or, not, the conditional, chains, names of the text. -/
namespace Pv
open PySem PySem.Spec PyProof.Rows L2
section
variable {c : Cn} {xc : Xc} {W : WX} {C : Calls}
theorem PostE.later {σ : L2.St} {F O F1 O1 : Addr → Prop} {H H1 : Hp} {Q : VK} {r : Res} (p : PostE c xc W σ F O H Q r) (s : Step F O H F1 O1 H1) : PostE c xc W σ F1 O1 H1 Q r := by
  cases r with
  | ok e k d => exact fun F' O' H' v fp s' g t fr => p F' O' H' v fp (s.trans s') g t fun a z => (fr a z).elim (s.own a) (fun q => .inr (s.dom a q))
  | exc e x => exact PostX.later p s
  | bad => exact p
theorem rT_of {x : E} {σ : L2.St} {F O : Addr → Prop} {H : Hp} {env : Env} {R : Bool → Hp → Prop} (g : Good c F env σ H O)
    (p : match opd x env (evE C x env) with
      | .ok env' _ (.bool b) => ∀ F' O' H', Step F O H F' O' H' → Good c F' env' σ H' O' → R b H'
      | .exc _ y => PostX c xc W σ F O H y
      | _ => False) : tTest (rO c xc W C x) σ H R := by
  refine rO_of (F := F) (O := O) (env := env) g ?_
  cases e : opd x env (evE C x env) with
  | bad => rw [e] at p; exact p
  | exc env1 y => rw [e] at p; exact p
  | ok env1 k1 d1 =>
    rw [e] at p
    intro F1 O1 H1 v1 s1 g1 o1
    cases d1 with
    | bool b =>
      obtain ⟨fp, r, _⟩ := o1.rep g1
      cases r
      exact ⟨b, rfl, p F1 O1 H1 s1 g1⟩
    | _ => exact False.elim p
theorem and_ok {a b : E} {σ : L2.St} {H : Hp} {Q : VK} (h : rE c xc W C (.and a b) σ H Q) : tAndV (rO c xc W C a) (rE c xc W C b) σ H Q := by
  obtain ⟨env, F, O, g, p⟩ := h
  unfold evE at p
  show tTest (rO c xc W C a) σ H fun k H1 => if k = true then rE c xc W C b σ H1 Q else Q (.bl false) H1
  refine rT_of g ?_
  cases e : opd a env (evE C a env) with
  | bad => rw [e] at p; exact p
  | exc env1 y => rw [e] at p; exact p
  | ok env1 k1 d1 =>
    rw [e] at p
    cases d1 with
    | bool k =>
      cases k with
      | true => exact fun F1 O1 H1 s1 g1 => ⟨env1, F1, O1, g1, PostE.later p s1⟩
      | false => exact fun F1 O1 H1 s1 g1 => PostE.atom p s1 g1 fun _ _ _ => .bl _ _
    | _ => exact p
theorem or_ok {a b : E} {σ : L2.St} {H : Hp} {Q : VK} (h : rE c xc W C (.or a b) σ H Q) : tOrV (rO c xc W C a) (rE c xc W C b) σ H Q := by
  obtain ⟨env, F, O, g, p⟩ := h
  unfold evE at p
  show tTest (rO c xc W C a) σ H fun k H1 => if k = true then Q (.bl true) H1 else rE c xc W C b σ H1 Q
  refine rT_of g ?_
  cases e : opd a env (evE C a env) with
  | bad => rw [e] at p; exact p
  | exc env1 y => rw [e] at p; exact p
  | ok env1 k1 d1 =>
    rw [e] at p
    cases d1 with
    | bool k =>
      cases k with
      | false => exact fun F1 O1 H1 s1 g1 => ⟨env1, F1, O1, g1, PostE.later p s1⟩
      | true => exact fun F1 O1 H1 s1 g1 => PostE.atom p s1 g1 fun _ _ _ => .bl _ _
    | _ => exact p
theorem not_ok {a : E} {σ : L2.St} {H : Hp} {Q : VK} (h : rE c xc W C (.not a) σ H Q) : tNotV (rO c xc W C a) σ H Q := by
  obtain ⟨env, F, O, g, p⟩ := h
  unfold evE at p
  show tTest (rO c xc W C a) σ H fun k H1 => Q (.bl (!k)) H1
  refine rT_of g ?_
  cases e : opd a env (evE C a env) with
  | bad => rw [e] at p; exact p
  | exc env1 y => rw [e] at p; exact p
  | ok env1 k1 d1 =>
    rw [e] at p
    cases d1 with
    | bool k => exact fun F1 O1 H1 s1 g1 => PostE.atom p s1 g1 fun _ _ _ => .bl _ _
    | _ => exact p
theorem one_ok {a : E} {σ : L2.St} {H : Hp} {Q : VK} (h : rE c xc W C (.one a) σ H Q) : rO c xc W C a σ H Q := by
  obtain ⟨env, F, O, g, p⟩ := h
  unfold evE at p
  refine rO_of (F := F) (O := O) (env := env) g ?_
  cases e : opd a env (evE C a env) with
  | bad => rw [e] at p; exact p
  | exc env1 y => rw [e] at p; exact p
  | ok env1 k1 d1 =>
    rw [e] at p
    intro F1 O1 H1 v1 s1 g1 o1
    obtain ⟨fp, r, _⟩ := o1.rep g1
    cases ha : atom d1 with
    | true =>
      simp only [ha, if_true] at p
      obtain ⟨_, z⟩ := Rep.atom ha r
      exact PostE.atom p s1 g1 z
    | false =>
      simp only [ha, Bool.false_eq_true, if_false] at p
      exact False.elim p
theorem ite_ok {t a b : E} {σ : L2.St} {H : Hp} {Q : VK} (h : rE c xc W C (.ite t a b) σ H Q) : tIf (tTest (rO c xc W C t)) (rE c xc W C a) (rE c xc W C b) σ H Q := by
  obtain ⟨env, F, O, g, p⟩ := h
  unfold evE at p
  refine rT_of g ?_
  cases e : opd t env (evE C t env) with
  | bad => rw [e] at p; exact p
  | exc env1 y => rw [e] at p; exact p
  | ok env1 k1 d1 =>
    rw [e] at p
    cases d1 with
    | bool k =>
      cases k with
      | true => exact fun F1 O1 H1 s1 g1 => ⟨env1, F1, O1, g1, PostE.later p s1⟩
      | false => exact fun F1 O1 H1 s1 g1 => ⟨env1, F1, O1, g1, PostE.later p s1⟩
    | _ => exact p
theorem sideOk_atom {o : O2} {k : Nat} {d : D} (h : atom d = true) : sideOk o k d = true := by
  cases d with
  | list xs => cases h
  | _ => cases o <;> rfl
theorem Out.bool' {F : Addr → Prop} {H : Hp} {fp : Addr → Prop} {k : Nat} {r : Bool} {Q : VK} (q : ∀ H', Same H H' → Q (.bl r) H') : Out c F H fp k (.bool r) Q := fun v H' same mk => by
  obtain ⟨fq, rr, _⟩ := mk (fun _ => True) (fun _ _ => trivial) (fun _ _ => trivial)
  cases rr
  exact q H' same
theorem chain_ok {o p : O2} {a b c' : E} {σ : L2.St} {H : Hp} {Q : VK} (h : rE c xc W C (.chain o p a b c') σ H Q) : tChain (R2 c o) (R2 c p) (rO c xc W C a) (rO c xc W C b) (rO c xc W C c') σ H Q := by
  obtain ⟨env, F, O, g, q⟩ := h
  unfold evE at q
  refine rO_of (F := F) (O := O) (env := env) g ?_
  cases ea : opd a env (evE C a env) with
  | bad => rw [ea] at q; exact q
  | exc env1 y => rw [ea] at q; exact q
  | ok env1 k1 d1 =>
    rw [ea] at q
    intro F1 O1 H1 v1 s1 g1 o1
    refine rO_of (F := F1) (O := O1) (env := env1) g1 ?_
    simp only at q
    cases eb : opd b env1 (evE C b env1) with
    | bad => rw [eb] at q; exact q
    | exc env2 y => rw [eb] at q; exact PostX.later q s1
    | ok env2 k2 d2 =>
      rw [eb] at q
      intro F2 O2 H2 v2 s2 g2 o2
      simp only at q
      cases ha : (atom d1 && atom d2) with
      | false => rw [ha] at q; exact False.elim q
      | true =>
        rw [ha] at q
        simp only [if_true] at q
        rw [Bool.and_eq_true] at ha
        obtain ⟨ha1, ha2⟩ := ha
        obtain ⟨f1, r1, _⟩ := o1.rep g1
        obtain ⟨f2, r2, _⟩ := o2.rep g2
        obtain ⟨_, z1⟩ := Rep.atom ha1 r1
        obtain ⟨_, z2⟩ := Rep.atom ha2 r2
        cases er : ap2 o d1 d2 with
        | none => rw [er] at q; exact False.elim q
        | some r =>
          rw [er] at q
          cases r with
          | bool k =>
            refine ⟨F2, 9, 9, d1, d2, [], [], .bool k, z1 _ _ _, z2 _ _ _, sideOk_atom ha1, er, Out.bool' fun H3 same => ⟨k, rfl, ?_⟩⟩
            have s3 : Step F O H F2 O2 H3 := (s1.trans s2).same same
            have g3 := Good.same g2 same
            cases k with
            | false => exact PostE.atom q s3 g3 fun _ _ _ => .bl _ _
            | true =>
              refine rO_of (F := F2) (O := O2) (env := env2) g3 ?_
              simp only at q
              cases ec : opd c' env2 (evE C c' env2) with
              | bad => rw [ec] at q; exact q
              | exc env4 y => rw [ec] at q; exact PostX.later q s3
              | ok env4 k4 d4 =>
                rw [ec] at q
                intro F4 O4 H4 v4 s4 g4 o4
                obtain ⟨f4, r4, _⟩ := o4.rep g4
                simp only at q
                cases ha4 : atom d4 with
                | false => rw [ha4] at q; exact False.elim q
                | true =>
                  rw [ha4] at q
                  simp only [if_true] at q
                  obtain ⟨_, z4⟩ := Rep.atom ha4 r4
                  cases er4 : ap2 p d2 d4 with
                  | none => rw [er4] at q; exact False.elim q
                  | some r4 =>
                    rw [er4] at q
                    cases r4 with
                    | bool k4 => exact ⟨F4, 9, 9, d2, d4, [], [], .bool k4, z2 _ _ _, z4 _ _ _, sideOk_atom ha2, er4, Out.bool' fun H5 same5 => PostE.atom q ((s3.trans s4).same same5) (Good.same g4 same5) fun _ _ _ => .bl _ _⟩
                    | _ => exact False.elim q
          | _ => exact False.elim q
theorem orT_ok {a b : E} {σ : L2.St} {H : Hp} {Q : VK} (h : rE c xc W C (.orT a b) σ H Q) : tOrT c.K (rE c xc W C a) (rE c xc W C b) σ H Q := by
  obtain ⟨env, F, O, g, p⟩ := h
  unfold evE at p
  refine ⟨env, F, O, g, ?_⟩
  cases e : evE C a env with
  | bad => rw [e] at p; exact p
  | exc env1 y => rw [e] at p; exact p
  | ok env1 k1 d1 =>
    rw [e] at p
    intro F1 O1 H1 v fp s1 g1 t fr
    cases d1 with
    | list ds =>
      obtain ⟨p0, xs, rfl, hs, hl, _⟩ := rep_list (F' := F1) t.rep
      cases ds with
      | nil =>
        obtain rfl : xs = [] := List.length_eq_zero_iff.mp hl
        exact ⟨false, .inl ⟨[], sq_of hs, rfl⟩, env1, F1, O1, g1, PostE.later p s1⟩
      | cons d ds =>
        refine ⟨true, .inl ⟨xs, sq_of hs, ?_⟩, p F1 O1 H1 _ fp s1 g1 t fr⟩
        cases xs with
        | nil => cases hl
        | cons _ _ => rfl
    | _ => exact False.elim p
theorem gcst_ok {x : Str} {d : D} {v : V} {σ : L2.St} {H : Hp} {Q : VK} (h : rE c xc W C (.gcst x d) σ H Q) (r : ∀ (F' : Addr → Prop) (H' : Hp) (j : Nat), Rep c F' H' j v d []) : tC v σ H Q := by
  obtain ⟨env, F, O, g, p⟩ := h
  unfold evE at p
  cases ha : atom d with
  | true => rw [ha] at p; exact PostE.atom p Step.refl g r
  | false => rw [ha] at p; exact False.elim p
theorem fn_ok {x : Str} {f : Nat} {a : Addr} {σ : L2.St} {H : Hp} {Q : VK} (h : rE c xc W C (.fn x f) σ H Q) (hf : c.fa f = some a) : tC (.ref a) σ H Q := by
  obtain ⟨env, F, O, g, p⟩ := h
  unfold evE at p
  exact p F O H _ [] Step.refl g ⟨.fn 0 hf, List.nodup_nil, (fun a z => by cases z), fun a z => by cases z⟩ fun a z => by cases z
/-- a part of a slice -/
def tPt (x : E) : TO := match x with
  | .cst .none => tNoPart
  | x => tPart (rO c xc W C x)
def isNoneC : E → Bool
  | .cst .none => true
  | _ => false
theorem tPt_none {x : E} {σ : L2.St} {H : Hp} {Q : Option Int → Hp → Prop} (h : isNoneC x = true) (q : tPt (c := c) (xc := xc) (W := W) (C := C) x σ H Q) : tNoPart σ H Q := by
  unfold isNoneC at h
  split at h
  · exact q
  · cases h
theorem tPt_some {x : E} {σ : L2.St} {H : Hp} {Q : Option Int → Hp → Prop} (h : isNoneC x = false) (q : tPt (c := c) (xc := xc) (W := W) (C := C) x σ H Q) : tPart (rO c xc W C x) σ H Q := by
  unfold isNoneC at h
  split at h
  · cases h
  · rename_i hn
    unfold tPt at q
    split at q
    · exact absurd rfl (hn)
    · exact q
theorem tPt_of {x : E} {σ : L2.St} {F O : Addr → Prop} {H : Hp} {env : Env} {R : Option Int → Hp → Prop} (g : Good c F env σ H O)
    (p : match opd x env (evE C x env) with
      | .ok env' _ d => partOk x d = true ∧ ∀ F' O' H' o, Step F O H F' O' H' → Good c F' env' σ H' O' → partD d = some o → R o H'
      | .exc _ y => PostX c xc W σ F O H y
      | .bad => False) : tPt (c := c) (xc := xc) (W := W) (C := C) x σ H R := by
  cases hn : isNoneC x with
  | true =>
    unfold isNoneC at hn
    split at hn
    · simp only [opd, evE] at p
      exact p.2 F O H none Step.refl g rfl
    · cases hn
  | false =>
    have h2 : tPt (c := c) (xc := xc) (W := W) (C := C) x = tPart (rO c xc W C x) := by
      unfold isNoneC at hn
      split at hn
      · cases hn
      · rename_i hne
        unfold tPt
        split
        · exact absurd rfl hne
        · rfl
    rw [h2]
    refine rO_of (F := F) (O := O) (env := env) g ?_
    cases e : opd x env (evE C x env) with
    | bad => rw [e] at p; exact p
    | exc env1 y => rw [e] at p; exact p
    | ok env1 k1 d1 =>
      rw [e] at p
      intro F1 O1 H1 v1 s1 g1 o1
      obtain ⟨hp, p⟩ := p
      unfold partOk at hp
      split at hp
      · obtain ⟨fp, r, _⟩ := o1.rep g1
        cases r
        exact ⟨_, rfl, p F1 O1 H1 _ s1 g1 rfl⟩
      · split at hp
        · cases hn
        · cases hp
      · cases hp
theorem op3_ok {a b d : E} {σ : L2.St} {H : Hp} {Q : VK} (h : rE c xc W C (.op3 .slice a b d) σ H Q) : tSl (RSl c) (rO c xc W C a) (tPt (c := c) (xc := xc) (W := W) (C := C) b) (tPt (c := c) (xc := xc) (W := W) (C := C) d) σ H Q := by
  obtain ⟨env, F, O, g, p⟩ := h
  unfold evE at p
  refine rO_of (F := F) (O := O) (env := env) g ?_
  cases ea : opd a env (evE C a env) with
  | bad => rw [ea] at p; exact p
  | exc env1 y => rw [ea] at p; exact p
  | ok env1 k1 d1 =>
    rw [ea] at p
    intro F1 O1 H1 v1 s1 g1 o1
    refine tPt_of (F := F1) (O := O1) (env := env1) g1 ?_
    simp only at p
    cases eb : opd b env1 (evE C b env1) with
    | bad => rw [eb] at p; exact p
    | exc env2 y => rw [eb] at p; exact PostX.later p s1
    | ok env2 k2 d2 =>
      rw [eb] at p
      simp only at p
      have key : ∀ (hb : partOk b d2 = true) F2 O2 H2 lo, Step F1 O1 H1 F2 O2 H2 → Good c F2 env2 σ H2 O2 → partD d2 = some lo → tPt (c := c) (xc := xc) (W := W) (C := C) d σ H2 fun hi H3 => RSl c v1 lo hi H3 Q := by
        intro hb F2 O2 H2 lo s2 g2 elo
        refine tPt_of (F := F2) (O := O2) (env := env2) g2 ?_
        have s12 := s1.trans s2
        rw [if_pos hb] at p
        cases ec : opd d env2 (evE C d env2) with
        | bad => rw [ec] at p; exact p
        | exc env3 y => rw [ec] at p; exact PostX.later p s12
        | ok env3 k3 d3 =>
          rw [ec] at p
          simp only at p
          cases e3 : again a env3 k1 d1 with
          | none => rw [e3] at p; exact p.elim
          | some w =>
            obtain ⟨k1', d1'⟩ := w
            rw [e3] at p
            simp only at p
            cases hp : partOk d d3 with
            | false => rw [hp] at p; exact p.elim
            | true =>
              rw [hp] at p
              simp only [if_true] at p
              refine ⟨hp, fun F3 O3 H3 hi s3 g3 ehi => ?_⟩
              have st3 := s12.trans s3
              have o1' := opn_again o1 g1 (s2.trans s3) e3
              obtain ⟨fp1, r1, n1⟩ := o1'.rep g3
              cases er : sliceD d1' d2 d3 with
              | none =>
                simp only [ap3, er] at p
                exact p.elim
              | some r =>
                simp only [ap3, er] at p
                refine ⟨F3, k1', d1', fp1, r, d2, d3, r1, elo, ehi, er, fun v H' same mk => ?_⟩
                cases hr : Pv.atom r with
                | true =>
                  rw [hr] at p
                  obtain ⟨fq, rr, nd, nw⟩ := mk (fun a => F3 a ∨ a ∈ fp1) (fun a z => .inl z) (fun a z => .inr z)
                  obtain ⟨_, z⟩ := Rep.atom hr rr
                  exact PostE.atom p (st3.same same) (Good.same g3 same) z
                | false =>
                  rw [hr] at p
                  simp only [Bool.false_eq_true, if_false] at p
                  obtain ⟨F4, O4, g4, st4, m4, l4, ow4, ov4, sh4⟩ := opn_keep g3 st3 o1' r1 (shareOk (lv r) r)
                  have fin : ∃ fq, Rep c F4 H' (lv r) v r fq ∧ fq.Nodup ∧ ∀ x, x ∈ fq → H3 x = none := by
                    by_cases hG : shareOk (lv r) r = true
                    · obtain ⟨fq, rr, nd, nw⟩ := mk (fun x => F4 x ∨ x ∈ fp1) (fun x z => .inl (m4 x z)) (fun x z => .inr z)
                      exact ⟨fq, Rep.share hG rr, nd, nw⟩
                    · exact mk F4 m4 (sh4.resolve_left hG)
                  obtain ⟨fq, rr, nd, nw⟩ := fin
                  refine p F4 O4 H' v fq (st4.same same) (Good.same g4 same) ⟨rr, nd, fun x z y => ?_, fun x z y => g4.dom x y (nw x z)⟩ fun x z => .inr (st3.dom x (nw x z))
                  obtain ⟨u, q, _⟩ := g4.mt y
                  rw [nw x z] at q
                  cases q
      by_cases hb : partOk b d2 = true
      · exact ⟨hb, key hb⟩
      · rw [if_neg hb] at p
        exact p.elim
end
end Pv
end
section
set_option maxRecDepth 100000
set_option maxHeartbeats 4000000
/-! PvCall: arguments, calls. -/
namespace Pv
open PySem PySem.Spec PyProof.Rows L2
/-- arguments: what is not lent is held -/
structure ArgsA (c : Cn) (F O : Addr → Prop) (H : Hp) (l : Env) (vs : List V) (fp : List Addr) : Prop where
  rep : Slots c F H l (vs.map some) fp
  nd : fp.Nodup
  nO : ∀ a, a ∈ fp → ¬ O a
  nF : ∀ a, a ∈ fp → ¬ F a
def pk : E → Option Nat
  | .peek i => some i
  | _ => none
def peekAt : Es → Nat → Option Nat
  | .nil, _ => none
  | .cons e _, 0 => pk e
  | .cons _ r, p + 1 => peekAt r p
/-- what is lent is what the slot holds -/
def PeekV : Es → L2.St → List V → Prop
  | .cons e r, σ, v :: vs => (∀ i, pk e = some i → σ[i]? = some (some v)) ∧ PeekV r σ vs
  | .nil, _, [] => True
  | _, _, _ => False
theorem peek_at : ∀ {es : Es} {σ : L2.St} {vs : List V} {p i : Nat}, PeekV es σ vs → peekAt es p = some i → ∃ w, vs[p]? = some w ∧ σ[i]? = some (some w)
  | .nil, _, _, _, _, _, e => by simp [peekAt] at e
  | .cons _ _, _, [], _, _, h, _ => h.elim
  | .cons _ _, _, v :: _, 0, _, h, e => ⟨v, rfl, h.1 _ e⟩
  | .cons _ r, σ, _ :: vs, p + 1, i, h, e => by
    obtain ⟨w, h1, h2⟩ := peek_at (es := r) h.2 e
    exact ⟨w, by simpa using h1, h2⟩
section
variable (c : Cn) (xc : Xc) (W : WX) (C : Calls)
def PostA (σ : L2.St) (F O : Addr → Prop) (H : Hp) (es : Es) (Q : List V → Hp → Prop) : ResA → Prop
  | .ok env' l => ∀ F' O' H' vs fp, Step F O H F' O' H' → Good c F' env' σ H' O' → ArgsA c F' O' H' l vs fp → (∀ a, a ∈ fp → O a ∨ H a = none) → PeekV es σ vs → Q vs H'
  | .exc _ x => PostX c xc W σ F O H x
  | .bad => False
def rA (es : Es) : TA := fun σ H Q => ∃ env F O, Good c F env σ H O ∧ PostA c xc W σ F O H es Q (evA C es env)
/-- what a def gives its caller -/
def PostC (F O : Addr → Prop) (H : Hp) (vs : List V) (ou : Option Nat) (Q : VK) (E : XK) : CRes → Prop
  | .ok k d none => ∀ F' H' v fp, Step F O H F' NoO H' → (∀ a, F' a → H' a ≠ none) → Rep c F' H' k v d fp → fp.Nodup → (∀ a, a ∈ fp → ¬ F' a) → (∀ a, a ∈ fp → O a ∨ H a = none) → Q v H'
  | .ok k d (some (k2, d2)) => ∃ p w, ou = some p ∧ vs[p]? = some w ∧ ∀ F' H' v fp fq, Step F O H F' NoO H' → (∀ a, F' a → H' a ≠ none) → Rep c F' H' k v d fp → Rep c F' H' k2 w d2 fq → (fp ++ fq).Nodup → (∀ a, a ∈ fp ++ fq → ¬ F' a) → (∀ a, a ∈ fp ++ fq → O a ∨ H a = none) → Q v H'
  | .exc x => ∀ F' H' cls dct, Step F O H F' NoO H' → (∀ a, F' a → H' a ≠ none) → ExcAt c xc F' H' x cls dct → E cls dct H'
  | .bad => False
def spC (ou : Option Nat) (r : Env → CRes) : Sp := fun vs H Q E => ∃ F O l, Good c F l (vs.map some) H O ∧ PostC c xc F O H vs ou Q E (r l)
end
section
variable {c : Cn} {xc : Xc} {W : WX} {C : Calls}
theorem acons_ok {e : E} {r : Es} {σ : L2.St} {H : Hp} {Q : List V → Hp → Prop} (h : rA c xc W C (.cons e r) σ H Q) : tCons (rO c xc W C e) (rA c xc W C r) σ H Q := by
  have gen : (∀ i, e ≠ .peek i) → tCons (rE c xc W C e) (rA c xc W C r) σ H Q := fun hx => by
    obtain ⟨env, F, O, g, p⟩ := h
    have ee : evA C (.cons e r) env = (match evE C e env with
      | .ok env1 k d => (match evA C r env1 with
        | .ok env2 l => .ok env2 (some (lvl k d, d) :: l)
        | .exc e x => .exc e x
        | .bad => .bad)
      | .exc e x => .exc e x
      | .bad => .bad) := by
      cases e <;> first | exact absurd rfl (hx _) | rfl
    have pv : ∀ v vs, PeekV r σ vs → PeekV (.cons e r) σ (v :: vs) := fun v vs q => ⟨fun i z => by
      cases e <;> first | exact absurd rfl (hx _) | exact (by cases z), q⟩
    rw [ee] at p
    refine ⟨env, F, O, g, ?_⟩
    cases ea : evE C e env with
    | bad => rw [ea] at p; exact p
    | exc env1 y => rw [ea] at p; exact p
    | ok env1 k1 d1 =>
      rw [ea] at p
      intro F1 O1 H1 v1 fp1 s1 g1 t1 fr1
      refine ⟨env1, F1, O1, g1, ?_⟩
      simp only at p
      cases er : evA C r env1 with
      | bad => rw [er] at p; exact p
      | exc env2 y => rw [er] at p; exact PostX.later p s1
      | ok env2 l =>
        rw [er] at p
        intro F2 O2 H2 vs fp2 s2 g2 t2 fr2 hp
        have t1' := t1.step s2 g1
        have r1 : Rep c F2 H2 (lvl k1 d1) v1 d1 fp1 := by
          unfold lvl
          split
          · rename_i hd
            obtain ⟨e1, z⟩ := Rep.atom hd t1'.rep
            rw [e1]; exact z _ _ _
          · exact t1'.rep
        refine p F2 O2 H2 (v1 :: vs) (fp1 ++ fp2) (s1.trans s2) g2 ⟨.som r1 t2.rep, List.nodup_append.mpr ⟨t1'.nd, t2.nd, fun a z b y q => ?_⟩, fun a z => (List.mem_append.mp z).elim (t1'.nO a) (t2.nO a), fun a z => (List.mem_append.mp z).elim (t1'.nF a) (t2.nF a)⟩ (fun a z => ?_) (pv _ _ hp)
        · subst q
          rcases fr2 a y with w | w
          · exact t1.nO a z w
          · obtain ⟨u, q, _⟩ := Rep.mem t1.rep a z
            rw [q] at w; cases w
        · rcases List.mem_append.mp z with z | z
          · exact fr1 a z
          · rcases fr2 a z with w | w
            · exact s1.own a w
            · exact .inr (s1.dom a w)
  cases e with
  | peek i =>
    obtain ⟨env, F, O, g, p⟩ := h
    unfold evA at p
    cases ei : getS env i with
    | none => rw [ei] at p; exact p.elim
    | some w =>
      obtain ⟨k, d⟩ := w
      rw [ei] at p
      obtain ⟨v, fp, hv, _, _⟩ := g.get ei
      refine ⟨v, hv, env, F, O, g, ?_⟩
      simp only at p
      cases er : evA C r env with
      | bad => rw [er] at p; exact p
      | exc env2 y => rw [er] at p; exact p
      | ok env2 l =>
        rw [er] at p
        intro F2 O2 H2 vs fp2 s2 g2 t2 fr2 hp
        exact p F2 O2 H2 (v :: vs) fp2 s2 g2 ⟨.non (some v) t2.rep, t2.nd, t2.nO, t2.nF⟩ fr2 ⟨fun j z => by cases z; exact hv, hp⟩
  | _ => exact gen fun i e => by cases e
theorem anil_ok {σ : L2.St} {H : Hp} {Q : List V → Hp → Prop} (h : rA c xc W C .nil σ H Q) : tNil σ H Q := by
  obtain ⟨env, F, O, g, p⟩ := h
  unfold evA at p
  exact p F O H [] [] Step.refl g ⟨.nil, List.nodup_nil, (fun a z => by cases z), fun a z => by cases z⟩ (fun a z => by cases z) trivial
/-- arguments are slots of their own -/
theorem ArgsA.good {F O : Addr → Prop} {H : Hp} {env l : Env} {σ : L2.St} {vs : List V} {fp : List Addr} (t : ArgsA c F O H l vs fp) (g : Good c F env σ H O) : Good c F l (vs.map some) H (fun a => a ∈ fp) :=
  ⟨⟨fp, t.rep, t.nd, fun _ => Iff.rfl⟩, t.nF, g.dom⟩
/-- behind a call: the caller's step -/
theorem call_step {F O F1 O1 O0 Or F' : Addr → Prop} {H H1 H' : Hp} (s1 : Step F O H F1 O1 H1) (hr : ∀ a, Or a → O a ∨ H a = none)
    (h0 : ∀ a, O0 a → O a ∨ H a = none) (s2 : Step F1 O0 H1 F' NoO H') : Step F O H F' Or H' := by
  refine ⟨fun a z => s2.mono a (s1.mono a z), hr, fun a z => ?_, fun a o e n => ?_, fun a e => s1.dom a (s2.dom a e)⟩
  · rcases s2.frz a z with y | y | y
    · exact s1.frz a y
    · exact (h0 a y).elim (fun q => .inr (.inl q)) fun q => .inr (.inr q)
    · exact .inr (.inr (s1.dom a y))
  · refine s2.keep a o (s1.keep a o e n) fun z => ?_
    rcases h0 a z with y | y
    · exact n y
    · rw [e] at y; cases y
/-- .. its slots -/
theorem call_good {F1 O0 Or F' : Addr → Prop} {H1 H' : Hp} {env1 l : Env} {σ σ0 : L2.St} (g1 : Good c F1 env1 σ H1 Or) (hr : ∀ a, Or a → ¬ O0 a) (g0 : Good c F1 l σ0 H1 O0) (s2 : Step F1 O0 H1 F' NoO H') (dm : ∀ a, F' a → H' a ≠ none) : Good c F' env1 σ H' Or := by
  obtain ⟨l, sl, nd, e⟩ := g1.l
  refine ⟨⟨l, Slots.keep (fun a o q nm => s2.keep a o q fun z => ?_) (fun a o f q => s2.keep a o q fun z => g0.disj a z f) s2.mono (fun a o z q => s2.keep a o q (hr a ((e a).mp z))) sl, nd, e⟩, fun a z f => ?_, dm⟩
  · obtain ⟨o', e', m⟩ := g0.mt z
    rw [q] at e'; cases e'; exact nm m
  · rcases s2.frz a f with y | y | y
    · exact g1.disj a z y
    · exact hr a z y
    · obtain ⟨o, q, _⟩ := g1.mt z
      rw [q] at y; cases y
theorem call_ok {f : Nat} {es : Es} {io : Option (Nat × Nat)} {ou : Option Nat} {σ : L2.St} {H : Hp} {Q : VK} (hio : ∀ p i, io = some (p, i) → ou = some p ∧ peekAt es p = some i)
    (h : rE c xc W C (.call f es io) σ H Q) : tCallSD (spC c xc ou (C f)) [] (WE W) (rA c xc W C es) σ H Q := by
  obtain ⟨env, F, O, g, p⟩ := h
  unfold evE at p
  refine ⟨env, F, O, g, ?_⟩
  cases ea : evA C es env with
  | bad => rw [ea] at p; exact p
  | exc env1 y => rw [ea] at p; exact p
  | ok env1 l =>
    rw [ea] at p
    intro F1 O1 H1 vs fp s1 g1 t fr pv
    rw [List.append_nil]
    simp only at p
    cases io with
    | none =>
      simp only [insIo] at p
      have g0 := t.good g1
      refine ⟨F1, _, l, g0, ?_⟩
      cases ec : C f l with
      | bad => rw [ec] at p; exact p
      | exc x =>
        rw [ec] at p
        exact fun F' H' cls dct s2 dm ex => p F' H' cls dct σ (call_step s1 (fun a z => z.elim) fr s2) dm rfl ex
      | ok k d out =>
        rw [ec] at p
        cases out with
        | some w => exact False.elim p
        | none =>
          intro F' H' v fp' s2 dm r nd nF fr2
          have hr : ∀ a, O1 a → ¬ a ∈ fp := fun a z y => t.nO a y z
          refine p F' O1 H' v fp' (call_step s1 s1.own fr s2) (call_good g1 hr g0 s2 dm) ⟨r, nd, fun a z y => ?_, nF⟩ fun a z => ?_
          · rcases fr2 a z with q | q
            · exact hr a y q
            · obtain ⟨u, e, _⟩ := g1.mt y
              rw [q] at e; cases e
          · rcases fr2 a z with q | q
            · exact fr a q
            · exact .inr (s1.dom a q)
    | some w0 =>
      obtain ⟨p0, i⟩ := w0
      obtain ⟨hou, hpk⟩ := hio p0 i rfl
      cases ei : getS env1 i with
      | none => simp only [insIo, ei] at p; exact p.elim
      | some kd =>
        obtain ⟨ks, dsl⟩ := kd
        simp only [insIo, ei] at p
        obtain ⟨w, hw, hσ⟩ := peek_at pv hpk
        obtain ⟨v0, fpS, O1r, hv, gr, tS, eq⟩ := g1.out ei
        rw [hσ] at hv
        cases hv
        have hl : vs.length = l.length := by
          have := t.rep.len
          simpa using this
        have hw' : (vs.map some)[p0]? = some (some w) := by simp [hw]
        have gA := t.good g1
        have tA : Tmp c F1 (fun a => a ∈ fp) H1 ks w dsl fpS := ⟨tS.rep, tS.nd, fun a z y => t.nO a y ((eq a).mpr (.inl z)), tS.nF⟩
        obtain ⟨O0, g0, h0⟩ := gA.store (i := p0) (by rw [← hl]; exact (List.getElem?_eq_some_iff.mp hw).1) tA
        rw [set_same hw'] at g0
        have fr0 : ∀ a, O0 a → O a ∨ H a = none := fun a z => by
          rcases h0 a z with y | y
          · exact fr a y
          · exact s1.own a ((eq a).mpr (.inl y))
        have hr : ∀ a, O1r a → ¬ O0 a := fun a z y => by
          rcases h0 a y with q | q
          · exact t.nO a q ((eq a).mpr (.inr z))
          · exact tS.nO a q z
        refine ⟨F1, O0, _, g0, ?_⟩
        cases ec : C f (putS l p0 (some (ks, dsl))) with
        | bad => rw [ec] at p; exact p
        | exc x => rw [ec] at p; exact False.elim p
        | ok k d out =>
          rw [ec] at p
          cases out with
          | none => exact False.elim p
          | some w2 =>
            obtain ⟨k2, d2⟩ := w2
            refine ⟨p0, w, hou, hw, fun F' H' v fp' fq s2 dm r rq nd nF fr2 => ?_⟩
            obtain ⟨n1, n2, n3⟩ := List.nodup_append.mp nd
            have fO : ∀ a, a ∈ fp' ++ fq → ¬ O1r a := fun a z y => by
              rcases fr2 a z with q | q
              · exact hr a y q
              · obtain ⟨u, e, _⟩ := gr.mt y
                rw [q] at e; cases e
            have fr3 : ∀ a, a ∈ fp' ++ fq → O a ∨ H a = none := fun a z => by
              rcases fr2 a z with q | q
              · exact fr0 a q
              · exact .inr (s1.dom a q)
            have gb := call_good gr hr g0 s2 dm
            have gc := gb.into getS_put_none hσ ⟨rq, n2, fun a z => fO a (List.mem_append_right _ z), fun a z => nF a (List.mem_append_right _ z)⟩
            refine p F' _ H' v fp' (call_step s1 (fun a z => ?_) fr0 s2) gc ⟨r, n1, fun a z y => ?_, fun a z => nF a (List.mem_append_left _ z)⟩ fun a z => fr3 a (List.mem_append_left _ z)
            · rcases z with z | z
              · exact fr3 a (List.mem_append_right _ z)
              · exact s1.own a ((eq a).mpr (.inr z))
            · rcases y with y | y
              · exact n3 a z a y rfl
              · exact fO a (List.mem_append_left _ z) y
/-- a value that is a def, called -/
def tCallF (Sg : Nat → Sp) (E : L2.St → XK) (tf : TE) (t : TA) (fa : Nat → Option Addr) : TE := fun σ H Q => tf σ H fun v H0 => ∃ f a, v = .ref a ∧ fa f = some a ∧ t σ H0 fun vs H1 => Sg f vs H1 Q (E σ)
theorem callV_ok {e : E} {es : Es} {ou : Nat → Option Nat} {σ : L2.St} {H : Hp} {Q : VK} (h : rE c xc W C (.callV e es) σ H Q) : tCallF (fun f => spC c xc (ou f) (C f)) (WE W) (rE c xc W C e) (rA c xc W C es) c.fa σ H Q := by
  obtain ⟨env, F, O, g, p⟩ := h
  unfold evE at p
  refine ⟨env, F, O, g, ?_⟩
  cases e0 : evE C e env with
  | bad => rw [e0] at p; exact p
  | exc env1 y => rw [e0] at p; exact p
  | ok env1 k0 d0 =>
    rw [e0] at p
    intro F0 O0 H0 v0 fp0 s0 g0 t0 fr0
    split at p
    · rename_i f heq
      cases heq
      have hv : ∃ a, v0 = .ref a ∧ c.fa f = some a := by
        have r := t0.rep
        cases r with
        | dkfz _ _ e _ => exact (fnD_key e).elim
        | dkown _ e _ => exact (fnD_key e).elim
        | dtfz _ _ _ e _ => exact (fnD_keyT e).elim
        | dtown _ _ e _ => exact (fnD_keyT e).elim
        | fn _ h => exact ⟨_, rfl, h⟩
      obtain ⟨a, rfl, hf⟩ := hv
      refine ⟨f, a, rfl, hf, env1, F0, O0, g0, ?_⟩
      cases ea : evA C es env1 with
      | bad => rw [ea] at p; exact p
      | exc env1 y => rw [ea] at p; exact PostX.later p s0
      | ok env1 l =>
        rw [ea] at p
        intro F1 O1 H1 vs fp s1' g1 t fr' pv
        have s1 := s0.trans s1'
        have fr : ∀ a, a ∈ fp → O a ∨ H a = none := fun a z => (fr' a z).elim (s0.own a) fun q => .inr (s0.dom a q)
        simp only at p
        have g0 := t.good g1
        refine ⟨F1, _, l, g0, ?_⟩
        cases ec : C f l with
        | bad => rw [ec] at p; exact p
        | exc x =>
          rw [ec] at p
          exact fun F' H' cls dct s2 dm ex => p F' H' cls dct σ (call_step s1 (fun a z => z.elim) fr s2) dm rfl ex
        | ok k d out =>
          rw [ec] at p
          cases out with
          | some w => exact False.elim p
          | none =>
            intro F' H' v fp' s2 dm r nd nF fr2
            have hr : ∀ a, O1 a → ¬ a ∈ fp := fun a z y => t.nO a y z
            refine p F' O1 H' v fp' (call_step s1 s1.own fr s2) (call_good g1 hr g0 s2 dm) ⟨r, nd, fun a z y => ?_, nF⟩ fun a z => ?_
            · rcases fr2 a z with q | q
              · exact hr a y q
              · obtain ⟨u, e, _⟩ := g1.mt y
                rw [q] at e; cases e
            · rcases fr2 a z with q | q
              · exact fr a q
              · exact .inr (s1.dom a q)
    all_goals first | exact False.elim p | (exfalso; rename_i hq; cases hq)
end
end Pv
end
section
set_option maxRecDepth 100000
set_option maxHeartbeats 1000000
/-! PvZip: zip of several rows, lists and tuples in any order. -/
namespace Pv
open PySem
open PySem.Sem (wp)
abbrev ZTup (h : Heap) (T : Addr) (xs : List Value) : Prop := h.get? T = some { cls := .type "tuple", data := .seq xs.toArray }
/-- an iterator at it, of the tuple (t) or the list at l -/
structure Zi where
  t : Bool
  it : Addr
  l : Addr
  rows : Array Value
def IterK (h : Heap) (z : Zi) (i : Nat) : Prop := (z.t = true ∧ h.IsTupleIter z.it z.l i) ∨ (z.t = false ∧ h.IsListIter z.it z.l i)
def RowK (h : Heap) (z : Zi) : Prop := (z.t = true ∧ h.IsTuple z.l z.rows) ∨ (z.t = false ∧ h.IsList z.l z.rows)
theorem IterK.at {h h' : Heap} {z : Zi} {i : Nat} (x : IterK h z i) (k : ∀ o, h.get? z.it = some o → h'.get? z.it = some o) : IterK h' z i := x.imp (fun y => ⟨y.1, y.2.at k⟩) fun y => ⟨y.1, y.2.at k⟩
theorem RowK.at {h h' : Heap} {z : Zi} (x : RowK h z) (k : ∀ o, h.get? z.l = some o → h'.get? z.l = some o) : RowK h' z := x.imp (fun y => ⟨y.1, y.2.at k⟩) fun y => ⟨y.1, y.2.at k⟩
theorem IterK.obj {h : Heap} {z : Zi} {i : Nat} (x : IterK h z i) : ∃ o, h.get? z.it = some o ∧ ∀ v, o.data ≠ .cell v := by
  rcases x with ⟨_, o, e, _, d⟩ | ⟨_, o, e, _, d⟩ <;> exact ⟨o, e, fun v q => by rw [d] at q; cases q⟩
theorem RowK.lt {h : Heap} {z : Zi} (x : RowK h z) : z.l < h.objs.size := by
  rcases x with ⟨_, o, e, _⟩ | ⟨_, o, e, _⟩ <;> exact Heap.lt_size e
def putAt (arr : List Value) : Nat → List Value → List Value
  | _, [] => arr
  | k, x :: r => putAt (arr.set k x) (k + 1) r
theorem putAt_all : ∀ (xs pre arr : List Value), arr.length = xs.length → putAt (pre ++ arr) pre.length xs = pre ++ xs
  | [], pre, arr, h => by
    obtain rfl : arr = [] := List.eq_nil_of_length_eq_zero h
    rfl
  | x :: xs, pre, arr, h => by
    cases arr with
    | nil => cases h
    | cons a arr =>
      have e : (pre ++ a :: arr).set pre.length x = (pre ++ [x]) ++ arr := by simp
      have q := putAt_all xs (pre ++ [x]) arr (by simpa using h)
      simp only [List.length_append, List.length_cons, List.length_nil] at q
      show putAt ((pre ++ a :: arr).set pre.length x) (pre.length + 1) xs = _
      rw [e, q, List.append_assoc]
      rfl
section
variable {prog : Program} {w : World} {A : Around} {E : Value → Shared → Prop} {s : Shared}
theorem nextK_item {z : Zi} {i : Nat} {x : Value} {Q : Value → Shared → Prop} (hi : IterK s.heap z i) (hr : RowK s.heap z) (hx : z.rows[i]? = some x) (q : ∀ h', IterK h' z (i + 1) → Heap.SameBut z.it s.heap h' → Q x { s with heap := h' }) :
    wpAny (model prog w) A (Builtin.SmallTypes.nextOf (.ref z.it)) Q E s := by
  rcases hi with ⟨t, hi⟩ | ⟨t, hi⟩
  · rcases hr with ⟨_, hr⟩ | ⟨t', _⟩
    · exact RZ.nextOf_tuple_item hi hr hx fun h' a b => q h' (.inl ⟨t, a⟩) b
    · rw [t] at t'; cases t'
  · rcases hr with ⟨t', _⟩ | ⟨_, hr⟩
    · rw [t] at t'; cases t'
    · exact wpAny_nextOf_list_item hi hr hx fun h' a b => q h' (.inr ⟨t, a⟩) b
theorem nextK_end {z : Zi} {i : Nat} {Q : Value → Shared → Prop} (hh : A.handled = none) (hi : IterK s.heap z i) (hr : RowK s.heap z) (hx : z.rows[i]? = none) (q : ∀ h' e, Heap.ExtBut z.it s.heap h' → (∃ o, h'.get? e = some o ∧ o.cls = .type "StopIteration") → E (.ref e) { s with heap := h' }) :
    wpAny (model prog w) A (Builtin.SmallTypes.nextOf (.ref z.it)) Q E s := by
  rcases hi with ⟨t, hi⟩ | ⟨t, hi⟩
  · rcases hr with ⟨_, hr⟩ | ⟨t', _⟩
    · exact RZ.nextOf_tuple_end hh hi hr hx q
    · rw [t] at t'; cases t'
  · rcases hr with ⟨t', _⟩ | ⟨_, hr⟩
    · rw [t] at t'; cases t'
    · exact wpAny_nextOf_list_end hh hi hr hx q
theorem updTup {T : Addr} {arr : List Value} {x : Value} {k : Nat} {Q : Unit → Shared → Prop} (ha : arr.length ≤ 100) (hT : ZTup s.heap T arr) (q : ∀ h', ZTup h' T (arr.set k x) → Heap.SameBut T s.heap h' → Q () { s with heap := h' }) :
    wpAny (model prog w) A (updateSeq T (·.setIfInBounds k x)) Q E s := by
  have hz : arr.length ≤ sizeLine := Nat.le_trans ha (by decide)
  refine wpAny_updateSeq (hz := by simpa using hz) (_hz' := by simpa using Nat.le_succ_of_le hz) hT rfl (q _ ?_ (Heap.SameBut.update ..))
  have e : (s.heap.update T (Obj.mapSeq fun a => a.setIfInBounds k x)).get? T = _ := Heap.get?_update_self _ hT rfl
  show Heap.get? _ T = _
  rw [e]
  simp [Obj.mapSeq]
abbrev Bd := Value × Nat → Option Fin × Unit → Sem (ForInStep (Option Fin × Unit))
/-- a draw of one row -/
def StepI (prog : Program) (w : World) (A : Around) (E : Value → Shared → Prop) (TO : Addr) (b : Bd) : Prop := ∀ (s : Shared) (d : Zi) (k : Nat) (arr : List Value) (i : Nat) (x : Value) (R : ForInStep (Option Fin × Unit) → Shared → Prop),
  arr.length ≤ 100 → ZTup s.heap TO arr → IterK s.heap d i → RowK s.heap d → d.rows[i]? = some x → d.it ≠ TO →
  (∀ h', ZTup h' TO (arr.set k x) → IterK h' d (i + 1) → h'.objs.size = s.heap.objs.size → (∀ c o, c ≠ TO → c ≠ d.it → s.heap.get? c = some o → h'.get? c = some o) → R (.yield (none, ())) { s with heap := h' }) → wpAny (model prog w) A (b (.ref d.it, k) (none, ())) R E s
def StepE (prog : Program) (w : World) (A : Around) (E : Value → Shared → Prop) (z TI TO : Addr) (b : Bd) : Prop := ∀ (s : Shared) (d : Zi) (k : Nat) (i : Nat) (R : ForInStep (Option Fin × Unit) → Shared → Prop),
  IsZip s.heap z TI TO .ellipsis → IterK s.heap d i → RowK s.heap d → d.rows[i]? = none → d.it ≠ z →
  (∀ h' e, (∀ c o, c ≠ z → c ≠ d.it → s.heap.get? c = some o → h'.get? c = some o) → (∃ o, h'.get? e = some o ∧ o.cls = .type "StopIteration") → E (.ref e) { s with heap := h' }) → wpAny (model prog w) A (b (.ref d.it, k) (none, ())) R E s
theorem zgo {TO : Addr} {b : Bd} (st : StepI prog w A E TO b) {i : Nat} : ∀ (zs : List Zi) (xs : List Value) (k : Nat) (arr : List Value) (s : Shared) (Q : Option Fin × Unit → Shared → Prop), arr.length ≤ 100 → ZTup s.heap TO arr → (∀ d, d ∈ zs → IterK s.heap d i ∧ RowK s.heap d ∧ d.it ≠ TO ∧ d.l ≠ TO ∧ ∀ e, e ∈ zs → d.l ≠ e.it) →
    (zs.map (·.it)).Nodup → zs.map (fun d => d.rows[i]?) = xs.map some → (∀ h', ZTup h' TO (putAt arr k xs) → (∀ d, d ∈ zs → IterK h' d (i + 1)) → h'.objs.size = s.heap.objs.size → (∀ c o, c ≠ TO → (∀ d, d ∈ zs → c ≠ d.it) → s.heap.get? c = some o → h'.get? c = some o) → Q (none, ()) { s with heap := h' }) →
    wpAny (model prog w) A (forIn ((zs.map fun d => Value.ref d.it).zipIdx k) (none, ()) b) Q E s
  | [], xs, k, arr, s, Q, ha, hT, _, _, he, q => by
    obtain rfl : xs = [] := by simpa using he
    rw [List.map_nil, List.zipIdx_nil, List.forIn_nil]
    exact wpAny_pure (q s.heap hT (fun d z => by cases z) rfl fun c o _ _ e => e)
  | d :: zs, xs, k, arr, s, Q, ha, hT, hd, nd, he, q => by
    cases xs with
    | nil => simp at he
    | cons x xs =>
      simp only [List.map_cons, List.cons.injEq] at he
      obtain ⟨e1, e2⟩ := he
      rw [List.map_cons] at nd
      obtain ⟨n1, n2⟩ := List.nodup_cons.mp nd
      obtain ⟨a1, a2, a3, a4, a5⟩ := hd d List.mem_cons_self
      rw [List.map_cons, List.zipIdx_cons, List.forIn_cons]
      refine wpAny_bind (st s d k arr i x _ ha hT a1 a2 e1 a3 fun h1 t1 i1 z1 k1 => ?_)
      have ne : ∀ e, e ∈ zs → e.it ≠ d.it := fun e he z => n1 (z ▸ List.mem_map_of_mem he)
      refine zgo st zs xs (k + 1) (arr.set k x) { s with heap := h1 } Q (by simpa using ha) t1 (fun e he => ?_) n2 e2 fun h' t' i' z' k' => ?_
      · obtain ⟨b1, b2, b3, b4, b5⟩ := hd e (List.mem_cons_of_mem _ he)
        exact ⟨b1.at fun o y => k1 _ o b3 (ne e he) y, b2.at fun o y => k1 _ o b4 (b5 d List.mem_cons_self) y, b3, b4, fun f hf => b5 f (List.mem_cons_of_mem _ hf)⟩
      · refine q h' t' (fun e he => ?_) (z'.trans z1) fun c o c1 c2 y => k' c o c1 (fun e he => c2 e (List.mem_cons_of_mem _ he)) (k1 c o c1 (c2 d List.mem_cons_self) y)
        rcases List.mem_cons.mp he with rfl | he
        · exact i1.at fun o y => k' _ o a3 (fun f hf z => ne f hf z.symm) y
        · exact i' e he
theorem zgoE {z TI TO : Addr} {b : Bd} (st : StepI prog w A E TO b) (se : StepE prog w A E z TI TO b) (zTO : z ≠ TO) {i : Nat} : ∀ (zs : List Zi) (k : Nat) (arr : List Value) (s : Shared) (Q : Option Fin × Unit → Shared → Prop), arr.length ≤ 100 → IsZip s.heap z TI TO .ellipsis → ZTup s.heap TO arr → (∀ d, d ∈ zs → IterK s.heap d i ∧ RowK s.heap d ∧ d.it ≠ TO ∧ d.l ≠ TO ∧ d.it ≠ z ∧ ∀ e, e ∈ zs → d.l ≠ e.it) →
    (zs.map (·.it)).Nodup → (∃ d, d ∈ zs ∧ d.rows[i]? = none) → (∀ h' e, (∀ c o, c ≠ z → c ≠ TO → (∀ d, d ∈ zs → c ≠ d.it) → s.heap.get? c = some o → h'.get? c = some o) → (∃ o, h'.get? e = some o ∧ o.cls = .type "StopIteration") → E (.ref e) { s with heap := h' }) →
    wpAny (model prog w) A (forIn ((zs.map fun d => Value.ref d.it).zipIdx k) (none, ()) b) Q E s
  | [], k, arr, s, Q, _, _, _, _, _, ⟨d, hd, _⟩, q => by cases hd
  | d :: zs, k, arr, s, Q, ha, hz, hT, hd, nd, hn, q => by
    rw [List.map_cons] at nd
    obtain ⟨n1, n2⟩ := List.nodup_cons.mp nd
    obtain ⟨a1, a2, a3, a4, a6, a5⟩ := hd d List.mem_cons_self
    rw [List.map_cons, List.zipIdx_cons, List.forIn_cons]
    cases hx : d.rows[i]? with
    | none => exact wpAny_bind (se s d k i _ hz a1 a2 hx a6 fun h' e kk he => q h' e (fun c o c1 _ c3 y => kk c o c1 (c3 d List.mem_cons_self) y) he)
    | some x =>
      refine wpAny_bind (st s d k arr i x _ ha hT a1 a2 hx a3 fun h1 t1 i1 z1 k1 => ?_)
      have ne : ∀ e, e ∈ zs → e.it ≠ d.it := fun e he z => n1 (z ▸ List.mem_map_of_mem he)
      refine zgoE st se zTO (i := i) zs (k + 1) (arr.set k x) { s with heap := h1 } Q (by simpa using ha) (k1 _ _ zTO a6.symm hz) t1 (fun e he => ?_) n2 ?_ fun h' e kk he => q h' e (fun c o c1 c2 c3 y => kk c o c1 c2 (fun f hf => c3 f (List.mem_cons_of_mem _ hf)) (k1 c o c2 (c3 d List.mem_cons_self) y)) he
      · obtain ⟨b1, b2, b3, b4, b6, b5⟩ := hd e (List.mem_cons_of_mem _ he)
        exact ⟨b1.at fun o y => k1 _ o b3 (ne e he) y, b2.at fun o y => k1 _ o b4 (b5 d List.mem_cons_self) y, b3, b4, b6, fun f hf => b5 f (List.mem_cons_of_mem _ hf)⟩
      · obtain ⟨e, he, hn⟩ := hn
        rcases List.mem_cons.mp he with rfl | he
        · rw [hx] at hn; cases hn
        · exact ⟨e, he, hn⟩
/-- all apart -/
structure Ap (z TI TO : Addr) (zs : List Zi) : Prop where
  nd : (zs.map (·.it)).Nodup
  TIz : TI ≠ z
  TOz : TO ≠ z
  TITO : TI ≠ TO
  its : ∀ d, d ∈ zs → d.it ≠ z ∧ d.it ≠ TI ∧ d.it ≠ TO
  ls : ∀ d, d ∈ zs → d.l ≠ z ∧ d.l ≠ TO ∧ ∀ e, e ∈ zs → d.l ≠ e.it
abbrev itsV (zs : List Zi) : List Value := zs.map fun d => .ref d.it
theorem zipn_item {z TI TO : Addr} {zs : List Zi} {xs arr : List Value} {i : Nat} {Q : Value → Shared → Prop} (D : Ap z TI TO zs) (hne : zs ≠ []) (hz : IsZip s.heap z TI TO .none) (hTI : ZTup s.heap TI (itsV zs)) (hTO : ZTup s.heap TO arr) (hal : arr.length = xs.length) (hx100 : xs.length ≤ 100)
    (hi : ∀ d, d ∈ zs → IterK s.heap d i ∧ RowK s.heap d) (hx : zs.map (fun d => d.rows[i]?) = xs.map some)
    (q : ∀ h', IsZip h' z TI TO (rawInt s.heap.objs.size) → ZTup h' TO xs → (∀ d, d ∈ zs → IterK h' d (i + 1)) → ZTup h' s.heap.objs.size xs → h'.objs.size = s.heap.objs.size + 1 → (∀ c o, c ≠ z → c ≠ TO → (∀ d, d ∈ zs → c ≠ d.it) → s.heap.get? c = some o → h'.get? c = some o) → Q (.ref s.heap.objs.size) { s with heap := h' }) :
    wpAny (model prog w) A (Builtin.«zip.__next__» ⟨[.ref z], []⟩) (fun fin s' => ∃ v, fin = .done (.ret v) ∧ Q v s') E s := by
  show wpAny _ _ (field (.ref z) 2 >>= _) _ _ _
  refine wpAny_bind (wpAny_field hz rfl (x := .bool false) rfl ?_)
  show wpAny _ _ (field (.ref z) 3 >>= _) _ _ _
  refine wpAny_bind (wpAny_field hz rfl (x := .ref TI) rfl ?_)
  refine wpAny_bind (wpAny_seqItems hTI rfl ?_)
  show wpAny _ _ (if (itsV zs).toArray.isEmpty = true then _ else _) _ _ _
  rw [if_neg (by simpa using hne)]
  refine wpAny_bind ?_
  unfold Builtin.SmallTypes.ownedTupleIsFree
  refine wpAny_bind (wpAny_field hz rfl (x := .none) rfl (wpAny_pure ?_))
  simp only [if_true]
  refine wpAny_bind (wpAny_rule ?_)
  refine wpAny_bind (wpAny_field hz rfl (x := .ref TO) rfl ?_)
  refine wpAny_bind (wpAny_setField_rec hz (by simp) fun h1 hz1 hs1 => ?_)
  replace hz1 : IsZip h1 z TI TO .ellipsis := hz1
  refine wpAny_bind (zgo ?st zs xs 0 arr _ _ (by omega) (hs1.extBut _ _ D.TOz hTO) (fun d hd => ?_) D.nd hx fun h2 t2 i2 z2 k2 => ?_)
  case st =>
    intro s d k arr i x R ha hT hi hr hx ne q
    refine wpAny_bind (wpAny_onRaise ?_)
    show wpAny _ _ (Builtin.SmallTypes.nextOf (.ref d.it) >>= _) _ _ _
    refine wpAny_bind (nextK_item hi hr hx fun h2 i2 s2 => wpAny_pure ?_)
    have hT2 : ZTup h2 TO arr := s2.extBut _ _ ne.symm hT
    refine wpAny_bind (wpAny_seqItems hT2 rfl ?_)
    refine wpAny_bind (updTup ha hT2 fun h3 t3 s3 => ?_)
    refine wpAny_bind (wpAny_letGo (wpAny_pure (q h3 t3 (i2.at fun o y => s3.extBut _ _ ne y) (by rw [s3.1, s2.1]) fun c o c1 c2 y => s3.extBut _ _ c1 (s2.extBut _ _ c2 y))))
  · obtain ⟨a1, a2, a3⟩ := D.its d hd
    obtain ⟨b1, b2, b3⟩ := D.ls d hd
    exact ⟨(hi d hd).1.at fun o y => hs1.extBut _ _ a1 y, (hi d hd).2.at fun o y => hs1.extBut _ _ b1 y, a3, b2, b3⟩
  · have e2 : putAt arr 0 xs = xs := by
      have := putAt_all xs [] arr hal
      simpa using this
    rw [e2] at t2
    refine wpAny_bind (wpAny_seqItems t2 rfl ?_)
    refine wpAny_bind (wpAny_newTuple (hsz := by simpa using Nat.le_trans hx100 (by decide)) ?_)
    have hsz : h2.objs.size = s.heap.objs.size := z2.trans hs1.1
    have hz2 : IsZip h2 z TI TO .ellipsis := k2 _ _ D.TOz.symm (fun d hd => (D.its d hd).1.symm) hz1
    show wpAny _ _ (Builtin.SmallTypes.ownedTupleHandOut (.ref z) (.ref h2.objs.size) >>= _) _ _ _
    refine wpAny_bind ?_
    unfold Builtin.SmallTypes.ownedTupleHandOut
    have hz3 : IsZip (h2.push { cls := .type "tuple", data := .seq xs.toArray }) z TI TO .ellipsis := Heap.get?_push_of_some _ hz2
    refine wpAny_bind (wpAny_setField_rec hz3 (by simp) fun h4 hz4 hs4 => ?_)
    replace hz4 : IsZip h4 z TI TO (rawInt h2.objs.size) := hz4
    refine wpAny_setField_rec hz4 (by simp) fun h5 hz5 hs5 => ?_
    replace hz5 : IsZip h5 z TI TO (rawInt h2.objs.size) := hz5
    have up : ∀ c o, c ≠ z → h2.get? c = some o → h5.get? c = some o := fun c o c1 e => hs5.extBut _ _ c1 (hs4.extBut _ _ c1 (Heap.get?_push_of_some _ e))
    have zlt : z < h2.objs.size := Heap.lt_size hz2
    have hT5 : ZTup h5 h2.objs.size xs := hs5.extBut _ _ (Nat.ne_of_gt zlt) (hs4.extBut _ _ (Nat.ne_of_gt zlt) (Heap.get?_push_size _ rfl))
    have sz5 : h5.objs.size = h2.objs.size + 1 := by rw [hs5.1, hs4.1, Heap.size_push]
    rw [hsz] at hz5 hT5 sz5
    refine wpAny_pure ⟨_, rfl, ?_⟩
    show Q (.ref h2.objs.size) _
    rw [hsz]
    exact q h5 hz5 (up _ _ D.TOz t2) (fun d hd => (i2 d hd).at fun o y => up _ o (D.its d hd).1 y) hT5 sz5 fun c o c1 c2 c3 y => up c o c1 (k2 c o c2 c3 (hs1.extBut _ _ c1 y))
theorem zipn_end {z TI TO : Addr} {zs : List Zi} {arr : List Value} {i : Nat} {Q : Fin → Shared → Prop} (hh : A.handled = none) (D : Ap z TI TO zs) (ha : arr.length ≤ 100) (hz : IsZip s.heap z TI TO .none) (hTI : ZTup s.heap TI (itsV zs)) (hTO : ZTup s.heap TO arr)
    (hi : ∀ d, d ∈ zs → IterK s.heap d i ∧ RowK s.heap d) (hx : ∃ d, d ∈ zs ∧ d.rows[i]? = none)
    (q : ∀ h' e, (∀ c o, c ≠ z → c ≠ TO → (∀ d, d ∈ zs → c ≠ d.it) → s.heap.get? c = some o → h'.get? c = some o) → (∃ o, h'.get? e = some o ∧ o.cls = .type "StopIteration") → E (.ref e) { s with heap := h' }) :
    wpAny (model prog w) A (Builtin.«zip.__next__» ⟨[.ref z], []⟩) Q E s := by
  show wpAny _ _ (field (.ref z) 2 >>= _) _ _ _
  refine wpAny_bind (wpAny_field hz rfl (x := .bool false) rfl ?_)
  show wpAny _ _ (field (.ref z) 3 >>= _) _ _ _
  refine wpAny_bind (wpAny_field hz rfl (x := .ref TI) rfl ?_)
  refine wpAny_bind (wpAny_seqItems hTI rfl ?_)
  show wpAny _ _ (if (itsV zs).toArray.isEmpty = true then _ else _) _ _ _
  rw [if_neg (by
    obtain ⟨d, hd, _⟩ := hx
    cases zs with
    | nil => cases hd
    | cons _ _ => simp)]
  refine wpAny_bind ?_
  unfold Builtin.SmallTypes.ownedTupleIsFree
  refine wpAny_bind (wpAny_field hz rfl (x := .none) rfl (wpAny_pure ?_))
  simp only [if_true]
  refine wpAny_bind (wpAny_rule ?_)
  refine wpAny_bind (wpAny_field hz rfl (x := .ref TO) rfl ?_)
  refine wpAny_bind (wpAny_setField_rec hz (by simp) fun h1 hz1 hs1 => ?_)
  replace hz1 : IsZip h1 z TI TO .ellipsis := hz1
  refine wpAny_bind (zgoE (z := z) (TI := TI) ?st ?se D.TOz.symm zs 0 arr _ _ ha hz1 (hs1.extBut _ _ D.TOz hTO) (fun d hd => ?_) D.nd hx fun h' e kk he => q h' e (fun c o c1 c2 c3 y => kk c o c1 c2 c3 (hs1.extBut _ _ c1 y)) he)
  case st =>
    intro s d k arr i x R ha hT hi hr hx ne q
    refine wpAny_bind (wpAny_onRaise ?_)
    show wpAny _ _ (Builtin.SmallTypes.nextOf (.ref d.it) >>= _) _ _ _
    refine wpAny_bind (nextK_item hi hr hx fun h2 i2 s2 => wpAny_pure ?_)
    have hT2 : ZTup h2 TO arr := s2.extBut _ _ ne.symm hT
    refine wpAny_bind (wpAny_seqItems hT2 rfl ?_)
    refine wpAny_bind (updTup ha hT2 fun h3 t3 s3 => ?_)
    refine wpAny_bind (wpAny_letGo (wpAny_pure (q h3 t3 (i2.at fun o y => s3.extBut _ _ ne y) (by rw [s3.1, s2.1]) fun c o c1 c2 y => s3.extBut _ _ c1 (s2.extBut _ _ c2 y))))
  case se =>
    intro s d k i R hz hi hr hx ne q
    refine wpAny_bind (wpAny_onRaise ?_)
    show wpAny _ _ (Builtin.SmallTypes.nextOf (.ref d.it) >>= _) _ _ _
    refine wpAny_bind (nextK_end hh hi hr hx fun h2 e s2 he => ?_)
    obtain ⟨oe, hoe, hce⟩ := he
    have hz2 : IsZip h2 z TI TO .ellipsis := s2 _ _ ne.symm hz
    have hez : e ≠ z := fun x => by subst x; rw [hz2] at hoe; cases hoe; simp at hce
    exact wpAny_setField_rec hz2 (by simp) fun h3 _ s3 => q h3 e (fun c o c1 c2 x => s3.extBut _ _ c1 (s2 _ _ c2 x)) ⟨oe, s3.extBut _ _ hez hoe, hce⟩
  obtain ⟨a1, a2, a3⟩ := D.its d hd
  obtain ⟨b1, b2, b3⟩ := D.ls d hd
  exact ⟨(hi d hd).1.at fun o y => hs1.extBut _ _ a1 y, (hi d hd).2.at fun o y => hs1.extBut _ _ b1 y, a3, b2, a1, b3⟩
theorem pyNext_zipn_item {z TI TO : Addr} {zs : List Zi} {xs arr : List Value} {i : Nat} {Q : Option Value → Shared → Prop} (D : Ap z TI TO zs) (hne : zs ≠ []) (hz : IsZip s.heap z TI TO .none) (hTI : ZTup s.heap TI (itsV zs)) (hTO : ZTup s.heap TO arr) (hal : arr.length = xs.length) (hx100 : xs.length ≤ 100)
    (hi : ∀ d, d ∈ zs → IterK s.heap d i ∧ RowK s.heap d) (hx : zs.map (fun d => d.rows[i]?) = xs.map some)
    (q : ∀ h', IsZip h' z TI TO (rawInt s.heap.objs.size) → ZTup h' TO xs → (∀ d, d ∈ zs → IterK h' d (i + 1)) → ZTup h' s.heap.objs.size xs → h'.objs.size = s.heap.objs.size + 1 → (∀ c o, c ≠ z → c ≠ TO → (∀ d, d ∈ zs → c ≠ d.it) → s.heap.get? c = some o → h'.get? c = some o) → Q (some (.ref s.heap.objs.size)) { s with heap := h' }) :
    wpAny (model prog w) A (pyNext (.ref z)) Q E s := by
  have hT : s.TypeIs (.ref z) "zip" := ⟨_, hz, rfl⟩
  unfold pyNext
  exact wpAny_bind (wpAny_attempt (wpAny_callSpecial?_slot (name := Str.ofString "__next__") hT F.slot_zip_next (wpAny_call_entry F.slot_zip_next hT F.entry_zip_next
    (zipn_item D hne hz hTI hTO hal hx100 hi hx fun h' a1 a2 a3 a4 a5 a6 => wpAny_pure (q h' a1 a2 a3 a4 a5 a6)) (F.args_zip_next_1 _))))
theorem pyNext_zipn_end {z TI TO : Addr} {zs : List Zi} {arr : List Value} {i : Nat} {Q : Option Value → Shared → Prop} (hh : A.handled = none) (D : Ap z TI TO zs) (ha : arr.length ≤ 100) (hz : IsZip s.heap z TI TO .none) (hTI : ZTup s.heap TI (itsV zs)) (hTO : ZTup s.heap TO arr)
    (hi : ∀ d, d ∈ zs → IterK s.heap d i ∧ RowK s.heap d) (hx : ∃ d, d ∈ zs ∧ d.rows[i]? = none)
    (q : ∀ h', (∀ c o, c ≠ z → c ≠ TO → (∀ d, d ∈ zs → c ≠ d.it) → s.heap.get? c = some o → h'.get? c = some o) → Q none { s with heap := h' }) : wpAny (model prog w) A (pyNext (.ref z)) Q E s := by
  have hT : s.TypeIs (.ref z) "zip" := ⟨_, hz, rfl⟩
  unfold pyNext
  refine wpAny_bind (wpAny_attempt (wpAny_callSpecial?_slot (name := Str.ofString "__next__") hT F.slot_zip_next (wpAny_call_entry F.slot_zip_next hT F.entry_zip_next
    (zipn_end hh D ha hz hTI hTO hi hx fun h' e hk he => ?_) (F.args_zip_next_1 _))))
  obtain ⟨o, ho, hc⟩ := he
  refine wpAny_bind (wpAny_isInstance (T := "StopIteration") (b := true) ⟨o, ho, hc⟩ isSubtype_stop ?_)
  exact wpAny_pure (q _ hk)
end
section
variable {prog : Program} {w : World} {A : Around} {E : Value → Shared → Prop} {s : Shared}
abbrev itO (z : Zi) : Obj := { cls := .type (if z.t then "tuple_iterator" else "list_iterator"), data := .fields #[.ref z.l, .int 0 0] }
theorem pyIterK {z : Zi} {Q : Value → Shared → Prop} (hr : RowK s.heap z) (q : Q (.ref s.heap.objs.size) { s with heap := s.heap.push (itO z) }) : wpAny (model prog w) A (pyIter (.ref z.l)) Q E s := by
  obtain ⟨t, it, l, rows⟩ := z
  rcases hr with ⟨e, hr⟩ | ⟨e, hr⟩
  · subst e; exact wpAny_pyIter_tuple hr q
  · subst e; exact wpAny_pyIter_list hr q
theorem RowK.push {h : Heap} {z : Zi} (x : RowK h z) (o : Obj) : RowK (h.push o) z := x.at fun _ y => Heap.get?_push_of_some _ y
/-- the heap behind the iterators -/
def itH (h : Heap) : List Zi → Heap
  | [] => h
  | z :: r => itH (h.push (itO z)) r
/-- .. the tuples, the zip -/
abbrev zH2 (h : Heap) (zs : List Zi) : Heap := (itH h zs).push { cls := .type "tuple", data := .seq ((List.range' h.objs.size zs.length).map Value.ref).toArray }
abbrev zH3 (h : Heap) (zs : List Zi) : Heap := (zH2 h zs).push { cls := .type "tuple", data := .seq (((List.range' h.objs.size zs.length).map Value.ref).map fun _ => Value.none).toArray }
abbrev zH4 (h : Heap) (zs : List Zi) : Heap := (zH3 h zs).push { cls := .type "zip", data := .fields #[.none, .bool false, .bool false, .ref (itH h zs).objs.size, .ref (zH2 h zs).objs.size] }
theorem iterAll_ok : ∀ (zs : List Zi) (acc : Array Value) (s : Shared) (Q : Array Value → Shared → Prop), (∀ d, d ∈ zs → RowK s.heap d) → Q (acc ++ ((List.range' s.heap.objs.size zs.length).map Value.ref).toArray) { s with heap := itH s.heap zs } →
    wpAny (model prog w) A (forIn (zs.map fun d => Value.ref d.l) acc fun x its => do
      let v ← holding its.toList (pyIter x)
      pure (ForInStep.yield (its.push v))) Q E s
  | [], acc, s, Q, _, q => by
    rw [List.map_nil, List.forIn_nil]
    refine wpAny_pure ?_
    have e : acc ++ ((List.range' s.heap.objs.size 0).map Value.ref).toArray = acc := by simp
    have q' : Q (acc ++ ((List.range' s.heap.objs.size 0).map Value.ref).toArray) s := q
    rw [e] at q'
    exact q'
  | z :: zs, acc, s, Q, hr, q => by
    rw [List.map_cons, List.forIn_cons]
    refine wpAny_bind (wpAny_bind (wpAny_holding (pyIterK (hr z List.mem_cons_self) (wpAny_pure ?_))))
    refine iterAll_ok zs _ _ Q (fun d hd => (hr d (List.mem_cons_of_mem _ hd)).push _) ?_
    have e : (acc.push (.ref s.heap.objs.size)) ++ ((List.range' (s.heap.push (itO z)).objs.size zs.length).map Value.ref).toArray = acc ++ ((List.range' s.heap.objs.size (zs.length + 1)).map Value.ref).toArray := by
      rw [Heap.size_push, List.range'_succ]
      simp [← Array.append_assoc]
    rw [e]
    exact q
theorem itH_size : ∀ (zs : List Zi) (h : Heap), (itH h zs).objs.size = h.objs.size + zs.length
  | [], h => rfl
  | z :: r, h => by rw [itH, itH_size r, Heap.size_push, List.length_cons]; omega
theorem itH_keep : ∀ (zs : List Zi) (h : Heap) {c : Addr} {o : Obj}, h.get? c = some o → (itH h zs).get? c = some o
  | [], h, c, o, e => e
  | z :: r, h, c, o, e => itH_keep r _ (Heap.get?_push_of_some _ e)
theorem iterAll_row {zs : List Zi} {Q : List Value → Shared → Prop} (hr : ∀ d, d ∈ zs → RowK s.heap d) (q : Q ((List.range' s.heap.objs.size zs.length).map Value.ref) { s with heap := itH s.heap zs }) : wpAny (model prog w) A (Builtin.SmallTypes.iterAll (zs.map fun d => Value.ref d.l)) Q E s := by
  unfold Builtin.SmallTypes.iterAll
  refine wpAny_bind (iterAll_ok zs #[] s _ hr (wpAny_pure ?_))
  simpa using q
theorem newTuple_n {xs : List Value} {Q : Value → Shared → Prop} (h : xs.length ≤ 100) (q : Q (.ref s.heap.objs.size) { s with heap := s.heap.push { cls := .type "tuple", data := .seq xs.toArray } }) : wpAny (model prog w) A (newTuple xs) Q E s :=
  wpAny_newTuple (hsz := Nat.le_trans h (by decide)) q
theorem meets_zipn (zs : List Zi) : Meets (Builtin.«zip.__new__» ⟨.type "zip" :: zs.map (fun d => Value.ref d.l), []⟩) (fun _ R s => (∀ d, d ∈ zs → RowK s.heap d) ∧ zs.length ≤ 4 ∧ R (.ok (.ret (.ref (zH3 s.heap zs).objs.size))) { s with heap := zH4 s.heap zs }) :=
  .of_wp fun prog w A R s h => by
    obtain ⟨hp, g, d, tk, os⟩ := s
    obtain ⟨h0, hn, q⟩ := h
    have hsub := sub_zip
    have hl : ((List.range' hp.objs.size zs.length).map Value.ref).length ≤ 100 := by simp; omega
    have hl2 : (((List.range' hp.objs.size zs.length).map Value.ref).map fun _ => Value.none).length ≤ 100 := by simp; omega
    wp_walk using iterAll_row h0, newTuple_n hl, newTuple_n hl2
    exact ⟨_, rfl, q⟩
theorem itH_at : ∀ (zs : List Zi) (h : Heap) (j : Nat) (z : Zi), zs[j]? = some z → (itH h zs).get? (h.objs.size + j) = some (itO z)
  | [], h, j, z, e => by simp at e
  | y :: r, h, 0, z, e => by
    obtain rfl : y = z := by simpa using e
    exact itH_keep r _ (Heap.get?_push_size _ rfl)
  | y :: r, h, j + 1, z, e => by
    have := itH_at r (h.push (itO y)) j z (by simpa using e)
    rw [Heap.size_push] at this
    rw [show h.objs.size + (j + 1) = h.objs.size + 1 + j by omega]
    exact this
theorem typeCall_zipn (args : List Value) (h : args.length = 2 ∨ args.length = 3 ∨ args.length = 4) : checkTypeCall "zip" ⟨args, []⟩ = pure () ∧ checkBuiltinCall "zip.__new__" ⟨.type "zip" :: args, []⟩ = pure () ∧ ∀ obj, argsOk "object.__init__" ⟨obj :: args, []⟩ := by
  have oi : ∀ l : List Value, argsOk "object.__init__" ⟨l, []⟩ → True := fun _ _ => trivial
  match args, h with
  | [a, b], _ => exact ⟨by kernel_rfl, by kernel_rfl, fun obj => by
      unfold argsOk; rw [signature?_of (id := "object.__init__") (n := ['_', '_', 't', 'i', 'n', 'i', '_', '_']) (o := ['t', 'c', 'e', 'j', 'b', 'o']) (by kernel_rfl) F.owner_object]; kernel_rfl⟩
  | [a, b, c], _ => exact ⟨by kernel_rfl, by kernel_rfl, fun obj => by
      unfold argsOk; rw [signature?_of (id := "object.__init__") (n := ['_', '_', 't', 'i', 'n', 'i', '_', '_']) (o := ['t', 'c', 'e', 'j', 'b', 'o']) (by kernel_rfl) F.owner_object]; kernel_rfl⟩
  | [a, b, c, d], _ => exact ⟨by kernel_rfl, by kernel_rfl, fun obj => by
      unfold argsOk; rw [signature?_of (id := "object.__init__") (n := ['_', '_', 't', 'i', 'n', 'i', '_', '_']) (o := ['t', 'c', 'e', 'j', 'b', 'o']) (by kernel_rfl) F.owner_object]; kernel_rfl⟩
theorem call_zipn {zs : List Zi} {Q : Value → Shared → Prop} (hn : zs.length = 2 ∨ zs.length = 3 ∨ zs.length = 4) (h0 : ∀ d, d ∈ zs → RowK s.heap d)
    (q : ∀ h', IsZip h' (s.heap.objs.size + zs.length + 2) (s.heap.objs.size + zs.length) (s.heap.objs.size + zs.length + 1) .none → ZTup h' (s.heap.objs.size + zs.length) ((List.range' s.heap.objs.size zs.length).map Value.ref) →
      ZTup h' (s.heap.objs.size + zs.length + 1) (((List.range' s.heap.objs.size zs.length).map Value.ref).map fun _ => Value.none) → (∀ j z, zs[j]? = some z → h'.get? (s.heap.objs.size + j) = some (itO z)) →
      (∀ c o, s.heap.get? c = some o → h'.get? c = some o) → Q (.ref (s.heap.objs.size + zs.length + 2)) { s with heap := h' }) :
    wpAny (model prog w) A (call (.type "zip") (zs.map fun d => Value.ref d.l)) Q E s := by
  obtain ⟨c1, c2, c3⟩ := typeCall_zipn (zs.map fun d => Value.ref d.l) (by simpa using hn)
  have z1 : (itH s.heap zs).objs.size = s.heap.objs.size + zs.length := itH_size _ _
  have z2 : (zH2 s.heap zs).objs.size = s.heap.objs.size + zs.length + 1 := by rw [Heap.size_push, z1]
  have z3 : (zH3 s.heap zs).objs.size = s.heap.objs.size + zs.length + 2 := by rw [Heap.size_push, z2]
  have up : ∀ c o, (itH s.heap zs).get? c = some o → (zH4 s.heap zs).get? c = some o := fun c o e => Heap.get?_push_of_some _ (Heap.get?_push_of_some _ (Heap.get?_push_of_some _ e))
  refine callType_new F.called_zip (by decide) c1 c2 c3 F.entry_zip_new (meets_zipn zs) ⟨h0, by omega, ?_⟩
  have g4 : (zH4 s.heap zs).get? (zH3 s.heap zs).objs.size = some _ := Heap.get?_push_size _ rfl
  have g3 : (zH4 s.heap zs).get? (zH2 s.heap zs).objs.size = some _ := Heap.get?_push_of_some _ (Heap.get?_push_size _ rfl)
  have g2 : (zH4 s.heap zs).get? (itH s.heap zs).objs.size = some _ := Heap.get?_push_of_some _ (Heap.get?_push_of_some _ (Heap.get?_push_size _ rfl))
  rw [z1, z2, z3] at g4
  rw [z2] at g3
  rw [z1] at g2
  show _ ∧ _
  rw [z3]
  exact ⟨⟨_, g4, rfl⟩, q _ g4 g2 g3 (fun j z e => up _ _ (itH_at zs s.heap j z e)) fun c o e => up c o (itH_keep zs s.heap e)⟩
end
open PySem.Spec PyProof.Rows L2
/-- what stands at the sources -/
def Srcs (K : PySem.W.Frag) (H : Hp) : List (Bool × Addr) → List (List V) → Prop
  | [], [] => True
  | (t, l) :: zs, r :: rs => ((t = true ∧ SqT K H l r) ∨ (t = false ∧ SqL K H l r)) ∧ Srcs K H zs rs
  | _, _ => False
/-- the items of all at each turn, in a new tuple -/
def Itn (K : PySem.W.Frag) (zs : List (Bool × Addr)) : It :=
  ⟨fun i H => ∃ (rs : List (List V)) (xs : List V), Srcs K H zs rs ∧ rs.map (fun r => r[i]?) = xs.map some,
    fun i H v H' => ∃ T xs, v = .ref T ∧ H T = none ∧ H' = upd H T (.tup xs) ∧ ∀ rs, Srcs K H zs rs → rs.map (fun r => r[i]?) = xs.map some,
    fun i H => ∃ rs : List (List V), Srcs K H zs rs ∧ ∃ r, r ∈ rs ∧ r.length ≤ i⟩
inductive RR : List (List V) → List Zi → Prop
  | nil : RR [] []
  | cons {r : List V} {d : Zi} {rs : List (List V)} {zs : List Zi} (h : Vals r d.rows.toList) (t : RR rs zs) : RR (r :: rs) (d :: zs)
abbrev core3 (d : Zi) : Bool × Addr × Addr := (d.t, d.it, d.l)
abbrev core2 (d : Zi) : Bool × Addr := (d.t, d.l)
section
variable {X : Cx} {pins : List (Addr × Obj)} {σ : L2.St} {H : Hp} {s : Shared}
theorem srcs_rows (I : Inv X pins σ H s) : ∀ (bs : List Zi) (rs : List (List V)), Srcs X.K H (bs.map core2) rs → ∃ zs : List Zi, zs.map core3 = bs.map core3 ∧ (∀ d, d ∈ zs → RowK s.heap d) ∧ RR rs zs
  | [], [], _ => ⟨[], rfl, (fun d h => by cases h), .nil⟩
  | [], _ :: _, h => h.elim
  | b :: bs, [], h => h.elim
  | b :: bs, r :: rs, h => by
    obtain ⟨h1, h2⟩ := h
    obtain ⟨zs, e, hr, rr⟩ := srcs_rows I bs rs h2
    rcases h1 with ⟨t, q⟩ | ⟨t, q⟩
    · obtain ⟨its, rv, p, _⟩ := I.tuple q
      refine ⟨⟨b.t, b.it, b.l, its.toArray⟩ :: zs, ?_, fun d hd => ?_, .cons ?_ rr⟩
      · rw [List.map_cons, List.map_cons, e]
      · rcases List.mem_cons.mp hd with rfl | hd
        · exact .inl ⟨t, p⟩
        · exact hr d hd
      · exact rv
    · obtain ⟨its, rv, p, _⟩ := I.list q
      refine ⟨⟨b.t, b.it, b.l, its.toArray⟩ :: zs, ?_, fun d hd => ?_, .cons ?_ rr⟩
      · rw [List.map_cons, List.map_cons, e]
      · rcases List.mem_cons.mp hd with rfl | hd
        · exact .inr ⟨t, p.isList⟩
        · exact hr d hd
      · exact rv
theorem RR.at {i : Nat} : ∀ {rs : List (List V)} {zs : List Zi} {xs : List V}, RR rs zs → rs.map (fun r => r[i]?) = xs.map some → ∃ us, zs.map (fun d => d.rows[i]?) = us.map some ∧ Vals xs us
  | _, _, [], .nil, _ => ⟨[], rfl, .nil⟩
  | _, _, _ :: _, .nil, h => by simp at h
  | _, _, [], .cons _ _, h => by simp at h
  | _, _, x :: xs, .cons h t, e => by
    simp only [List.map_cons, List.cons.injEq] at e
    obtain ⟨us, e2, v⟩ := RR.at t e.2
    obtain ⟨u, hu, ru⟩ := h.get e.1
    refine ⟨u :: us, ?_, .cons ru v⟩
    rw [List.map_cons, List.map_cons, e2]
    congr 1
    simpa using hu
theorem RR.stop {i : Nat} : ∀ {rs : List (List V)} {zs : List Zi}, RR rs zs → (∃ r, r ∈ rs ∧ r.length ≤ i) → ∃ d, d ∈ zs ∧ d.rows[i]? = none
  | _, _, .nil, ⟨_, h, _⟩ => by cases h
  | _, _, .cons (d := d) h t, ⟨r, hr, hl⟩ => by
    rcases List.mem_cons.mp hr with rfl | hr
    · have := h.length
      exact ⟨d, List.mem_cons_self, by simp at this ⊢; omega⟩
    · obtain ⟨d, hd, e⟩ := RR.stop t ⟨r, hr, hl⟩
      exact ⟨d, List.mem_cons_of_mem _ hd, e⟩
theorem RR.len : ∀ {rs : List (List V)} {zs : List Zi}, RR rs zs → rs.length = zs.length
  | _, _, .nil => rfl
  | _, _, .cons _ t => congrArg (· + 1) t.len
theorem srcs_inj (I : Inv X pins σ H s) : ∀ (bs : List (Bool × Addr)) (rs rs' : List (List V)), Srcs X.K H bs rs → Srcs X.K H bs rs' → rs' = rs
  | [], [], [], _, _ => rfl
  | [], _ :: _, _, h, _ => h.elim
  | [], [], _ :: _, _, h => h.elim
  | _ :: _, [], _, h, _ => h.elim
  | _ :: _, _ :: _, [], _, h => h.elim
  | b :: bs, r :: rs, r' :: rs', h, h' => by
    obtain ⟨h1, h2⟩ := h
    obtain ⟨g1, g2⟩ := h'
    rw [srcs_inj I bs rs rs' h2 g2]
    congr 1
    rcases h1 with ⟨t, q⟩ | ⟨t, q⟩ <;> rcases g1 with ⟨t', q'⟩ | ⟨t', q'⟩
    · exact I.tuple_inj q' q
    · rw [t] at t'; cases t'
    · rw [t] at t'; cases t'
    · exact I.list_inj q' q
theorem core_mem {zs bs : List Zi} (e : zs.map core3 = bs.map core3) {d : Zi} (h : d ∈ zs) : ∃ b, b ∈ bs ∧ core3 b = core3 d := by
  have : core3 d ∈ bs.map core3 := e ▸ List.mem_map_of_mem h
  obtain ⟨b, hb, q⟩ := List.mem_map.mp this
  exact ⟨b, hb, q⟩
theorem IterK.core {h : Heap} {a b : Zi} {i : Nat} (e : core3 a = core3 b) (x : IterK h a i) : IterK h b i := by
  obtain ⟨t, it, l, r⟩ := a
  obtain ⟨t', it', l', r'⟩ := b
  simp only [core3, Prod.mk.injEq] at e
  obtain ⟨rfl, rfl, rfl⟩ := e
  exact x
theorem core_its {zs bs : List Zi} (e : zs.map core3 = bs.map core3) : zs.map (·.it) = bs.map (·.it) := by
  have := congrArg (List.map fun x : Bool × Addr × Addr => x.2.1) e
  rw [List.map_map, List.map_map] at this
  exact this
theorem core_itsV {zs bs : List Zi} (e : zs.map core3 = bs.map core3) : itsV zs = itsV bs := by
  have := congrArg (List.map Value.ref) (core_its e)
  rw [List.map_map, List.map_map] at this
  exact this
theorem Ap.core {z TI TO : Addr} {zs bs : List Zi} (e : zs.map core3 = bs.map core3) (D : Ap z TI TO bs) : Ap z TI TO zs where
  nd := by rw [core_its e]; exact D.nd
  TIz := D.TIz
  TOz := D.TOz
  TITO := D.TITO
  its := fun d hd => by
    obtain ⟨b, hb, q⟩ := core_mem e hd
    have e1 : b.it = d.it := congrArg (·.2.1) q
    rw [← e1]; exact D.its b hb
  ls := fun d hd => by
    obtain ⟨b, hb, q⟩ := core_mem e hd
    have e1 : b.l = d.l := congrArg (·.2.2) q
    obtain ⟨q1, q2, q3⟩ := D.ls b hb
    rw [← e1]
    refine ⟨q1, q2, fun f hf => ?_⟩
    obtain ⟨g, hg, q'⟩ := core_mem e hf
    have e2 : g.it = f.it := congrArg (·.2.1) q'
    rw [← e2]; exact q3 g hg
theorem turn_zipn {P : Program} {w : World} {K : PySem.W.Frag} {elts : List Expr} {kk : Nat} {tpos : Pos} {z TI TO : Addr} {bs : List Zi} (D : Ap z TI TO bs) (hne : bs ≠ []) (h4 : bs.length ≤ 4) :
    Turn P w K (.Tuple elts kk tpos) (Itn K (bs.map core2)) (z :: TI :: TO :: bs.map (·.it)) z (fun i h => IsZip h z TI TO .none ∧ ZTup h TI (itsV bs) ∧ (∃ arr, arr.length = bs.length ∧ ZTup h TO arr) ∧ ∀ d, d ∈ bs → IterK h d i) where
  mem := List.mem_cons_self
  obj := fun i h st c hc => by
    obtain ⟨hz, hTI, ⟨arr, _, hTO⟩, hi⟩ := st
    rcases List.mem_cons.mp hc with q | hc
    · rw [q]; exact ⟨_, hz, fun v q => nomatch q⟩
    · rcases List.mem_cons.mp hc with q | hc
      · rw [q]; exact ⟨_, hTI, fun v q => nomatch q⟩
      · rcases List.mem_cons.mp hc with q | hc
        · rw [q]; exact ⟨_, hTO, fun v q => nomatch q⟩
        · obtain ⟨d, hd, rfl⟩ := List.mem_map.mp hc
          exact (hi d hd).obj
  keep := fun i h h' st k => by
    obtain ⟨hz, hTI, ⟨arr, ha, hTO⟩, hi⟩ := st
    exact ⟨k z (by simp) _ hz, k TI (by simp) _ hTI, ⟨arr, ha, k TO (by simp) _ hTO⟩, fun d hd => (hi d hd).at fun o y => k d.it (by
      simp only [List.mem_cons]
      exact .inr (.inr (.inr (List.mem_map_of_mem hd)))) o y⟩
  item := by
    intro X hP hw hK hc i pins s σ H E I hf st hg
    subst hP hw hK
    obtain ⟨hz, hTI, ⟨arr, ha, hTO⟩, hi⟩ := st
    obtain ⟨rs, xs, hs, hx⟩ := hg
    obtain ⟨zs, e, hr, rr⟩ := srcs_rows I bs rs hs
    obtain ⟨us, hu, vs⟩ := rr.at hx
    have hzl : z < s.heap.objs.size := Heap.lt_size hz
    have len : zs.length = bs.length := by simpa using congrArg List.length e
    have lu : us.length = zs.length := by simpa using (congrArg List.length hu).symm
    have lx : xs.length = us.length := vs.length
    have inBs : ∀ d, d ∈ zs → d.it ∈ bs.map (·.it) := fun d hd => (core_its e) ▸ List.mem_map_of_mem hd
    have mem3 : ∀ d, d ∈ bs → d.it ∈ z :: TI :: TO :: bs.map (·.it) := fun d hd => by
      simp only [List.mem_cons]
      exact .inr (.inr (.inr (List.mem_map_of_mem hd)))
    refine pyNext_zipn_item (D.core e) (fun q => hne (by rw [q] at len; exact List.eq_nil_of_length_eq_zero len.symm)) hz (by rw [core_itsV e]; exact hTI) hTO (by omega) (by omega) (fun d hd => ⟨?_, hr d hd⟩) hu fun h' z' TO' i' hT hsz hk => ?_
    · obtain ⟨b, hb, q⟩ := core_mem e hd
      exact (hi b hb).core q
    refine ⟨_, rfl, wpAny_letOwnedTupleGo_zip (s := { s with heap := h' }) z' fun h'' z'' sb => ?_⟩
    have hT2 : ZTup h'' s.heap.objs.size us := (sb.2 _ (Nat.ne_of_gt hzl)).trans hT
    have new : ObjOk X.prog X.w (upd H s.heap.objs.size (.tup xs)) h'' s.heap.objs.size (.tup xs) := ⟨by
      show xs.length ≤ sizeLine
      exact Nat.le_trans (by omega : xs.length ≤ 4) (by decide), us, vs, ⟨_, hT2, rfl, _, rfl⟩⟩
    have neB : ∀ c, c ∉ z :: TI :: TO :: bs.map (·.it) → c ≠ z ∧ c ≠ TO ∧ ∀ d, d ∈ zs → c ≠ d.it := fun c hb => by
      simp only [List.mem_cons, not_or] at hb
      exact ⟨hb.1, hb.2.2.1, fun d hd q => hb.2.2.2 (q ▸ inBs d hd)⟩
    have I1 : Inv X pins σ (upd H s.heap.objs.size (.tup xs)) { s with heap := h'' } :=
      I.turnedNew (t' := s.toks) (ch := z :: TI :: TO :: bs.map (·.it)) (fun c o hb q => by
        obtain ⟨n1, n2, n3⟩ := neB c hb
        exact (sb.2 c n1).trans (hk c o n1 n2 n3 q)) hf (Nat.le_refl _) new
    refine ⟨.ref s.heap.objs.size, _, I1, rfl, ⟨_, xs, rfl, I.hok.fresh (Nat.le_refl _), rfl, fun rs' hs' => by rw [srcs_inj I _ rs rs' hs hs']; exact hx⟩, ⟨z'', ?_, ⟨us, by omega, ?_⟩, fun d hd => ?_⟩, fun c hcm => ?_⟩
    · exact (sb.2 _ D.TIz).trans (hk _ _ D.TIz D.TITO (fun d hd => by
        obtain ⟨b, hb, q⟩ := core_mem e hd
        have e1 : b.it = d.it := congrArg (·.2.1) q
        rw [← e1]; exact (D.its b hb).2.1.symm) hTI)
    · exact (sb.2 _ D.TOz).trans TO'
    · have : core3 d ∈ zs.map core3 := e ▸ List.mem_map_of_mem hd
      obtain ⟨b, hb, q⟩ := List.mem_map.mp this
      exact (((i' b hb).core q).at fun o y => (sb.2 _ (D.its d hd).1).trans y)
    · have hlt : c < s.heap.objs.size := by
        rcases List.mem_cons.mp hcm with q | hcm
        · rw [q]; exact hzl
        · rcases List.mem_cons.mp hcm with q | hcm
          · rw [q]; exact Heap.lt_size hTI
          · rcases List.mem_cons.mp hcm with q | hcm
            · rw [q]; exact Heap.lt_size hTO
            · obtain ⟨d, hd, rfl⟩ := List.mem_map.mp hcm
              obtain ⟨o, eo, _⟩ := (hi d hd).obj
              exact Heap.lt_size eo
      rw [upd_ne (Nat.ne_of_lt hlt)]
      exact (hf c hcm).1
  done := by
    intro X hP hw hK hc i pins s σ H E I hf st hg
    subst hP hw hK
    obtain ⟨hz, hTI, ⟨arr, ha, hTO⟩, hi⟩ := st
    obtain ⟨rs, hs, hend⟩ := hg
    obtain ⟨zs, e, hr, rr⟩ := srcs_rows I bs rs hs
    refine pyNext_zipn_end (I.ok.hd hc) (D.core e) (by omega) hz (by rw [core_itsV e]; exact hTI) hTO (fun d hd => ⟨?_, hr d hd⟩) (rr.stop hend) fun h' hk => ⟨rfl, I.turnedL (t' := s.toks) (ch := z :: TI :: TO :: bs.map (·.it)) (fun c o hb q => ?_) hf⟩
    · obtain ⟨b, hb, q⟩ := core_mem e hd
      exact (hi b hb).core q
    · simp only [List.mem_cons, not_or] at hb
      exact hk c o hb.1 hb.2.2.1 (fun d hd q => hb.2.2.2 (q ▸ (core_its e) ▸ List.mem_map_of_mem hd)) q
  self := fun A i s Q E st h => wpAny_pyIter_zip st.1 h
/-- zip of rows: the values of the arguments, their kinds, the walk -/
def iZipN (K : PySem.W.Frag) (ta : TA) : TI := fun σ H R => ta σ H fun vs H1 => ∃ (zs : List (Bool × Addr)) (rs : List (List V)), vs = zs.map (fun z => V.ref z.2) ∧ Srcs K H1 zs rs ∧ R (Itn K zs) H1
theorem refs_of : ∀ {zs : List (Bool × Addr)} {us : List Value}, Vals (zs.map fun z => V.ref z.2) us → us = zs.map fun z => Value.ref z.2
  | [], _, r => by cases r; rfl
  | z :: zs, _, r => by
    cases r with
    | cons h t =>
      rw [refs_of t]
      cases h
      rfl
theorem pi_zipn {e : Expr} {es : List Expr} {ta : TA} {p pos tpos : Pos} {elts : List Expr} {kk : Nat} (hl : es.length = 1 ∨ es.length = 2 ∨ es.length = 3) (hg : Gl X "zip") (hm : X.mg "zip" = none) (ha : PA X (e :: es) ta) (hal : ∀ σ H Q, ta σ H Q → ta σ H fun vs H1 => vs.length = es.length + 1 ∧ Q vs H1)
    (hs : starEach (e :: es) X.env = (false, eval e X.env) :: starEach es X.env := by rfl) (hpl : (backTo pos (starEach es X.env)).any (·.1) = false := by rfl) :
    PI X (.Tuple elts kk tpos) (.Call (.Name "zip" p) (e :: es) [] pos) (iZipN X.K ta) := by
  refine ⟨fun pins s σ H R I h => ?_⟩
  refine Call_ (ld_blt I hg hm PyProof.Rows.boot_zip (PyProof.Rows.callWith_type1 (thn (ha.run pos pins s σ H _ I (hal _ _ _ h)) fun us s1 ⟨vs, H1, I1, r1, hlen, zs, rs, ex, hq, q⟩ => ?_) hs hpl))
  subst ex
  obtain rfl := refs_of r1
  rw [List.length_map] at hlen
  have hb : zs.zipIdx.map (fun p => core2 ⟨p.1.1, s1.heap.objs.size + p.2, p.1.2, #[]⟩) = zs := by
    apply List.ext_getElem <;> simp
  obtain ⟨ys, e2, hr, rr⟩ := srcs_rows I1 (zs.zipIdx.map fun p => (⟨p.1.1, s1.heap.objs.size + p.2, p.1.2, #[]⟩ : Zi)) rs (by
    rw [List.map_map]
    rw [show (core2 ∘ fun p : (Bool × Addr) × Nat => (⟨p.1.1, s1.heap.objs.size + p.2, p.1.2, #[]⟩ : Zi)) = fun p => core2 ⟨p.1.1, s1.heap.objs.size + p.2, p.1.2, #[]⟩ from rfl, hb]
    exact hq)
  have len : ys.length = zs.length := by simpa using congrArg List.length e2
  have at_ : ∀ j y, ys[j]? = some y → y.it = s1.heap.objs.size + j ∧ ∃ z, zs[j]? = some z ∧ (y.t, y.l) = z := fun j y hy => by
    have h1 := congrArg (fun l => l[j]?) e2
    simp only [List.getElem?_map, hy, Option.map_some, List.getElem?_zipIdx, Nat.zero_add] at h1
    cases hz : zs[j]? with
    | none => rw [hz] at h1; simp at h1
    | some z =>
      rw [hz] at h1
      simp only [Option.map_some, Option.some.injEq, core3, Prod.mk.injEq] at h1
      exact ⟨h1.2.1, z, rfl, Prod.ext h1.1 h1.2.2⟩
  have eargs : zs.map (fun z => Value.ref z.2) = ys.map fun d => Value.ref d.l := by
    apply List.ext_getElem?
    intro j
    rw [List.getElem?_map, List.getElem?_map]
    cases hy : ys[j]? with
    | none =>
      have : zs[j]? = none := by
        rw [List.getElem?_eq_none_iff] at hy ⊢
        omega
      rw [this]; rfl
    | some y =>
      obtain ⟨_, z, hz, q⟩ := at_ j y hy
      rw [hz, ← q]; rfl
  have emap : ys.map core2 = zs := by
    apply List.ext_getElem?
    intro j
    rw [List.getElem?_map]
    cases hy : ys[j]? with
    | none =>
      have : zs[j]? = none := by
        rw [List.getElem?_eq_none_iff] at hy ⊢
        omega
      rw [this]; rfl
    | some y =>
      obtain ⟨_, z, hz, q⟩ := at_ j y hy
      rw [hz, ← q]; rfl
  have emem : ∀ d, d ∈ ys → ∃ j, j < ys.length ∧ ys[j]? = some d ∧ d.it = s1.heap.objs.size + j := fun d hd => by
    obtain ⟨j, hj, rfl⟩ := List.getElem_of_mem hd
    exact ⟨j, hj, by simp [hj], (at_ j _ (by simp [hj])).1⟩
  have emi : ys.map (·.it) = List.range' s1.heap.objs.size ys.length := by
    apply List.ext_getElem?
    intro j
    rw [List.getElem?_map]
    cases hy : ys[j]? with
    | none =>
      have : (List.range' s1.heap.objs.size ys.length)[j]? = none := by
        rw [List.getElem?_eq_none_iff] at hy ⊢
        simpa using hy
      exact this.symm
    | some y =>
      have hj : j < ys.length := (List.getElem?_eq_some_iff.mp hy).1
      have : (List.range' s1.heap.objs.size ys.length)[j]? = some (s1.heap.objs.size + j) := by simp [List.getElem?_range', hj]
      refine Eq.trans ?_ this.symm
      simp only [Option.map_some, (at_ j y hy).1]
  have eits : itsV ys = (List.range' s1.heap.objs.size ys.length).map Value.ref := by
    rw [← emi, List.map_map]
    rfl
  rw [eargs]
  have D : Ap (s1.heap.objs.size + ys.length + 2) (s1.heap.objs.size + ys.length) (s1.heap.objs.size + ys.length + 1) ys := by
    refine ⟨by rw [emi]; exact List.nodup_range', Nat.ne_of_lt (by omega), Nat.ne_of_lt (by omega), Nat.ne_of_lt (by omega), fun d hd => ?_, fun d hd => ?_⟩
    · obtain ⟨j, hj, _, e⟩ := emem d hd
      rw [e]
      exact ⟨Nat.ne_of_lt (by omega), Nat.ne_of_lt (by omega), Nat.ne_of_lt (by omega)⟩
    · have hlt : d.l < s1.heap.objs.size := (hr d hd).lt
      refine ⟨Nat.ne_of_lt (Nat.lt_of_lt_of_le hlt (by omega)), Nat.ne_of_lt (Nat.lt_of_lt_of_le hlt (by omega)), fun f hf => ?_⟩
      obtain ⟨j, hj, _, e⟩ := emem f hf
      rw [e]
      exact Nat.ne_of_lt (Nat.lt_of_lt_of_le hlt (by omega))
  refine call_zipn (by omega) hr fun h' hz hTI hTO hit hk => wpAny_pyIter_zip hz ?_
  have I2 : Inv X pins σ H1 { s1 with heap := h' } := I1.kept (t' := s1.toks) hk
  have hne : ys ≠ [] := fun z => by rw [z] at len; simp at len; omega
  refine ⟨_, _, _, _, H1, rfl, I2, turn_zipn D hne (by omega), ⟨hz, by rw [eits]; exact hTI, ⟨_, by simp, hTO⟩, fun d hd => ?_⟩, fun c hc => ?_, by rw [emap]; exact q⟩
  · obtain ⟨j, hj, ej, e⟩ := emem d hd
    have := hit j d ej
    rw [← e] at this
    cases ht : d.t with
    | true => exact .inl ⟨ht, _, this, by simp [ht], rfl⟩
    | false => exact .inr ⟨ht, _, this, by simp [ht], rfl⟩
  · have hle : s1.heap.objs.size ≤ c := by
      rcases List.mem_cons.mp hc with q | hc
      · rw [q]; exact Nat.le_trans (Nat.le_add_right _ (ys.length + 2)) (by omega)
      · rcases List.mem_cons.mp hc with q | hc
        · rw [q]; exact Nat.le_add_right _ _
        · rcases List.mem_cons.mp hc with q | hc
          · rw [q]; exact Nat.le_trans (Nat.le_add_right _ (ys.length + 1)) (by omega)
          · obtain ⟨d, hd, rfl⟩ := List.mem_map.mp hc
            obtain ⟨j, hj, _, e⟩ := emem d hd
            rw [e]; exact Nat.le_add_right _ _
    exact I1.fpOk hle (I1.hok.fresh hle)
end
end Pv
end
section
set_option maxRecDepth 100000
set_option maxHeartbeats 4000000
/-! PvWalk: what a loop or a comprehension walks. -/
namespace Pv
open PySem PySem.Spec PyProof.Rows L2
/-- what is frozen and what never changes is kept -/
def Kp (F : Addr → Prop) (H H' : Hp) : Prop := (∀ a o, H a = some o → ¬ Mt o → H' a = some o) ∧ ∀ a o, F a → H a = some o → H' a = some o
structure WalkD (c : Cn) (J : It) (F : Addr → Prop) (H : Hp) (ds : List D) : Prop where
  goes : ∀ H' i, Kp F H H' → i < ds.length → J.go i H'
  stops : ∀ H', Kp F H H' → J.stop ds.length H'
  yields : ∀ (F' : Addr → Prop) H' i x H3, (∀ a, F a → F' a) → Kp F H H' → i < ds.length → J.yld i H' x H3 → Same H' H3 ∧ (∀ a, H3 a = none → H' a = none) ∧ ∀ d, ds[i]? = some d → Rep c F' H3 0 x d []
section
variable {c : Cn} {F F' : Addr → Prop} {H H' : Hp}
theorem Same.gone {H H' : Hp} (s : Same H H') {a : Addr} (h : H' a = none) : H a = none := Same.dom s h
theorem Args.fz (m : ∀ a, F a → F' a) : ∀ {l : List (Nat × D)} {vs : List V} {fp : List Addr}, (∀ a, a ∈ fp → F' a) → Args c F H l vs fp → RepL c F' H 0 vs (l.map (·.2)) []
  | _, _, _, _, .nil => .nil _
  | _, _, _, q, .cons r rs => .cons (fp := []) (fq := []) (Rep.freeze m (fun a z => q a (List.mem_append_left _ z)) r) (Args.fz m (fun a z => q a (List.mem_append_right _ z)) rs)
theorem stay_l {v : V} {ds : List D} {fp : List Addr} (r : Rep c F H 0 v (.list ds) fp) : ∃ a xs, v = .ref a ∧ xs.length = ds.length ∧ ∀ (F' : Addr → Prop) H', (∀ a, F a → F' a) → Kp F H H' → SqL c.K H' a xs ∧ RepL c F' H' 0 xs ds [] := by
  cases r with
  | lfz f h q => exact ⟨_, _, rfl, q.length, fun F' H' m k => ⟨.inl (.inl (k.2 _ _ f h)), RepL.keep k.1 k.2 m (fun _ _ z => by cases z) q⟩⟩
  | lcon h q => exact ⟨_, _, rfl, q.length, fun F' H' m k => ⟨SqC_sq (SqC_stay h k.1), RepL.keep k.1 k.2 m (fun _ _ z => by cases z) q⟩⟩
theorem stay_t {v : V} {ds : List D} {fp : List Addr} (r : Rep c F H 0 v (.tuple ds) fp) : ∃ a xs, v = .ref a ∧ xs.length = ds.length ∧ ∀ (F' : Addr → Prop) H', (∀ a, F a → F' a) → Kp F H H' → SqT c.K H' a xs ∧ RepL c F' H' 0 xs ds [] := by
  obtain rfl := Rep.zero r
  cases r with
  | tup h q => exact ⟨_, _, rfl, q.length, fun F' H' m k => ⟨.inl (.inl (k.1 _ _ h fun z => z)), RepL.keep k.1 k.2 m (fun _ _ z => by cases z) q⟩⟩
theorem rep_at {vs : List V} {ds : List D} {i : Nat} {v : V} {d : D} (r : RepL c F H 0 vs ds []) (e : ds[i]? = some d) (ev : vs[i]? = some v) : Rep c F H 0 v d [] := by
  obtain ⟨v', fq, e1, r1, n⟩ := RepL.get0 r e
  rw [ev] at e1; cases e1
  obtain rfl : fq = [] := List.eq_nil_iff_forall_not_mem.mpr fun a z => by cases n a z
  exact r1
theorem walk_l {a : Addr} {xs : List V} {ds : List D} (hl : xs.length = ds.length) (q : ∀ (F' : Addr → Prop) H', (∀ a, F a → F' a) → Kp F H H' → SqL c.K H' a xs ∧ RepL c F' H' 0 xs ds []) : WalkD c (Itl c.K a) F H ds where
  goes := fun H' i k hi => walk_list.goes i H' (by omega) (q F H' (fun _ z => z) k).1
  stops := fun H' k => by rw [← hl]; exact walk_list.stops H' (q F H' (fun _ z => z) k).1
  yields := fun F' H' i x H3 m k hi y => by
    obtain ⟨sq, r⟩ := q F' H' m k
    obtain ⟨rfl, ex⟩ := walk_list.yields i H' x H3 (by omega) sq y
    exact ⟨Same.refl _, fun _ z => z, fun d e => rep_at r e ex⟩
theorem walk_t {a : Addr} {xs : List V} {ds : List D} (hl : xs.length = ds.length) (q : ∀ (F' : Addr → Prop) H', (∀ a, F a → F' a) → Kp F H H' → SqT c.K H' a xs ∧ RepL c F' H' 0 xs ds []) : WalkD c (Itt c.K a) F H ds where
  goes := fun H' i k hi => walk_tup.goes i H' (by omega) (q F H' (fun _ z => z) k).1
  stops := fun H' k => by rw [← hl]; exact walk_tup.stops H' (q F H' (fun _ z => z) k).1
  yields := fun F' H' i x H3 m k hi y => by
    obtain ⟨sq, r⟩ := q F' H' m k
    obtain ⟨rfl, ex⟩ := walk_tup.yields i H' x H3 (by omega) sq y
    exact ⟨Same.refl _, fun _ z => z, fun d e => rep_at r e ex⟩
theorem rngL_len : ∀ {n : Nat} {lo : Int}, (rngL lo n).length = n
  | 0, _ => rfl
  | n + 1, lo => congrArg (· + 1) (rngL_len (n := n) (lo := lo + 1))
theorem rngL_get : ∀ {n i : Nat} {lo : Int}, i < n → (rngL lo n)[i]? = some (.int (lo + i))
  | n + 1, 0, lo, _ => by simp [rngL]
  | n + 1, i + 1, lo, h => by
    have := rngL_get (n := n) (i := i) (lo := lo + 1) (by omega)
    simp only [rngL, List.getElem?_cons_succ, this, Option.some.injEq, PyData.int.injEq]
    omega
theorem walk_r {lo : Int} {n : Nat} : WalkD c (Itr lo n) F H (rngL lo n) where
  goes := fun H' i k hi => by rw [rngL_len] at hi; exact hi
  stops := fun H' k => by rw [rngL_len]; exact Nat.le_refl _
  yields := fun F' H' i x H3 m k hi y => by
    rw [rngL_len] at hi
    obtain ⟨rfl, rfl⟩ := y
    refine ⟨Same.refl _, fun _ z => z, fun d e => ?_⟩
    rw [rngL_get hi] at e
    cases e
    exact .int _ _
theorem enumL_len : ∀ {xs : List D} {n : Nat}, (enumL n xs).length = xs.length
  | [], _ => rfl
  | _ :: r, n => congrArg (· + 1) (enumL_len (xs := r) (n := n + 1))
theorem enumL_get : ∀ {xs : List D} {n i : Nat} {d : D}, xs[i]? = some d → (enumL n xs)[i]? = some (.tuple [.int ((n + i : Nat) : Int), d])
  | x :: r, n, 0, d, h => by simp at h; subst h; simp [enumL]
  | x :: r, n, i + 1, d, h => by
    have := enumL_get (xs := r) (n := n + 1) (i := i) (d := d) (by simpa using h)
    simp only [enumL, List.getElem?_cons_succ, this]
    rw [show n + 1 + i = n + (i + 1) by omega]
theorem zipL_len : ∀ {xs ys : List D}, (zipL xs ys).length = min xs.length ys.length
  | [], _ => by simp [zipL]
  | _ :: _, [] => by simp [zipL]
  | _ :: r, _ :: s => by simp [zipL, zipL_len (xs := r) (ys := s)]
theorem zipL_get : ∀ {xs ys : List D} {i : Nat} {d e : D}, xs[i]? = some d → ys[i]? = some e → (zipL xs ys)[i]? = some (.tuple [d, e])
  | _ :: _, _ :: _, 0, _, _, h, h' => by simp at h h'; subst h; subst h'; simp [zipL]
  | _ :: r, _ :: s, i + 1, d, e, h, h' => by
    have := zipL_get (xs := r) (ys := s) (i := i) (d := d) (e := e) (by simpa using h) (by simpa using h')
    simpa [zipL] using this
  | [], _, _, _, _, h, _ => by simp at h
  | _ :: _, [], _, _, _, _, h' => by simp at h'
theorem rep_pair {T : Addr} {x y : V} {d e : D} (hT : H T = none) (r : Rep c F H 0 x d []) (s : Rep c F H 0 y e []) : Rep c F (upd H T (.tup [x, y])) 0 (.ref T) (.tuple [d, e]) [] :=
  .tup upd_same (.cons (fp := []) (fq := []) (Rep.same r (Same.new hT)) (.cons (fp := []) (fq := []) (Rep.same s (Same.new hT)) (.nil _)))
theorem walk_e {a : Addr} {xs : List V} {ds : List D} (hl : xs.length = ds.length) (q : ∀ (F' : Addr → Prop) H', (∀ a, F a → F' a) → Kp F H H' → SqL c.K H' a xs ∧ RepL c F' H' 0 xs ds []) : WalkD c (Ite c.K a) F H (enumL 0 ds) where
  goes := fun H' i k hi => by rw [enumL_len] at hi; exact walk_enum.goes i H' (by omega) (q F H' (fun _ z => z) k).1
  stops := fun H' k => by rw [enumL_len, ← hl]; exact walk_enum.stops H' (q F H' (fun _ z => z) k).1
  yields := fun F' H' i x H3 m k hi y => by
    rw [enumL_len] at hi
    obtain ⟨sq, r⟩ := q F' H' m k
    obtain ⟨T, x0, y0, rfl, hT, rfl, e1, e2⟩ := walk_enum.yields i H' x H3 (by omega) sq y
    refine ⟨Same.new hT, fun _ z => Same.dom (Same.new hT) z, fun d e => ?_⟩
    obtain ⟨d0, e0⟩ : ∃ d0, ds[i]? = some d0 := ⟨ds[i], by simp [hi]⟩
    rw [enumL_get e0] at e
    cases e
    cases e1
    rw [Nat.zero_add]
    exact rep_pair hT (.int _ _) (rep_at r e0 e2)
theorem walk_z {a b : Addr} {xs ys : List V} {ds es : List D} (hl : xs.length = ds.length) (hl' : ys.length = es.length) (q : ∀ (F' : Addr → Prop) H', (∀ a, F a → F' a) → Kp F H H' → SqL c.K H' a xs ∧ RepL c F' H' 0 xs ds [])
    (q' : ∀ (F' : Addr → Prop) H', (∀ a, F a → F' a) → Kp F H H' → SqL c.K H' b ys ∧ RepL c F' H' 0 ys es []) : WalkD c (Itz c.K a b) F H (zipL ds es) where
  goes := fun H' i k hi => by rw [zipL_len] at hi; exact (walk_zip (n := min xs.length ys.length) rfl).goes i H' (by omega) ⟨(q F H' (fun _ z => z) k).1, (q' F H' (fun _ z => z) k).1⟩
  stops := fun H' k => by rw [zipL_len, ← hl, ← hl']; exact (walk_zip (n := min xs.length ys.length) rfl).stops H' ⟨(q F H' (fun _ z => z) k).1, (q' F H' (fun _ z => z) k).1⟩
  yields := fun F' H' i x H3 m k hi y => by
    rw [zipL_len] at hi
    obtain ⟨sq, r⟩ := q F' H' m k
    obtain ⟨sq', r'⟩ := q' F' H' m k
    obtain ⟨T, x0, y0, rfl, hT, rfl, e1, e2⟩ := (walk_zip (n := min xs.length ys.length) rfl).yields i H' x H3 (by omega) ⟨sq, sq'⟩ y
    refine ⟨Same.new hT, fun _ z => Same.dom (Same.new hT) z, fun d e => ?_⟩
    obtain ⟨d0, e0⟩ : ∃ d0, ds[i]? = some d0 := ⟨ds[i]'(by omega), by simp [show i < ds.length by omega]⟩
    obtain ⟨d1, e1'⟩ : ∃ d1, es[i]? = some d1 := ⟨es[i]'(by omega), by simp [show i < es.length by omega]⟩
    rw [zipL_get e0 e1'] at e
    cases e
    exact rep_pair hT (rep_at r e0 e1) (rep_at r' e1' e2)
theorem walk_zT {a b : Addr} {xs ys : List V} {ds es : List D} (hl : xs.length = ds.length) (hl' : ys.length = es.length) (q : ∀ (F' : Addr → Prop) H', (∀ a, F a → F' a) → Kp F H H' → SqT c.K H' a xs ∧ RepL c F' H' 0 xs ds [])
    (q' : ∀ (F' : Addr → Prop) H', (∀ a, F a → F' a) → Kp F H H' → SqT c.K H' b ys ∧ RepL c F' H' 0 ys es []) : WalkD c (RZ.ItzT c.K a b) F H (zipL ds es) where
  goes := fun H' i k hi => by
    rw [zipL_len] at hi
    exact ⟨xs, ys, xs[i]'(by omega), ys[i]'(by omega), (q F H' (fun _ z => z) k).1, (q' F H' (fun _ z => z) k).1, by simp [show i < xs.length by omega], by simp [show i < ys.length by omega]⟩
  stops := fun H' k => by rw [zipL_len]; exact ⟨xs, ys, (q F H' (fun _ z => z) k).1, (q' F H' (fun _ z => z) k).1, by omega⟩
  yields := fun F' H' i x H3 m k hi y => by
    rw [zipL_len] at hi
    obtain ⟨sq, r⟩ := q F' H' m k
    obtain ⟨sq', r'⟩ := q' F' H' m k
    obtain ⟨T, x0, y0, rfl, hT, rfl, e1, e2⟩ := y
    refine ⟨Same.new hT, fun _ z => Same.dom (Same.new hT) z, fun d e => ?_⟩
    obtain ⟨d0, e0⟩ : ∃ d0, ds[i]? = some d0 := ⟨ds[i]'(by omega), by simp [show i < ds.length by omega]⟩
    obtain ⟨d1, e1'⟩ : ∃ d1, es[i]? = some d1 := ⟨es[i]'(by omega), by simp [show i < es.length by omega]⟩
    rw [zipL_get e0 e1'] at e
    cases e
    exact rep_pair hT (rep_at r e0 (e1 xs sq)) (rep_at r' e1' (e2 ys sq'))
end
section
variable (c : Cn) (xc : Xc) (W : WX) (C : Calls)
def PostI (σ : L2.St) (F O : Addr → Prop) (H : Hp) (sk : Sk) (R : It → Hp → Prop) : ResL → Prop
  | .ok env' l => ∃ xs, srcL sk (l.map (·.2)) = some xs ∧ ∀ F' O' H' J, Step F O H F' O' H' → Good c F' env' σ H' O' → WalkD c J F' H' xs → R J H'
  | .exc _ x => PostX c xc W σ F O H x
  | .bad => False
def rI (sk : Sk) (es : Es) : TI := fun σ H R => ∃ env F O, Good c F env σ H O ∧ PostI c xc W σ F O H sk R (evL C es env)
end
section
variable {c : Cn} {xc : Xc} {W : WX} {C : Calls}
/-- what is held is frozen -/
theorem ArgsT.fz {F O : Addr → Prop} {H : Hp} {env : Env} {σ : L2.St} {l : List (Nat × D)} {vs : List V} {fp : List Addr} (t : ArgsT c F O H l vs fp) (g : Good c F env σ H O) :
    Good c (fun a => F a ∨ a ∈ fp) env σ H O ∧ RepL c (fun a => F a ∨ a ∈ fp) H 0 vs (l.map (·.2)) [] := by
  refine ⟨g.keep (fun a h => .inl h) (fun a h => ?_) fun _ _ h => h, Args.fz (fun _ z => .inl z) (fun _ z => .inr z) t.rep⟩
  rcases h with h | h
  · exact ⟨fun z => g.disj a z h, g.dom a h⟩
  · refine ⟨t.nO a h, fun z => ?_⟩
    obtain ⟨o, e, _⟩ := t.rep.mem a h
    rw [e] at z; cases z
theorem Step.fz {F O F1 O1 : Addr → Prop} {H H1 : Hp} {fp : List Addr} (s : Step F O H F1 O1 H1) (fr : ∀ a, a ∈ fp → O a ∨ H a = none) : Step F O H (fun a => F1 a ∨ a ∈ fp) O1 H1 :=
  ⟨fun a z => .inl (s.mono a z), s.own, fun a z => z.elim (s.frz a) fun z => .inr (fr a z), s.keep, s.dom⟩
theorem Kp.refl {F : Addr → Prop} {H : Hp} : Kp F H H := ⟨fun _ _ h _ => h, fun _ _ _ h => h⟩
/-- all sources: from the arguments' values to a walk -/
theorem rI_of {sk : Sk} {es : Es} {σ : L2.St} {H : Hp} {R : It → Hp → Prop} (h : rI c xc W C sk es σ H R) :
    rL c xc W C es σ H fun vs H1 => ∃ (F : Addr → Prop) (ds xs : List D), RepL c F H1 0 vs ds [] ∧ srcL sk ds = some xs ∧ ∀ J, WalkD c J F H1 xs → R J H1 := by
  obtain ⟨env, F, O, g, p⟩ := h
  refine ⟨env, F, O, g, ?_⟩
  cases e : evL C es env with
  | bad => rw [e] at p; exact p
  | exc env1 y => rw [e] at p; exact p
  | ok env1 l =>
    rw [e] at p
    obtain ⟨xs, hx, q⟩ := p
    intro F1 O1 H1 vs fp s1 g1 t fr
    obtain ⟨g2, r⟩ := t.fz g1
    exact ⟨_, _, xs, r, hx, fun J w => q _ O1 H1 J (Step.fz s1 fr) g2 w⟩
theorem RepL.c1 {F : Addr → Prop} {H : Hp} {k : Nat} {vs : List V} {d : D} {fp : List Addr} (r : RepL c F H k vs [d] fp) : ∃ v, vs = [v] ∧ Rep c F H k v d fp := by
  cases r with
  | cons r rs =>
    cases rs
    rw [List.append_nil]
    exact ⟨_, rfl, r⟩
theorem RepL.c2 {F : Addr → Prop} {H : Hp} {vs : List V} {d e : D} {fp : List Addr} (r : RepL c F H 0 vs [d, e] fp) : ∃ v u fp1 fp2, vs = [v, u] ∧ Rep c F H 0 v d fp1 ∧ Rep c F H 0 u e fp2 := by
  cases r with
  | cons r rs =>
    obtain ⟨u, rfl, s⟩ := RepL.c1 rs
    exact ⟨_, _, _, _, rfl, r, s⟩
theorem src_rng1 {ds xs : List D} (h : srcL .rng1 ds = some xs) : ∃ j : Int, ds = [.int j] ∧ (-(2 ^ 62) ≤ j ∧ j < 2 ^ 62) ∧ xs = rngL 0 j.toNat := by
  unfold srcL at h
  split at h
  all_goals first | (exfalso; rename_i hq; cases hq; done) | skip
  · rename_i j _
    cases hj : rngOk j with
    | true => rw [hj] at h; cases h; exact ⟨_, rfl, of_decide_eq_true hj, rfl⟩
    | false => rw [hj] at h; cases h
  · cases h
theorem src_rng2 {ds xs : List D} (h : srcL .rng2 ds = some xs) : ∃ i j : Int, ds = [.int i, .int j] ∧ (-(2 ^ 62) ≤ i ∧ i < 2 ^ 62 ∧ -(2 ^ 62) ≤ j ∧ j < 2 ^ 62) ∧ xs = rngL i (j - i).toNat := by
  unfold srcL at h
  split at h
  all_goals first | (exfalso; rename_i hq; cases hq; done) | skip
  · rename_i i j _
    cases hj : (rngOk i && rngOk j) with
    | true => rw [hj] at h; cases h; rw [Bool.and_eq_true] at hj; exact ⟨_, _, rfl, ⟨(of_decide_eq_true hj.1).1, (of_decide_eq_true hj.1).2, (of_decide_eq_true hj.2).1, (of_decide_eq_true hj.2).2⟩, rfl⟩
    | false => rw [hj] at h; cases h
  · cases h
theorem src_val {ds xs : List D} (h : srcL .val ds = some xs) : ds = [.list xs] ∨ ds = [.tuple xs] := by
  unfold srcL at h
  split at h
  all_goals first | (exfalso; rename_i hq; cases hq; done) | skip
  · rename_i d _
    cases d with
    | list ys => cases h; exact .inl rfl
    | tuple ys => cases h; exact .inr rfl
    | _ => cases h
  · cases h
theorem src_enum {ds xs : List D} (h : srcL .enum ds = some xs) : ∃ ys, (ds = [.list ys] ∨ ds = [.tuple ys]) ∧ xs = enumL 0 ys := by
  unfold srcL at h
  split at h
  all_goals first | (exfalso; rename_i hq; cases hq; done) | skip
  all_goals first | (cases h; exact ⟨_, .inl rfl, rfl⟩) | (cases h; exact ⟨_, .inr rfl, rfl⟩) | cases h
/-- the rows of a zip -/
inductive RRep (c : Cn) (F : Addr → Prop) (H : Hp) : List (List V) → List (List D) → Prop
  | nil : RRep c F H [] []
  | cons {r : List V} {d : List D} {rs : List (List V)} {ds : List (List D)} (h : RepL c F H 0 r d []) (t : RRep c F H rs ds) : RRep c F H (r :: rs) (d :: ds)
theorem RRep.at {F : Addr → Prop} {H : Hp} {i : Nat} : ∀ {rs : List (List V)} {ds : List (List D)} {xs : List D}, RRep c F H rs ds → ds.map (fun r => r[i]?) = xs.map some → ∃ us, rs.map (fun r => r[i]?) = us.map some ∧ RepL c F H 0 us xs []
  | _, _, [], .nil, _ => ⟨[], rfl, .nil _⟩
  | _, _, _ :: _, .nil, h => by simp at h
  | _, _, [], .cons _ _, h => by simp at h
  | _, _, x :: xs, .cons h t, e => by
    simp only [List.map_cons, List.cons.injEq] at e
    obtain ⟨us, e2, v⟩ := RRep.at t e.2
    obtain ⟨u, fq, hu, ru, n⟩ := RepL.get0 h e.1
    obtain rfl : fq = [] := List.eq_nil_iff_forall_not_mem.mpr fun a z => by cases n a z
    exact ⟨u :: us, by rw [List.map_cons, List.map_cons, e2, hu], .cons (fp := []) (fq := []) ru v⟩
theorem RRep.short {F : Addr → Prop} {H : Hp} {i : Nat} : ∀ {rs : List (List V)} {ds : List (List D)}, RRep c F H rs ds → (∃ r, r ∈ ds ∧ r.length ≤ i) → ∃ r, r ∈ rs ∧ r.length ≤ i
  | _, _, .nil, ⟨_, h, _⟩ => by cases h
  | _, _, .cons (r := r) h t, ⟨d, hd, hl⟩ => by
    rcases List.mem_cons.mp hd with rfl | hd
    · exact ⟨r, List.mem_cons_self, by rw [h.length]; exact hl⟩
    · obtain ⟨d, hd, e⟩ := RRep.short t ⟨d, hd, hl⟩
      exact ⟨d, List.mem_cons_of_mem _ hd, e⟩
theorem some_inj : ∀ {α : Type} {xs ys : List α}, xs.map some = ys.map some → xs = ys
  | _, [], [], _ => rfl
  | _, [], _ :: _, h => by simp at h
  | _, _ :: _, [], h => by simp at h
  | _, x :: xs, y :: ys, h => by
    simp only [List.map_cons, List.cons.injEq, Option.some.injEq] at h
    rw [h.1, some_inj h.2]
theorem walk_zn {F : Addr → Prop} {H : Hp} {zs : List (Bool × Addr)} {rs : List (List V)} {rows : List (List D)} {ds : List D} (hd : ∀ (i : Nat) (d : D), ds[i]? = some d → ∃ xs : List D, rows.map (fun r => r[i]?) = xs.map some ∧ d = .tuple xs) (hl : ∃ r, r ∈ rows ∧ r.length ≤ ds.length)
    (q : ∀ (F' : Addr → Prop) H', (∀ a, F a → F' a) → Kp F H H' → Srcs c.K H' zs rs ∧ RRep c F' H' rs rows) : WalkD c (Itn c.K zs) F H ds where
  goes := fun H' i k hi => by
    obtain ⟨h1, h2⟩ := q F H' (fun _ z => z) k
    obtain ⟨xs, hx, _⟩ := hd i _ (List.getElem?_eq_getElem hi)
    obtain ⟨us, hu, _⟩ := h2.at hx
    exact ⟨rs, us, h1, hu⟩
  stops := fun H' k => by
    obtain ⟨h1, h2⟩ := q F H' (fun _ z => z) k
    exact ⟨rs, h1, h2.short hl⟩
  yields := fun F' H' i x H3 m k hi y => by
    obtain ⟨h1, h2⟩ := q F' H' m k
    obtain ⟨T, us, rfl, hT, rfl, e⟩ := y
    refine ⟨Same.new hT, fun _ z => Same.dom (Same.new hT) z, fun d ed => ?_⟩
    obtain ⟨xs, hx, rfl⟩ := hd i d ed
    obtain ⟨ws, hw, r⟩ := h2.at hx
    have := e rs h1
    rw [hw] at this
    obtain rfl := some_inj this
    exact .tup upd_same (RepL.same r (Same.new hT))
/-- a row that is walked, frozen: list or tuple -/
theorem stay_s {F : Addr → Prop} {H : Hp} {v : V} {d : D} {ys : List D} {fp : List Addr} (r : Rep c F H 0 v d fp) (e : seqOf d = some ys) : ∃ t a xs, v = .ref a ∧ ∀ (F' : Addr → Prop) H', (∀ a, F a → F' a) → Kp F H H' → ((t = true ∧ SqT c.K H' a xs) ∨ (t = false ∧ SqL c.K H' a xs)) ∧ RepL c F' H' 0 xs ys [] := by
  cases d with
  | list zs =>
    cases e
    obtain ⟨a, xs, rfl, _, st⟩ := stay_l r
    exact ⟨false, a, xs, rfl, fun F' H' m k => ⟨.inr ⟨rfl, (st F' H' m k).1⟩, (st F' H' m k).2⟩⟩
  | tuple zs =>
    cases e
    obtain ⟨a, xs, rfl, _, st⟩ := stay_t r
    exact ⟨true, a, xs, rfl, fun F' H' m k => ⟨.inl ⟨rfl, (st F' H' m k).1⟩, (st F' H' m k).2⟩⟩
  | _ => cases e
theorem zipL_at : ∀ {xs ys : List D} {i : Nat} {d : D}, (zipL xs ys)[i]? = some d → ∃ x y, xs[i]? = some x ∧ ys[i]? = some y ∧ d = .tuple [x, y]
  | [], _, _, _, h => by simp [zipL] at h
  | _ :: _, [], _, _, h => by simp [zipL] at h
  | x :: xs, y :: ys, 0, d, h => ⟨x, y, rfl, rfl, by simpa [zipL] using h.symm⟩
  | x :: xs, y :: ys, i + 1, d, h => by
    obtain ⟨a, b, h1, h2, e⟩ := zipL_at (xs := xs) (ys := ys) (i := i) (d := d) (by simpa [zipL] using h)
    exact ⟨a, b, by simpa using h1, by simpa using h2, e⟩
theorem zipL3_at : ∀ {xs ys zs : List D} {i : Nat} {d : D}, (zipL3 xs ys zs)[i]? = some d → ∃ x y z, xs[i]? = some x ∧ ys[i]? = some y ∧ zs[i]? = some z ∧ d = .tuple [x, y, z]
  | [], _, _, _, _, h => by simp [zipL3] at h
  | _ :: _, [], _, _, _, h => by simp [zipL3] at h
  | _ :: _, _ :: _, [], _, _, h => by simp [zipL3] at h
  | x :: xs, y :: ys, z :: zs, 0, d, h => ⟨x, y, z, rfl, rfl, rfl, by simpa [zipL3] using h.symm⟩
  | x :: xs, y :: ys, z :: zs, i + 1, d, h => by
    obtain ⟨a, b, e, h1, h2, h3, q⟩ := zipL3_at (xs := xs) (ys := ys) (zs := zs) (i := i) (d := d) (by simpa [zipL3] using h)
    exact ⟨a, b, e, by simpa using h1, by simpa using h2, by simpa using h3, q⟩
theorem zipL3_len : ∀ (xs ys zs : List D), (zipL3 xs ys zs).length = min xs.length (min ys.length zs.length)
  | [], _, _ => by simp [zipL3]
  | _ :: _, [], _ => by simp [zipL3]
  | _ :: _, _ :: _, [] => by simp [zipL3]
  | x :: xs, y :: ys, z :: zs => by
    have := zipL3_len xs ys zs
    simp only [zipL3, List.length_cons, this]
    omega
theorem src_zip2 {ds xs : List D} (h : srcL .zip2 ds = some xs) : ∃ a b ys zs, ds = [a, b] ∧ seqOf a = some ys ∧ seqOf b = some zs ∧ xs = zipL ys zs := by
  unfold srcL at h
  split at h
  all_goals first | (exfalso; rename_i hq; cases hq; done) | skip
  · rename_i a b _
    simp only [Option.bind_eq_some_iff, Option.map_eq_some_iff] at h
    obtain ⟨ys, h1, zs, h2, rfl⟩ := h
    exact ⟨a, b, ys, zs, rfl, h1, h2, rfl⟩
  · cases h
theorem src_zip3 {ds xs : List D} (h : srcL .zip3 ds = some xs) : ∃ a b d ys zs us, ds = [a, b, d] ∧ seqOf a = some ys ∧ seqOf b = some zs ∧ seqOf d = some us ∧ xs = zipL3 ys zs us := by
  unfold srcL at h
  split at h
  all_goals first | (exfalso; rename_i hq; cases hq; done) | skip
  · rename_i a b d _
    simp only [Option.bind_eq_some_iff, Option.map_eq_some_iff] at h
    obtain ⟨ys, h1, zs, h2, us, h3, rfl⟩ := h
    exact ⟨a, b, d, ys, zs, us, rfl, h1, h2, h3, rfl⟩
  · cases h
theorem rL_imp {es : Es} {σ : L2.St} {H : Hp} {Q Q' : List V → Hp → Prop} (h : rL c xc W C es σ H Q) (i : ∀ vs H1, Q vs H1 → Q' vs H1) : rL c xc W C es σ H Q' := by
  obtain ⟨env, F, O, g, p⟩ := h
  refine ⟨env, F, O, g, ?_⟩
  cases e : evL C es env with
  | bad => rw [e] at p; exact p
  | exc env1 y => rw [e] at p; exact p
  | ok env1 l =>
    rw [e] at p
    exact fun F1 O1 H1 vs fp s1 g1 t fr => i _ _ (p F1 O1 H1 vs fp s1 g1 t fr)
theorem i_rng1 {es : Es} {σ : L2.St} {H : Hp} {R : It → Hp → Prop} (h : rI c xc W C .rng1 es σ H R) : iRng1 (rL c xc W C es) σ H R :=
  rL_imp (rI_of h) fun vs H1 ⟨F', ds, xs, r, hx, q⟩ => by
    obtain ⟨j, rfl, hj, rfl⟩ := src_rng1 hx
    obtain ⟨v, rfl, r1⟩ := RepL.c1 r
    cases r1
    exact ⟨j, rfl, hj.1, hj.2, q _ walk_r⟩
theorem i_rng2 {es : Es} {σ : L2.St} {H : Hp} {R : It → Hp → Prop} (h : rI c xc W C .rng2 es σ H R) : iRng2 (rL c xc W C es) σ H R :=
  rL_imp (rI_of h) fun vs H1 ⟨F', ds, xs, r, hx, q⟩ => by
    obtain ⟨i, j, rfl, hj, rfl⟩ := src_rng2 hx
    obtain ⟨v, u, _, _, rfl, r1, r2⟩ := RepL.c2 r
    cases r1
    cases r2
    exact ⟨i, j, rfl, hj, q _ walk_r⟩
/-- enumerate of a tuple: as Ite, of the tuple at a -/
def IteT (K : PySem.W.Frag) (a : Addr) : It :=
  ⟨fun i H => ∃ (xs : List V) (x : V), SqT K H a xs ∧ xs[i]? = some x, fun i H v H' => ∃ T x, v = .ref T ∧ H T = none ∧ H' = upd H T (.tup [.int (i : Nat), x]) ∧ ∀ xs, SqT K H a xs → xs[i]? = some x, fun i H => ∃ xs : List V, SqT K H a xs ∧ xs.length ≤ i⟩
theorem walk_eT {a : Addr} {F : Addr → Prop} {H : Hp} {xs : List V} {ds : List D} (hl : xs.length = ds.length) (q : ∀ (F' : Addr → Prop) H', (∀ a, F a → F' a) → Kp F H H' → SqT c.K H' a xs ∧ RepL c F' H' 0 xs ds []) : WalkD c (IteT c.K a) F H (enumL 0 ds) where
  goes := fun H' i k hi => by
    rw [enumL_len] at hi
    exact ⟨xs, xs[i]'(by omega), (q F H' (fun _ z => z) k).1, by simp [show i < xs.length by omega]⟩
  stops := fun H' k => by rw [enumL_len, ← hl]; exact ⟨xs, (q F H' (fun _ z => z) k).1, Nat.le_refl _⟩
  yields := fun F' H' i x H3 m k hi y => by
    rw [enumL_len] at hi
    obtain ⟨sq, r⟩ := q F' H' m k
    obtain ⟨T, x0, rfl, hT, rfl, e2⟩ := y
    refine ⟨Same.new hT, fun _ z => Same.dom (Same.new hT) z, fun d e => ?_⟩
    obtain ⟨d0, e0⟩ : ∃ d0, ds[i]? = some d0 := ⟨ds[i], by simp [hi]⟩
    rw [enumL_get e0] at e
    cases e
    rw [Nat.zero_add]
    exact rep_pair hT (.int _ _) (rep_at r e0 (e2 xs sq))
/-- enumerate of a list or a tuple -/
def iEnumA (K : PySem.W.Frag) (ta : TA) : TI := fun σ H R => ta σ H fun vs H1 => ∃ a xs, vs = [.ref a] ∧ ((SqL K H1 a xs ∧ R (Ite K a) H1) ∨ (SqT K H1 a xs ∧ R (IteT K a) H1))
theorem i_enum {es : Es} {σ : L2.St} {H : Hp} {R : It → Hp → Prop} (h : rI c xc W C .enum es σ H R) : iEnumA c.K (rL c xc W C es) σ H R :=
  rL_imp (rI_of h) fun vs H1 ⟨F', ds, xs, r, hx, q⟩ => by
    obtain ⟨ys, e, rfl⟩ := src_enum hx
    rcases e with rfl | rfl
    · obtain ⟨v, rfl, r1⟩ := RepL.c1 r
      obtain ⟨a, zs, rfl, hl, st⟩ := stay_l r1
      exact ⟨a, zs, rfl, .inl ⟨(st F' H1 (fun _ z => z) Kp.refl).1, q _ (walk_e hl st)⟩⟩
    · obtain ⟨v, rfl, r1⟩ := RepL.c1 r
      obtain ⟨a, zs, rfl, hl, st⟩ := stay_t r1
      exact ⟨a, zs, rfl, .inr ⟨(st F' H1 (fun _ z => z) Kp.refl).1, q _ (walk_eT hl st)⟩⟩
theorem RepL.c3 {F : Addr → Prop} {H : Hp} {vs : List V} {d e f : D} {fp : List Addr} (r : RepL c F H 0 vs [d, e, f] fp) : ∃ v u w fp1 fp2 fp3, vs = [v, u, w] ∧ Rep c F H 0 v d fp1 ∧ Rep c F H 0 u e fp2 ∧ Rep c F H 0 w f fp3 := by
  cases r with
  | cons r rs =>
    obtain ⟨v, u, _, _, rfl, h1, h2⟩ := RepL.c2 rs
    exact ⟨_, _, _, _, _, _, rfl, r, h1, h2⟩
theorem i_zip2 {es : Es} {σ : L2.St} {H : Hp} {R : It → Hp → Prop} (h : rI c xc W C .zip2 es σ H R) : iZipN c.K (rL c xc W C es) σ H R :=
  rL_imp (rI_of h) fun vs H1 ⟨F', ds, xs, r, hx, q⟩ => by
    obtain ⟨a, b, ys, zs, rfl, e1, e2, rfl⟩ := src_zip2 hx
    obtain ⟨v, u, _, _, rfl, r1, r2⟩ := RepL.c2 r
    obtain ⟨t1, a1, us1, rfl, s1⟩ := stay_s r1 e1
    obtain ⟨t2, a2, us2, rfl, s2⟩ := stay_s r2 e2
    refine ⟨[(t1, a1), (t2, a2)], [us1, us2], rfl, ⟨(s1 F' H1 (fun _ z => z) Kp.refl).1, (s2 F' H1 (fun _ z => z) Kp.refl).1, trivial⟩, q _ (walk_zn (rows := [ys, zs]) (rs := [us1, us2]) (fun i d e => ?_) ?_ fun F2 H2 m k => ⟨⟨(s1 F2 H2 m k).1, (s2 F2 H2 m k).1, trivial⟩, .cons (s1 F2 H2 m k).2 (.cons (s2 F2 H2 m k).2 .nil)⟩)⟩
    · obtain ⟨x, y, h1, h2, rfl⟩ := zipL_at e
      exact ⟨[x, y], by simp [h1, h2], rfl⟩
    · rw [zipL_len]
      rcases Nat.le_total ys.length zs.length with z | z
      · exact ⟨ys, by simp, by omega⟩
      · exact ⟨zs, by simp, by omega⟩
theorem i_zip3 {es : Es} {σ : L2.St} {H : Hp} {R : It → Hp → Prop} (h : rI c xc W C .zip3 es σ H R) : iZipN c.K (rL c xc W C es) σ H R :=
  rL_imp (rI_of h) fun vs H1 ⟨F', ds, xs, r, hx, q⟩ => by
    obtain ⟨a, b, d, ys, zs, ws, rfl, e1, e2, e3, rfl⟩ := src_zip3 hx
    obtain ⟨v, u, w, _, _, _, rfl, r1, r2, r3⟩ := RepL.c3 r
    obtain ⟨t1, a1, us1, rfl, s1⟩ := stay_s r1 e1
    obtain ⟨t2, a2, us2, rfl, s2⟩ := stay_s r2 e2
    obtain ⟨t3, a3, us3, rfl, s3⟩ := stay_s r3 e3
    refine ⟨[(t1, a1), (t2, a2), (t3, a3)], [us1, us2, us3], rfl, ⟨(s1 F' H1 (fun _ z => z) Kp.refl).1, (s2 F' H1 (fun _ z => z) Kp.refl).1, (s3 F' H1 (fun _ z => z) Kp.refl).1, trivial⟩,
      q _ (walk_zn (rows := [ys, zs, ws]) (rs := [us1, us2, us3]) (fun i d e => ?_) ?_ fun F2 H2 m k => ⟨⟨(s1 F2 H2 m k).1, (s2 F2 H2 m k).1, (s3 F2 H2 m k).1, trivial⟩, .cons (s1 F2 H2 m k).2 (.cons (s2 F2 H2 m k).2 (.cons (s3 F2 H2 m k).2 .nil))⟩)⟩
    · obtain ⟨x, y, z, h1, h2, h3, rfl⟩ := zipL3_at e
      exact ⟨[x, y, z], by simp [h1, h2, h3], rfl⟩
    · rw [zipL3_len]
      rcases Nat.le_total ys.length zs.length with z | z
      · rcases Nat.le_total ys.length ws.length with z' | z'
        · exact ⟨ys, by simp, by omega⟩
        · exact ⟨ws, by simp, by omega⟩
      · rcases Nat.le_total zs.length ws.length with z' | z'
        · exact ⟨zs, by simp, by omega⟩
        · exact ⟨ws, by simp, by omega⟩
/-- a value that is walked: a list, or a tuple -/
theorem i_val {e : E} {σ : L2.St} {H : Hp} {R : It → Hp → Prop} (h : rI c xc W C .val (.cons e .nil) σ H R) : iList c.K (rE c xc W C e) σ H R ∨ iTup c.K (rE c xc W C e) σ H R := by
  obtain ⟨env, F, O, g, p⟩ := h
  unfold evL at p
  cases ea : evE C e env with
  | bad => rw [ea] at p; exact p.elim
  | exc env1 y => rw [ea] at p; exact .inl ⟨env, F, O, g, by rw [ea]; exact p⟩
  | ok env1 k1 d1 =>
    rw [ea] at p
    simp only [evL] at p
    obtain ⟨xs, hx, p⟩ := p
    cases d1 with
    | list ds =>
      cases hx
      refine .inl ⟨env, F, O, g, ?_⟩
      rw [ea]
      intro F1 O1 H1 v fp s1 g1 t fr
      obtain ⟨g2, t2⟩ := t.freeze g1
      obtain ⟨a, ys, rfl, hl, st⟩ := stay_l t2.rep
      exact ⟨a, rfl, ⟨ys, (st _ H1 (fun _ z => z) Kp.refl).1⟩, p _ O1 H1 _ (Step.fz s1 fr) g2 (walk_l hl st)⟩
    | tuple ds =>
      cases hx
      refine .inr ⟨env, F, O, g, ?_⟩
      rw [ea]
      intro F1 O1 H1 v fp s1 g1 t fr
      obtain ⟨g2, t2⟩ := t.freeze g1
      obtain ⟨a, ys, rfl, hl, st⟩ := stay_t t2.rep
      exact ⟨a, rfl, ⟨ys, (st _ H1 (fun _ z => z) Kp.refl).1⟩, p _ O1 H1 _ (Step.fz s1 fr) g2 (walk_t hl st)⟩
    | _ => cases hx
theorem PI.or {X : Cx} {tg e : Expr} {t t' t'' : TI} (h : PI X tg e t) (h' : PI X tg e t') (i : ∀ σ H R, t'' σ H R → t σ H R ∨ t' σ H R) : PI X tg e t'' := ⟨fun pins s σ H R I q => (i σ H R q).elim (h.run pins s σ H R I) (h'.run pins s σ H R I)⟩
theorem PI.imp {X : Cx} {tg e : Expr} {t t' : TI} (h : PI X tg e t) (i : ∀ σ H R, t' σ H R → t σ H R) : PI X tg e t' := ⟨fun pins s σ H R I q => h.run pins s σ H R I (i σ H R q)⟩
end
end Pv
end
section
set_option maxRecDepth 100000
set_option maxHeartbeats 4000000
/-! PvBind: targets; slots cleared. -/
namespace Pv
open PySem PySem.Spec PyProof.Rows L2
section
variable {c : Cn} {F F' O O' : Addr → Prop} {H H' : Hp} {env : Env} {σ : L2.St}
theorem putS_out : ∀ {env : Env} {i : Nat} {v : Option (Nat × D)}, env.length ≤ i → putS env i v = env
  | [], _, _, _ => rfl
  | _ :: _, 0, _, h => by simp at h
  | o :: r, i + 1, _, h => congrArg (o :: ·) (putS_out (env := r) (i := i) (by simpa using h))
/-- the same but at the slots vs -/
def SameOut (vs : List Nat) (σ σ' : L2.St) : Prop := σ'.length = σ.length ∧ ∀ j, j ∉ vs → σ'[j]? = σ[j]?
theorem SameOut.refl {vs : List Nat} {σ : L2.St} : SameOut vs σ σ := ⟨rfl, fun _ _ => rfl⟩
theorem SameOut.trans {vs : List Nat} {σ σ1 σ2 : L2.St} (a : SameOut vs σ σ1) (b : SameOut vs σ1 σ2) : SameOut vs σ σ2 := ⟨b.1.trans a.1, fun j h => (b.2 j h).trans (a.2 j h)⟩
theorem SameOut.mono {vs ws : List Nat} {σ σ1 : L2.St} (a : SameOut vs σ σ1) (h : ∀ i, i ∈ vs → i ∈ ws) : SameOut ws σ σ1 := ⟨a.1, fun j n => a.2 j fun z => n (h j z)⟩
theorem SameOut.set {i : Nat} {o : Option V} {σ : L2.St} : SameOut [i] σ (σ.set i o) := ⟨by simp, fun j h => by
  have : i ≠ j := fun e => h (by simp [e])
  exact List.getElem?_set_ne this⟩
/-- a store, wherever -/
theorem Good.store' {i k : Nat} {d : D} {v : V} {fp : List Addr} (g : Good c F env σ H O) (t : Tmp c F O H k v d fp) :
    ∃ O', Good c F (putS env i (some (k, d))) (σ.set i (some v)) H O' ∧ ∀ a, O' a → O a ∨ a ∈ fp := by
  by_cases hi : i < env.length
  · exact g.store hi t
  · have h1 : env.length ≤ i := by omega
    rw [putS_out h1, List.set_eq_of_length_le (by rw [g.len]; exact h1)]
    exact ⟨O, g, fun a z => .inl z⟩
mutual
def names : G → List Nat
  | .name i => [i]
  | .tup gs => namesL gs
def namesL : List G → List Nat
  | [] => []
  | g :: gs => names g ++ namesL gs
end
mutual
def gR (K : PySem.W.Frag) : G → TG
  | .name i => gName i
  | .tup gs => gTup K gs.length (gRs K gs)
def gRs (K : PySem.W.Frag) : List G → TGs
  | [] => gNil
  | g :: gs => gCons (gR K g) (gRs K gs)
end
theorem bindGs_len : ∀ {gs : List G} {k : Nat} {ds : List D} {env env1 : Env}, bindGs gs k ds env = some env1 → ds.length = gs.length
  | [], _, [], _, _, _ => rfl
  | [], _, _ :: _, _, _, h => by simp [bindGs] at h
  | _ :: _, _, [], _, _, h => by simp [bindGs] at h
  | g :: gs, k, d :: ds, env, env1, h => by
    simp only [bindGs] at h
    split at h
    · exact congrArg (· + 1) (bindGs_len h)
    · cases h
mutual
theorem bind_ok : ∀ (g : G) {F O : Addr → Prop} {H : Hp} {env env1 : Env} {σ : L2.St} {k : Nat} {v : V} {d : D} {fp : List Addr} {Kk : L2.St → Hp → Prop}, Good c F env σ H O → Tmp c F O H k v d fp → bindG g k d env = some env1 →
    (∀ σ1 O1, Good c F env1 σ1 H O1 → (∀ a, O1 a → O a ∨ a ∈ fp) → SameOut (names g) σ σ1 → Kk σ1 H) → gR c.K g v σ H Kk
  | .name i, F, O, H, env, env1, σ, k, v, d, fp, Kk, g, t, h, q => by
    simp only [bindG, Option.some.injEq] at h
    subst h
    obtain ⟨O1, g1, s1⟩ := g.store' (i := i) t
    simp only [gR]
    exact q _ O1 g1 s1 (by simpa [names] using SameOut.set)
  | .tup gs, F, O, H, env, env1, σ, k, v, d, fp, Kk, g, t, h, q => by
    cases d with
    | tuple ds =>
      simp only [bindG] at h
      obtain ⟨r, nd, nO, nF⟩ := t
      cases r with
      | tup ha r =>
        simp only [gR]
        exact ⟨_, _, rfl, .inl (.inl ha), by rw [r.length, bindGs_len h], binds_ok gs g ⟨r, nd, nO, nF⟩ h fun σ1 O1 g1 s1 so => q σ1 O1 g1 s1 (by simpa [names] using so)⟩
    | _ => simp [bindG] at h
theorem binds_ok : ∀ (gs : List G) {F O : Addr → Prop} {H : Hp} {env env1 : Env} {σ : L2.St} {k : Nat} {vs : List V} {ds : List D} {fp : List Addr} {Kk : L2.St → Hp → Prop}, Good c F env σ H O → TmpL c F O H k vs ds fp → bindGs gs k ds env = some env1 →
    (∀ σ1 O1, Good c F env1 σ1 H O1 → (∀ a, O1 a → O a ∨ a ∈ fp) → SameOut (namesL gs) σ σ1 → Kk σ1 H) → gRs c.K gs vs σ H Kk
  | [], F, O, H, env, env1, σ, k, vs, ds, fp, Kk, g, t, h, q => by
    cases ds with
    | nil =>
      simp only [bindGs, Option.some.injEq] at h
      subst h
      obtain ⟨r, _, _, _⟩ := t
      cases r
      simp only [gRs]
      exact ⟨rfl, q σ O g (fun a z => .inl z) SameOut.refl⟩
    | cons _ _ => simp [bindGs] at h
  | g0 :: gs, F, O, H, env, env1, σ, k, vs, ds, fp, Kk, g, t, h, q => by
    cases ds with
    | nil => simp [bindGs] at h
    | cons d ds =>
      simp only [bindGs] at h
      cases hb : bindG g0 k d env with
      | none => rw [hb] at h; cases h
      | some env2 =>
        rw [hb] at h
        obtain ⟨r, nd, nO, nF⟩ := t
        cases r with
        | cons r rs =>
          obtain ⟨n1, n2, n3⟩ := List.nodup_append.mp nd
          simp only [gRs]
          refine ⟨_, _, rfl, bind_ok g0 g ⟨r, n1, fun a z => nO a (List.mem_append_left _ z), fun a z => nF a (List.mem_append_left _ z)⟩ hb fun σ1 O1 g1 s1 so1 => ?_⟩
          refine binds_ok gs g1 ⟨rs, n2, fun a z y => ?_, fun a z => nF a (List.mem_append_right _ z)⟩ h fun σ2 O2 g2 s2 so2 => q σ2 O2 g2 (fun a z => ?_) ?_
          · rcases s1 a y with y | y
            · exact nO a (List.mem_append_right _ z) y
            · exact n3 a y a z rfl
          · rcases s2 a z with z | z
            · exact (s1 a z).imp id fun z => List.mem_append_left _ z
            · exact .inr (List.mem_append_right _ z)
          · simp only [namesL]
            exact (so1.mono fun i z => List.mem_append_left _ z).trans (so2.mono fun i z => List.mem_append_right _ z)
end
/-! ### slots cleared -/
theorem getS_clear_in : ∀ {own : List Nat} {env : Env} {i : Nat}, i ∈ own → getS (clearS env own) i = none
  | j :: r, env, i, h => by
    simp only [clearS]
    by_cases e : i ∈ r
    · exact getS_clear_in e
    · have e2 : i = j := by
        rcases List.mem_cons.mp h with h | h
        · exact h
        · exact absurd h e
      subst e2
      have : ∀ (own : List Nat) (env : Env), getS env i = none → getS (clearS env own) i = none := by
        intro own
        induction own with
        | nil => exact fun _ h => h
        | cons j r ih =>
          intro env h
          simp only [clearS]
          refine ih _ ?_
          by_cases e : i = j
          · rw [e]; exact getS_put_none
          · rw [getS_put_ne e]; exact h
      exact this r _ getS_put_none
theorem Good.clears : ∀ (own : List Nat) {env : Env} {O : Addr → Prop}, Good c F env σ H O → ∃ O', Good c F (clearS env own) σ H O' ∧ ∀ a, O' a → O a
  | [], _, O, g => ⟨O, g, fun _ z => z⟩
  | i :: r, env, O, g => by
    obtain ⟨O1, g1, s1⟩ := g.clear i ((σ[i]?).getD none)
    have e : σ.set i ((σ[i]?).getD none) = σ := by
      refine List.ext_getElem? fun j => ?_
      by_cases hj : i = j
      · subst hj
        rw [List.getElem?_set_self']
        cases σ[i]? <;> rfl
      · rw [List.getElem?_set_ne hj]
    rw [e] at g1
    obtain ⟨O2, g2, s2⟩ := Good.clears r g1
    exact ⟨O2, g2, fun a z => s1 a (s2 a z)⟩
theorem Slots.resig {env : Env} {σ : L2.St} {l : List Addr} (s : Slots c F H env σ l) : ∀ {σ' : L2.St}, σ'.length = σ.length → (∀ i, getS env i = none ∨ σ'[i]? = σ[i]?) → Slots c F H env σ' l := by
  induction s with
  | nil =>
    intro σ' hl _
    obtain rfl : σ' = [] := List.length_eq_zero_iff.mp hl
    exact .nil
  | non o r ih =>
    intro σ' hl h
    cases σ' with
    | nil => simp at hl
    | cons o' σ' => exact .non o' (ih (by simpa using hl) fun i => by simpa [getS] using h (i + 1))
  | som q r ih =>
    intro σ' hl h
    cases σ' with
    | nil => simp at hl
    | cons o' σ' =>
      have h0 := h 0
      simp only [getS, reduceCtorEq, List.getElem?_cons_zero, Option.some.injEq, false_or] at h0
      subst h0
      exact .som q (ih (by simpa using hl) fun i => by simpa [getS] using h (i + 1))
theorem Good.resig {σ' : L2.St} (g : Good c F env σ H O) (hl : σ'.length = σ.length) (h : ∀ i, getS env i = none ∨ σ'[i]? = σ[i]?) : Good c F env σ' H O := by
  obtain ⟨l, s, nd, e⟩ := g.l
  exact ⟨⟨l, s.resig hl h, nd, e⟩, g.disj, g.dom⟩
theorem wipe_get {σ : L2.St} {j : Nat} : ∀ {vs : List Nat}, (wipe σ vs)[j]? = if j ∈ vs then (σ[j]?).map fun _ => none else σ[j]?
  | [] => by simp [wipe]
  | v :: vs => by
    unfold wipe
    by_cases e : v = j
    · subst e
      rw [List.getElem?_set_self', wipe_get]
      simp only [List.mem_cons_self, if_true]
      split <;> cases σ[v]? <;> rfl
    · rw [List.getElem?_set_ne e, wipe_get]
      by_cases hm : j ∈ vs
      · rw [if_pos hm, if_pos (List.mem_cons_of_mem _ hm)]
      · rw [if_neg hm, if_neg (fun z => (List.mem_cons.mp z).elim (fun z => e z.symm) hm)]
/-- the slots vs of no account -/
theorem wipe_same {σ σ' : L2.St} {vs : List Nat} (h : SameOut vs (wipe σ vs) σ') : wipe σ' vs = wipe σ vs := by
  refine List.ext_getElem? fun j => ?_
  rw [wipe_get]
  by_cases hm : j ∈ vs
  · rw [if_pos hm]
    have hl := h.1
    rw [wipe_length] at hl
    rw [wipe_get, if_pos hm]
    by_cases hj : j < σ.length
    · have hj' : j < σ'.length := by omega
      simp [hj, hj']
    · have hj' : ¬ j < σ'.length := by omega
      simp [hj, hj']
  · rw [if_neg hm]; exact h.2 j hm
/-- within a block: the own slots are empty -/
theorem Good.wiped {own : List Nat} (g : Good c F env σ H O) (h : ∀ i, i ∈ own → getS env i = none) : Good c F env (wipe σ own) H O :=
  g.resig (wipe_length _ _) fun i => by
    by_cases hi : i ∈ own
    · exact .inl (h i hi)
    · exact .inr (wipe_out hi)
theorem Good.unwiped {own : List Nat} (g : Good c F env (wipe σ own) H O) (h : ∀ i, i ∈ own → getS env i = none) : Good c F env σ H O :=
  g.resig (wipe_length _ _).symm fun i => by
    by_cases hi : i ∈ own
    · exact .inl (h i hi)
    · exact .inr (wipe_out hi).symm
end
end Pv
end
section
set_option maxRecDepth 100000
set_option maxHeartbeats 4000000
/-! PvComp: comprehensions. -/
namespace Pv
open PySem PySem.Spec PyProof.Rows L2
/-- nothing is raised -/
abbrev WN : WX := fun _ _ _ _ => False
section
variable {c : Cn} {F F' O O' : Addr → Prop} {H H' : Hp} {env : Env} {σ : L2.St} {P : Addr} {o' : HO}
theorem upd_dom {H : Hp} {a b : Addr} {o : HO} (h : upd H b o a = none) : a ≠ b ∧ H a = none := by
  by_cases e : a = b
  · rw [e, upd_same] at h; cases h
  · exact ⟨e, by rw [upd_ne e] at h; exact h⟩
/-- a thing apart is changed -/
theorem Good.aside (g : Good c F env σ H O) (hD : ∃ o, H P = some o ∧ Mt o) (nO : ¬ O P) (nF : ¬ F P) : Good c F env σ (upd H P o') O := by
  obtain ⟨l, s, nd, e⟩ := g.l
  have ne : ∀ a, F a → a ≠ P := fun a f z => nF (z ▸ f)
  refine ⟨⟨l, Slots.keep (fun a o q n => ?_) (fun a o f q => by rw [upd_ne (ne a f)]; exact q) (fun _ z => z) (fun a o z q => ?_) s, nd, e⟩, g.disj, fun a f q => g.dom a f (upd_dom q).2⟩
  · refine (upd_ne fun z => ?_).trans q
    obtain ⟨o2, e2, m⟩ := hD
    rw [z, e2] at q; cases q; exact n m
  · rw [upd_ne (show a ≠ P from fun y => nO (y ▸ (e a).mp z))]; exact q
theorem Args.aside {l : List (Nat × Pv.D)} {vs : List V} {fp : List Addr} (r : Args c F H l vs fp) (hD : ∃ o, H P = some o ∧ Mt o) (nfp : P ∉ fp) (nF : ¬ F P) : Args c F (upd H P o') l vs fp :=
  Args.keep (fun a o q n => by
    rw [upd_ne fun z => ?_]
    · exact q
    · obtain ⟨o2, e2, m⟩ := hD
      rw [z, e2] at q; cases q; exact n m) (fun a o f q => by rw [upd_ne (show a ≠ P from fun z => nF (z ▸ f))]; exact q) (fun _ z => z) (fun a o z q => by rw [upd_ne (show a ≠ P from fun y => nfp (y ▸ z))]; exact q) r
theorem Step.aside {F1 O1 : Addr → Prop} {H1 : Hp} (s : Step F1 O1 H1 F O H) (hD : H1 P = none) : Step F1 O1 H1 F O (upd H P o') :=
  ⟨s.mono, s.own, s.frz, fun a o q n => by rw [upd_ne (ne_of_none q hD)]; exact s.keep a o q n, fun a q => s.dom a (upd_dom q).2⟩
theorem Args.append {l l' : List (Nat × Pv.D)} {vs ws : List V} {fp fq : List Addr} (r : Args c F H l vs fp) (s : Args c F H l' ws fq) : Args c F H (l ++ l') (vs ++ ws) (fp ++ fq) := by
  induction r with
  | nil => exact s
  | cons r rs ih =>
    rw [List.append_assoc]
    exact .cons r ih
theorem Step.kp {F1 O1 : Addr → Prop} {H1 : Hp} {env1 : Env} {σ1 : L2.St} (s : Step F1 O1 H1 F O H) (g : Good c F1 env1 σ1 H1 O1) : Kp F1 H1 H := ⟨s.k0 g, s.kF g⟩
end
/-- between two turns: the new list at P, what it holds -/
structure Lp (c : Cn) (F1 O1 : Addr → Prop) (H1 : Hp) (P : Addr) (own : List Nat) (sw : L2.St) (env : Env) (acc : List (Nat × Pv.D)) (F O : Addr → Prop) (H : Hp) (accV : List V) (fp : List Addr) : Prop where
  st : Step F1 O1 H1 F O H
  good : Good c F env sw H O
  hD : H P = some (.lst accV)
  nO : ¬ O P
  nF : ¬ F P
  nfp : P ∉ fp
  args : ArgsT c F O H acc.reverse accV fp
  fr : ∀ a, a ∈ fp → O1 a ∨ H1 a = none
  clr : ∀ i, i ∈ own → getS env i = none
section
variable (c : Cn) (xc : Xc) (C : Calls)
def tIfs : Es → TT
  | .nil => tYes
  | .cons e .nil => tTest (rO c xc WN C e)
  | _ => fun _ _ _ => False
def shortE : Es → Bool
  | .nil => true
  | .cons _ .nil => true
  | _ => false
end
section
variable {c : Cn} {xc : Xc} {W : WX} {C : Calls}
theorem tIfs_ok {ifs : Es} {σ : L2.St} {F O : Addr → Prop} {H : Hp} {env env2 : Env} {k : Nat} {b : Bool} {R : Bool → Hp → Prop} (hs : shortE ifs = true) (g : Good c F env σ H O) (e : evT C ifs env = .ok env2 k (.bool b))
    (q : ∀ F' O' H', Step F O H F' O' H' → Good c F' env2 σ H' O' → R b H') : tIfs c xc C ifs σ H R := by
  cases ifs with
  | nil =>
    simp only [evT, Res.ok.injEq, PyData.bool.injEq] at e
    obtain ⟨rfl, _, rfl⟩ := e
    exact q F O H Step.refl g
  | cons x r =>
    cases r with
    | cons _ _ => cases hs
    | nil =>
      simp only [evT] at e
      refine rT_of g ?_
      cases ex : opd x env (evE C x env) with
      | bad => rw [ex] at e; cases e
      | exc env1 y => rw [ex] at e; cases e
      | ok env1 k1 d1 =>
        rw [ex] at e
        cases d1 with
        | bool b1 =>
          cases b1 with
          | true => simp only [Res.ok.injEq, PyData.bool.injEq] at e; obtain ⟨rfl, _, rfl⟩ := e; exact q
          | false => simp only [Res.ok.injEq, PyData.bool.injEq] at e; obtain ⟨rfl, _, rfl⟩ := e; exact q
        | _ => cases e
variable {F1 O1 : Addr → Prop} {H1 : Hp} {P : Addr} {own : List Nat} {sw : L2.St}
/-- the turn's item, the new list as it was -/
theorem Lp.same {env : Env} {acc : List (Nat × Pv.D)} {F O : Addr → Prop} {H H' : Hp} {accV : List V} {fp : List Addr} (L : Lp c F1 O1 H1 P own sw env acc F O H accV fp) (s : Same H H') : Lp c F1 O1 H1 P own sw env acc F O H' accV fp where
  st := L.st.same s
  good := Good.same L.good s
  hD := s _ _ L.hD
  nO := L.nO
  nF := L.nF
  nfp := L.nfp
  args := L.args.step (Step.refl.same s) L.good
  fr := L.fr
  clr := L.clr
/-- on, to other slots and their clearing -/
theorem Lp.next {own' : List Nat} {sw' : L2.St} {env env3 : Env} {acc : List (Nat × Pv.D)} {F O F3 O3 : Addr → Prop} {H H3 : Hp} {accV : List V} {fp : List Addr} {σ3 : L2.St} (L : Lp c F1 O1 H1 P own sw env acc F O H accV fp) (s : Step F O H F3 O3 H3) (g : Good c F3 env3 σ3 H3 O3) (so : SameOut own' sw' σ3) :
    ∃ O', Lp c F1 O1 H1 P own' sw' (clearS env3 own') acc F3 O' H3 accV fp ∧ ∀ a, O' a → O3 a := by
  obtain ⟨O', g', m⟩ := Good.clears own' g
  have g2 : Good c F3 (clearS env3 own') sw' H3 O' := g'.resig so.1.symm fun i => by
    by_cases hi : i ∈ own'
    · exact .inl (getS_clear_in hi)
    · exact .inr (so.2 i hi).symm
  have st := L.st.trans s
  have a3 := L.args.step s L.good
  refine ⟨O', ⟨⟨st.mono, fun a z => st.own a (m a z), st.frz, st.keep, st.dom⟩, g2, s.keep _ _ L.hD L.nO, fun z => ?_, fun z => ?_, L.nfp, ⟨a3.rep, a3.nd, fun a z y => a3.nO a z (m a y), a3.nF⟩, L.fr, fun i hi => getS_clear_in hi⟩, m⟩
  · rcases s.own _ (m _ z) with y | y
    · exact L.nO y
    · rw [L.hD] at y; cases y
  · rcases s.frz _ z with y | y | y
    · exact L.nF y
    · exact L.nO y
    · rw [L.hD] at y; cases y
/-- an item is appended -/
theorem Lp.push {env : Env} {acc : List (Nat × Pv.D)} {F O : Addr → Prop} {H : Hp} {accV : List V} {fp fq : List Addr} {k : Nat} {v : V} {d : Pv.D} (L : Lp c F1 O1 H1 P own sw env acc F O H accV fp) (hD1 : H1 P = none) (r : Rep c F H k v d fq) (nd : fq.Nodup) (nO : ∀ a, a ∈ fq → ¬ O a) (nF : ∀ a, a ∈ fq → ¬ F a)
    (np : ∀ a, a ∈ fq → a ∉ fp) (nD : P ∉ fq) (fr : ∀ a, a ∈ fq → O1 a ∨ H1 a = none) : Lp c F1 O1 H1 P own sw env ((k, d) :: acc) F O (upd H P (.lst (accV ++ [v]))) (accV ++ [v]) (fp ++ fq) := by
  have hm : ∃ o, H P = some o ∧ Mt o := ⟨_, L.hD, trivial⟩
  have a1 : Args c F H (acc.reverse ++ [(k, d)]) (accV ++ [v]) (fp ++ (fq ++ [])) := Args.append L.args.rep (.cons r .nil)
  rw [List.append_nil] at a1
  have nD2 : P ∉ fp ++ fq := fun z => (List.mem_append.mp z).elim L.nfp nD
  refine ⟨Step.aside L.st hD1, Good.aside L.good hm L.nO L.nF, upd_same, L.nO, L.nF, nD2, ⟨?_, List.nodup_append.mpr ⟨L.args.nd, nd, fun a z b y e => np a (e ▸ y) z⟩, fun a z => (List.mem_append.mp z).elim (L.args.nO a) (nO a), fun a z => (List.mem_append.mp z).elim (L.args.nF a) (nF a)⟩, fun a z => (List.mem_append.mp z).elim (L.fr a) (fr a), L.clr⟩
  rw [List.reverse_cons]
  exact Args.aside a1 hm nD2 L.nF
theorem lcLoop_len {own : List Nat} {g : G} {tst elt : Env → Res} : ∀ {xs : List Pv.D} {env envE : Env} {acc l : List (Nat × Pv.D)}, lcLoop own g tst elt xs env acc = .ok envE l → acc.length ≤ l.length
  | [], _, _, acc, l, h => by
    simp only [lcLoop, ResL.ok.injEq] at h
    rw [← h.2, List.length_reverse]
    exact Nat.le_refl _
  | x :: r, env, envE, acc, l, h => by
    simp only [lcLoop] at h
    split at h
    · cases h
    · split at h
      · exact lcLoop_len h
      · split at h
        · have := lcLoop_len h
          simp only [List.length_cons] at this
          omega
        · cases h
      · cases h
theorem Kp.aside {F : Addr → Prop} {H H' : Hp} {o' : HO} (k : Kp F H H') (hD : ∃ o, H P = some o ∧ Mt o) (nF : ¬ F P) : Kp F H (upd H' P o') :=
  ⟨fun a o q n => (upd_ne fun z => by
    obtain ⟨o2, e2, m⟩ := hD
    rw [z, e2] at q; cases q; exact n m).trans (k.1 a o q n), fun a o f q => (upd_ne (show a ≠ P from fun z => nF (z ▸ f))).trans (k.2 a o f q)⟩
theorem Kp.trans {F F' : Addr → Prop} {H H' H'' : Hp} (m : ∀ a, F a → F' a) (a : Kp F H H') (b : Kp F' H' H'') : Kp F H H'' := ⟨fun x o q n => b.1 x o (a.1 x o q n) n, fun x o f q => b.2 x o (m x f) (a.2 x o f q)⟩
/-- one turn of a comprehension's innermost loop -/
theorem lc_turn {g : G} {ifs : Es} {elt : E} {env envE : Env} {acc l : List (Nat × Pv.D)} {F O : Addr → Prop} {H : Hp} {accV : List V} {fp : List Addr} {x : V} {d : Pv.D} {rest : List Pv.D} {Nx : Hp → Prop} {σ : L2.St} (hsw : sw = wipe σ own)
    (hg : ∀ i, i ∈ names g → i ∈ own) (hs : shortE ifs = true) (hD1 : H1 P = none) (hz : l.length ≤ sizeLine) (L : Lp c F1 O1 H1 P own sw env acc F O H accV fp) (r : Rep c F H 0 x d [])
    (e : lcLoop own g (fun env => evT C ifs env) (fun env => evE C elt env) (d :: rest) env acc = .ok envE l)
    (nx : ∀ F' O' env acc H' accV fp, Lp c F1 O1 H1 P own sw env acc F' O' H' accV fp → (∀ a, F a → F' a) → Kp F H H' → lcLoop own g (fun env => evT C ifs env) (fun env => evE C elt env) rest env acc = .ok envE l → Nx H') :
    gR c.K g x sw H fun σ2 H2 => wipe σ2 own = wipe σ own ∧ tIfs c xc C ifs σ2 H2 fun b H3 =>
      if b = true then rE c xc WN C elt σ2 H3 fun y H4 => ∃ acc, H4 P = some (.lst acc) ∧ acc.length < sizeLine ∧ Nx (upd H4 P (.lst (acc ++ [y]))) else Nx H3 := by
  simp only [lcLoop] at e
  split at e
  · cases e
  · rename_i env1 hb
    refine bind_ok g L.good ⟨r, List.nodup_nil, (fun a z => by cases z), fun a z => by cases z⟩ hb fun σ2 O2 g2 sub so => ⟨?_, ?_⟩
    · have h1 : wipe σ2 own = wipe σ own := wipe_same (by rw [← hsw]; exact so.mono hg)
      exact h1
    · have st2 : Step F O H F O2 H := ⟨fun _ z => z, fun a z => (sub a z).elim .inl (fun z => by cases z), fun _ z => .inl z, fun _ _ q _ => q, fun _ q => q⟩
      split at e
      · rename_i env2 k2 ht
        refine tIfs_ok hs g2 ht fun F3 O3 H3 s3 g3 => ?_
        rw [if_neg (by decide)]
        obtain ⟨O', L', _⟩ := L.next (st2.trans s3) g3 (so.mono hg)
        exact nx _ _ _ _ _ _ _ L' (st2.trans s3).mono (Step.kp (st2.trans s3) L.good) e
      · rename_i env2 k2 ht
        refine tIfs_ok hs g2 ht fun F3 O3 H3 s3 g3 => ?_
        rw [if_pos rfl]
        refine ⟨env2, F3, O3, g3, ?_⟩
        split at e
        · rename_i env3 k3 d3 he
          rw [he]
          intro F4 O4 H4 y fq s4 g4 t4 fr4
          obtain ⟨O', L', sub'⟩ := L.next ((st2.trans s3).trans s4) g4 (so.mono hg)
          have hlen : accV.length < sizeLine := by
            have h1 := lcLoop_len e
            have h2 := L.args.rep.length
            rw [List.length_reverse] at h2
            simp only [List.length_cons] at h1
            omega
          have fr5 : ∀ a, a ∈ fq → O a ∨ H a = none := fun a z => (fr4 a z).elim (fun q => (st2.trans s3).own a q) fun q => .inr ((st2.trans s3).dom a q)
          have r' : Rep c F4 H4 (lvl k3 d3) y d3 fq := by
            unfold lvl
            split
            · rename_i hd
              obtain ⟨e1, z⟩ := Rep.atom hd t4.rep
              rw [e1]; exact z _ _ _
            · exact t4.rep
          refine ⟨accV, L'.hD, hlen, nx _ _ _ _ _ _ _ (L'.push hD1 r' t4.nd (fun a z y => t4.nO a z (sub' a y)) t4.nF (fun a z y => ?_) (fun z => ?_) fun a z => (fr5 a z).elim (L.st.own a) fun q => .inr (L.st.dom a q)) ((st2.trans s3).trans s4).mono (Kp.aside (Step.kp ((st2.trans s3).trans s4) L.good) ⟨_, L.hD, trivial⟩ L.nF) e⟩
          · rcases fr5 a z with q | q
            · exact L.args.nO a y q
            · obtain ⟨u, q', _⟩ := L.args.rep.mem a y
              rw [q] at q'; cases q'
          · rcases fr5 _ z with q | q
            · exact L.nO q
            · rw [L.hD] at q; cases q
        · cases e
      · cases e
/-- the list is done -/
theorem Lp.done {env : Env} {acc : List (Nat × Pv.D)} {F O : Addr → Prop} {H : Hp} {accV : List V} {fp : List Addr} {σ : L2.St} {F0 O0 : Addr → Prop} {H0 : Hp} {Q : VK} (L : Lp c F1 O1 H1 P own (wipe σ own) env acc F O H accV fp) (hD1 : H1 P = none) (s0 : Step F0 O0 H0 F1 O1 H1)
    (p : PostE c xc W σ F0 O0 H0 Q (.ok (clearS env own) (1 + minK acc.reverse) (.list (acc.reverse.map (·.2))))) : Q (.ref P) H := by
  obtain ⟨F2, fp', g2, t2, m2, l2, sb⟩ := L.args.row (g := L.good.unwiped L.clr)
  obtain ⟨O', g3, sub⟩ := Good.clears own g2
  have e1 : 1 + minK acc.reverse = minK acc.reverse + 1 := Nat.add_comm _ _
  rw [e1] at p
  have st := s0.trans L.st
  have frs : ∀ a, a ∈ fp → O0 a ∨ H0 a = none := fun a z => (L.fr a z).elim (s0.own a) fun q => .inr (s0.dom a q)
  refine p F2 O' H (.ref P) (P :: fp') ⟨fun a z => m2 a (st.mono a z), fun a z => st.own a (sub a z), fun a z => ?_, st.keep, st.dom⟩ g3 ⟨.lown L.hD t2.rep, List.nodup_cons.mpr ⟨fun z => L.nfp (sb P z), t2.nd⟩, fun a z y => ?_, fun a z y => ?_⟩ fun a z => ?_
  · rcases l2 a z with z | z
    · exact st.frz a z
    · exact .inr (frs a z)
  · rcases List.mem_cons.mp z with rfl | z
    · exact L.nO (sub _ y)
    · exact t2.nO a z (sub a y)
  · rcases List.mem_cons.mp z with rfl | z
    · rcases l2 _ y with q | q
      · exact L.nF q
      · exact L.nfp q
    · exact t2.nF a z y
  · rcases List.mem_cons.mp z with rfl | z
    · exact .inr (s0.dom _ hD1)
    · exact frs a (sb a z)
/-- the list is begun -/
theorem Lp.start {env : Env} {σ : L2.St} (g : Good c F1 env σ H1 O1) (hD : H1 P = none) : ∃ O, Lp c F1 O1 H1 P own (wipe σ own) (clearS env own) [] F1 O (upd H1 P (.lst [])) [] [] := by
  obtain ⟨O, g1, sub⟩ := Good.clears own g
  have nO : ¬ O1 P := fun z => by
    obtain ⟨u, q, _⟩ := g.mt z
    rw [hD] at q; cases q
  refine ⟨O, ⟨?_, (Good.wiped g1 fun i hi => getS_clear_in hi).new hD, upd_same, fun z => nO (sub _ z), fun z => g.dom _ z hD, (fun z => by cases z), ⟨.nil, List.nodup_nil, (fun a z => by cases z), fun a z => by cases z⟩, (fun a z => by cases z), fun i hi => getS_clear_in hi⟩⟩
  have s := Step.new (F := F1) (O := O1) hD (o := .lst [])
  exact ⟨s.mono, fun a z => .inl (sub a z), s.frz, s.keep, s.dom⟩
theorem lc_ok {g : G} {sk : Sk} {src ifs : Es} {elt : E} {σ : L2.St} {H : Hp} {Q : VK} (hg : ∀ i, i ∈ names g → i ∈ own) (hs : shortE ifs = true) (h : rE c xc W C (.lc own g sk src ifs elt) σ H Q) :
    tLc (rI c xc W C sk src) (gR c.K g) (tIfs c xc C ifs) (rE c xc WN C elt) own σ H Q := by
  obtain ⟨env, F, O, gd, p⟩ := h
  unfold evE at p
  refine ⟨env, F, O, gd, ?_⟩
  cases e : evL C src env with
  | bad => rw [e] at p; exact p
  | exc env1 y => rw [e] at p; exact p
  | ok env1 l0 =>
    rw [e] at p
    simp only at p
    cases hx : srcL sk (l0.map (·.2)) with
    | none => rw [hx] at p; exact p.elim
    | some xs =>
      rw [hx] at p
      simp only at p
      refine ⟨xs, hx, fun F1 O1 H1 J s1 g1 w P hD => ?_⟩
      split at p
      · rename_i envE l hl
        split at p
        · rename_i hz
          have hz' := szOk_le hz
          have W : Walk J xs.length (Kp F1 H1) (fun i H x H' => ∀ F' : Addr → Prop, (∀ a, F1 a → F' a) → Same H H' ∧ ∀ d, xs[i]? = some d → Rep c F' H' 0 x d []) :=
            ⟨fun i H hi k => w.goes H i k hi, fun H k => w.stops H k, fun i H x H' hi k y F' m => ⟨(w.yields F' H i x H' m k hi y).1, (w.yields F' H i x H' m k hi y).2.2⟩⟩
          refine lc_it W (fun i H => ∃ F' O' env' acc accV fp, Lp c F1 O1 H1 P own (wipe σ own) env' acc F' O' H accV fp ∧ lcLoop own g (fun env => evT C ifs env) (fun env => evE C elt env) (xs.drop i) env' acc = .ok envE l) ?_ ?_ ?_ ?_
          · obtain ⟨O', L⟩ := Lp.start (own := own) g1 hD
            exact ⟨F1, O', _, [], [], [], L, hl⟩
          · rintro i H' hi ⟨F', O', env', acc, accV, fp, L, _⟩
            exact Step.kp L.st g1
          · rintro i x H' H'' hi ⟨F', O', env', acc, accV, fp, L, hq⟩ y
            obtain ⟨sm, rp⟩ := y F' L.st.mono
            rw [List.drop_eq_getElem_cons hi] at hq
            exact lc_turn rfl hg hs hD hz' (L.same sm) (rp _ (by simp [hi])) hq fun F O env acc H accV fp L' _ _ e' => ⟨F, O, env, acc, accV, fp, L', e'⟩
          · rintro H' ⟨F', O', env', acc, accV, fp, L, hq⟩
            rw [List.drop_length] at hq
            simp only [lcLoop, ResL.ok.injEq] at hq
            obtain ⟨rfl, rfl⟩ := hq
            exact L.done hD s1 p
        · exact p.elim
      · exact p.elim
/-- turns, by a word of the turn and the heap -/
theorem turns_it {J : It} {n : Nat} {G : Hp → Prop} {Y : Nat → Hp → V → Hp → Prop} (w : Walk J n G Y) {body : V → Hp → (Hp → Prop) → Prop} {Qd : Hp → Prop} {H0 : Hp} (Pv : Nat → Hp → Prop) (h0 : Pv 0 H0) (hG : ∀ i H, i ≤ n → Pv i H → G H)
    (hs : ∀ i x H H', i < n → Pv i H → Y i H x H' → body x H' (Pv (i + 1))) (hd : ∀ H, Pv n H → Qd H) :
    ∃ W : Nat → Nat → Hp → Prop, (∃ m, W 0 m H0) ∧ ∀ i m H, W i m H → (J.stop i H ∧ Qd H) ∨ (J.go i H ∧ ∃ Nx : Hp → Prop, (∀ H', Nx H' → ∃ m', m' < m ∧ W (i + 1) m' H') ∧ ∀ x H', J.yld i H x H' → body x H' Nx) := by
  refine ⟨fun i m H => m = n - i ∧ i ≤ n ∧ Pv i H, ⟨n, by simp, Nat.zero_le _, h0⟩, ?_⟩
  rintro i m H ⟨rfl, hi, p⟩
  have q := hG i H hi p
  by_cases hlt : i < n
  · exact .inr ⟨w.goes i H hlt q, Pv (i + 1), fun H' p' => ⟨n - (i + 1), by omega, rfl, hlt, p'⟩, fun x H' y => hs i x H H' hlt p (w.yields i H x H' hlt q y)⟩
  · have e : i = n := by omega
    subst e
    exact .inl ⟨w.stops H q, hd H p⟩
theorem WalkD.walk {J : It} {xs : List Pv.D} (w : WalkD c J F1 H1 xs) : Walk J xs.length (Kp F1 H1) (fun i H x H' => ∀ F' : Addr → Prop, (∀ a, F1 a → F' a) → Same H H' ∧ ∀ d, xs[i]? = some d → Rep c F' H' 0 x d []) :=
  ⟨fun i H hi k => w.goes H i k hi, fun H k => w.stops H k, fun i H x H' hi k y F' m => ⟨(w.yields F' H i x H' m k hi y).1, (w.yields F' H i x H' m k hi y).2.2⟩⟩
theorem lcLoop2_len {own : List Nat} {g : G} {tst : Env → Res} {inner : Env → List (Nat × Pv.D) → ResL} (hi : ∀ env acc e l, inner env acc = .ok e l → acc.length ≤ l.length) : ∀ {xs : List Pv.D} {env envE : Env} {acc l : List (Nat × Pv.D)}, lcLoop2 own g tst inner xs env acc = .ok envE l → acc.length ≤ l.length
  | [], _, _, acc, l, h => by
    simp only [lcLoop2, ResL.ok.injEq] at h
    rw [← h.2, List.length_reverse]
    exact Nat.le_refl _
  | x :: r, env, envE, acc, l, h => by
    simp only [lcLoop2] at h
    split at h
    · cases h
    · split at h
      · exact lcLoop2_len hi h
      · split at h
        · rename_i e3 acc' he
          have h1 := lcLoop2_len hi h
          have h2 := hi _ _ _ _ he
          rw [List.length_reverse] at h1
          omega
        · cases h
      · cases h
abbrev inner2 (C : Calls) (own2 : List Nat) (g2 : G) (sk2 : Sk) (src2 ifs2 : Es) (elt : E) : Env → List (Nat × Pv.D) → ResL := fun env acc => match evL C src2 env with
  | .ok env l2 => (match srcL sk2 (l2.map (·.2)) with
    | some ys => lcLoop own2 g2 (fun env => evT C ifs2 env) (fun env => evE C elt env) ys (clearS env own2) acc
    | none => .bad)
  | .exc e x => .exc e x
  | .bad => .bad
theorem inner2_len {C : Calls} {own2 : List Nat} {g2 : G} {sk2 : Sk} {src2 ifs2 : Es} {elt : E} : ∀ env acc e l, inner2 C own2 g2 sk2 src2 ifs2 elt env acc = .ok e l → acc.length ≤ l.length := fun env acc e l h => by
  unfold inner2 at h
  split at h
  · split at h
    · exact lcLoop_len h
    · cases h
  · cases h
  · cases h
theorem lc2_turn {own2 : List Nat} {g g2 : G} {sk2 : Sk} {src2 ifs ifs2 : Es} {elt : E} {env envE : Env} {acc l : List (Nat × Pv.D)} {F O : Addr → Prop} {H : Hp} {accV : List V} {fp : List Addr} {x : V} {d : Pv.D} {rest : List Pv.D} {Nx : Hp → Prop} {σ : L2.St}
    (hg : ∀ i, i ∈ names g → i ∈ own) (hg2 : ∀ i, i ∈ names g2 → i ∈ own2) (ho : ∀ i, i ∈ own2 → i ∈ own) (hs : shortE ifs = true) (hs2 : shortE ifs2 = true) (hD1 : H1 P = none) (hz : l.length ≤ sizeLine) (L : Lp c F1 O1 H1 P own (wipe σ own) env acc F O H accV fp) (r : Rep c F H 0 x d [])
    (e : lcLoop2 own g (fun env => evT C ifs env) (inner2 C own2 g2 sk2 src2 ifs2 elt) (d :: rest) env acc = .ok envE l)
    (nx : ∀ F O env acc H accV fp, Lp c F1 O1 H1 P own (wipe σ own) env acc F O H accV fp → lcLoop2 own g (fun env => evT C ifs env) (inner2 C own2 g2 sk2 src2 ifs2 elt) rest env acc = .ok envE l → Nx H) :
    gR c.K g x (wipe σ own) H fun σ2 H2 => wipe σ2 own = wipe σ own ∧ tIfs c xc C ifs σ2 H2 fun b H3 =>
      if b = true then rI c xc WN C sk2 src2 σ2 H3 fun J1 H4 => ∃ W1 : Nat → Nat → Hp → Prop, (∃ m, W1 0 m H4) ∧ ∀ j k H, W1 j k H →
        (J1.stop j H ∧ Nx H) ∨ (J1.go j H ∧ ∃ Nx1 : Hp → Prop, (∀ H', Nx1 H' → ∃ k', k' < k ∧ W1 (j + 1) k' H') ∧ ∀ x H', J1.yld j H x H' → gR c.K g2 x (wipe σ2 own2) H' fun σ3 H5 => wipe σ3 own2 = wipe σ2 own2 ∧ tIfs c xc C ifs2 σ3 H5 fun b H6 =>
          if b = true then rE c xc WN C elt σ3 H6 fun y H7 => ∃ acc, H7 P = some (.lst acc) ∧ acc.length < sizeLine ∧ Nx1 (upd H7 P (.lst (acc ++ [y]))) else Nx1 H6)
      else Nx H3 := by
  simp only [lcLoop2] at e
  split at e
  · cases e
  · rename_i env1 hb
    refine bind_ok g L.good ⟨r, List.nodup_nil, (fun a z => by cases z), fun a z => by cases z⟩ hb fun σ2 O2 g2' sub so => ⟨wipe_same (so.mono hg), ?_⟩
    have st2 : Step F O H F O2 H := ⟨fun _ z => z, fun a z => (sub a z).elim .inl (fun z => by cases z), fun _ z => .inl z, fun _ _ q _ => q, fun _ q => q⟩
    split at e
    · rename_i env2 k2 ht
      refine tIfs_ok hs g2' ht fun F3 O3 H3 s3 g3 => ?_
      rw [if_neg (by decide)]
      obtain ⟨O', L', _⟩ := L.next (st2.trans s3) g3 (so.mono hg)
      exact nx _ _ _ _ _ _ _ L' e
    · rename_i env2 k2 ht
      refine tIfs_ok hs g2' ht fun F3 O3 H3 s3 g3 => ?_
      rw [if_pos rfl]
      split at e
      · rename_i env3 acc' he
        have hz2 : acc'.length ≤ sizeLine := by
          have := lcLoop2_len (inner2_len) e
          rw [List.length_reverse] at this
          omega
        refine ⟨env2, F3, O3, g3, ?_⟩
        unfold inner2 at he
        split at he
        · rename_i env4 l2 hl2
          rw [hl2]
          split at he
          · rename_i ys hy
            refine ⟨ys, hy, fun F4 O4 H4 J1 s4 g4 w1 => ?_⟩
            obtain ⟨O5, L5, _⟩ := L.next (own' := own2) (sw' := wipe σ2 own2) ((st2.trans s3).trans s4) g4 ⟨(wipe_length _ _).symm, fun j hj => (wipe_out hj).symm⟩
            refine turns_it w1.walk (body := fun x H' Nx1 => gR c.K g2 x (wipe σ2 own2) H' fun σ3 H5 => wipe σ3 own2 = wipe σ2 own2 ∧ tIfs c xc C ifs2 σ3 H5 fun b H6 =>
              if b = true then rE c xc WN C elt σ3 H6 fun y H7 => ∃ acc, H7 P = some (.lst acc) ∧ acc.length < sizeLine ∧ Nx1 (upd H7 P (.lst (acc ++ [y]))) else Nx1 H6)
              (fun i H => ∃ F' O' env' acc accV fp, (∀ a, F4 a → F' a) ∧ Kp F4 H4 H ∧ Lp c F1 O1 H1 P own2 (wipe σ2 own2) env' acc F' O' H accV fp ∧ lcLoop own2 g2 (fun env => evT C ifs2 env) (fun env => evE C elt env) (ys.drop i) env' acc = .ok env3 acc') ?_ ?_ ?_ ?_
            · exact ⟨F4, O5, _, acc, accV, fp, fun _ z => z, Kp.refl, L5, he⟩
            · rintro i H' hi ⟨F', O', env', acc, accV, fp, _, kp, L, _⟩
              exact kp
            · rintro i x H' H'' hi ⟨F', O', env', acc, accV, fp, m, kp, L, hq⟩ y
              obtain ⟨sm, rp⟩ := y F' m
              rw [List.drop_eq_getElem_cons hi] at hq
              have ks : Kp F' H' H'' := ⟨fun a o q _ => sm a o q, fun a o _ q => sm a o q⟩
              exact lc_turn rfl hg2 hs2 hD1 hz2 (L.same sm) (rp _ (by simp [hi])) hq fun F O env acc H accV fp L' m' k' e' => ⟨F, O, env, acc, accV, fp, fun a z => m' a (m a z), (kp.trans m ks).trans (fun a z => m a z) k', L', e'⟩
            · rintro H' ⟨F', O', env', acc, accV, fp, _, _, L, hq⟩
              rw [List.drop_length] at hq
              simp only [lcLoop, ResL.ok.injEq] at hq
              obtain ⟨rfl, rfl⟩ := hq
              rw [List.reverse_reverse] at e
              obtain ⟨O6, L6, _⟩ := L.next (own' := own) (sw' := wipe σ own) Step.refl L.good ⟨by rw [wipe_length, so.1], fun j hj => by
                rw [wipe_out fun z => hj (ho j z), so.2 j fun z => hj (hg j z)]⟩
              exact nx _ _ _ _ _ _ _ L6 e
          · cases he
        · cases he
        · cases he
      · cases e
    · cases e
theorem lc2_ok {own2 : List Nat} {g g2 : G} {sk sk2 : Sk} {src src2 ifs ifs2 : Es} {elt : E} {σ : L2.St} {H : Hp} {Q : VK} (hg : ∀ i, i ∈ names g → i ∈ own) (hg2 : ∀ i, i ∈ names g2 → i ∈ own2) (ho : ∀ i, i ∈ own2 → i ∈ own) (hs : shortE ifs = true) (hs2 : shortE ifs2 = true)
    (h : rE c xc W C (.lc2 own own2 g sk src ifs g2 sk2 src2 ifs2 elt) σ H Q) :
    tLc2 (rI c xc W C sk src) (gR c.K g) (tIfs c xc C ifs) (rI c xc WN C sk2 src2) (gR c.K g2) (tIfs c xc C ifs2) (rE c xc WN C elt) own own2 σ H Q := by
  obtain ⟨env, F, O, gd, p⟩ := h
  unfold evE at p
  refine ⟨env, F, O, gd, ?_⟩
  cases e : evL C src env with
  | bad => rw [e] at p; exact p
  | exc env1 y => rw [e] at p; exact p
  | ok env1 l0 =>
    rw [e] at p
    simp only at p
    cases hx : srcL sk (l0.map (·.2)) with
    | none => rw [hx] at p; exact p.elim
    | some xs =>
      rw [hx] at p
      simp only at p
      refine ⟨xs, hx, fun F1 O1 H1 J s1 g1 w D hD => ?_⟩
      split at p
      · rename_i envE l hl
        split at p
        · rename_i hz
          have hz' := szOk_le hz
          refine turns_it w.walk (body := fun x H' Nx => gR c.K g x (wipe σ own) H' fun σ2 H2 => wipe σ2 own = wipe σ own ∧ tIfs c xc C ifs σ2 H2 fun b H3 =>
      if b = true then rI c xc WN C sk2 src2 σ2 H3 fun J1 H4 => ∃ W1 : Nat → Nat → Hp → Prop, (∃ m, W1 0 m H4) ∧ ∀ j k H, W1 j k H →
        (J1.stop j H ∧ Nx H) ∨ (J1.go j H ∧ ∃ Nx1 : Hp → Prop, (∀ H', Nx1 H' → ∃ k', k' < k ∧ W1 (j + 1) k' H') ∧ ∀ x H', J1.yld j H x H' → gR c.K g2 x (wipe σ2 own2) H' fun σ3 H5 => wipe σ3 own2 = wipe σ2 own2 ∧ tIfs c xc C ifs2 σ3 H5 fun b H6 =>
          if b = true then rE c xc WN C elt σ3 H6 fun y H7 => ∃ acc, H7 D = some (.lst acc) ∧ acc.length < sizeLine ∧ Nx1 (upd H7 D (.lst (acc ++ [y]))) else Nx1 H6)
      else Nx H3) (fun i H => ∃ F' O' env' acc accV fp, Lp c F1 O1 H1 D own (wipe σ own) env' acc F' O' H accV fp ∧ lcLoop2 own g (fun env => evT C ifs env) (inner2 C own2 g2 sk2 src2 ifs2 elt) (xs.drop i) env' acc = .ok envE l) ?_ ?_ ?_ ?_
          · obtain ⟨O', L⟩ := Lp.start (own := own) g1 hD
            exact ⟨F1, O', _, [], [], [], L, hl⟩
          · rintro i H' hi ⟨F', O', env', acc, accV, fp, L, _⟩
            exact Step.kp L.st g1
          · rintro i x H' H'' hi ⟨F', O', env', acc, accV, fp, L, hq⟩ y
            obtain ⟨sm, rp⟩ := y F' L.st.mono
            rw [List.drop_eq_getElem_cons hi] at hq
            exact lc2_turn hg hg2 ho hs hs2 hD hz' (L.same sm) (rp _ (by simp [hi])) hq fun F O env acc H accV fp L' e' => ⟨F, O, env, acc, accV, fp, L', e'⟩
          · rintro H' ⟨F', O', env', acc, accV, fp, L, hq⟩
            rw [List.drop_length] at hq
            simp only [lcLoop2, ResL.ok.injEq] at hq
            obtain ⟨rfl, rfl⟩ := hq
            exact L.done hD s1 p
        · exact p.elim
      · exact p.elim
/-- a list or a tuple with nothing within that may be changed, as the only thing that is kept -/
theorem rep_in {F : Addr → Prop} {H : Hp} {k : Nat} {a : Addr} {d : Pv.D} {fp : List Addr} (hi : inner d = true) (r : Rep c F H k (.ref a) d fp) : Rep c (fun x => x = a) H 0 (.ref a) d [] := by
  cases r with
  | tup h r => exact .tup h ((RepL.flat (by simpa [inner] using hi) r).2 _ _)
  | lfz f h r => exact .lfz rfl h ((RepL.flat (by simpa [inner] using hi) r).2 _ _)
  | lcon h r => exact .lcon h ((RepL.flat (by simpa [inner] using hi) r).2 _ _)
  | lown h r => exact .lfz rfl h ((RepL.flat (by simpa [inner] using hi) r).2 _ _)
  | dkfz => simp [inner] at hi
  | dkown => simp [inner] at hi
  | dtfz => simp [inner] at hi
  | dtown => simp [inner] at hi
  | objfz => simp [objD, inner] at hi
  | objown => simp [objD, inner] at hi
  | fn => simp [fnD, inner] at hi
theorem ref_free {F O : Addr → Prop} {H : Hp} {env : Env} {σ : L2.St} {k : Nat} {a : Addr} {d : Pv.D} {fp : List Addr} (hi : inner d = true) (r : Rep c F H k (.ref a) d fp) (n : ∀ x, x ∈ fp → ¬ O x) (g : Good c F env σ H O) : ¬ O a := by
  have im : ∀ {o : HO}, H a = some o → ¬ Mt o → ¬ O a := fun h m z => by
    obtain ⟨o', e, m'⟩ := g.mt z
    rw [h] at e; cases e; exact m m'
  cases r with
  | tup h r => exact im h fun z => z
  | lfz f h r => exact fun z => g.disj a z f
  | lcon h r =>
    obtain ⟨o, h⟩ := h
    exact im h fun z => z
  | lown h r => exact n a List.mem_cons_self
  | dkfz => simp [inner] at hi
  | dkown => simp [inner] at hi
  | dtfz => simp [inner] at hi
  | dtown => simp [inner] at hi
  | objfz => simp [objD, inner] at hi
  | objown => simp [objD, inner] at hi
  | fn => simp [fnD, inner] at hi
theorem flatL_mem : ∀ {xs : List Pv.D}, flatL xs = true → ∀ d, d ∈ xs → flat d = true
  | [], _, _, h => by cases h
  | x :: xs, h, d, hd => by
    rw [flatL, Bool.and_eq_true] at h
    rcases List.mem_cons.mp hd with rfl | hd
    · exact h.1
    · exact flatL_mem h.2 d hd
theorem enum_flat : ∀ {xs : List Pv.D} {n : Nat}, flatL xs = true → ∀ d, d ∈ enumL n xs → flat d = true
  | [], _, _, _, h => by simp [enumL] at h
  | x :: xs, n, h, d, hd => by
    rw [flatL, Bool.and_eq_true] at h
    rw [enumL] at hd
    rcases List.mem_cons.mp hd with rfl | hd
    · simp [flat, flatL, h.1]
    · exact enum_flat h.2 d hd
/-- a slot that is walked while it is held -/
def rIP (c : Cn) (i : Nat) (sk : Sk) : TI := fun σ H R => ∃ (a : Addr) (F : Addr → Prop) (k : Nat) (d : Pv.D) (fp : List Addr) (xs : List Pv.D), σ[i]? = some (some (.ref a)) ∧ Rep c F H k (.ref a) d fp ∧ inner d = true ∧ srcL sk [d] = some xs ∧ ∀ J, WalkD c J (fun x => x = a) H xs → R J H
theorem i_valP {i : Nat} {σ : L2.St} {H : Hp} {R : It → Hp → Prop} (h : rIP c i .val σ H R) : iList c.K (tVar i) σ H R ∨ iTup c.K (tVar i) σ H R := by
  obtain ⟨a, F, k, d, fp, xs, hv, r, hi, hx, q⟩ := h
  have r0 := rep_in hi r
  cases d with
  | list ds =>
    cases hx
    obtain ⟨b, ys, e, hl, st⟩ := stay_l r0
    cases e
    exact .inl ⟨.ref a, hv, a, rfl, ⟨ys, (st _ H (fun _ z => z) Kp.refl).1⟩, q _ (walk_l hl st)⟩
  | tuple ds =>
    cases hx
    obtain ⟨b, ys, e, hl, st⟩ := stay_t r0
    cases e
    exact .inr ⟨.ref a, hv, a, rfl, ⟨ys, (st _ H (fun _ z => z) Kp.refl).1⟩, q _ (walk_t hl st)⟩
  | _ => cases hx
theorem i_enumP {i : Nat} {σ : L2.St} {H : Hp} {R : It → Hp → Prop} (h : rIP c i .enum σ H R) : iEnumA c.K (tCons (tVar i) tNil) σ H R := by
  obtain ⟨a, F, k, d, fp, xs, hv, r, hi, hx, q⟩ := h
  have r0 := rep_in hi r
  cases d with
  | list ds =>
    cases hx
    obtain ⟨b, ys, e, hl, st⟩ := stay_l r0
    cases e
    exact ⟨.ref a, hv, a, ys, rfl, .inl ⟨(st _ H (fun _ z => z) Kp.refl).1, q _ (walk_e hl st)⟩⟩
  | tuple ds =>
    cases hx
    obtain ⟨b, ys, e, hl, st⟩ := stay_t r0
    cases e
    exact ⟨.ref a, hv, a, ys, rfl, .inr ⟨(st _ H (fun _ z => z) Kp.refl).1, q _ (walk_eT hl st)⟩⟩
  | _ => cases hx
theorem src_flat {sk : Sk} {d : Pv.D} {xs : List Pv.D} (hi : inner d = true) (hx : srcL sk [d] = some xs) (hk : sk = .val ∨ sk = .enum) : (∃ ds, d = .list ds ∨ d = .tuple ds) ∧ ∀ e, e ∈ xs → flat e = true := by
  rcases hk with rfl | rfl
  · cases d with
    | list ds => cases hx; exact ⟨⟨_, .inl rfl⟩, flatL_mem (by simpa [inner] using hi)⟩
    | tuple ds => cases hx; exact ⟨⟨_, .inr rfl⟩, flatL_mem (by simpa [inner] using hi)⟩
    | _ => cases hx
  · cases d with
    | list ds => cases hx; exact ⟨⟨_, .inl rfl⟩, enum_flat (by simpa [inner] using hi)⟩
    | tuple ds => cases hx; exact ⟨⟨_, .inr rfl⟩, enum_flat (by simpa [inner] using hi)⟩
    | _ => cases hx
theorem rep_ref {F : Addr → Prop} {H : Hp} {k : Nat} {v : V} {d : Pv.D} {fp : List Addr} {ds : List Pv.D} (hd : d = .list ds ∨ d = .tuple ds) (r : Rep c F H k v d fp) : ∃ a, v = .ref a := by
  rcases hd with rfl | rfl
  · obtain ⟨a, _, rfl, _⟩ := rep_list (F' := F) r; exact ⟨a, rfl⟩
  · obtain ⟨a, _, rfl, _⟩ := rep_tup r; exact ⟨a, rfl⟩
theorem lcP_ok {i : Nat} {g : G} {sk : Sk} {ifs : Es} {elt : E} {σ : L2.St} {H : Hp} {Q : VK} (hk : sk = .val ∨ sk = .enum) (hg : ∀ i, i ∈ names g → i ∈ own) (hs : shortE ifs = true) (h : rE c xc W C (.lcP own i g sk ifs elt) σ H Q) :
    tLc (rIP c i sk) (gR c.K g) (tIfs c xc C ifs) (rE c xc WN C elt) own σ H Q := by
  obtain ⟨env, F, O, gd, p⟩ := h
  unfold evE at p
  cases ei : getS env i with
  | none => rw [ei] at p; exact p.elim
  | some w =>
    obtain ⟨k0, d⟩ := w
    rw [ei] at p
    simp only at p
    split at p
    · rename_i hc
      rw [Bool.and_eq_true] at hc
      have hi := hc.1
      cases hx : srcL sk [d] with
      | none => rw [hx] at p; exact p.elim
      | some xs =>
        rw [hx] at p
        simp only at p
        obtain ⟨⟨ds, hds⟩, hfl⟩ := src_flat hi hx hk
        obtain ⟨v, fpS, O1, hv, gr, tS, eq⟩ := gd.out ei
        obtain ⟨a, rfl⟩ := rep_ref hds tS.rep
        have nO := ref_free hi tS.rep tS.nO gr
        refine ⟨a, F, k0, d, fpS, xs, hv, tS.rep, hi, hx, fun J w P hD => ?_⟩
        split at p
        · rename_i envE l hl
          split at p
          · rename_i hz
            rw [Bool.and_eq_true] at hz
            have hz' := szOk_le hz.1
            have hno : getS (clearS envE own) i = none := by simpa using hz.2
            have WK : Walk J xs.length (Kp (fun x => x = a) H) (fun i H x H' => Same H H' ∧ ∀ (F' : Addr → Prop) d, xs[i]? = some d → Rep c F' H' 0 x d []) :=
              ⟨fun i H hi k => w.goes H i k hi, fun H k => w.stops H k, fun i H x H' hi k y => by
                have z := w.yields (fun x => x = a) H i x H' (fun _ z => z) k hi y
                refine ⟨z.1, fun F' d e => ?_⟩
                exact (Rep.flat (hfl d (List.mem_of_getElem? e)) (z.2.2 d e)).2 F' 0⟩
            refine lc_it WK (fun j H' => ∃ F' O' env' acc accV fp, Lp c F O1 H P own (wipe σ own) env' acc F' O' H' accV fp ∧ lcLoop own g (fun env => evT C ifs env) (fun env => evE C elt env) (xs.drop j) env' acc = .ok envE l) ?_ ?_ ?_ ?_
            · obtain ⟨O', L⟩ := Lp.start (own := own) gr hD
              exact ⟨F, O', _, [], [], [], L, hl⟩
            · rintro j H' hj ⟨F', O', env', acc, accV, fp, L, _⟩
              exact ⟨(Step.kp L.st gr).1, fun x o e q => L.st.keep x o q (by rw [e]; exact nO)⟩
            · rintro j x H' H'' hj ⟨F', O', env', acc, accV, fp, L, hq⟩ y
              obtain ⟨sm, rp⟩ := y
              rw [List.drop_eq_getElem_cons hj] at hq
              exact lc_turn rfl hg hs hD hz' (L.same sm) (rp _ _ (by simp [hj])) hq fun F O env acc H accV fp L' _ _ e' => ⟨F, O, env, acc, accV, fp, L', e'⟩
            · rintro H' ⟨F', O', env', acc, accV, fp, L, hq⟩
              rw [List.drop_length] at hq
              simp only [lcLoop, ResL.ok.injEq] at hq
              obtain ⟨rfl, rfl⟩ := hq
              refine L.done (xc := xc) (W := W) (Q := Q) hD (Step.refl (F := F) (O := O1)) ?_
              intro F2 O2 H2 v fq st2 g2 t2 fr2
              have tS2 := tS.step st2 gr
              have g3 := g2.into hno hv tS2
              refine p F2 _ H2 v fq ⟨st2.mono, fun x z => ?_, fun x z => ?_, fun x o e n => st2.keep x o e fun z => n ((eq x).mpr (.inr z)), st2.dom⟩ g3 ⟨t2.rep, t2.nd, fun x z y => ?_, t2.nF⟩ fun x z => (fr2 x z).imp (fun y => (eq x).mpr (.inr y)) id
              · rcases z with z | z
                · exact .inl ((eq x).mpr (.inl z))
                · exact (st2.own x z).imp (fun y => (eq x).mpr (.inr y)) id
              · rcases st2.frz x z with y | y | y
                · exact .inl y
                · exact .inr (.inl ((eq x).mpr (.inr y)))
                · exact .inr (.inr y)
              · rcases y with y | y
                · rcases fr2 x z with q | q
                  · exact tS.nO x y q
                  · obtain ⟨o, e, _⟩ := Rep.mem tS.rep x y
                    rw [q] at e; cases e
                · exact t2.nO x z y
          · exact p.elim
        · exact p.elim
    · exact p.elim
end
end Pv
end
section
set_option maxRecDepth 100000
set_option maxHeartbeats 4000000
/-! PvMut: a list of one's own, changed in place. -/
namespace Pv
open PySem PySem.Spec PyProof.Rows L2
/-- xs.extend(ys), ys a list of any kind -/
def rExtendA : V → List V → Hp → VK → Prop := fun x vs H Q => ∃ l b xs zs, x = .ref l ∧ vs = [.ref b] ∧ H l = some (.lst xs) ∧ Rd H b (.lst zs) ∧ xs.length + zs.length ≤ sizeLine ∧ Q .non (upd H l (.lst (xs ++ zs)))
def rInsertA : V → List V → Hp → VK → Prop := fun x vs H Q => ∃ (l : Addr) (xs : List V) (i : Int) (y : V), x = .ref l ∧ vs = [.int i, y] ∧ H l = some (.lst xs) ∧ xs.length < sizeLine ∧ 0 ≤ i ∧ i < 2 ^ 63 ∧ Q .non (upd H l (.lst (xs.take i.toNat ++ [y] ++ xs.drop i.toNat)))
section
variable {X : Cx}
theorem mt_extendA : MtR X "list.extend" rExtendA := by
  intro pins s σ H x vs v us Q I rx rv h
  obtain ⟨l, b, xs, zs, rfl, rfl, hH, hB, hz, q⟩ := h
  cases rx
  obtain ⟨u, rfl, ru⟩ := rv.one
  cases ru
  obtain ⟨z, its, n, r, hl, e⟩ := I.lstM hH
  obtain ⟨z2, its2, n2, r2, e2⟩ := hB.ok I.hok
  have hl2 := r2.length
  have hsz : its.toArray.size + its2.toArray.size ≤ sizeLine := by rw [List.size_toArray, List.size_toArray]; omega
  have hlong : ¬ (!its.toArray.isEmpty && Builtin.List.listTooLong (its.toArray.size + its2.toArray.size)) = true := by
    rw [notLongL hsz, Bool.and_false]
    exact Bool.false_ne_true
  refine call_meets F.slot_list_extend ⟨_, e, rfl⟩ F.entry_list_extend (F.args_list_extend_2 _ _)
    (AutoSeq1.list_extend_list_list_0 l its.toArray n b its2.toArray n2 hlong (by rw [List.size_toArray]; omega) (by omega)) ⟨e, e2, ?_⟩
  refine ⟨.non, _, I.lset (its' := its ++ its2) hH e (by simp) (r.append r2) ?_, rfl, q⟩
  rw [List.length_append]
  omega
/-- the way of a method -/
def rM : Mu → V → List V → Hp → VK → Prop
  | .append => rAppend
  | .extend => rExtendA
  | .insert => rInsertA
  | .popAt => rPopAt
  | _ => fun _ _ _ _ => False
def mName : Mu → Str
  | .append => "append"
  | .extend => "extend"
  | .insert => "insert"
  | _ => "pop"
end
section
variable {c : Cn} {F F' O : Addr → Prop} {H H' : Hp} {env : Env} {σ : L2.St}
theorem RepL.aside {a : Addr} {o' : HO} {k : Nat} {vs : List V} {ds : List D} {fp : List Addr} (r : RepL c F H k vs ds fp) (hD : ∃ o, H a = some o ∧ Mt o) (nfp : a ∉ fp) (nF : ¬ F a) : RepL c F (upd H a o') k vs ds fp :=
  RepL.keep (fun x o q n => (upd_ne fun z => by
    obtain ⟨o2, e2, m⟩ := hD
    rw [z, e2] at q; cases q; exact n m).trans q) (fun x o f q => (upd_ne (show x ≠ a from fun z => nF (z ▸ f))).trans q) (fun _ z => z) (fun x o z q => (upd_ne (show x ≠ a from fun y => nfp (y ▸ z))).trans q) r
theorem Rep.aside {a : Addr} {o' : HO} {k : Nat} {vs : V} {ds : D} {fp : List Addr} (r : Rep c F H k vs ds fp) (hD : ∃ o, H a = some o ∧ Mt o) (nfp : a ∉ fp) (nF : ¬ F a) : Rep c F (upd H a o') k vs ds fp :=
  Rep.keep (fun x o q n => (upd_ne fun z => by
    obtain ⟨o2, e2, m⟩ := hD
    rw [z, e2] at q; cases q; exact n m).trans q) (fun x o f q => (upd_ne (show x ≠ a from fun z => nF (z ▸ f))).trans q) (fun _ z => z) (fun x o z q => (upd_ne (show x ≠ a from fun y => nfp (y ▸ z))).trans q) r
theorem args1 {k : Nat} {d : D} {us : List V} {fp : List Addr} (r : Args c F H [(k, d)] us fp) : ∃ v, us = [v] ∧ Rep c F H k v d fp := by
  cases r with
  | cons r rs =>
    cases rs
    rw [List.append_nil]
    exact ⟨_, rfl, r⟩
theorem args2 {k j : Nat} {d e : D} {us : List V} {fp : List Addr} (r : Args c F H [(k, d), (j, e)] us fp) : ∃ v u fp1 fp2, us = [v, u] ∧ fp = fp1 ++ fp2 ∧ Rep c F H k v d fp1 ∧ Rep c F H j u e fp2 := by
  cases r with
  | cons r rs =>
    obtain ⟨u, rfl, s⟩ := args1 rs
    exact ⟨_, _, _, _, rfl, rfl, r, s⟩
/-- a row at a place -/
theorem RepL.split {k : Nat} : ∀ {vs : List V} {ds : List D} {fp : List Addr} {i : Nat} {d : D}, RepL c F H k vs ds fp → ds[i]? = some d → ∃ va v vb da db fa f fb, vs = va ++ v :: vb ∧ ds = da ++ d :: db ∧ fp = fa ++ (f ++ fb) ∧ va.length = i ∧ da.length = i ∧ RepL c F H k va da fa ∧ Rep c F H k v d f ∧ RepL c F H k vb db fb
  | _, _, _, _, _, .nil _, h => by simp at h
  | _, _, _, 0, _, .cons r rs, h => by
    simp only [List.getElem?_cons_zero, Option.some.injEq] at h
    subst h
    exact ⟨[], _, _, [], _, [], _, _, rfl, rfl, rfl, rfl, rfl, .nil _, r, rs⟩
  | _, _, _, i + 1, d, .cons (fp := fp0) r rs, h => by
    obtain ⟨va, v, vb, da, db, fa, f, fb, rfl, rfl, rfl, h1, h2, ra, r', rb⟩ := RepL.split (i := i) rs (by simpa using h)
    exact ⟨_ :: va, v, vb, _ :: da, db, fp0 ++ fa, f, fb, rfl, rfl, by rw [List.append_assoc], by simp [h1], by simp [h2], .cons r ra, r', rb⟩
/-- several rows and values brought to one level: what is owned no more is frozen -/
theorem RepL.lower {k : Nat} {vs : List V} {ds : List D} {fp : List Addr} (r : RepL c F H k vs ds fp) (j : Nat) (h : j ≤ k) : ∃ fp', fp'.Sublist fp ∧ ∀ F' : Addr → Prop, (∀ a, F a → F' a) → (∀ a, a ∈ fp → a ∉ fp' → F' a) → fp.Nodup → RepL c F' H j vs ds fp' := RepL.down j h r
/-- the two, side by side, at the least of their levels: X, what is kept; the rest frozen -/
theorem lower2 {k ke : Nat} {vs : List V} {ds : List D} {y : V} {d : D} {fp fq : List Addr} (r : RepL c F H k vs ds fp) (s : Rep c F H ke y d fq) (nd : (fp ++ fq).Nodup) :
    ∃ F' fp' fq', (∀ a, F a → F' a) ∧ (∀ a, F' a → F a ∨ a ∈ fp ++ fq) ∧ fp'.Sublist fp ∧ fq'.Sublist fq ∧ (∀ a, a ∈ fp' ++ fq' → F' a → F a) ∧ RepL c F' H (min k ke) vs ds fp' ∧ Rep c F' H (min k ke) y d fq' := by
  obtain ⟨fp', s1, q1⟩ := RepL.down (min k ke) (Nat.min_le_left _ _) r
  obtain ⟨fq', s2, q2⟩ := Rep.down (min k ke) (Nat.min_le_right _ _) s
  obtain ⟨n1, n2, n3⟩ := List.nodup_append.mp nd
  refine ⟨fun a => F a ∨ (a ∈ fp ++ fq ∧ a ∉ fp' ++ fq'), fp', fq', fun a z => .inl z, fun a z => z.imp id fun z => z.1, s1, s2, fun a z f => f.elim id fun f => absurd z f.2, q1 _ (fun a z => .inl z) (fun a z zn => .inr ⟨List.mem_append_left _ z, fun y => ?_⟩) n1, q2 _ (fun a z => .inl z) (fun a z zn => .inr ⟨List.mem_append_right _ z, fun y => ?_⟩) n2⟩
  · rcases List.mem_append.mp y with y | y
    · exact zn y
    · exact n3 a z a (s2.subset y) rfl
  · rcases List.mem_append.mp y with y | y
    · exact n3 a (s1.subset y) a z rfl
    · exact zn y
/-- the method's way, told by the new row -/
theorem mutL_ok {m : Mu} {a : Addr} {k j kr : Nat} {vs us : List V} {xs ys : List D} {l : List (Nat × D)} {r : D} {fp0 fp : List Addr} {Q : VK} (ha : H a = some (.lst vs)) (rl : RepL c F H k vs xs fp0) (ra : Args c F H l us fp) (nd : (fp0 ++ fp).Nodup)
    (na : a ∉ fp0 ++ fp) (nF : ¬ F a) (e : mutL m k xs l = some (j, ys, kr, r))
    (q : ∀ (F2 : Addr → Prop) (vs' : List V) (y : V) (fp1 fp2 : List Addr), (∀ x, F x → F2 x) → (∀ x, F2 x → F x ∨ x ∈ fp0 ++ fp) → RepL c F2 (upd H a (.lst vs')) j vs' ys fp1 → Rep c F2 (upd H a (.lst vs')) kr y r fp2 → (fp1 ++ fp2).Nodup →
      (∀ x, x ∈ fp1 ++ fp2 → x ∈ fp0 ++ fp ∧ (F2 x → F x)) → Q y (upd H a (.lst vs'))) : rM m (.ref a) us H Q := by
  have hm : ∃ o, H a = some o ∧ Mt o := ⟨_, ha, trivial⟩
  have hl := rl.length
  unfold mutL at e
  split at e
  · -- append
    rename_i ke d
    split at e
    · rename_i hz
      have hz := szOk_le hz
      cases e
      obtain ⟨y, rfl, ry⟩ := args1 ra
      obtain ⟨F', fp', fq', m1, m2, s1, s2, nk, r1, r2⟩ := lower2 rl ry nd
      have nF' : ¬ F' a := fun z => (m2 a z).elim nF na
      have nd' : (fp' ++ fq').Nodup := (s1.append s2).nodup nd
      have sub : ∀ x, x ∈ fp' ++ fq' → x ∈ fp0 ++ fp := fun x z => (s1.append s2).subset z
      have rr : RepL c F' H (min k ke) (vs ++ [y]) (xs ++ [d]) (fp' ++ (fq' ++ [])) := RepL.append r1 (.cons r2 (.nil _))
      rw [List.append_nil] at rr
      refine ⟨a, vs, y, rfl, rfl, ha, by omega, q F' (vs ++ [y]) .non (fp' ++ fq') [] m1 m2 (RepL.aside rr hm (fun z => na (sub a z)) nF') (.non _) (by rw [List.append_nil]; exact nd') fun x z => ?_⟩
      rw [List.append_nil] at z
      exact ⟨sub x z, nk x z⟩
    · cases e
  · -- extend
    rename_i ke d
    split at e
    · rename_i hz
      have hz := szOk_le hz
      cases e
      obtain ⟨y, rfl, ry⟩ := args1 ra
      obtain ⟨b, zs, rfl, hb, lb, fb⟩ := rep_list (F' := F) ry
      have m1 : ∀ x, F x → F x ∨ x ∈ fp0 ++ fp := fun x z => .inl z
      have nF' : ¬ (F a ∨ a ∈ fp0 ++ fp) := fun z => z.elim nF na
      have rr : RepL c (fun x => F x ∨ x ∈ fp0 ++ fp) H 0 (vs ++ zs) (xs ++ d) [] := RepL.app0 (RepL.freeze m1 (fun x z => .inr (List.mem_append_left _ z)) rl) (fb _ m1 fun x z => .inr (List.mem_append_right _ z))
      exact ⟨a, b, vs, zs, rfl, rfl, ha, hb, by omega, q _ (vs ++ zs) .non [] [] m1 (fun x z => z) (RepL.aside rr hm (by simp) nF') (.non _) List.nodup_nil (by simp)⟩
    · cases e
  · -- insert
    rename_i k0 ke d
    split at e
    · rename_i hz
      have hz := szOk_le hz
      cases e
      obtain ⟨y0, y, fpa, fpb, rfl, rfl, r0, ry⟩ := args2 ra
      cases r0
      rw [List.nil_append] at nd na
      obtain ⟨F', fp', fq', m1, m2, s1, s2, nk, r1, r2⟩ := lower2 rl ry nd
      have nF' : ¬ F' a := fun z => (m2 a z).elim nF na
      have nd' : (fq' ++ fp').Nodup := by
        have := (s1.append s2).nodup nd
        exact (List.perm_append_comm.nodup_iff).mp this
      have sub : ∀ x, x ∈ fq' ++ fp' → x ∈ fp0 ++ fpb := fun x z => (s1.append s2).subset (List.mem_append.mpr (List.mem_append.mp z).symm)
      have rr : RepL c F' H (min k ke) (y :: vs) (d :: xs) (fq' ++ fp') := .cons r2 r1
      refine ⟨a, vs, 0, y, rfl, rfl, ha, by omega, by omega, by omega, ?_⟩
      have q' := q F' (y :: vs) .non (fq' ++ fp') [] m1 (by rw [List.nil_append]; exact m2) (RepL.aside rr hm (fun z => na (sub a z)) nF') (.non _) (by rw [List.append_nil]; exact nd') fun x z => by
        rw [List.append_nil] at z
        rw [List.nil_append]
        exact ⟨sub x z, nk x (List.mem_append.mpr (List.mem_append.mp z).symm)⟩
      simpa using q'
    · cases e
  · -- pop(i)
    rename_i ki i
    split at e
    · rename_i hi
      have hi := of_decide_eq_true hi
      split at e
      · rename_i hd
        cases e
        obtain ⟨y0, rfl, r0⟩ := args1 ra
        cases r0
        obtain ⟨va, v, vb, da, db, fa, f, fb, rfl, rfl, rfl, h1, h2, ra', rv, rb⟩ := RepL.split rl hd
        rename D => d
        rw [List.append_nil] at nd na
        have hv : (va ++ v :: vb)[i.toNat]? = some v := by rw [← h1]; simp
        have he : (va ++ v :: vb).eraseIdx i.toNat = va ++ vb := by
          rw [← h1, List.eraseIdx_append_of_length_le (Nat.le_refl _)]; simp
        have he2 : (da ++ d :: db).eraseIdx i.toNat = da ++ db := by
          rw [← h2, List.eraseIdx_append_of_length_le (Nat.le_refl _)]; simp
        have hlt : i.toNat < (va ++ v :: vb).length := by rw [← h1]; simp
        refine ⟨a, va ++ v :: vb, i, i.toNat, v, rfl, rfl, ha, by omega, by omega, ?_, hv, ?_⟩
        · unfold seqIndex?
          have : ¬ i < 0 := by omega
          simp only [this, if_false]
          rw [if_pos]
          simp only [Bool.and_eq_true, decide_eq_true_eq]
          omega
        · rw [he]
          have nd2 : ((fa ++ fb) ++ f).Nodup := by
            have hp : (fa ++ (f ++ fb)).Perm ((fa ++ fb) ++ f) := by
              rw [List.append_assoc]
              exact List.Perm.append_left fa List.perm_append_comm
            exact hp.nodup_iff.mp nd
          have sub : ∀ x, x ∈ (fa ++ fb) ++ f → x ∈ fa ++ (f ++ fb) := fun x z => by
            simp only [List.mem_append] at z ⊢
            rcases z with (z | z) | z
            · exact .inl z
            · exact .inr (.inr z)
            · exact .inr (.inl z)
          have rr : RepL c F H k (va ++ vb) (da ++ db) (fa ++ fb) := RepL.append ra' rb
          have q' := q F (va ++ vb) v (fa ++ fb) f (fun _ z => z) (fun _ z => .inl z) (by rw [he2]; exact RepL.aside rr hm (fun z => na (sub a (List.mem_append_left _ z))) nF) (Rep.aside rv hm (fun z => na (sub a (List.mem_append_right _ z))) nF) nd2 fun x z => by
            rw [List.append_nil]
            exact ⟨sub x z, id⟩
          exact q'
      · cases e
    · cases e
  · cases e
end
section
variable {c : Cn} {xc : Xc} {W : WX} {C : Calls}
theorem rep_own {F : Addr → Prop} {H : Hp} {k : Nat} {v : V} {xs : List D} {fp : List Addr} (r : Rep c F H (k + 1) v (.list xs) fp) : ∃ a vs fp0, v = .ref a ∧ fp = a :: fp0 ∧ H a = some (.lst vs) ∧ RepL c F H k vs xs fp0 := by
  cases r with
  | lown h r => exact ⟨_, _, _, rfl, rfl, h, r⟩
theorem rep_lvl {F : Addr → Prop} {H : Hp} {k : Nat} {v : V} {d : D} {fp : List Addr} (r : Rep c F H k v d fp) : Rep c F H (lvl k d) v d fp := by
  unfold lvl
  split
  · rename_i hd
    obtain ⟨e1, z⟩ := Rep.atom hd r
    rw [e1]; exact z _ _ _
  · exact r
theorem mut_ok {m : Mu} {i : Nat} {es : Es} {σ : L2.St} {H : Hp} {Q : VK} (h : rE c xc W C (.mut m i .nil es) σ H Q) : tBM c.K "list" (rM m) (tVar i) (rL c xc W C es) σ H Q := by
  obtain ⟨env, F, O, g, p⟩ := h
  unfold evE at p
  split at p
  · rename_i k0 ds0 e0
    obtain ⟨v, fq0, hv, r0, _⟩ := g.get e0
    obtain ⟨a0, xs0, rfl, hs0, _, _⟩ := rep_list (F' := F) r0
    refine ⟨_, hv, .inl ⟨rfl, xs0, sq_of hs0⟩, env, F, O, g, ?_⟩
    cases el : evL C es env with
    | bad => rw [el] at p; exact p
    | exc env1 y => rw [el] at p; exact p
    | ok env1 l =>
      rw [el] at p
      intro F1 O1 H1 us fp s1 g1 t fr
      simp only at p
      split at p
      · rename_i k xs ei
        split at p
        · rename_i j ys kr r em
          obtain ⟨v1, fpS, O1r, hv1, gr, tS, eq⟩ := g1.out ei
          rw [hv] at hv1
          cases hv1
          obtain ⟨a, vs, fp0, e1, rfl, ha, rl⟩ := rep_own tS.rep
          cases e1
          have nO1 : ∀ x, x ∈ fp → ¬ O1r x := fun x z y => t.nO x z ((eq x).mpr (.inr y))
          have nS : ∀ x, x ∈ fp → x ∉ a0 :: fp0 := fun x z y => t.nO x z ((eq x).mpr (.inl y))
          obtain ⟨nd1, nd2⟩ := List.nodup_cons.mp tS.nd
          have nd : (fp0 ++ fp).Nodup := List.nodup_append.mpr ⟨nd2, t.nd, fun x z y w e => nS x (e ▸ w) (List.mem_cons_of_mem _ z)⟩
          have na : a0 ∉ fp0 ++ fp := fun z => (List.mem_append.mp z).elim nd1 fun z => nS _ z List.mem_cons_self
          have nF : ¬ F1 a0 := tS.nF a0 List.mem_cons_self
          have frS : ∀ x, x ∈ fp0 ++ fp → O x ∨ H x = none := fun x z => (List.mem_append.mp z).elim (fun z => s1.own x ((eq x).mpr (.inl (List.mem_cons_of_mem _ z)))) (fr x)
          have nOr : ∀ x, x ∈ fp0 ++ fp → ¬ O1r x := fun x z => (List.mem_append.mp z).elim (fun z => tS.nO x (List.mem_cons_of_mem _ z)) (nO1 x)
          have nFr : ∀ x, x ∈ fp0 ++ fp → ¬ F1 x := fun x z => (List.mem_append.mp z).elim (fun z => tS.nF x (List.mem_cons_of_mem _ z)) (t.nF x)
          have mm : ∀ x, x ∈ fp0 ++ fp → ∃ o, H1 x = some o ∧ Mt o := fun x z => (List.mem_append.mp z).elim (RepL.mem rl x) (t.rep.mem x)
          refine mutL_ok ha rl t.rep nd na nF em fun F2 vs' y fp1 fp2 m1 m2 r1 r2 nd3 sub => ?_
          have nF2 : ¬ F2 a0 := fun z => (m2 a0 z).elim nF na
          have g2 : Good c F2 (putS env1 i none) σ H1 O1r := gr.keep m1 (fun x z => (m2 x z).elim (fun z => ⟨fun y => gr.disj x y z, gr.dom x z⟩) fun z => ⟨nOr x z, fun y => by
            obtain ⟨o, q, _⟩ := mm x z
            rw [y] at q; cases q⟩) fun _ _ h => h
          have g3 : Good c F2 (putS env1 i none) σ (upd H1 a0 (.lst vs')) O1r := g2.aside ⟨_, ha, trivial⟩ (tS.nO a0 List.mem_cons_self) nF2
          obtain ⟨n1, n2, n3⟩ := List.nodup_append.mp nd3
          have t3 : Tmp c F2 O1r (upd H1 a0 (.lst vs')) (j + 1) (.ref a0) (.list ys) (a0 :: fp1) := ⟨.lown upd_same r1, List.nodup_cons.mpr ⟨fun z => na (sub a0 (List.mem_append_left _ z)).1, n1⟩, fun x z => (List.mem_cons.mp z).elim (fun e => e ▸ tS.nO a0 List.mem_cons_self) fun z => nOr x (sub x (List.mem_append_left _ z)).1,
            fun x z => (List.mem_cons.mp z).elim (fun e => e ▸ nF2) fun z f => nFr x (sub x (List.mem_append_left _ z)).1 ((sub x (List.mem_append_left _ z)).2 f)⟩
          have g4 := g3.into getS_put_none hv t3
          rw [putS_put] at g4
          refine p F2 _ _ y fp2 ⟨fun x z => m1 x (s1.mono x z), fun x z => ?_, fun x z => ?_, fun x o q n => ?_, fun x q => s1.dom x (upd_dom q).2⟩ g4 ⟨rep_lvl r2, n2, fun x z w => ?_, fun x z f => nFr x (sub x (List.mem_append_right _ z)).1 ((sub x (List.mem_append_right _ z)).2 f)⟩ fun x z => frS x (sub x (List.mem_append_right _ z)).1
          · rcases z with z | z
            · rcases List.mem_cons.mp z with rfl | z
              · exact s1.own _ ((eq _).mpr (.inl List.mem_cons_self))
              · exact frS x (sub x (List.mem_append_left _ z)).1
            · exact s1.own x ((eq x).mpr (.inr z))
          · rcases m2 x z with z | z
            · exact s1.frz x z
            · exact .inr (frS x z)
          · refine (upd_ne fun e => ?_).trans (s1.keep x o q n)
            subst e
            rcases s1.own _ ((eq _).mpr (.inl List.mem_cons_self)) with z | z
            · exact n z
            · rw [q] at z; cases z
          · rcases w with w | w
            · rcases List.mem_cons.mp w with rfl | w
              · exact na (sub _ (List.mem_append_right _ z)).1
              · exact n3 x w x z rfl
            · exact nOr x (sub x (List.mem_append_right _ z)).1 w
        · exact p.elim
      · exact p.elim
  · exact p.elim
theorem mutP_ok {m : Mu} {i : Nat} {e0 : E} {es0 es : Es} {σ : L2.St} {H : Hp} {Q : VK} (h : rE c xc W C (.mut m i (.cons e0 es0) es) σ H Q) : tBM c.K "list" (rM m) (tOp (rIxL c.K) (tVar i) (rO c xc W C e0)) (rL c xc W C es) σ H Q := by
  obtain ⟨env, F, O, g, p⟩ := h
  unfold evE at p
  split at p
  · exact p.elim
  · rename_i kd00 e00
    obtain ⟨k00, d00⟩ := kd00
    obtain ⟨v, fq0, hv, _, _⟩ := g.get e00
    refine ⟨v, hv, rO_of (F := F) (O := O) (env := env) g ?_⟩
    cases eo : opd e0 env (evE C e0 env) with
    | bad => rw [eo] at p; exact p
    | exc env1 y => rw [eo] at p; exact p
    | ok env0 kk dd =>
      rw [eo] at p
      intro F0 O0 H0 u s0 g0 o0
      split at p
      · rename_i a0 heq
        cases heq
        obtain ⟨_, ru, _⟩ := o0.rep g0
        cases ru
        split at p
        · rename_i k xs ei
          split at p
          · rename_i n hn
            split at p
            · rename_i ys0 hx
              obtain ⟨v0, fpS, O0r, hv0, gr0, tS0, eq⟩ := g0.out ei
              rw [hv] at hv0
              cases hv0
              obtain ⟨a, vs, fp0, rfl, rfl, ha0, rl0⟩ := rep_own tS0.rep
              obtain ⟨va, vb0, vb, da, db, fa, f, fb, rfl, rfl, rfl, h1, h2, ra, rv, rb⟩ := RepL.split rl0 hx
              obtain ⟨b, ws, f0, rfl, rfl, hb0, rw0⟩ := rep_own rv
              have st0 : Step F0 O0 H0 F0 O0r H0 := ⟨fun _ z => z, fun x z => .inl ((eq x).mpr (.inr z)), fun _ z => .inl z, fun _ _ q _ => q, fun _ q => q⟩
              have hat : atI (va ++ .ref b :: vb) a0 = some (.ref b) := by
                unfold atI
                rw [rl0.length, hn]
                show (va ++ V.ref b :: vb)[n]? = _
                rw [← h1]; simp
              refine ⟨a, _, a0, .ref b, rfl, rfl, sq_of (.inl ha0), hat, .inl ⟨rfl, ws, sq_of (.inl hb0)⟩, _, F0, O0r, gr0, ?_⟩
              cases el : evL C es (putS env0 i none) with
              | bad => rw [el] at p; exact p
              | exc env1 y => rw [el] at p; exact PostX.later p (s0.trans st0)
              | ok env1 l =>
                rw [el] at p
                intro F1 O1 H1 us fp s1 g1 t fr
                simp only at p
                split at p
                · rename_i j zs kr r em
                  split at p
                  · rename_i hj
                    subst hj
                    have kp : ∀ x o, x ∈ a :: (fa ++ ((b :: f0) ++ fb)) → H0 x = some o → H1 x = some o := fun x o z q => s1.keep x o q (tS0.nO x z)
                    have ina : ∀ x, x ∈ fa → x ∈ a :: (fa ++ ((b :: f0) ++ fb)) := fun x z => List.mem_cons_of_mem _ (List.mem_append_left _ z)
                    have inb : b ∈ a :: (fa ++ ((b :: f0) ++ fb)) := List.mem_cons_of_mem _ (List.mem_append_right _ (List.mem_append_left _ List.mem_cons_self))
                    have in0 : ∀ x, x ∈ f0 → x ∈ a :: (fa ++ ((b :: f0) ++ fb)) := fun x z => List.mem_cons_of_mem _ (List.mem_append_right _ (List.mem_append_left _ (List.mem_cons_of_mem _ z)))
                    have infb : ∀ x, x ∈ fb → x ∈ a :: (fa ++ ((b :: f0) ++ fb)) := fun x z => List.mem_cons_of_mem _ (List.mem_append_right _ (List.mem_append_right _ z))
                    have ha1 := kp a _ List.mem_cons_self ha0
                    have hb1 := kp b _ inb hb0
                    have ra1 := RepL.keep (F' := F1) (s1.k0 gr0) (s1.kF gr0) s1.mono (fun x o z q => kp x o (ina x z) q) ra
                    have rb1 := RepL.keep (F' := F1) (s1.k0 gr0) (s1.kF gr0) s1.mono (fun x o z q => kp x o (infb x z) q) rb
                    have rw1 := RepL.keep (F' := F1) (s1.k0 gr0) (s1.kF gr0) s1.mono (fun x o z q => kp x o (in0 x z) q) rw0
                    obtain ⟨q1, q2⟩ := List.nodup_cons.mp tS0.nd
                    obtain ⟨q3, q4, q5⟩ := List.nodup_append.mp q2
                    obtain ⟨q6, q7, q8⟩ := List.nodup_append.mp q4
                    obtain ⟨q9, q10⟩ := List.nodup_cons.mp q6
                    have mS : ∀ x, x ∈ a :: (fa ++ ((b :: f0) ++ fb)) → ∃ o, H0 x = some o ∧ Mt o := fun x z => Rep.mem tS0.rep x z
                    have nS : ∀ x, x ∈ fp → x ∉ a :: (fa ++ ((b :: f0) ++ fb)) := fun x z y => by
                      rcases fr x z with w | w
                      · exact tS0.nO x y w
                      · obtain ⟨o, q, _⟩ := mS x y
                        rw [w] at q; cases q
                    have tS := tS0.step s1 gr0
                    have nd : (f0 ++ fp).Nodup := List.nodup_append.mpr ⟨q10, t.nd, fun x z y w e => nS x (e ▸ w) (in0 x z)⟩
                    have na : b ∉ f0 ++ fp := fun z => (List.mem_append.mp z).elim q9 fun z => nS _ z inb
                    have nF : ¬ F1 b := tS.nF b inb
                    have s01 : Step F O H F1 O1 H1 := (s0.trans st0).trans s1
                    have frA : ∀ x, x ∈ a :: (fa ++ ((b :: f0) ++ fb)) → O x ∨ H x = none := fun x z => s0.own x ((eq x).mpr (.inl z))
                    have frP : ∀ x, x ∈ fp → O x ∨ H x = none := fun x z => (fr x z).elim (fun w => s0.own x ((eq x).mpr (.inr w))) fun w => .inr (s0.dom x w)
                    have frS : ∀ x, x ∈ f0 ++ fp → O x ∨ H x = none := fun x z => (List.mem_append.mp z).elim (fun z => frA x (in0 x z)) (frP x)
                    have nOr : ∀ x, x ∈ f0 ++ fp → ¬ O1 x := fun x z => (List.mem_append.mp z).elim (fun z => tS.nO x (in0 x z)) (t.nO x)
                    have nFr : ∀ x, x ∈ f0 ++ fp → ¬ F1 x := fun x z => (List.mem_append.mp z).elim (fun z => tS.nF x (in0 x z)) (t.nF x)
                    have mm : ∀ x, x ∈ f0 ++ fp → ∃ o, H1 x = some o ∧ Mt o := fun x z => (List.mem_append.mp z).elim (RepL.mem rw1 x) (t.rep.mem x)
                    refine mutL_ok hb1 rw1 t.rep nd na nF em fun F2 ws' y fp1 fp2 m1 m2 r1 r2 nd3 sub => ?_
                    have hab : a ≠ b := fun e => q1 (List.mem_append_right _ (List.mem_append_left _ (e ▸ List.mem_cons_self)))
                    have nF2 : ¬ F2 b := fun z => (m2 b z).elim nF na
                    have nF2' : ∀ x, x ∈ a :: (fa ++ ((b :: f0) ++ fb)) → x ∉ f0 → ¬ F2 x := fun x z y w => (m2 x w).elim (tS.nF x z) fun w => (List.mem_append.mp w).elim y fun w => nS x w z
                    have g2 : Good c F2 env1 σ H1 O1 := g1.keep m1 (fun x z => (m2 x z).elim (fun z => ⟨fun y => g1.disj x y z, g1.dom x z⟩) fun z => ⟨nOr x z, fun y => by
                      obtain ⟨o, q, _⟩ := mm x z
                      rw [y] at q; cases q⟩) fun _ _ h => h
                    have g3 : Good c F2 env1 σ (upd H1 b (.lst ws')) O1 := g2.aside ⟨_, hb1, trivial⟩ (tS.nO b inb) nF2
                    obtain ⟨g4e⟩ : Nonempty (∃ O4, Good c F2 (putS env1 i none) σ (upd H1 b (.lst ws')) O4 ∧ ∀ x, O4 x → O1 x) := by
                      obtain ⟨O4, g4, s4⟩ := g3.clear i ((σ[i]?).getD none)
                      rw [show σ.set i ((σ[i]?).getD none) = σ by rw [hv]; exact set_same hv] at g4
                      exact ⟨O4, g4, s4⟩
                    obtain ⟨O4, g4, s4⟩ := g4e
                    obtain ⟨n1, n2, n3⟩ := List.nodup_append.mp nd3
                    have sub1 : ∀ x, x ∈ fp1 → x ∈ f0 ∨ x ∈ fp := fun x z => List.mem_append.mp (sub x (List.mem_append_left _ z)).1
                    have hbm : ∃ o, H1 b = some o ∧ Mt o := ⟨_, hb1, trivial⟩
                    have ra2 : RepL c F2 (upd H1 b (.lst ws')) (j + 1) va da fa := RepL.aside (RepL.more ra1 m1) hbm (fun z => q5 b z b (List.mem_append_left _ List.mem_cons_self) rfl) nF2
                    have rb2 : RepL c F2 (upd H1 b (.lst ws')) (j + 1) vb db fb := RepL.aside (RepL.more rb1 m1) hbm (fun z => q8 b List.mem_cons_self b z rfl) nF2
                    have row : RepL c F2 (upd H1 b (.lst ws')) (j + 1) (va ++ V.ref b :: vb) (da ++ PyData.list zs :: db) (fa ++ ((b :: fp1) ++ fb)) := RepL.append ra2 (.cons (.lown upd_same r1) rb2)
                    have top : Rep c F2 (upd H1 b (.lst ws')) (j + 2) (.ref a) (.list (da ++ PyData.list zs :: db)) (a :: (fa ++ ((b :: fp1) ++ fb))) := .lown ((upd_ne hab).trans ha1) row
                    have eset : (da ++ PyData.list ys0 :: db).set n (.list zs) = da ++ PyData.list zs :: db := by rw [← h2]; simp
                    rw [eset] at p
                    have inN : ∀ x, x ∈ a :: (fa ++ ((b :: fp1) ++ fb)) → (x ∈ a :: (fa ++ ((b :: f0) ++ fb)) ∧ x ∉ f0) ∨ x ∈ fp1 := fun x z => by
                      rcases List.mem_cons.mp z with rfl | z
                      · exact .inl ⟨List.mem_cons_self, fun y => q1 (List.mem_append_right _ (List.mem_append_left _ (List.mem_cons_of_mem _ y)))⟩
                      · rcases List.mem_append.mp z with z | z
                        · exact .inl ⟨ina x z, fun y => q5 x z x (List.mem_append_left _ (List.mem_cons_of_mem _ y)) rfl⟩
                        · rcases List.mem_append.mp z with z | z
                          · rcases List.mem_cons.mp z with rfl | z
                            · exact .inl ⟨inb, q9⟩
                            · exact .inr z
                          · exact .inl ⟨infb x z, fun y => q8 x (List.mem_cons_of_mem _ y) x z rfl⟩
                    have ndN : (a :: (fa ++ ((b :: fp1) ++ fb))).Nodup := by
                      have nin : ∀ x, x ∈ fp1 → x ∈ a :: (fa ++ ((b :: f0) ++ fb)) → x ∈ f0 := fun x z y => (sub1 x z).elim id fun z => absurd y (nS x z)
                      refine List.nodup_cons.mpr ⟨fun z => ?_, List.nodup_append.mpr ⟨q3, List.nodup_append.mpr ⟨List.nodup_cons.mpr ⟨fun z => q9 (nin b z inb), n1⟩, q7, fun x z y w e => ?_⟩, fun x z y w e => ?_⟩⟩
                      · rcases List.mem_append.mp z with z | z
                        · exact q1 (List.mem_append_left _ z)
                        · rcases List.mem_append.mp z with z | z
                          · rcases List.mem_cons.mp z with z | z
                            · exact hab z
                            · exact q1 (List.mem_append_right _ (List.mem_append_left _ (List.mem_cons_of_mem _ (nin a z List.mem_cons_self))))
                          · exact q1 (List.mem_append_right _ (List.mem_append_right _ z))
                      · subst e
                        rcases List.mem_cons.mp z with rfl | z
                        · exact q8 _ List.mem_cons_self _ w rfl
                        · exact q8 x (List.mem_cons_of_mem _ (nin x z (infb x w))) x w rfl
                      · subst e
                        rcases List.mem_append.mp w with w | w
                        · rcases List.mem_cons.mp w with rfl | w
                          · exact q5 _ z _ (List.mem_append_left _ List.mem_cons_self) rfl
                          · exact q5 x z x (List.mem_append_left _ (List.mem_cons_of_mem _ (nin x w (ina x z)))) rfl
                        · exact q5 x z x (List.mem_append_right _ w) rfl
                    have t3 : Tmp c F2 O4 (upd H1 b (.lst ws')) (j + 2) (.ref a) (.list (da ++ PyData.list zs :: db)) (a :: (fa ++ ((b :: fp1) ++ fb))) := ⟨top, ndN, fun x z y => (inN x z).elim (fun z => tS.nO x z.1 (s4 x y)) fun z => nOr x (sub x (List.mem_append_left _ z)).1 (s4 x y),
                      fun x z f => (inN x z).elim (fun z => nF2' x z.1 z.2 f) fun z => nFr x (sub x (List.mem_append_left _ z)).1 ((sub x (List.mem_append_left _ z)).2 f)⟩
                    have g5 := g4.into getS_put_none hv t3
                    rw [putS_put] at g5
                    refine p F2 _ _ y fp2 ⟨fun x z => m1 x (s01.mono x z), fun x z => ?_, fun x z => ?_, fun x o q n => ?_, fun x q => s01.dom x (upd_dom q).2⟩ g5 ⟨rep_lvl r2, n2, fun x z w => ?_, fun x z f => nFr x (sub x (List.mem_append_right _ z)).1 ((sub x (List.mem_append_right _ z)).2 f)⟩ fun x z => frS x (sub x (List.mem_append_right _ z)).1
                    · rcases z with z | z
                      · rcases inN x z with z | z
                        · exact frA x z.1
                        · exact frS x (sub x (List.mem_append_left _ z)).1
                      · exact s01.own x (s4 x z)
                    · rcases m2 x z with z | z
                      · exact s01.frz x z
                      · exact .inr (frS x z)
                    · refine (upd_ne fun e => ?_).trans (s01.keep x o q n)
                      subst e
                      rcases frA _ inb with z | z
                      · exact n z
                      · rw [q] at z; cases z
                    · rcases w with w | w
                      · rcases inN x w with w | w
                        · rcases List.mem_append.mp (sub x (List.mem_append_right _ z)).1 with y | y
                          · exact w.2 y
                          · exact nS x y w.1
                        · exact n3 x w x z rfl
                      · exact nOr x (sub x (List.mem_append_right _ z)).1 (s4 x w)
                  · exact p.elim
                · exact p.elim
            · exact p.elim
          · exact p.elim
        · exact p.elim
      all_goals first | exact False.elim p | (exfalso; rename_i hq; cases hq)
end
end Pv
end
section
set_option maxRecDepth 100000
set_option maxHeartbeats 4000000
/-! PvStm: statements. -/
namespace Pv
open PySem PySem.Spec PyProof.Rows L2
/-- the slots pr hold what they held -/
def Prot (pr : List Nat) (σ σ' : L2.St) : Prop := σ'.length = σ.length ∧ ∀ p, p ∈ pr → σ'[p]? = σ[p]?
theorem Prot.refl {pr : List Nat} {σ : L2.St} : Prot pr σ σ := ⟨rfl, fun _ _ => rfl⟩
theorem Prot.trans {pr : List Nat} {σ σ1 σ2 : L2.St} (a : Prot pr σ σ1) (b : Prot pr σ1 σ2) : Prot pr σ σ2 := ⟨b.1.trans a.1, fun p h => (b.2 p h).trans (a.2 p h)⟩
theorem Prot.of {pr vs : List Nat} {σ σ' : L2.St} (s : SameOut vs σ σ') (h : ∀ p, p ∈ pr → p ∉ vs) : Prot pr σ σ' := ⟨s.1, fun p hp => s.2 p (h p hp)⟩
section
variable (c : Cn) (xc : Xc) (W : WX) (C : Calls) (cs : Clss) (wf : Nat) (pr : List Nat)
def PostS (σ : L2.St) (F O : Addr → Prop) (H : Hp) (Dn : Ends) : SR → Prop
  | .nx env' => ∀ F' O' H' σ', Step F O H F' O' H' → Good c F' env' σ' H' O' → Prot pr σ σ' → Dn.nx σ' H'
  | .brk env' => ∀ F' O' H' σ', Step F O H F' O' H' → Good c F' env' σ' H' O' → Prot pr σ σ' → Dn.bk σ' H'
  | .cnt env' => ∀ F' O' H' σ', Step F O H F' O' H' → Good c F' env' σ' H' O' → Prot pr σ σ' → Dn.ct σ' H'
  | .ret env' k d => ∀ F' O' H' σ' v fp, Step F O H F' O' H' → Good c F' env' σ' H' O' → Prot pr σ σ' → Tmp c F' O' H' k v d fp → (∀ a, a ∈ fp → O a ∨ H a = none) → Dn.rt v H'
  | .exc _ x => PostX c xc W σ F O H x
  | .bad => False
def rS (s : S) : TS := fun Dn σ H => ∃ env F O, Good c F env σ H O ∧ PostS c xc W pr σ F O H Dn (evS C cs wf s env)
def rSs (s : Ss) : TS := fun Dn σ H => ∃ env F O, Good c F env σ H O ∧ PostS c xc W pr σ F O H Dn (evSs C cs wf s env)
end
section
variable {c : Cn} {xc : Xc} {W : WX} {C : Calls} {cs : Clss} {wf : Nat} {pr : List Nat} {σ : L2.St} {F O : Addr → Prop} {H : Hp} {Dn : Ends}
theorem PostX.len {σ σ1 : L2.St} {y : Exn} (p : PostX c xc W σ F O H y) (h : σ1.length = σ.length) : PostX c xc W σ1 F O H y := fun F' H' cls dct σ' s d hl e => p F' H' cls dct σ' s d (hl.trans h) e
theorem PostS.later {σ1 : L2.St} {F1 O1 : Addr → Prop} {H1 : Hp} {r : SR} (p : PostS c xc W pr σ F O H Dn r) (s : Step F O H F1 O1 H1) (pt : Prot pr σ σ1) : PostS c xc W pr σ1 F1 O1 H1 Dn r := by
  cases r with
  | nx e => exact fun F' O' H' σ' s' g q => p F' O' H' σ' (s.trans s') g (pt.trans q)
  | brk e => exact fun F' O' H' σ' s' g q => p F' O' H' σ' (s.trans s') g (pt.trans q)
  | cnt e => exact fun F' O' H' σ' s' g q => p F' O' H' σ' (s.trans s') g (pt.trans q)
  | ret e k d => exact fun F' O' H' σ' v fp s' g q t fr => p F' O' H' σ' v fp (s.trans s') g (pt.trans q) t fun a z => (fr a z).elim (s.own a) fun q => .inr (s.dom a q)
  | exc e x => exact PostX.len (PostX.later p s) pt.1
  | bad => exact p
theorem snil_ok (h : rSs c xc W C cs wf pr .nil Dn σ H) : tNext Dn σ H := by
  obtain ⟨env, F, O, g, p⟩ := h
  unfold evSs at p
  exact p F O H σ Step.refl g Prot.refl
theorem scons_ok {s : S} {r : Ss} (h : rSs c xc W C cs wf pr (.cons s r) Dn σ H) : tSeq (rS c xc W C cs wf pr s) (rSs c xc W C cs wf pr r) Dn σ H := by
  obtain ⟨env, F, O, g, p⟩ := h
  unfold evSs at p
  refine ⟨env, F, O, g, ?_⟩
  cases e : evS C cs wf s env with
  | nx env1 =>
    rw [e] at p
    exact fun F' O' H' σ' st g' pt => ⟨env1, F', O', g', PostS.later p st pt⟩
  | brk env1 => rw [e] at p; exact p
  | cnt env1 => rw [e] at p; exact p
  | ret env1 k d => rw [e] at p; exact p
  | exc env1 x => rw [e] at p; exact p
  | bad => rw [e] at p; exact p
theorem pass_ok (h : rS c xc W C cs wf pr .pass Dn σ H) : tNext Dn σ H := by
  obtain ⟨env, F, O, g, p⟩ := h
  unfold evS at p
  exact p F O H σ Step.refl g Prot.refl
theorem brk_ok (h : rS c xc W C cs wf pr .brk Dn σ H) : tBreak Dn σ H := by
  obtain ⟨env, F, O, g, p⟩ := h
  unfold evS at p
  exact p F O H σ Step.refl g Prot.refl
theorem cnt_ok (h : rS c xc W C cs wf pr .cnt Dn σ H) : tCont Dn σ H := by
  obtain ⟨env, F, O, g, p⟩ := h
  unfold evS at p
  exact p F O H σ Step.refl g Prot.refl
theorem retN_ok (h : rS c xc W C cs wf pr .retN Dn σ H) : tRetN Dn σ H := by
  obtain ⟨env, F, O, g, p⟩ := h
  unfold evS at p
  exact p F O H σ .non [] Step.refl g Prot.refl ⟨.non _, List.nodup_nil, (fun a z => by cases z), fun a z => by cases z⟩ fun a z => by cases z
theorem ret_ok {e : E} (h : rS c xc W C cs wf pr (.ret e) Dn σ H) : tRet (rE c xc W C e) Dn σ H := by
  obtain ⟨env, F, O, g, p⟩ := h
  unfold evS at p
  refine ⟨env, F, O, g, ?_⟩
  cases ee : evE C e env with
  | bad => rw [ee] at p; exact p
  | exc env1 y => rw [ee] at p; exact p
  | ok env1 k d =>
    rw [ee] at p
    exact fun F' O' H' v fp s g' t fr => p F' O' H' σ v fp s g' Prot.refl t fr
theorem expr_ok {e : E} (h : rS c xc W C cs wf pr (.expr e) Dn σ H) : tDrop (rE c xc W C e) Dn σ H := by
  obtain ⟨env, F, O, g, p⟩ := h
  unfold evS at p
  refine ⟨env, F, O, g, ?_⟩
  cases ee : evE C e env with
  | bad => rw [ee] at p; exact p
  | exc env1 y => rw [ee] at p; exact p
  | ok env1 k d =>
    rw [ee] at p
    exact fun F' O' H' v fp s g' t fr => p F' O' H' σ s g' Prot.refl
theorem ife_ok {t : E} {a b : Ss} (h : rS c xc W C cs wf pr (.ife t a b) Dn σ H) : tIfS (tTest (rO c xc W C t)) (rSs c xc W C cs wf pr a) (rSs c xc W C cs wf pr b) Dn σ H := by
  obtain ⟨env, F, O, g, p⟩ := h
  unfold evS at p
  refine rT_of g ?_
  cases e : opd t env (evE C t env) with
  | bad => rw [e] at p; exact p
  | exc env1 y => rw [e] at p; exact p
  | ok env1 k1 d1 =>
    rw [e] at p
    cases d1 with
    | bool k =>
      cases k with
      | true => exact fun F1 O1 H1 s1 g1 => ⟨env1, F1, O1, g1, PostS.later p s1 Prot.refl⟩
      | false => exact fun F1 O1 H1 s1 g1 => ⟨env1, F1, O1, g1, PostS.later p s1 Prot.refl⟩
    | _ => exact p
theorem while_ok {t : E} {b : Ss} (h : rS c xc W C cs wf pr (.while t b) Dn σ H) : tWhile (tTest (rO c xc W C t)) (rSs c xc W C cs wf pr b) Dn σ H := by
  obtain ⟨env, F, O, g, p⟩ := h
  unfold evS at p
  refine ⟨fun m σ' H' => ∃ env' F' O', Good c F' env' σ' H' O' ∧ PostS c xc W pr σ' F' O' H' Dn (whLoop (fun env => opd t env (evE C t env)) (fun env => evSs C cs wf b env) m env'), ⟨wf, env, F, O, g, p⟩, ?_⟩
  rintro m σ H ⟨env, F, O, g, p⟩
  cases m with
  | zero => exact False.elim p
  | succ n =>
    unfold whLoop at p
    refine rT_of g ?_
    cases e : opd t env (evE C t env) with
    | bad => rw [e] at p; exact p
    | exc env1 y => rw [e] at p; exact p
    | ok env1 k1 d1 =>
      rw [e] at p
      cases d1 with
      | bool k =>
        cases k with
        | false => exact fun F1 O1 H1 s1 g1 => p F1 O1 H1 σ s1 g1 Prot.refl
        | true =>
          intro F1 O1 H1 s1 g1
          rw [if_pos rfl]
          refine ⟨fun σ' H' => ∃ env' F' O', Good c F' env' σ' H' O' ∧ PostS c xc W pr σ' F' O' H' Dn (whLoop (fun env => opd t env (evE C t env)) (fun env => evSs C cs wf b env) n env'), fun σ' H' q => ⟨n, Nat.lt_succ_self _, q⟩, env1, F1, O1, g1, ?_⟩
          simp only at p
          cases eb : evSs C cs wf b env1 with
          | nx env2 => rw [eb] at p; exact fun F' O' H' σ' st g' pt => ⟨env2, F', O', g', PostS.later p (s1.trans st) pt⟩
          | cnt env2 => rw [eb] at p; exact fun F' O' H' σ' st g' pt => ⟨env2, F', O', g', PostS.later p (s1.trans st) pt⟩
          | brk env2 => rw [eb] at p; exact fun F' O' H' σ' st g' pt => p F' O' H' σ' (s1.trans st) g' pt
          | ret env2 k d => rw [eb] at p; exact PostS.later (r := .ret env2 k d) p s1 Prot.refl
          | exc env2 x => rw [eb] at p; exact PostS.later (r := .exc env2 x) p s1 Prot.refl
          | bad => rw [eb] at p; exact p
      | _ => exact p
theorem for_ok {g : G} {sk : Sk} {src : Es} {b : Ss} (hp : ∀ p, p ∈ pr → p ∉ names g) (h : rS c xc W C cs wf pr (.for g sk src b) Dn σ H) : tFor (rI c xc W C sk src) (gR c.K g) (rSs c xc W C cs wf pr b) Dn σ H := by
  obtain ⟨env, F, O, gd, p⟩ := h
  unfold evS at p
  refine ⟨env, F, O, gd, ?_⟩
  cases e : evL C src env with
  | bad => rw [e] at p; exact p
  | exc env1 y => rw [e] at p; exact p
  | ok env1 l0 =>
    rw [e] at p
    simp only at p
    cases hx : srcL sk (l0.map (·.2)) with
    | none => rw [hx] at p; exact p.elim
    | some xs =>
      rw [hx] at p
      simp only at p
      refine ⟨xs, hx, fun F1 O1 H1 J s1 g1 w => ?_⟩
      refine for_it w.walk (fun i σ' H' => ∃ F' O' env', Step F1 O1 H1 F' O' H' ∧ Good c F' env' σ' H' O' ∧ PostS c xc W pr σ' F' O' H' Dn (forLoop g (fun env => evSs C cs wf b env) (xs.drop i) env')) ?_ ?_ ?_ ?_
      · exact ⟨F1, O1, env1, Step.refl, g1, PostS.later p s1 Prot.refl⟩
      · rintro i σ' H' hi ⟨F', O', env', st, _, _⟩
        exact Step.kp st g1
      · rintro i x σ' H' H'' hi ⟨F', O', env', st, g', q⟩ y
        obtain ⟨sm, rp⟩ := y F' st.mono
        rw [List.drop_eq_getElem_cons hi] at q
        simp only [forLoop] at q
        have g'' := Good.same g' sm
        cases hb : bindG g 0 xs[i] env' with
        | none => rw [hb] at q; exact q.elim
        | some env2 =>
          rw [hb] at q
          simp only at q
          refine bind_ok g g'' ⟨rp _ (by simp [hi]), List.nodup_nil, (fun a z => by cases z), fun a z => by cases z⟩ hb fun σ2 O2 g2 sub so => ⟨env2, F', O2, g2, ?_⟩
          have st2 : Step F' O' H' F' O2 H'' := ⟨fun _ z => z, fun a z => (sub a z).elim .inl (fun z => by cases z), fun _ z => .inl z, fun a o q _ => sm a o q, fun _ q => Same.dom sm q⟩
          have pt : Prot pr σ' σ2 := Prot.of so hp
          cases eb : evSs C cs wf b env2 with
          | nx env3 => rw [eb] at q; exact fun F3 O3 H3 σ3 st3 g3 pt3 => ⟨F3, O3, env3, (st.trans st2).trans st3, g3, PostS.later q (st2.trans st3) (pt.trans pt3)⟩
          | cnt env3 => rw [eb] at q; exact fun F3 O3 H3 σ3 st3 g3 pt3 => ⟨F3, O3, env3, (st.trans st2).trans st3, g3, PostS.later q (st2.trans st3) (pt.trans pt3)⟩
          | brk env3 => rw [eb] at q; exact fun F3 O3 H3 σ3 st3 g3 pt3 => q F3 O3 H3 σ3 (st2.trans st3) g3 (pt.trans pt3)
          | ret env3 k d => rw [eb] at q; exact PostS.later (r := .ret env3 k d) q st2 pt
          | exc env3 x => rw [eb] at q; exact PostS.later (r := .exc env3 x) q st2 pt
          | bad => rw [eb] at q; exact q
      · rintro σ' H' ⟨F', O', env', st, g', q⟩
        rw [List.drop_length] at q
        exact q F' O' H' σ' Step.refl g' Prot.refl
/-- name(s) = e -/
theorem asg_ok {g : G} {e : E} (hn : ∀ gs es, g = .tup gs → e ≠ .tup es) (hp : ∀ p, p ∈ pr → p ∉ names g) (h : rS c xc W C cs wf pr (.asg g e) Dn σ H) : tAsg (rE c xc W C e) (gR c.K g) Dn σ H := by
  obtain ⟨env, F, O, gd, p⟩ := h
  have ee : evS C cs wf (.asg g e) env = (match evE C e env with
    | .ok env k d => (match bindG g k d env with
      | some env => .nx env
      | none => .bad)
    | .exc e x => .exc e x
    | .bad => .bad) := by
    cases g with
    | name i => rfl
    | tup gs => cases e <;> first | exact absurd rfl (hn _ _ rfl) | rfl
  rw [ee] at p
  refine ⟨env, F, O, gd, ?_⟩
  cases e1 : evE C e env with
  | bad => rw [e1] at p; exact p
  | exc env1 y => rw [e1] at p; exact p
  | ok env1 k d =>
    rw [e1] at p
    simp only at p
    cases hb : bindG g k d env1 with
    | none => rw [hb] at p; exact p.elim
    | some env2 =>
      rw [hb] at p
      intro F1 O1 H1 v fp s1 g1 t fr
      refine bind_ok g g1 t hb fun σ2 O2 g2 sub so => p F1 O2 H1 σ2 ⟨s1.mono, fun a z => (sub a z).elim (s1.own a) (fr a), s1.frz, s1.keep, s1.dom⟩ g2 (Prot.of so hp)
/-- a, b = x, y -/
theorem par_ok {i j : Nat} {es : Es} (hp : ∀ p, p ∈ pr → p ≠ i ∧ p ≠ j) (h : rS c xc W C cs wf pr (.asg (.tup [.name i, .name j]) (.tup es)) Dn σ H) : tPar i j (rL c xc W C es) Dn σ H := by
  obtain ⟨env, F, O, gd, p⟩ := h
  unfold evS at p
  refine ⟨env, F, O, gd, ?_⟩
  cases e1 : evL C es env with
  | bad => rw [e1] at p; exact p
  | exc env1 y => rw [e1] at p; exact p
  | ok env1 l =>
    rw [e1] at p
    simp only at p
    intro F1 O1 H1 vs fp s1 g1 t fr
    obtain ⟨rp, nd, nO, nF⟩ := t
    cases rp with
    | nil => exact p.elim
    | cons r rs =>
      cases rs with
      | nil => simp only [bindP, bindG] at p; exact p.elim
      | cons r' rs' =>
        cases rs' with
        | cons _ _ => simp only [bindP, bindG] at p; exact p.elim
        | nil =>
          simp only [bindP, bindG] at p
          rename_i k v d fp1 k' v' d' fq1
          rw [List.append_nil] at nd nO nF fr
          obtain ⟨n1, n2, n3⟩ := List.nodup_append.mp nd
          refine ⟨v, v', rfl, ?_⟩
          obtain ⟨O2, g2, h2⟩ := g1.store' (i := i) ⟨r, n1, fun a z => nO a (List.mem_append_left _ z), fun a z => nF a (List.mem_append_left _ z)⟩
          obtain ⟨O3, g3, h3⟩ := g2.store' (i := j) ⟨r', n2, fun a z y => (h2 a y).elim (nO a (List.mem_append_right _ z)) fun y => n3 a y a z rfl, fun a z => nF a (List.mem_append_right _ z)⟩
          refine p F1 O3 H1 _ ⟨s1.mono, fun a z => ?_, s1.frz, s1.keep, s1.dom⟩ g3 ⟨by simp, fun q hq => ?_⟩
          · rcases h3 a z with z | z
            · rcases h2 a z with z | z
              · exact s1.own a z
              · exact fr a (List.mem_append_left _ z)
            · exact fr a (List.mem_append_right _ z)
          · obtain ⟨h1, h2⟩ := hp q hq
            rw [List.getElem?_set_ne (Ne.symm h2), List.getElem?_set_ne (Ne.symm h1)]
/-- a held value put into a thing of one's own: the rows around it, the thing as it becomes -/
theorem store_core {i : Nat} {F O F1 O1 O1r : Addr → Prop} {H H1 : Hp} {env1 : Env} {σ : L2.St} {k ke kk : Nat} {d dOld dN : D} {v : V} {fp fp0 fa fb : List Addr} {a : Addr} {oN : HO} {va vb : List V} {da db : List D} {Q : Hp → Prop} (s1 : Step F O H F1 O1 H1) (t : Tmp c F1 O1 H1 ke v d fp) (fr : ∀ a, a ∈ fp → O a ∨ H a = none)
    (hx : σ[i]? = some (some (.ref a))) (gr : Good c F1 (putS env1 i none) σ H1 O1r) (tS : Tmp c F1 O1r H1 kk (.ref a) dOld (a :: fp0)) (eq : ∀ x, O1 x ↔ x ∈ a :: fp0 ∨ O1r x) (ra : RepL c F1 H1 k va da fa) (rb : RepL c F1 H1 k vb db fb) (nd : (fa ++ fb).Nodup) (sub : ∀ x, x ∈ fa ++ fb → x ∈ fp0)
    (mk : ∀ F2 fpn, RepL c F2 (upd H1 a oN) (min k (lvl ke d)) (va ++ v :: vb) (da ++ d :: db) fpn → Rep c F2 (upd H1 a oN) (min k (lvl ke d) + 1) (.ref a) dN (a :: fpn)) (q : ∀ F' O' H', Step F O H F' O' H' → Good c F' (putS env1 i (some (min k (lvl ke d) + 1, dN))) σ H' O' → H' = upd H1 a oN → Q H') : Q (upd H1 a oN) := by
  obtain ⟨q1, q2⟩ := List.nodup_cons.mp tS.nd
  obtain ⟨q3, q7, q5⟩ := List.nodup_append.mp nd
  have hmA : ∃ o, H1 a = some o ∧ Mt o := Rep.mem tS.rep a List.mem_cons_self
  have nS : ∀ x, x ∈ fp → x ∉ a :: fp0 := fun x z y => t.nO x z ((eq x).mpr (.inl y))
  have ina : ∀ x, x ∈ fa → x ∈ a :: fp0 := fun x z => List.mem_cons_of_mem _ (sub x (List.mem_append_left _ z))
  have inb : ∀ x, x ∈ fb → x ∈ a :: fp0 := fun x z => List.mem_cons_of_mem _ (sub x (List.mem_append_right _ z))
  have d1 : ∀ x, x ∈ fa → x ∈ fb → False := fun x z y => q5 x z x y rfl
  obtain ⟨fa', sa, wa⟩ := RepL.down (min k (lvl ke d)) (Nat.min_le_left _ _) ra
  obtain ⟨fb', sb, wb⟩ := RepL.down (min k (lvl ke d)) (Nat.min_le_left _ _) rb
  obtain ⟨fq', sq, wq⟩ := Rep.down (min k (lvl ke d)) (Nat.min_le_right _ _) (rep_lvl t.rep)
  have subA : (fa' ++ (fq' ++ fb')).Sublist (fa ++ (fp ++ fb)) := sa.append (sq.append sb)
  have ndA : (fa ++ (fp ++ fb)).Nodup := List.nodup_append.mpr ⟨q3, List.nodup_append.mpr ⟨t.nd, q7, fun x z y w e => nS x z (inb x (e ▸ w))⟩, fun x z y w e => by
    subst e
    rcases List.mem_append.mp w with w | w
    · exact nS x w (ina x z)
    · exact d1 x z w⟩
  have inA : ∀ x, x ∈ fa ++ (fp ++ fb) → x ∈ fa ∨ x ∈ fp ∨ x ∈ fb := fun x z => (List.mem_append.mp z).imp id List.mem_append.mp
  have nOr : ∀ x, x ∈ fa ++ (fp ++ fb) → ¬ O1r x := fun x z y => by
    rcases inA x z with z | z | z
    · exact tS.nO x (ina x z) y
    · exact t.nO x z ((eq x).mpr (.inr y))
    · exact tS.nO x (inb x z) y
  have nF1 : ∀ x, x ∈ fa ++ (fp ++ fb) → ¬ F1 x := fun x z => by
    rcases inA x z with z | z | z
    · exact tS.nF x (ina x z)
    · exact t.nF x z
    · exact tS.nF x (inb x z)
  have frA : ∀ x, x ∈ fa ++ (fp ++ fb) → O x ∨ H x = none := fun x z => by
    rcases inA x z with z | z | z
    · exact s1.own x ((eq x).mpr (.inl (ina x z)))
    · exact fr x z
    · exact s1.own x ((eq x).mpr (.inl (inb x z)))
  have mm : ∀ x, x ∈ fa ++ (fp ++ fb) → ∃ o, H1 x = some o ∧ Mt o := fun x z => by
    rcases inA x z with z | z | z
    · exact RepL.mem ra x z
    · exact Rep.mem t.rep x z
    · exact RepL.mem rb x z
  have aA : a ∉ fa ++ (fp ++ fb) := fun z => by
    rcases inA a z with z | z | z
    · exact q1 (sub a (List.mem_append_left _ z))
    · exact nS a z List.mem_cons_self
    · exact q1 (sub a (List.mem_append_right _ z))
  let F2 : Addr → Prop := fun x => F1 x ∨ (x ∈ fa ++ (fp ++ fb) ∧ x ∉ fa' ++ (fq' ++ fb'))
  have m1 : ∀ x, F1 x → F2 x := fun x z => .inl z
  have nF2 : ¬ F2 a := fun z => z.elim (tS.nF a List.mem_cons_self) fun z => aA z.1
  have dropA : ∀ x, x ∈ fa → x ∉ fa' → F2 x := fun x z n => .inr ⟨List.mem_append_left _ z, fun y => by
    rcases List.mem_append.mp y with y | y
    · exact n y
    · rcases List.mem_append.mp y with y | y
      · exact nS x (sq.subset y) (ina x z)
      · exact d1 x z (sb.subset y)⟩
  have dropQ : ∀ x, x ∈ fp → x ∉ fq' → F2 x := fun x z n => .inr ⟨List.mem_append_right _ (List.mem_append_left _ z), fun y => by
    rcases List.mem_append.mp y with y | y
    · exact nS x z (ina x (sa.subset y))
    · rcases List.mem_append.mp y with y | y
      · exact n y
      · exact nS x z (inb x (sb.subset y))⟩
  have dropB : ∀ x, x ∈ fb → x ∉ fb' → F2 x := fun x z n => .inr ⟨List.mem_append_right _ (List.mem_append_right _ z), fun y => by
    rcases List.mem_append.mp y with y | y
    · exact d1 x (sa.subset y) z
    · rcases List.mem_append.mp y with y | y
      · exact nS x (sq.subset y) (inb x z)
      · exact n y⟩
  have row : RepL c F2 H1 (min k (lvl ke d)) (va ++ v :: vb) (da ++ d :: db) (fa' ++ (fq' ++ fb')) := RepL.append (wa F2 m1 dropA q3) (.cons (wq F2 m1 dropQ t.nd) (wb F2 m1 dropB q7))
  have aN : a ∉ fa' ++ (fq' ++ fb') := fun z => aA (subA.subset z)
  have top : Rep c F2 (upd H1 a oN) (min k (lvl ke d) + 1) (.ref a) dN (a :: (fa' ++ (fq' ++ fb'))) := mk F2 _ (RepL.aside row hmA aN nF2)
  have g2 : Good c F2 (putS env1 i none) σ H1 O1r := gr.keep m1 (fun x z => z.elim (fun z => ⟨fun y => gr.disj x y z, gr.dom x z⟩) fun z => ⟨nOr x z.1, fun y => by
    obtain ⟨o, q, _⟩ := mm x z.1
    rw [y] at q; cases q⟩) fun _ _ h => h
  have g3 : Good c F2 (putS env1 i none) σ (upd H1 a oN) O1r := g2.aside hmA (tS.nO a List.mem_cons_self) nF2
  have t3 : Tmp c F2 O1r (upd H1 a oN) (min k (lvl ke d) + 1) (.ref a) dN (a :: (fa' ++ (fq' ++ fb'))) :=
    ⟨top, List.nodup_cons.mpr ⟨aN, subA.nodup ndA⟩, fun x z => (List.mem_cons.mp z).elim (fun e => e ▸ tS.nO a List.mem_cons_self) fun z => nOr x (subA.subset z), fun x z => (List.mem_cons.mp z).elim (fun e => e ▸ nF2) fun z y => y.elim (nF1 x (subA.subset z)) fun y => y.2 z⟩
  have g4 := g3.into getS_put_none hx t3
  rw [putS_put] at g4
  refine q F2 _ _ ⟨fun x z => .inl (s1.mono x z), fun x z => ?_, fun x z => ?_, fun x o hq n => ?_, fun x hq => s1.dom x (upd_dom hq).2⟩ g4 rfl
  · rcases z with z | z
    · rcases List.mem_cons.mp z with rfl | z
      · exact s1.own _ ((eq _).mpr (.inl List.mem_cons_self))
      · exact frA x (subA.subset z)
    · exact s1.own x ((eq x).mpr (.inr z))
  · rcases z with z | z
    · exact s1.frz x z
    · exact .inr (frA x z.1)
  · refine (upd_ne fun e => ?_).trans (s1.keep x o hq n)
    subst e
    rcases s1.own _ ((eq _).mpr (.inl List.mem_cons_self)) with z | z
    · exact n z
    · rw [hq] at z; cases z
/-- the store into a list of one's own -/
theorem setIx_core {i : Nat} {F O F1 O1 : Addr → Prop} {H H1 : Hp} {env1 : Env} {σ : L2.St} {ke : Nat} {d j : D} {v u x : V} {fp fq : List Addr} {Q : Hp → Prop} (s1 : Step F O H F1 O1 H1) (g1 : Good c F1 env1 σ H1 O1) (t : Tmp c F1 O1 H1 ke v d fp) (fr : ∀ a, a ∈ fp → O a ∨ H a = none)
    (hx : σ[i]? = some (some x)) (rj : Rep c F1 H1 0 u j fq) {env2 : Env} (e : setIxS env1 i j ke d = .nx env2) (q : ∀ F' O' H', Step F O H F' O' H' → Good c F' env2 σ H' O' → Q H') : rSetL x u v H1 Q := by
  unfold setIxS at e
  split at e
  · rename_i k xs a0 ei
    split at e
    · rename_i n hn
      cases e
      cases rj
      obtain ⟨v0, fpS, O1r, hv0, gr, tS, eq⟩ := g1.out ei
      rw [hx] at hv0
      cases hv0
      obtain ⟨a, vs, fp0, rfl, rfl, ha, rl⟩ := rep_own tS.rep
      have hl := rl.length
      have hn' : n < xs.length := by
        unfold ixN at hn
        split at hn
        · split at hn
          · cases hn; omega
          · cases hn
        · split at hn
          · cases hn; omega
          · cases hn
      obtain ⟨d0, hd0⟩ : ∃ d0, xs[n]? = some d0 := ⟨xs[n], by simp [hn']⟩
      obtain ⟨va, w, vb, da, db, fa, f, fb, rfl, rfl, rfl, h1, h2, ra, rv, rb⟩ := RepL.split rl hd0
      obtain ⟨q1, q2⟩ := List.nodup_cons.mp tS.nd
      have eset : (va ++ w :: vb).set n v = va ++ v :: vb := by rw [← h1]; simp
      have eset2 : (da ++ d0 :: db).set n d = da ++ d :: db := by rw [← h2]; simp
      refine ⟨a, _, a0, n, rfl, rfl, ha, by rw [hl]; exact hn, ?_⟩
      rw [eset]
      rw [eset2] at q
      exact store_core s1 t fr hx gr tS eq ra rb (List.Sublist.nodup ((List.Sublist.refl fa).append (List.sublist_append_right f fb)) q2) (fun x z => by
        rcases List.mem_append.mp z with z | z
        · exact List.mem_append_left _ z
        · exact List.mem_append_right _ (List.mem_append_right _ z)) (fun F2 fpn r => .lown upd_same r) fun F' O' H' s' g' _ => q F' O' H' s' g'
    · cases e
  · cases e
theorem setIxS_shape {env env2 : Env} {i ke : Nat} {j d : D} (e : setIxS env i j ke d = .nx env2) : (∃ w, getS env i = some w) ∧ ∃ a, j = .int a := by
  unfold setIxS at e
  split at e
  · rename_i k xs a0 ei
    exact ⟨⟨_, ei⟩, _, rfl⟩
  · cases e
theorem setIxS_nx {env : Env} {i ke : Nat} {j d : D} : (∃ env2, setIxS env i j ke d = .nx env2) ∨ setIxS env i j ke d = .bad := by
  unfold setIxS
  split
  · split
    · exact .inl ⟨_, rfl⟩
    · exact .inr rfl
  · exact .inr rfl
/-- a[ix] = e -/
theorem setIx_ok {i : Nat} {ix e : E} (hp : ∀ p, p ∈ pr → True) (h : rS c xc W C cs wf pr (.setIx i .nil ix e) Dn σ H) : tAsg (rE c xc W C e) (gSub (tVar i) (rO c xc W C ix) rSetL) Dn σ H := by
  obtain ⟨env, F, O, gd, p⟩ := h
  unfold evS at p
  split at p
  · exact p.elim
  · rename_i w0 e00
    obtain ⟨k00, d00⟩ := w0
    obtain ⟨x, _, hv, _, _⟩ := gd.get e00
    refine ⟨env, F, O, gd, ?_⟩
    cases e1 : evE C e env with
    | bad => rw [e1] at p; exact p
    | exc env1 y => rw [e1] at p; exact p
    | ok env1 k d =>
      rw [e1] at p
      simp only at p
      intro F1 O1 H1 v fp s1 g1 t fr
      refine ⟨x, hv, rO_of (F := F1) (O := O1) (env := env1) g1 ?_⟩
      cases e2 : opd ix env1 (evE C ix env1) with
      | bad => rw [e2] at p; exact p
      | exc env2 y => rw [e2] at p; exact PostX.later p s1
      | ok env2 k2 d2 =>
        rw [e2] at p
        simp only at p
        intro F2 O2 H2 u s2 g2 o2
        obtain ⟨fq, ru, _⟩ := o2.rep g2
        rcases setIxS_nx (env := env2) (i := i) (ke := k) (j := d2) (d := d) with ⟨env3, e3⟩ | e3
        · rw [e3] at p
          obtain ⟨_, a, rfl⟩ := setIxS_shape e3
          obtain ⟨rfl, z⟩ := Rep.atom (d := .int a) rfl ru
          exact setIx_core (s1.trans s2) g2 (t.step s2 g1) fr hv (z F2 H2 0) e3 fun F' O' H' s' g' => p F' O' H' σ s' g' Prot.refl
        · rw [e3] at p; exact p.elim
theorem Tmp.step' {F O F' O' : Addr → Prop} {H H' : Hp} {k : Nat} {v : V} {d : D} {fp : List Addr} (t : Tmp c F O H k v d fp) (s : Step F O H F' O' H') (mt : ∀ a, O a → ∃ o, H a = some o ∧ Mt o) (dj : ∀ a, O a → ¬ F a) : Tmp c F' O' H' k v d fp where
  rep := Rep.keep (fun a o h n => s.keep a o h fun z => by
    obtain ⟨o', e, m⟩ := mt a z
    rw [h] at e; cases e; exact n m) (fun a o f h => s.keep a o h fun z => dj a z f) s.mono (fun a o z h => s.keep a o h (t.nO a z)) t.rep
  nd := t.nd
  nO := fun a z h => by
    rcases s.own a h with q | q
    · exact t.nO a z q
    · obtain ⟨o, e, _⟩ := Rep.mem t.rep a z
      rw [e] at q; cases q
  nF := fun a z h => by
    rcases s.frz a h with q | q | q
    · exact t.nF a z q
    · exact t.nO a z q
    · obtain ⟨o, e, _⟩ := Rep.mem t.rep a z
      rw [e] at q; cases q
/-- a[ix], g = e -/
theorem asgTS_ok {i : Nat} {ix e : E} {g : G} (hp : ∀ p, p ∈ pr → p ∉ names g) (h : rS c xc W C cs wf pr (.asgTS i ix g e) Dn σ H) :
    tAsg (rE c xc W C e) (gTup c.K 2 (gCons (gSub (tVar i) (rO c xc W C ix) rSetL) (gCons (gR c.K g) gNil))) Dn σ H := by
  obtain ⟨env, F, O, gd, p⟩ := h
  unfold evS at p
  split at p
  · exact p.elim
  · rename_i w0 e00
    obtain ⟨k00, d00⟩ := w0
    obtain ⟨x, _, hv, _, _⟩ := gd.get e00
    refine ⟨env, F, O, gd, ?_⟩
    cases e1 : evE C e env with
    | bad => rw [e1] at p; exact p
    | exc env1 y => rw [e1] at p; exact p
    | ok env1 k d =>
      rw [e1] at p
      intro F1 O1 H1 v fp s1 g1 t fr
      split at p
      · rename_i a b heq
        cases heq
        obtain ⟨r, nd, nO, nF⟩ := t
        cases r with
        | tup ha r =>
          cases r with
          | cons ra rs =>
            cases rs with
            | cons rb rn =>
              cases rn
              rename_i v1 fp1 v2 fp2
              rw [List.append_nil] at nd nO nF fr
              obtain ⟨n1, n2, n3⟩ := List.nodup_append.mp nd
              refine ⟨_, [v1, v2], rfl, .inl (.inl ha), rfl, v1, [v2], rfl, x, hv, rO_of (F := F1) (O := O1) (env := env1) g1 ?_⟩
              cases e2 : opd ix env1 (evE C ix env1) with
              | bad => rw [e2] at p; exact p
              | exc env2 y => rw [e2] at p; exact PostX.later p s1
              | ok env2 k2 d2 =>
                rw [e2] at p
                simp only at p
                intro F2 O2 H2 u s2 g2 o2
                obtain ⟨fq, ru, _⟩ := o2.rep g2
                have ta : Tmp c F2 O2 H2 k v1 a fp1 := Tmp.step ⟨ra, n1, fun x z => nO x (List.mem_append_left _ z), fun x z => nF x (List.mem_append_left _ z)⟩ s2 g1
                have tb : Tmp c F2 O2 H2 k v2 b fp2 := Tmp.step ⟨rb, n2, fun x z => nO x (List.mem_append_right _ z), fun x z => nF x (List.mem_append_right _ z)⟩ s2 g1
                rcases setIxS_nx (env := env2) (i := i) (ke := k) (j := d2) (d := a) with ⟨env3, e3⟩ | e3
                · rw [e3] at p
                  simp only at p
                  obtain ⟨_, a0, rfl⟩ := setIxS_shape e3
                  obtain ⟨rfl, z⟩ := Rep.atom (d := .int a0) rfl ru
                  have s12 := s1.trans s2
                  have sB : Step F2 (fun x => O2 x ∨ x ∈ fp1) H2 F2 O2 H2 := ⟨fun _ z => z, fun _ z => .inl (.inl z), fun _ z => .inl z, fun _ _ q _ => q, fun _ q => q⟩
                  refine setIx_core sB g2 ta (fun x z => .inl (.inr z)) hv (z F2 H2 0) e3 fun F' O' H' s' g' => ?_
                  have tb' : Tmp c F2 (fun x => O2 x ∨ x ∈ fp1) H2 k v2 b fp2 := ⟨tb.rep, tb.nd, fun x z y => y.elim (tb.nO x z) fun y => n3 x y x z rfl, tb.nF⟩
                  have tb2 := Tmp.step' tb' s' (fun x z => z.elim (fun z => g2.mt z) fun z => Rep.mem ta.rep x z) fun x z => z.elim (fun z => g2.disj x z) fun z => ta.nF x z
                  have h0 : ∀ x, (O2 x ∨ x ∈ fp1) → O x ∨ H x = none := fun x z => z.elim (s12.own x) fun z => fr x (List.mem_append_left _ z)
                  have st' : Step F O H F' O' H' := call_step s12 (fun x z => (s'.own x z).elim (h0 x) fun q => .inr (s12.dom x q)) h0 ⟨s'.mono, fun x z => z.elim, s'.frz, s'.keep, s'.dom⟩
                  cases hb : bindG g k b env3 with
                  | none => rw [hb] at p; exact p.elim
                  | some env4 =>
                    rw [hb] at p
                    refine ⟨v2, [], rfl, bind_ok g g' tb2 hb fun σ2 O3 g3 sub so => ⟨rfl, p F' O3 H' σ2 ⟨st'.mono, fun x z => (sub x z).elim (st'.own x) fun z => fr x (List.mem_append_right _ z), st'.frz, st'.keep, st'.dom⟩ g3 (Prot.of so hp)⟩⟩
                · rw [e3] at p; exact p.elim
      all_goals first | exact False.elim p | (exfalso; rename_i hq; cases hq)
/-- name += e, ints -/
theorem aug_ok {i : Nat} {e : E} (hp : ∀ p, p ∈ pr → p ≠ i) (h : rS c xc W C cs wf pr (.aug i .add e) Dn σ H) : tAug i (rO c xc W C e) (ipI fun i j => i + j) Dn σ H := by
  obtain ⟨env, F, O, gd, p⟩ := h
  unfold evS at p
  split at p
  · exact p.elim
  · rename_i w0 e00
    obtain ⟨k00, d00⟩ := w0
    obtain ⟨x, _, hv, _, _⟩ := gd.get e00
    refine ⟨x, hv, rO_of (F := F) (O := O) (env := env) gd ?_⟩
    cases e2 : opd e env (evE C e env) with
    | bad => rw [e2] at p; exact p
    | exc env2 y => rw [e2] at p; exact p
    | ok env1 k1 d1 =>
      rw [e2] at p
      intro F1 O1 H1 u s1 g1 o1
      obtain ⟨fq, ru, _⟩ := o1.rep g1
      split at p
      · rename_i env1' k2 b heq
        cases heq
        cases ru
        split at p
        · rename_i k3 a ei
          obtain ⟨v', fp', hv', rv, _⟩ := g1.get ei
          rw [hv] at hv'
          cases hv'
          cases rv
          refine ⟨a, b, rfl, rfl, ?_⟩
          obtain ⟨O2, g2, m2⟩ := g1.store' (i := i) (k := 9) (d := .int (a + b)) (v := .int (a + b)) (fp := []) ⟨.int _ _, List.nodup_nil, (fun a z => by cases z), fun a z => by cases z⟩
          refine p F1 O2 H1 _ ⟨s1.mono, fun a z => (m2 a z).elim (s1.own a) (fun z => by cases z), s1.frz, s1.keep, s1.dom⟩ g2 ⟨by simp, fun q hq => List.getElem?_set_ne (Ne.symm (hp q hq))⟩
        · exact p.elim
      all_goals first | exact False.elim p | (exfalso; rename_i hq; cases hq)
/-- a list's item -/
def rGetL (K : PySem.W.Frag) : V → V → Hp → VK → Prop := fun x y H Q => ∃ p xs i v, x = .ref p ∧ y = .int i ∧ 0 ≤ i ∧ SqL K H p xs ∧ xs[i.toNat]? = some v ∧ Q v H
theorem pg_listL {X : Cx} : PGet X (rGetL X.K) := by
  intro pins s σ H o i ov iv Q I ro ri h
  obtain ⟨p, xs, j, z, rfl, rfl, h0, hq, he, q⟩ := h
  cases ro
  obtain ⟨t, rfl⟩ := ri
  obtain ⟨its, r, pl, hz⟩ := I.list hq
  obtain ⟨w, ew, rw'⟩ := r.get he
  have hl := r.length
  have hn := line63
  have hj : j.toNat < xs.length := (List.getElem?_eq_some_iff.mp he).1
  exact wpAny_getItem_list pl.isList h0 (by omega) (by simpa using ew) ⟨z, H, I, rw', q⟩
theorem augIx_ok {i : Nat} {ix e : E} (h : rS c xc W C cs wf pr (.augIx i ix .add e) Dn σ H) : tAugS (tVar i) (rO c xc W C ix) (rO c xc W C e) (rGetL c.K) (ipI fun i j => i + j) rSetL Dn σ H := by
  obtain ⟨env, F, O, gd, p⟩ := h
  unfold evS at p
  split at p
  · exact p.elim
  · rename_i w0 e00
    obtain ⟨k00, d00⟩ := w0
    obtain ⟨x, _, hv, _, _⟩ := gd.get e00
    refine ⟨x, hv, rO_of (F := F) (O := O) (env := env) gd ?_⟩
    cases e2 : opd ix env (evE C ix env) with
    | bad => rw [e2] at p; exact p
    | exc env2 y => rw [e2] at p; exact p
    | ok env1 k1 d1 =>
      rw [e2] at p
      intro F1 O1 H1 u s1 g1 o1
      obtain ⟨fq, ru, _⟩ := o1.rep g1
      split at p
      · rename_i env1' k2 a heq
        cases heq
        cases ru
        split at p
        · rename_i k3 xs ei
          obtain ⟨v', fp', hv', rv, _⟩ := g1.get ei
          rw [hv] at hv'
          cases hv'
          obtain ⟨l, vs, rfl, hl, _, fz⟩ := rep_list (F' := F1) rv
          split at p
          · rename_i old hold
            split at hold
            · rename_i ha
              have ha := of_decide_eq_true ha
              obtain ⟨w, fq', hw, rw0, _⟩ := RepL.get0 (fz (fun _ => True) (fun _ _ => trivial) fun _ _ => trivial) hold
              cases rw0
              refine ⟨l, vs, a, .int old, rfl, rfl, ha, sq_of hl, hw, rO_of (F := F1) (O := O1) (env := env1) g1 ?_⟩
              cases e3 : opd e env1 (evE C e env1) with
              | bad => rw [e3] at p; exact p
              | exc env2 y => rw [e3] at p; exact PostX.later p s1
              | ok env2 k4 d4 =>
                rw [e3] at p
                intro F2 O2 H2 u2 s2 g2 o2
                obtain ⟨fq2, ru2, _⟩ := o2.rep g2
                split at p
                · rename_i env2' k5 b heq2
                  cases heq2
                  cases ru2
                  refine ⟨old, b, rfl, rfl, ?_⟩
                  rcases setIxS_nx (env := env2) (i := i) (ke := 9) (j := .int a) (d := .int (old + b)) with ⟨env3, e4⟩ | e4
                  · rw [e4] at p
                    exact setIx_core (fp := []) (fq := []) (s1.trans s2) g2 ⟨.int _ _, List.nodup_nil, (fun a z => by cases z), fun a z => by cases z⟩ (fun a z => by cases z) hv (.int _ _) e4 fun F' O' H' s' g' => p F' O' H' σ s' g' Prot.refl
                  · rw [e4] at p; exact p.elim
                all_goals first | exact False.elim p | (exfalso; rename_i hq; cases hq)
            · cases hold
          all_goals first | exact False.elim p | (exfalso; rename_i hq; cases hq)
        all_goals first | exact False.elim p | (exfalso; rename_i hq; cases hq)
      all_goals first | exact False.elim p | (exfalso; rename_i hq; cases hq)
end
end Pv
end
section
set_option maxRecDepth 100000
set_option maxHeartbeats 4000000
/-! PvEnum: enumerate of a tuple. -/
namespace PySem
open Sem (wp)
open AutoSeq1 (wpAny_loadPart')
/-- enumerate(t), t a tuple: the iterator of t and the enumerate object are laid -/
theorem pv_enum_new (t : Addr) (its : Array Value) (n : Nat) (dct : Option Addr) (sl : Array (Option Value)) :
    Meets (Builtin.«enumerate.__new__» ⟨[.type "enumerate", .ref t], []⟩) (fun _ R s => s.heap.get? t = some { cls := .type "tuple", dict := dct, data := .seq its n, slots := sl } ∧
      R (.ok (.ret (.ref (s.heap.push { cls := .type "tuple_iterator", data := .fields #[.ref t, .int 0 0] }).objs.size)))
        { s with heap := (s.heap.push { cls := .type "tuple_iterator", data := .fields #[.ref t, .int 0 0] }).push { cls := .type "enumerate", data := .fields #[.none, .bool false, .ref s.heap.objs.size, rawInt 0, .none, .none] } }) :=
  .of_wp fun prog w A R s0 hyp => by
    obtain ⟨hp, gg, dd, tk, oo⟩ := s0; obtain ⟨ht, hyp⟩ := hyp
    have subE := sub_enumerate
    have isT : Heap.IsTuple (Shared.heap ⟨hp, gg, dd, tk, oo⟩) t its := ⟨_, ht, rfl, n, rfl⟩
    wp_walk using wpAny_loadPart' ht
    refine wpAny_stack_any fun stk => wpAny_pure ?_
    split
    · rename_i cc _ _ _ _ _
      cases (cc == Value.type "enumerate")
      · wp_walk using wpAny_loadPart' ht, wpAny_pyIter_tuple isT
        exact ⟨_, rfl, hyp⟩
      · wp_walk using wpAny_loadPart' ht, wpAny_pyIter_tuple isT
        exact ⟨_, rfl, hyp⟩
    · wp_walk using wpAny_loadPart' ht, wpAny_pyIter_tuple isT
      exact ⟨_, rfl, hyp⟩
section
variable {prog : Program} {w : World} {A : Around} {E : Value → Shared → Prop} {s : Shared}
theorem pv_call_enum {t : Addr} {its : Array Value} {Q : Value → Shared → Prop} (hT : s.heap.IsTuple t its)
    (hyp : ∀ h', IsEnum h' (s.heap.objs.size + 1) s.heap.objs.size 0 .none → h'.IsTupleIter s.heap.objs.size t 0 → (∀ b o, s.heap.get? b = some o → h'.get? b = some o) → Q (.ref (s.heap.objs.size + 1)) { s with heap := h' }) :
    wpAny (model prog w) A (call (.type "enumerate") [.ref t]) Q E s := by
  obtain ⟨⟨c, dct, dt, sl⟩, ht, hc, n, hd⟩ := hT
  obtain rfl : c = .type "tuple" := hc
  obtain rfl : dt = .seq its n := hd
  have ez : (s.heap.push { cls := .type "tuple_iterator", data := .fields #[.ref t, .int 0 0] }).objs.size = s.heap.objs.size + 1 := Heap.size_push ..
  have eE : IsEnum ((s.heap.push { cls := .type "tuple_iterator", data := .fields #[.ref t, .int 0 0] }).push { cls := .type "enumerate", data := .fields #[.none, .bool false, .ref s.heap.objs.size, rawInt 0, .none, .none] }) (s.heap.objs.size + 1) s.heap.objs.size 0 .none := by
    have q := Heap.get?_push_size (s.heap.push { cls := .type "tuple_iterator", data := .fields #[.ref t, .int 0 0] }) (o := { cls := .type "enumerate", data := .fields #[.none, .bool false, .ref s.heap.objs.size, rawInt 0, .none, .none] }) rfl
    rw [ez] at q; exact q
  refine callType_new F.called_enumerate (by decide) (F.typeCall_enumerate_1 _) (F.newCall_enumerate_1 _) (fun obj => F.args_object_init_2 obj _) F.entry_enumerate_new (pv_enum_new t its n dct sl) ⟨ht, ?_⟩
  show _ ∧ _
  rw [ez]
  exact ⟨⟨_, eE, rfl⟩, hyp _ eE ⟨_, Heap.get?_push_of_some _ (Heap.get?_push_size _ rfl), rfl, rfl⟩ fun b o x => Heap.get?_push_of_some _ (Heap.get?_push_of_some _ x)⟩
/-- next of it, all items given -/
theorem pv_enum_end {e it t : Addr} {i : Nat} {its : Array Value} {old : Value} {Q : Option Value → Shared → Prop} (hh : A.handled = none) (he : IsEnum s.heap e it i old) (hit : s.heap.IsTupleIter it t i) (hT : s.heap.IsTuple t its) (hx : its[i]? = none)
    (fin : ∀ h', Heap.ExtBut it s.heap h' → Q none { s with heap := h' }) : wpAny (model prog w) A (pyNext (.ref e)) Q E s := by
  have ty : s.TypeIs (.ref e) "enumerate" := ⟨_, he, rfl⟩
  unfold pyNext
  refine wpAny_bind (wpAny_attempt (wpAny_callSpecial?_slot (name := Str.ofString "__next__") ty F.slot_enumerate_next (wpAny_call_entry F.slot_enumerate_next ty F.entry_enumerate_next ?_ (F.args_enumerate_next_1 _))))
  show wpAny _ _ (field (.ref e) 2 >>= _) _ _ _
  refine wpAny_bind (wpAny_field he rfl (x := .ref it) rfl (wpAny_bind (wpAny_nextOf_tuple_end hh hit hT hx fun h' x ex hx' => ?_)))
  obtain ⟨o, ho, hc⟩ := hx'
  exact wpAny_bind (wpAny_isInstance (T := "StopIteration") (b := true) ⟨o, ho, hc⟩ isSubtype_stop (wpAny_pure (fin _ ex)))
end
end PySem
namespace Pv
open PySem PySem.Spec PyProof.Rows L2
theorem turn_enumT {P : Program} {w : World} {K : PySem.W.Frag} {elts : List Expr} {kk : Nat} {tpos : Pos} (a e it : Addr) :
    Turn P w K (.Tuple elts kk tpos) (IteT K a) [e, it] e (fun i h => (∃ old, IsEnum h e it ((i : Nat) : Int) old) ∧ h.IsTupleIter it a i ∧ e ≠ it) where
  mem := by simp
  obj := fun i h ⟨⟨old, he⟩, ⟨o, ho, hc, hd⟩, _⟩ b hb => by
    have cs : b = e ∨ b = it := by simpa using hb
    rcases cs with rfl | rfl
    · exact ⟨_, he, fun v q => nomatch q⟩
    · exact ⟨o, ho, fun v q => by rw [hd] at q; cases q⟩
  keep := fun i h h' ⟨⟨old, he⟩, hi, hne⟩ k => ⟨⟨old, k e (by simp) _ he⟩, hi.at fun o q => k it (by simp) o q, hne⟩
  item := by
    intro X hP hw hK hc i pins s σ H E I hf ⟨⟨old, he⟩, hit, hne⟩ ⟨xs, x, hq, hx⟩
    subst hP hw hK
    obtain ⟨its, rv, p, hz⟩ := I.tuple hq
    obtain ⟨u, hu, ru⟩ := rv.get hx
    have el : e < s.heap.objs.size := Heap.lt_size he
    have il : it < s.heap.objs.size := by obtain ⟨_, q, _⟩ := hit; exact Heap.lt_size q
    have isT : s.heap.IsTuple a its.toArray := p
    have nia : a ≠ it := fun z => by
      obtain ⟨o, e1, c1, _⟩ := hit
      obtain ⟨o2, e2, c2, _⟩ := isT
      rw [z, e1] at e2; cases e2
      rw [c1] at c2
      injection c2 with q
      exact absurd q (by decide)
    have nea : e ∉ [it, a] := fun z => by
      have z' : e = it ∨ e = a := by simpa using z
      rcases z' with z | z
      · exact hne z
      · obtain ⟨o2, e2, c2, _⟩ := isT
        rw [← z, he] at e2; cases e2
        injection (show Value.type "enumerate" = Value.type "tuple" from c2) with q
        exact absurd q (by decide)
    refine wpAny_pyNext_enum_itemD (Draws.tuple (A := X.A.in1) (I.ok.hd hc) it a nia its.toArray) he ⟨hit, isT⟩ (by
      have := (List.getElem?_eq_some_iff.mp hu).1
      simpa using this) hne nea fun x' h' tk hPx ho hst hT hsz hk => ?_
    obtain rfl : u = x' := by
      have : its[i]? = some x' := by simpa using hPx
      rw [hu] at this; exact Option.some.inj this
    refine ⟨_, rfl, wpAny_letOwnedTupleGo_enum (s := { s with heap := h', toks := tk + 1 }) ho fun h'' he' sb => ?_⟩
    have hT2 : h''.get? s.heap.objs.size = some { cls := .type "tuple", data := .seq #[.int i tk, u] } := (sb.2 _ (Nat.ne_of_gt el)).trans hT
    have newO : ObjOk X.prog X.w (upd H s.heap.objs.size (.tup [.int (i : Nat), x])) h'' s.heap.objs.size (.tup [.int (i : Nat), x]) :=
      ⟨(by decide : 2 ≤ sizeLine), [.int i tk, u], .cons ⟨_, rfl⟩ (.cons ru .nil), ⟨_, hT2, rfl, _, rfl⟩⟩
    have I1 : Inv X pins σ (upd H s.heap.objs.size (.tup [.int (i : Nat), x])) { s with heap := h'', toks := tk + 1 } :=
      I.turnedNew (ch := [e, it]) (fun b ob hb q => (sb.2 b fun z => hb (by simp [z])).trans (hk b ob (fun z => hb (by simp [z])) (fun z => hb (by simp [z])) q)) hf (Nat.le_refl _) newO
    refine ⟨.ref s.heap.objs.size, _, I1, rfl, ⟨_, x, rfl, I.hok.fresh (Nat.le_refl _), rfl, fun ys hy => by rw [I.tuple_inj hy hq]; exact hx⟩, ⟨⟨u, ?_⟩, hst.1.at fun o q => (sb.2 it (Ne.symm hne)).trans q, hne⟩, fun b hb => ?_⟩
    · have e1 : ((i + 1 : Nat) : Int) = (i : Int) + 1 := by omega
      rw [e1]; exact he'
    · have bl : b < s.heap.objs.size := by
        have cs : b = e ∨ b = it := by simpa using hb
        rcases cs with z | z <;> rw [z] <;> assumption
      rw [upd_ne (Nat.ne_of_lt bl)]
      exact (hf b hb).1
  done := by
    intro X hP hw hK hc i pins s σ H E I hf ⟨⟨old, he⟩, hit, hne⟩ ⟨xs, hq, hx⟩
    subst hP hw hK
    obtain ⟨its, rv, p, hz⟩ := I.tuple hq
    obtain ⟨f0, f1, f2, f3, f4, f5⟩ := hf it (by simp)
    have ll := rv.length
    exact pv_enum_end (I.ok.hd hc) he hit p (by simp; omega) fun h' eb => ⟨rfl, I.turned (t' := s.toks) (fun b o hb q => eb b o hb q) f0 f1 f3 f4 f5⟩
  self := fun A i s Q E ⟨⟨_, he⟩, _⟩ h => wpAny_pyIter_enum he h
/-- enumerate(e), e a list or a tuple -/
theorem pi_enumA {X : Cx} {e : Expr} {ta : TA} {p pos tpos : Pos} {elts : List Expr} {kk : Nat} (hg : Gl X "enumerate") (hm : X.mg "enumerate" = none) (ha : PA X [e] ta) (hs : starEach [e] X.env = [(false, eval e X.env)] := by rfl) :
    PI X (.Tuple elts kk tpos) (.Call (.Name "enumerate" p) [e] [] pos) (iEnumA X.K ta) := by
  refine ⟨fun pins s σ H R I h => Call_ (ld_blt I hg hm boot_enumerate (PyProof.Rows.callWith_type1 (thn (ha.run pos pins s σ H _ I h) fun us s1 ⟨vs, H1, I1, r1, q1⟩ => ?_) hs rfl))⟩
  obtain ⟨a, xs, ex, q1⟩ := q1
  subst ex
  cases r1 with
  | cons r rr =>
    cases rr
    cases r
    have fresh2 : ∀ b, b ∈ [s1.heap.objs.size + 1, s1.heap.objs.size] → FpOk X pins H1 b := fun b hb => by
      have cs : b = s1.heap.objs.size + 1 ∨ b = s1.heap.objs.size := by simpa using hb
      have le : s1.heap.objs.size ≤ b := by rcases cs with z | z <;> omega
      exact I1.fpOk le (I1.hok.fresh le)
    rcases q1 with ⟨hq, q⟩ | ⟨hq, q⟩
    · obtain ⟨its, rv, p', hz⟩ := I1.list hq
      refine call_enumerate_list p'.isList fun h' he hit hsz hk => wpAny_pyIter_enum he ?_
      exact ⟨s1.heap.objs.size + 1, [s1.heap.objs.size + 1, s1.heap.objs.size], _, _, H1, rfl, I1.kept (t' := s1.toks) hk, turn_enum a (s1.heap.objs.size + 1) s1.heap.objs.size, ⟨⟨.none, he⟩, hit, Nat.succ_ne_self _⟩, fresh2, q⟩
    · obtain ⟨its, rv, p', hz⟩ := I1.tuple hq
      refine pv_call_enum (its := its.toArray) p' fun h' he hit hk => wpAny_pyIter_enum he ?_
      exact ⟨s1.heap.objs.size + 1, [s1.heap.objs.size + 1, s1.heap.objs.size], _, _, H1, rfl, I1.kept (t' := s1.toks) hk, turn_enumT a (s1.heap.objs.size + 1) s1.heap.objs.size, ⟨⟨.none, he⟩, hit, Nat.succ_ne_self _⟩, fresh2, q⟩
end Pv
end
section
set_option maxRecDepth 100000
set_option maxHeartbeats 4000000
/-! PvRev: xs[-2::-1] of a list. -/
namespace Pv
open PySem PySem.Spec PyProof.Rows L2
theorem rb_bounds (n : Nat) : sliceBounds (some (-2)) none (some (-1)) n = (((n - 1 : Nat) : Int) - 1, -1, -1) := by
  refine Prod.ext ?_ (Prod.ext ?_ rfl)
  · show (let i : Int := if (-2 : Int) < 0 then -2 + (n : Int) else -2; if (-1 : Int) > 0 then max 0 (min i n) else max (-1) (min i ((n : Int) - 1))) = ((n - 1 : Nat) : Int) - 1
    have a1 : ¬ ((-1 : Int) > 0) := by decide
    have a2 : (-2 : Int) < 0 := by decide
    simp only [a1, a2, if_true, if_false]
    omega
  · rfl
theorem rb_pick (its : List Value) : slicePick its.toArray (some (-2)) none (some (-1)) = (its.take (its.length - 1)).reverse.toArray := by
  unfold slicePick
  rw [rb_bounds]
  show ((sliceRange (((its.toArray.size - 1 : Nat) : Int) - 1) (-1) (-1)).filterMap (its.toArray[·]?)).toArray = _
  rw [PySem.W.krv_sliceRange, PySem.W.krv_range, List.filterMap_reverse]
  have h := pick_run its.toArray 0 (its.toArray.size - 1)
  have e : (List.range (its.toArray.size - 1)).map (0 + ·) = List.range (its.toArray.size - 1) := by
    rw [show ((0 + ·) : Nat → Nat) = id from funext fun k => Nat.zero_add k, List.map_id]
  rw [e, List.drop_zero] at h
  rw [h, List.size_toArray]
section
variable {X : Cx} {c : Cn}
theorem pe_revB (cc : Cc c X) {e : Expr} {te : TE} {k j : Nat} {q1 q2 p1 p2 p3 pos : Pos} (he : PE X e te) : PE X (.Subscript e (.Slice (some (.UnaryOp .USub (.Constant (.int 2) j q1) q2)) none (some (.UnaryOp .USub (.Constant (.int 1) k p1) p2)) p3) pos) (fun σ H Q => te σ H fun v H1 => R1 c .revButLast v H1 Q) := by
  refine ⟨fun pins s σ H Q I h => ?_⟩
  refine Subscript_ (thn (he.run pins s σ H _ I h) fun v s1 ⟨x, H1, I1, r1, qq⟩ => ?_)
  obtain ⟨F, k1, d1, fp1, r, rr, er, q⟩ := qq
  have er : revBD d1 = some r := er
  unfold revBD at er
  split at er
  · rename_i xd _
    cases er
    obtain ⟨a, xs, rfl, hx, la, fa⟩ := rep_list (F' := F) rr
    have hx := sq_of (c := ⟨X.K, c.fa, c.cl⟩) hx
    cases r1
    have hlo : PO X (some (.UnaryOp .USub (.Constant (.int 2) j q1) q2)) (tPart (tUn (rU fun i => .int (-i)) (tC (.int 2)))) := po_some (pe_un un_neg pe_int)
    have hst : PO X (some (.UnaryOp .USub (.Constant (.int 1) k p1) p2)) (tPart (tUn (rU fun i => .int (-i)) (tC (.int 1)))) := po_some (pe_un un_neg pe_int)
    refine wpAny_Slice (thn (hlo.run pins s1 σ H1 (fun o H2 => o = some (-2) ∧ H2 = H1) I1 ⟨2, rfl, -2, rfl, rfl, rfl⟩) fun vl s2 ⟨l, H2, I2, pl, el, e2⟩ => ?_)
    subst el e2
    refine thn (po_none.run pins s2 σ H2 (fun o H3 => o = none ∧ H3 = H2) I2 ⟨rfl, rfl⟩) fun vu s3 ⟨u, H3, I3, pu, eu, e3⟩ => ?_
    subst eu e3
    refine thn (hst.run pins s3 σ H3 (fun o H4 => o = some (-1) ∧ H4 = H3) I3 ⟨1, rfl, -1, rfl, rfl, rfl⟩) fun vs s4 ⟨o, H4, I4, ps, eo, e4⟩ => ?_
    subst eo e4
    have I5 : Inv X pins σ H4 { s4 with heap := s4.heap.push { cls := .type "slice", data := .fields #[vl, vu, vs] } } := I4.kept (t' := s4.toks) fun b ob q => Heap.get?_push_of_some _ q
    obtain ⟨its, r, ht, hz⟩ := I5.list hx
    have hlen := r.length
    show wpAny (model X.prog X.w) X.A (subscriptTail e (.Slice (some (.UnaryOp .USub (.Constant (.int 2) j q1) q2)) none (some (.UnaryOp .USub (.Constant (.int 1) k p1) p2)) p3) (.ref a) (.ref s4.heap.objs.size)) (EP X pins σ Q) X.xe { s4 with heap := s4.heap.push { cls := .type "slice", data := .fields #[vl, vu, vs] } }
    refine tail_any (ops := [.ref a, .ref s4.heap.objs.size]) ht.isList.typeIs (PySem.slot_list_getitem.lookup) ?_ (by with_unfolding_all rfl)
    refine wpAny_getItem_list_slice ht.isList (Heap.IsSliceOf.new _ vl vu vs) pl pu ps (by decide) ?_ (by rw [List.size_toArray]; omega)
    rw [rb_pick, ← hlen]
    have hr : xd.dropLast.reverse = (xd.take (xs.length - 1)).reverse := by rw [List.dropLast_eq_take, la]
    rw [hr] at q
    refine ⟨.ref _, _, I5.laid (t' := s4.toks) (o := .lst (xs.take (xs.length - 1)).reverse) (fun b ob q => Heap.get?_push_of_some _ q) (Nat.le_refl _) ?_, rfl, q.lst (fun F' m n => RepL.rev0 (RepL.take0 _ (fa F' m n))) _ (I5.hok.fresh (Nat.le_refl _))⟩
    exact ⟨by rw [List.length_reverse, List.length_take]; omega, _, 0, (r.take _).reverse, Heap.get?_push_size _ rfl⟩
  · cases er
end
end Pv
end
section
set_option maxRecDepth 100000
set_option maxHeartbeats 4000000
/-! PvSrt: rows in order: the library's sort of data gives what the evaluator sorts. -/
namespace Pv
open PySem PySem.Spec PyProof.Rows L2
/-! ### insertion -/
structure Ord {α : Type} (le : α → α → Bool) : Prop where
  tot : ∀ a b, le a b = true ∨ le b a = true
  tr : ∀ a b c, le a b = true → le b c = true → le a c = true
  anti : ∀ a b, le a b = true → le b a = true → a = b
section
variable {α : Type} {le : α → α → Bool}
theorem insB_perm (x : α) : ∀ l, (insB le x l).Perm (x :: l)
  | [] => List.Perm.refl _
  | y :: r => by
    simp only [insB]
    split
    · exact List.Perm.refl _
    · exact ((insB_perm x r).cons y).trans (List.Perm.swap x y r)
theorem sortB_perm : ∀ l, (sortB le l).Perm l
  | [] => List.Perm.refl _
  | x :: r => (insB_perm x _).trans ((sortB_perm r).cons x)
theorem insB_up (O : Ord le) (x : α) : ∀ l, l.Pairwise (fun a b => le a b = true) → (insB le x l).Pairwise (fun a b => le a b = true)
  | [], _ => List.pairwise_singleton _ _
  | y :: r, h => by
    obtain ⟨h1, h2⟩ := List.pairwise_cons.mp h
    simp only [insB]
    split
    · rename_i e
      refine List.pairwise_cons.mpr ⟨fun z hz => ?_, h⟩
      rcases List.mem_cons.mp hz with rfl | hz
      · exact e
      · exact O.tr _ _ _ e (h1 z hz)
    · rename_i e
      have e : le y x = true := (O.tot x y).resolve_left e
      refine List.pairwise_cons.mpr ⟨fun z hz => ?_, insB_up O x r h2⟩
      rcases List.mem_cons.mp ((insB_perm x r).mem_iff.mp hz) with rfl | hz
      · exact e
      · exact h1 z hz
theorem sortB_up (O : Ord le) : ∀ l, (sortB le l).Pairwise (fun a b => le a b = true)
  | [] => List.Pairwise.nil
  | x :: r => insB_up O x _ (sortB_up O r)
theorem ord_uniq (O : Ord le) : ∀ {l m : List α}, l.Pairwise (fun a b => le a b = true) → m.Pairwise (fun a b => le a b = true) → l.Perm m → l = m
  | [], m, _, _, p => (List.nil_perm.mp p).symm
  | x :: l, [], _, _, p => absurd p.length_eq (by simp)
  | x :: l, y :: m, h, k, p => by
    obtain ⟨h1, h2⟩ := List.pairwise_cons.mp h
    obtain ⟨k1, k2⟩ := List.pairwise_cons.mp k
    have e : x = y := by
      rcases List.mem_cons.mp (p.mem_iff.mp List.mem_cons_self) with z | z
      · exact z
      · rcases List.mem_cons.mp (p.mem_iff.mpr List.mem_cons_self) with u | u
        · exact u.symm
        · exact O.anti _ _ (h1 y u) (k1 x z)
    subst e
    rw [ord_uniq O h2 k2 ((List.perm_cons x).mp p)]
theorem merge_sortB (O : Ord le) (l : List α) : l.mergeSort le = sortB le l :=
  ord_uniq O (List.pairwise_mergeSort (fun a b c => O.tr a b c) (fun a b => by
    rcases O.tot a b with h | h <;> simp [h]) l) (sortB_up O l) ((List.mergeSort_perm l le).trans (sortB_perm l).symm)
theorem sortB_of (O : Ord le) {l m : List α} (p : l.Perm m) : sortB le l = sortB le m := ord_uniq O (sortB_up O l) (sortB_up O m) ((sortB_perm l).trans (p.trans (sortB_perm m).symm))
end
/-! ### rows -/
theorem leR_not : ∀ xs ys : List Int, leR xs ys = !decide (ys < xs)
  | [], ys => by
    have : ¬ ys < [] := List.not_lt_nil ys
    simp [leR, this]
  | x :: xs, [] => by
    have : ([] : List Int) < x :: xs := List.nil_lt_cons x xs
    simp [leR, this]
  | x :: xs, y :: ys => by
    have ih := leR_not xs ys
    have e : (y :: ys < x :: xs) ↔ y < x ∨ (y = x ∧ ys < xs) := List.cons_lt_cons_iff
    simp only [leR, ih]
    by_cases h : y :: ys < x :: xs
    · rw [decide_eq_true h]
      rcases e.mp h with z | ⟨z1, z2⟩
      · have a : ¬ x < y := by omega
        have b : ¬ x = y := by omega
        simp [a, b]
      · subst z1
        simp [z2]
    · rw [decide_eq_false h]
      have h' := fun z => h (e.mpr z)
      by_cases a : x < y
      · simp [a]
      · have b : x = y := by
          by_cases q : y < x
          · exact absurd (.inl q) h'
          · omega
        have d : ¬ ys < xs := fun z => h' (.inr ⟨b.symm, z⟩)
        simp [b, d]
theorem ordR : Ord leR where
  tot := fun a => by
    induction a with
    | nil => exact fun _ => .inl rfl
    | cons x r ih =>
      intro b
      cases b with
      | nil => exact .inr rfl
      | cons y t =>
        simp only [leR, Bool.or_eq_true, Bool.and_eq_true, decide_eq_true_eq]
        rcases Int.lt_trichotomy x y with h | h | h
        · exact .inl (.inl h)
        · subst h
          rcases ih t with z | z
          · exact .inl (.inr ⟨rfl, z⟩)
          · exact .inr (.inr ⟨rfl, z⟩)
        · exact .inr (.inl h)
  tr := fun a => by
    induction a with
    | nil => exact fun _ _ _ _ => rfl
    | cons x r ih =>
      intro b d h k
      cases b with
      | nil => cases h
      | cons y t =>
        cases d with
        | nil => cases k
        | cons z u =>
          simp only [leR, Bool.or_eq_true, Bool.and_eq_true, decide_eq_true_eq] at h k ⊢
          rcases h with h | ⟨h1, h2⟩
          · rcases k with k | ⟨k1, _⟩
            · exact .inl (by omega)
            · exact .inl (by omega)
          · rcases k with k | ⟨k1, k2⟩
            · exact .inl (by omega)
            · exact .inr ⟨by omega, ih t u h2 k2⟩
  anti := fun a => by
    induction a with
    | nil =>
      intro b _ k
      cases b with
      | nil => rfl
      | cons _ _ => cases k
    | cons x r ih =>
      intro b h k
      cases b with
      | nil => cases h
      | cons y t =>
        simp only [leR, Bool.or_eq_true, Bool.and_eq_true, decide_eq_true_eq] at h k
        have e : x = y := by omega
        subst e
        have h' : leR r t = true := by
          rcases h with h | h
          · omega
          · exact h.2
        have k' : leR t r = true := by
          rcases k with k | k
          · omega
          · exact k.2
        rw [ih t h' k']
theorem ordN : Ord leN where
  tot := fun a b => by
    simp only [leN, Bool.or_eq_true, Bool.and_eq_true, decide_eq_true_eq]
    rcases Int.lt_trichotomy a.1 b.1 with h | h | h
    · exact .inl (.inl h)
    · rcases ordR.tot a.2 b.2 with z | z
      · exact .inl (.inr ⟨h, z⟩)
      · exact .inr (.inr ⟨h.symm, z⟩)
    · exact .inr (.inl h)
  tr := fun a b d h k => by
    simp only [leN, Bool.or_eq_true, Bool.and_eq_true, decide_eq_true_eq] at h k ⊢
    rcases h with h | ⟨h1, h2⟩
    · rcases k with k | ⟨k1, _⟩
      · exact .inl (by omega)
      · exact .inl (by omega)
    · rcases k with k | ⟨k1, k2⟩
      · exact .inl (by omega)
      · exact .inr ⟨by omega, ordR.tr _ _ _ h2 k2⟩
  anti := fun a b h k => by
    simp only [leN, Bool.or_eq_true, Bool.and_eq_true, decide_eq_true_eq] at h k
    have e : a.1 = b.1 := by omega
    have h' : leR a.2 b.2 = true := by
      rcases h with h | h
      · omega
      · exact h.2
    have k' : leR b.2 a.2 = true := by
      rcases k with k | k
      · omega
      · exact k.2
    exact Prod.ext e (ordR.anti _ _ h' k')
/-! ### as the library's data -/
theorem dataLe_rowD : PySem.W.dataLe false rowD = leR := by
  funext a b
  rw [PySem.W.dataLe_eq]
  show (!PySem.W.dataLt (.tuple (b.map .int)) (.tuple (a.map .int))) = leR a b
  rw [PySem.W.dataLt_tuple]
  have := PySem.W.dataLt_ints b a
  unfold PySem.W.rowLt at this
  rw [this, leR_not]
theorem eqv_int (x y : Int) : PyData.eqv (.int x) (.int y) = decide (x = y) := by
  have : PyData.eqv (.int x) (.int y) = (x == y) := by rw [PyData.eqv]
  rw [this]
  by_cases h : x = y <;> simp [h]
theorem eqv_ints : ∀ xs ys : List Int, PyData.eqvAll (xs.map .int) (ys.map .int) = decide (xs = ys)
  | [], [] => by simp [PyData.eqvAll]
  | [], _ :: _ => by simp [PyData.eqvAll]
  | _ :: _, [] => by simp [PyData.eqvAll]
  | x :: xs, y :: ys => by
    rw [List.map_cons, List.map_cons, PyData.eqvAll, eqv_ints xs ys]
    have e : PyData.eqv (.int x) (.int y) = decide (x = y) := eqv_int x y
    rw [e]
    by_cases h : x = y <;> by_cases k : xs = ys <;> simp [h, k]
theorem dataLe_nestD : PySem.W.dataLe false nestD = leN := by
  funext a b
  rw [PySem.W.dataLe_eq]
  show (!PySem.W.dataLt (.tuple [.int b.1, .tuple (b.2.map .int)]) (.tuple [.int a.1, .tuple (a.2.map .int)])) = leN a b
  rw [PySem.W.dataLt_pair rfl (by rw [PySem.W.alike]; exact PySem.W.alike_ints _ _)]
  have e1 : PyData.eqv (.int b.1) (.int a.1) = decide (b.1 = a.1) := eqv_int _ _
  have e2 : PyData.eqv (.tuple (b.2.map .int)) (.tuple (a.2.map .int)) = decide (b.2 = a.2) := by
    rw [PyData.eqv]
    exact eqv_ints _ _
  have e3 : PySem.W.dataLt (.tuple (b.2.map .int)) (.tuple (a.2.map .int)) = decide (b.2 < a.2) := by
    rw [PySem.W.dataLt_tuple]
    have := PySem.W.dataLt_ints b.2 a.2
    unfold PySem.W.rowLt at this
    exact this
  rw [e1, e2, e3, PySem.W.dataLt_int]
  simp only [leN, leR_not]
  by_cases h : b.1 = a.1
  · rw [h]
    by_cases k : b.2 = a.2
    · rw [k]
      have : ¬ a.2 < a.2 := List.lt_irrefl _
      simp [this]
    · simp [k]
  · have h' : ¬ a.1 = b.1 := fun z => h z.symm
    by_cases q : a.1 < b.1
    · have : ¬ b.1 < a.1 := by omega
      simp [h, h', q, this]
    · have : b.1 < a.1 := by omega
      simp [h, h', q, this]
/-! ### what is there, once -/
section
variable {α : Type} [BEq α] [LawfulBEq α]
theorem dist_mem (x : α) : ∀ l : List α, x ∈ dist l ↔ x ∈ l
  | [] => Iff.rfl
  | y :: r => by
    simp only [dist]
    split
    · rename_i e
      rw [dist_mem x r, List.mem_cons]
      refine ⟨.inr, fun h => h.elim (fun z => ?_) id⟩
      rw [z]
      exact List.contains_iff_mem.mp e
    · rw [List.mem_cons, dist_mem x r, List.mem_cons]
theorem dist_nodup : ∀ l : List α, (dist l).Nodup
  | [] => List.nodup_nil
  | y :: r => by
    simp only [dist]
    split
    · exact dist_nodup r
    · rename_i e
      exact List.nodup_cons.mpr ⟨fun z => e (List.contains_iff_mem.mpr ((dist_mem y r).mp z)), dist_nodup r⟩
theorem dist_len (l : List α) : (dist l).length ≤ l.length := by
  induction l with
  | nil => exact Nat.le_refl _
  | cons y r ih =>
    simp only [dist]
    split <;> simp only [List.length_cons] <;> omega
end
end Pv
end
section
set_option maxRecDepth 100000
set_option maxHeartbeats 4000000
/-! PvSort: sorted of ints, of pairs of ints. -/
namespace Pv
open PySem PySem.Spec PyProof.Rows L2
/-! ### rows that go up -/
theorem insI_perm (x : Int) : ∀ l, (insI x l).Perm (x :: l)
  | [] => List.Perm.refl _
  | y :: r => by
    simp only [insI]
    split
    · exact List.Perm.refl _
    · exact ((insI_perm x r).cons y).trans (List.Perm.swap x y r)
theorem sortI_perm : ∀ l, (sortI l).Perm l
  | [] => List.Perm.refl _
  | x :: r => (insI_perm x (sortI r)).trans ((sortI_perm r).cons x)
theorem insI_up (x : Int) : ∀ l, l.Pairwise (· ≤ ·) → (insI x l).Pairwise (· ≤ ·)
  | [], _ => List.pairwise_singleton _ _
  | y :: r, h => by
    simp only [insI]
    obtain ⟨h1, h2⟩ := List.pairwise_cons.mp h
    split
    · rename_i hxy
      exact List.pairwise_cons.mpr ⟨fun z hz => by
        rcases List.mem_cons.mp hz with rfl | hz
        · exact hxy
        · exact Int.le_trans hxy (h1 z hz), h⟩
    · rename_i hxy
      refine List.pairwise_cons.mpr ⟨fun z hz => ?_, insI_up x r h2⟩
      rcases List.mem_cons.mp ((insI_perm x r).mem_iff.mp hz) with rfl | hz
      · omega
      · exact h1 z hz
theorem sortI_up : ∀ l, (sortI l).Pairwise (· ≤ ·)
  | [] => List.Pairwise.nil
  | x :: r => insI_up x _ (sortI_up r)
theorem up_uniq {α : Type} {R : α → α → Prop} (anti : ∀ a b, R a b → R b a → a = b) : ∀ {l m : List α}, l.Pairwise R → m.Pairwise R → l.Perm m → l = m
  | [], m, _, _, h => (List.nil_perm.mp h).symm
  | x :: r, [], _, _, h => (List.perm_nil.mp h)
  | x :: r, y :: s, hl, hm, h => by
    obtain ⟨h1, h2⟩ := List.pairwise_cons.mp hl
    obtain ⟨h3, h4⟩ := List.pairwise_cons.mp hm
    have e : x = y := by
      rcases List.mem_cons.mp (h.mem_iff.mp List.mem_cons_self) with e | hx
      · exact e
      · rcases List.mem_cons.mp (h.mem_iff.mpr List.mem_cons_self) with e | hy
        · exact e.symm
        · exact anti x y (h1 y hy) (h3 x hx)
    subst e
    rw [up_uniq anti h2 h4 (List.Perm.cons_inv h)]
theorem leP_iff {p q : Int × Int} : leP p q = true ↔ p.1 < q.1 ∨ (p.1 = q.1 ∧ p.2 ≤ q.2) := by
  unfold leP
  simp only [Bool.or_eq_true, Bool.and_eq_true, decide_eq_true_eq]
theorem insP_perm (x : Int × Int) : ∀ l, (insP x l).Perm (x :: l)
  | [] => List.Perm.refl _
  | y :: r => by
    simp only [insP]
    split
    · exact List.Perm.refl _
    · exact ((insP_perm x r).cons y).trans (List.Perm.swap x y r)
theorem sortP_perm : ∀ l, (sortP l).Perm l
  | [] => List.Perm.refl _
  | x :: r => (insP_perm x (sortP r)).trans ((sortP_perm r).cons x)
abbrev LeP (p q : Int × Int) : Prop := leP p q = true
theorem LeP.trans {p q r : Int × Int} (a : LeP p q) (b : LeP q r) : LeP p r := by
  have a := leP_iff.mp a
  have b := leP_iff.mp b
  exact leP_iff.mpr (by omega)
theorem LeP.anti (p q : Int × Int) (a : LeP p q) (b : LeP q p) : p = q := by
  have a := leP_iff.mp a
  have b := leP_iff.mp b
  exact Prod.ext (by omega) (by omega)
theorem insP_up (x : Int × Int) : ∀ l, l.Pairwise LeP → (insP x l).Pairwise LeP
  | [], _ => List.pairwise_singleton _ _
  | y :: r, h => by
    simp only [insP]
    obtain ⟨h1, h2⟩ := List.pairwise_cons.mp h
    split
    · rename_i hxy
      exact List.pairwise_cons.mpr ⟨fun z hz => by
        rcases List.mem_cons.mp hz with rfl | hz
        · exact hxy
        · exact LeP.trans hxy (h1 z hz), h⟩
    · rename_i hxy
      refine List.pairwise_cons.mpr ⟨fun z hz => ?_, insP_up x r h2⟩
      rcases List.mem_cons.mp ((insP_perm x r).mem_iff.mp hz) with rfl | hz
      · have n : ¬ (z.1 < y.1 ∨ (z.1 = y.1 ∧ z.2 ≤ y.2)) := fun q => hxy (leP_iff.mpr q)
        exact leP_iff.mpr (by omega)
      · exact h1 z hz
theorem sortP_up : ∀ l, (sortP l).Pairwise LeP
  | [] => List.Pairwise.nil
  | x :: r => insP_up x _ (sortP_up r)
theorem pairsI_map : ∀ {ds : List D} {ps : List (Int × Int)}, pairsI ds = some ps → ds = ps.map pairD
  | [], ps, h => by simp [pairsI] at h; subst h; rfl
  | d :: r, ps, h => by
    unfold pairsI at h
    split at h
    · rename_i e; cases e
    · rename_i e
      cases e
      obtain ⟨qs, hq, rfl⟩ := Option.map_eq_some_iff.mp h
      rw [pairsI_map hq]
      rfl
    · cases h
/-! ### a list of pairs -/
/-- the two ints of a pair -/
def kOf (H : Hp) (x : V) : Int × Int := match x with
  | .ref t => (match H t with
    | some (.tup [.int a, .int b]) => (a, b)
    | _ => (0, 0))
  | _ => (0, 0)
theorem kOf_at {H : Hp} {t : Addr} {a b : Int} (h : H t = some (.tup [.int a, .int b])) : kOf H (.ref t) = (a, b) := by
  simp only [kOf, h]
section
variable {c : Cn} {F : Addr → Prop} {H : Hp}
theorem rep_twoI {k : Nat} {v : V} {q : Int × Int} {fp : List Addr} (r : Rep c F H k v (pairD q) fp) : ∃ t, v = .ref t ∧ H t = some (.tup [.int q.1, .int q.2]) := by
  obtain ⟨t, xs, rfl, ht, _, f⟩ := rep_tup (show Rep c F H k v (.tuple ([q.1, q.2].map PyData.int)) fp from r)
  have := RepL.ints (f (fun _ => True) (fun _ _ => trivial) fun _ _ => trivial)
  subst this
  exact ⟨t, rfl, ht⟩
theorem pairs_of {k : Nat} : ∀ {qs : List (Int × Int)} {xs : List V} {fp : List Addr}, RepL c F H k xs (qs.map pairD) fp → xs.map (kOf H) = qs ∧ ∀ x ∈ xs, ∃ t, x = .ref t ∧ H t = some (.tup [.int (kOf H x).1, .int (kOf H x).2])
  | [], _, _, .nil _ => ⟨rfl, fun _ h => by cases h⟩
  | q :: qs, _, _, .cons r rs => by
    obtain ⟨h1, h2⟩ := pairs_of rs
    obtain ⟨t, rfl, ht⟩ := rep_twoI r
    have e := kOf_at ht
    refine ⟨by rw [List.map_cons, e, h1], fun x hx => ?_⟩
    rcases List.mem_cons.mp hx with rfl | hx
    · exact ⟨t, rfl, by rw [e]; exact ht⟩
    · exact h2 x hx
theorem pairs_to {F' : Addr → Prop} {H' : Hp} (kk : ∀ a xs, H a = some (.tup xs) → H' a = some (.tup xs)) : ∀ {xs : List V}, (∀ x ∈ xs, ∃ t, x = .ref t ∧ H t = some (.tup [.int (kOf H x).1, .int (kOf H x).2])) → RepL c F' H' 0 xs ((xs.map (kOf H)).map pairD) []
  | [], _ => .nil _
  | x :: xs, h => by
    obtain ⟨t, rfl, ht⟩ := h x List.mem_cons_self
    exact .cons (fp := []) (fq := []) (.tup (kk _ _ ht) (.cons (fp := []) (fq := []) (.int _ _) (.cons (fp := []) (fq := []) (.int _ _) (.nil _)))) (pairs_to kk fun y hy => h y (List.mem_cons_of_mem _ hy))
theorem srt_pairs {ys xs : List V} {qs : List (Int × Int)} (hx : xs.map (kOf H) = qs) (h1 : SrtO.Srtd (ltP (kOf H)) ys) (h2 : ys.Perm xs) : ys.map (kOf H) = sortP qs := by
  refine up_uniq LeP.anti ?_ (sortP_up _) ?_
  · refine List.pairwise_map.mpr (List.Pairwise.imp ?_ h1)
    intro a b h
    have h := SrtO.lexB_no.mp h
    exact leP_iff.mpr (by omega)
  · rw [← hx]
    exact (h2.map _).trans (sortP_perm _).symm
end
/-! ### sorted(t), t a tuple of ints -/
section
variable {X : Cx}
theorem sortedT_raw {M : Program} {w : World} {A : Around} {E : Value → Shared → Prop} {s : Shared} {t : Addr} {vs : List Value} {ns : List Int} {Q : Value → Shared → Prop} (ht : s.heap.IsTuple t vs.toArray) (hi : IntsAre vs ns) (hz : vs.length ≤ sizeLine)
    (fin : ∀ (h1 h2 : Heap) (out : List Value) (ep : Nat), (∀ b o, s.heap.get? b = some o → h1.get? b = some o) → (∀ b o, h1.get? b = some o → h2.get? b = some o) → IntsAre out (out.map SrtO.iv) → (out.map SrtO.iv).Perm ns → (out.map SrtO.iv).Pairwise (· ≤ ·) → h2.get? h1.objs.size = some { cls := .type "list", data := .seq out.toArray ep } → Q (.ref h1.objs.size) { s with heap := h2 }) :
    wpAny (model M w) A (call (.builtin "sorted") [.ref t]) Q E s := by
  obtain ⟨o, ho, hc, n, hd⟩ := ht
  refine Calls.call_function_entry kind_sorted plain_sorted entry_sorted (args_sorted1 _) ?_
  unfold Builtin.«sorted»
  refine wpAny_bind (m := checkCount "sorted" 1 1 _) (wpAny_pure (wpAny_bind (wpAny_collect_seq t (.inr rfl) ho hc hd (fun h' k => ?_) (by rw [List.size_toArray]; exact hz))))
  rw [show (vs.toArray).toList = vs by simp]
  refine wpAny_bind (wpAny_newList ?_ hz)
  have isL : (h'.push (seqObj "list" vs.toArray 0)).get? h'.objs.size = some (seqObj "list" vs.toArray 0) := Heap.get?_push_size _ rfl
  refine wpAny_bind (wpAny_holding (wpAny_call_entry slot_list_sort ⟨_, isL, rfl⟩ entry_list_sort (SrtO.list_sort_ord SrtO.swo_int isL hz (fun h2 => SrtO.ints_sortable hi h2) fun out h1 h2 => ⟨_, rfl, ?_⟩) (args_list_sort _)))
  obtain ⟨k1, k2, k3⟩ := SrtO.ints_out hi h1 h2
  obtain ⟨ep, he⟩ := sortedHeap_at (n := 0) (vs := vs) (out := out.toArray) isL
  refine wpAny_pure ⟨_, rfl, fin h' _ out ep k (fun b o hb => ?_) k1 k2 k3 he⟩
  have hlt := Heap.lt_size hb
  rw [sortedHeap_old (Nat.ne_of_lt hlt) (by rw [size_push']; exact Nat.lt_succ_of_lt hlt)]
  exact Heap.get?_push_of_some _ hb
end
/-! ### rows -/
theorem lay_ints : ∀ ns : List Int, PyData.canLayAll0 (ns.map PyData.int) = true
  | [] => by simp [PyData.canLayAll0]
  | n :: r => by
    rw [List.map_cons, PyData.canLayAll0, lay_ints r]
    simp [PyData.canLay0]
theorem flat_ints : ∀ ns : List Int, flatL (ns.map PyData.int) = true
  | [] => rfl
  | n :: r => by
    rw [List.map_cons, flatL, flat_ints r]
    rfl
theorem rowsI_map : ∀ {xs : List D} {rs : List (List Int)}, rowsI xs = some rs → xs = rs.map rowD
  | [], rs, h => by simp [rowsI] at h; subst h; rfl
  | d :: r, rs, h => by
    unfold rowsI at h
    split at h
    · rename_i e; cases e
    · rename_i e
      cases e
      split at h
      · rename_i ns hn
        obtain ⟨q, hq, rfl⟩ := Option.map_eq_some_iff.mp h
        rw [List.map_cons, ← rowsI_map hq, intsL_map hn]
        rfl
      · cases h
    · cases h
theorem nestI_map : ∀ {xs : List D} {rs : List (Int × List Int)}, nestI xs = some rs → xs = rs.map nestD
  | [], rs, h => by simp [nestI] at h; subst h; rfl
  | d :: r, rs, h => by
    unfold nestI at h
    split at h
    · rename_i e; cases e
    · rename_i e
      cases e
      split at h
      · rename_i ns hn
        obtain ⟨q, hq, rfl⟩ := Option.map_eq_some_iff.mp h
        rw [List.map_cons, ← nestI_map hq, intsL_map hn]
        rfl
      · cases h
    · cases h
/-- what may be sorted as the library's data -/
structure Enc {β : Type} (enc : β → D) (le : β → β → Bool) : Prop where
  le_ : PySem.W.dataLe false enc = le
  ord : Ord le
  fl : ∀ b, flat (enc b) = true
  cl : ∀ b, (enc b).canLay0 = true
  dp : ∀ b, (enc b).depth ≤ 8
theorem depth_row (ns : List Int) : PyData.depth (.tuple (ns.map .int)) ≤ 1 := by
  rw [PyData.depth, PySem.W.depth_ints]
  decide
theorem encR : Enc rowD leR := ⟨dataLe_rowD, ordR, fun b => flat_ints b, fun b => by show PyData.canLay0 (.tuple _) = true; rw [PyData.canLay0]; exact lay_ints b, fun b => Nat.le_trans (depth_row b) (by decide)⟩
theorem encN : Enc nestD leN := ⟨dataLe_nestD, ordN, fun b => by
    show (flat (.int b.1) && (flat (.tuple (b.2.map .int)) && true)) = true
    have : flat (.tuple (b.2.map .int)) = true := flat_ints b.2
    rw [this]
    rfl, fun b => by
    show PyData.canLay0 (.tuple [.int b.1, .tuple (b.2.map .int)]) = true
    simp [PyData.canLay0, PyData.canLayAll0, lay_ints], fun b => by
    show PyData.depth (.tuple [.int b.1, .tuple (b.2.map .int)]) ≤ 8
    have := depth_row b.2
    simp only [PyData.depth, PyData.depthAll] at this ⊢
    omega⟩
theorem alike_rows (rs : List (List Int)) : PySem.W.AllAlike (rs.map rowD) := PySem.W.AllAlike.of fun a b => by
  show PySem.W.alike (.tuple _) (.tuple _) = true
  rw [PySem.W.alike]
  exact PySem.W.alike_ints a b
theorem alike_nests (rs : List (Int × List Int)) : PySem.W.AllAlike (rs.map nestD) := PySem.W.AllAlike.of fun a b => by
  show PySem.W.alike (.tuple [.int a.1, .tuple _]) (.tuple [.int b.1, .tuple _]) = true
  simp [PySem.W.alike, PySem.W.alikeAll, PySem.W.alike_ints]
theorem sortable_rows {rs : List (List Int)} (h : rs.all (fun r => !r.isEmpty) = true) : PySem.W.Sortable (rs.map rowD) := .inl fun d hd => by
  obtain ⟨r, hr, rfl⟩ := List.mem_map.mp hd
  have := List.all_eq_true.mp h r hr
  cases r with
  | nil => cases this
  | cons n r => exact ⟨_, _, rfl⟩
theorem sortable_nests (rs : List (Int × List Int)) : PySem.W.Sortable (rs.map nestD) := PySem.W.Sortable.tuples fun b => ⟨_, _, rfl⟩
/-- values that stand for rows -/
def StR (c : Cn) (H : Hp) {β : Type} (enc : β → D) (u : Value) (b : β) : Prop := ∃ x : V, RelV x u ∧ Rep c (fun _ => True) H 0 x (enc b) []
theorem each_of {c : Cn} {F : Addr → Prop} {H : Hp} {β : Type} {enc : β → D} (fl : ∀ b, flat (enc b) = true) : ∀ {bs : List β} {xs : List V} {us : List Value}, RepL c F H 0 xs (bs.map enc) [] → Vals xs us → PySem.W.EachIs (StR c H enc) us bs
  | [], _, _, r, v => by
    cases r
    cases v
    exact .nil
  | b :: bs, _, _, r, v => by
    rw [List.map_cons] at r
    generalize hf : ([] : List Addr) = fp at r
    cases r with
    | cons r rs =>
      cases v with
      | cons hv vs =>
        obtain ⟨e1, e2⟩ := List.append_eq_nil_iff.mp hf.symm
        subst e1 e2
        exact .cons ⟨_, hv, (Rep.flat (fl b) r).2 _ _⟩ (each_of fl rs vs)
theorem each_out {c : Cn} {H : Hp} {β : Type} {enc : β → D} (fl : ∀ b, flat (enc b) = true) {us : List Value} {bs : List β} (e : PySem.W.EachIs (StR c H enc) us bs) : ∃ xs : List V, Vals xs us ∧ ∀ F' : Addr → Prop, RepL c F' H 0 xs (bs.map enc) [] := by
  induction e with
  | nil => exact ⟨[], .nil, fun _ => .nil _⟩
  | cons h t ih =>
    obtain ⟨xs, v, r⟩ := ih
    obtain ⟨x, hx, hr⟩ := h
    exact ⟨x :: xs, .cons hx v, fun F' => .cons (fp := []) (fq := []) ((Rep.flat (fl _) hr).2 _ _) (r F')⟩
theorem pair_get {α β : Type} {F : α → β → Prop} : ∀ {l : List α} {m : List β}, Paired F l m → ∀ (i : Nat) (h1 : i < l.length) (h2 : i < m.length), F l[i] m[i]
  | _, _, .nil, i, h1, _ => absurd h1 (Nat.not_lt_zero _)
  | _, _, .cons h t, 0, _, _ => h
  | _, _, .cons h t, i + 1, h1, h2 => pair_get t i (Nat.lt_of_succ_lt_succ h1) (Nat.lt_of_succ_lt_succ h2)
theorem keys_rep (c : Cn) (F : Addr → Prop) (H : Hp) : ∀ ks : List Key, RepL c F H 0 (ks.map kV) (ks.map dk) []
  | [] => .nil _
  | k :: r => by
    refine .cons (fp := []) (fq := []) ?_ (keys_rep c F H r)
    cases k
    · exact .int _ _
    · exact .str _ _
theorem each_get {α β : Type} {R : α → β → Prop} : ∀ {as : List α} {bs : List β}, as.length = bs.length → (∀ (i : Nat) (hi : i < bs.length), ∃ v, as[i]? = some v ∧ R v bs[i]) → PySem.W.EachIs R as bs
  | [], [], _, _ => .nil
  | [], _ :: _, h, _ => by simp at h
  | _ :: _, [], h, _ => by simp at h
  | a :: as, b :: bs, h, k => by
    refine .cons ?_ (each_get (by simpa using h) fun i hi => ?_)
    · obtain ⟨v, e, r⟩ := k 0 (Nat.zero_lt_succ _)
      cases e
      exact r
    · obtain ⟨v, e, r⟩ := k (i + 1) (Nat.succ_lt_succ hi)
      exact ⟨v, by simpa using e, by simpa using r⟩
section
variable {c : Cn} {X : Cx} (cc : Cc c X)
include cc
theorem StR.reads {pins : List (Addr × Obj)} {s : Shared} {σ : L2.St} {H : Hp} {β : Type} {enc : β → D} (cl : ∀ b, (enc b).canLay0 = true) (I : Inv X pins σ H s) {u : Value} {b : β} (h : StR c H enc u b) : ∃ as, Reads s.heap u (enc b) as := by
  obtain ⟨x, hx, r⟩ := h
  exact Dp.reads (X := X) I _ _ _ (by rw [cc.hK]; exact Rep.dp (cl b) r) hx
/-- sorted(l), l a list of rows -/
theorem sorted_enc {pins : List (Addr × Obj)} {s : Shared} {σ : L2.St} {H : Hp} {Q : VK} {β : Type} {enc : β → D} {le : β → β → Bool} (N : Enc enc le) {bs : List β} (al : PySem.W.AllAlike (bs.map enc)) (sk : PySem.W.Sortable (bs.map enc)) {l : Addr} {xs : List V} {F : Addr → Prop}
    (I : Inv X pins σ H s) (hl : SqL X.K H l xs) (r : RepL c F H 0 xs (bs.map enc) []) (hQ : ∀ ys p, (∀ F' : Addr → Prop, RepL c F' H 0 ys ((sortB le bs).map enc) []) → H p = none → Q (.ref p) (upd H p (.lst ys))) :
    wpAny (model X.prog X.w) X.A (call (.builtin "sorted") [.ref l]) (EP X pins σ Q) X.xe s := by
  obtain ⟨its, rv, pl, hz⟩ := I.list hl
  have e := each_of (c := c) N.fl r rv
  have lb : xs.length = bs.length := by rw [RepL.length r, List.length_map]
  refine PySem.W.sorted_data (R := StR c H enc) (bs := bs) (enc := enc) pl.isList e (e.mono fun _ _ h => StR.reads cc N.cl I h) al sk (by rw [← lb]; exact hz) (fun b _ => by have := N.dp b; have := cc.un; omega) fun out h1 h2 => ?_
  rw [N.le_, merge_sortB N.ord] at h2
  obtain ⟨ys, v, ry⟩ := each_out N.fl h2
  obtain ⟨ep, he⟩ := PyProof.Rows.sortedAll_at s.heap its out.toArray
  have hlen : ys.length ≤ sizeLine := by
    rw [v.length, h1, ← lb]
    exact hz
  exact ⟨.ref _, upd H (s.heap.objs.size + 1) (.lst ys), I.laid (t' := s.toks) (fun _ _ => PyProof.Rows.sortedAll_old) (Nat.le_succ _) ⟨hlen, out, ep, v, he⟩, rfl, hQ ys _ ry (I.hok.fresh (Nat.le_succ _))⟩
end
mutual
theorem reads_flat {h : Heap} : ∀ {d : D} {v : Value} {as : List Addr}, flat d = true → Reads h v d as → as = []
  | .none, _, _, _, r => by cases r; rfl
  | .bool _, _, _, _, r => by cases r; rfl
  | .int _, _, _, _, r => by cases r; rfl
  | .str _, _, _, _, r => by cases r; rfl
  | .list _, _, _, q, _ => by simp [flat] at q
  | .tuple ds, _, _, q, r => by
    cases r with
    | tuple _ _ _ rs => exact reads_flatL (by simpa only [flat] using q) rs
  | .dict _, _, _, q, _ => by simp [flat] at q
theorem reads_flatL {h : Heap} : ∀ {ds : List D} {vs : List Value} {as : List Addr}, flatL ds = true → ReadsAll h vs ds as → as = []
  | [], _, _, _, r => by cases r; rfl
  | d :: ds, _, _, q, r => by
    simp only [flatL, Bool.and_eq_true] at q
    cases r with
    | cons r1 r2 => rw [reads_flat q.1 r1, reads_flatL q.2 r2]; rfl
end
section
variable {c : Cn} {X : Cx} (cc : Cc c X)
include cc
/-- the end of sorted(..): items that stand for rows are sorted in a new list -/
theorem sort_tail {pins : List (Addr × Obj)} {s : Shared} {σ : L2.St} {H : Hp} {Q : Value → Shared → Prop} {E : Value → Shared → Prop} {β : Type} {enc : β → D} {le : β → β → Bool} (N : Enc enc le) {bs : List β} (al : PySem.W.AllAlike (bs.map enc)) (sk : PySem.W.Sortable (bs.map enc)) (I : Inv X pins σ H s)
    {vs : List Value} (e : PySem.W.EachIs (StR c H enc) vs bs) (hz : bs.length ≤ sizeLine) (hQ : ∀ s' ys p, (∀ F' : Addr → Prop, RepL c F' H 0 ys ((sortB le bs).map enc) []) → H p = none → Inv X pins σ (upd H p (.lst ys)) s' → Q (.ref p) s') :
    wpAny (model X.prog X.w) X.A.in1 (newList vs >>= fun l => holding [l] (call (.builtin "list.sort") [l]) >>= fun _ => ret l) (fun r s' => ∃ v, r = .done (.ret v) ∧ Q v s') E s := by
  have lv : vs.length = bs.length := e.length
  refine wpAny_bind (wpAny_newList ?_ (by rw [lv]; exact hz))
  have at_ : (s.heap.push (seqObj "list" vs.toArray 0)).get? s.heap.objs.size = some (seqObj "list" vs.toArray 0) := Heap.get?_push_size _ rfl
  have er : PySem.W.EachIs (fun v b => ∃ as, Reads (s.heap.push (seqObj "list" vs.toArray 0)) v (enc b) as ∧ s.heap.objs.size ∉ as) vs bs := e.mono fun v b h => by
    obtain ⟨as, r⟩ := StR.reads cc N.cl I h
    have r' := PyProof.Rows.Reads.keeps (h' := s.heap.push (seqObj "list" vs.toArray 0)) (fun _ _ z => Heap.get?_push_of_some _ z) r
    exact ⟨as, r', by rw [reads_flat (N.fl b) r']; exact List.not_mem_nil⟩
  refine wpAny_bind (wpAny_holding (PySem.W.list_sort_data (s := { s with heap := s.heap.push (seqObj "list" vs.toArray 0) }) (R := StR c H enc) (bs := bs) (enc := enc) at_ e er al sk hz (fun b _ => ?_) fun out h1 h2 => ?_))
  · have := N.dp b
    have := cc.un
    simp only [Around.in1_units]
    omega
  · rw [N.le_, merge_sortB N.ord] at h2
    obtain ⟨ys, v, ry⟩ := each_out N.fl h2
    obtain ⟨ep, he⟩ := PyProof.Rows.sortedHeap_at (vs := vs) (out := out.toArray) at_
    have hlen : ys.length ≤ sizeLine := by
      rw [v.length, h1]
      exact hz
    have J := I.laid (t' := s.toks) (a := s.heap.objs.size) (o := .lst ys) (h' := sortedHeap (s.heap.push (seqObj "list" vs.toArray 0)) s.heap.objs.size vs out.toArray) (fun b u z => by
      have lt := Heap.lt_size z
      rw [PyProof.Rows.sortedHeap_old (Nat.ne_of_lt lt) (by rw [size_push']; exact Nat.lt_succ_of_lt lt)]
      exact Heap.get?_push_of_some _ z) (Nat.le_refl _) ⟨hlen, out, ep, v, he⟩
    exact wpAny_pure ⟨_, rfl, hQ _ ys _ ry (I.hok.fresh (Nat.le_refl _)) J⟩
theorem s_sortedD : ∀ {kvs : List (D × D)} {F : Addr → Prop} {k1 : Nat} {fp1 : List Addr} {r : D} {x : V} (pins : List (Addr × Obj)) (s : Shared) (σ : L2.St) (H : Hp) (xs : List V) (us : List Value) (Q : VK), Inv X pins σ H s → Vals xs us → xs = [x] → Rep c F H k1 x (.dict kvs) fp1 → sortKeysD kvs = some r →
    Out c F H (fun a => a ∈ fp1) (lv r) r Q → wpAny (model X.prog X.w) X.A (call (.builtin "sorted") us) (EP X pins σ Q) X.xe s := by
  intro kvs F k1 fp1 r x pins s σ H xs us Q I rv ex r1 e q
  subst ex
  obtain ⟨u, rfl, ru⟩ := vals1 rv
  cases kvs with
  | nil =>
    cases e
    obtain ⟨a, hx, hA⟩ : ∃ a, x = .ref a ∧ Rd H a (.dK []) := by
      cases r1 with
      | dkfz f h e r =>
        have z := List.map_eq_nil_iff.mp e.symm
        subst z
        exact ⟨_, rfl, .inl h⟩
      | dkown h e r =>
        have z := List.map_eq_nil_iff.mp e.symm
        subst z
        exact ⟨_, rfl, .inl h⟩
      | dtfz f h ne e r => exact absurd rfl ne
      | dtown h ne e r => exact absurd rfl ne
    subst hx
    refine call_sortedDI cc.calm pins s σ H _ _ Q I rv ⟨a, [], [], rfl, hA, rfl, by decide, fun ys p hp _ hn => ?_⟩
    obtain rfl := List.perm_nil.mp hp
    exact q.lst (fun F' _ _ => .nil _) p hn
  | cons kp0 kps =>
    have hne : (kp0 :: kps) ≠ [] := by simp
    generalize hkvs : kp0 :: kps = kvs at r1 hne
    simp only [sortKeysD, hkvs] at e
    obtain ⟨rs, hrs, e⟩ := Option.bind_eq_some_iff.mp e
    split at e
    · rename_i hall
      cases e
      have hk := rowsI_map hrs
      obtain ⟨a, kv, hx, hA, hke⟩ : ∃ a kv, x = .ref a ∧ H a = some (.dT kv) ∧ kvs.map (·.1) = kv.map fun p => PyData.tuple (p.1.map dk) := by
        have bad : ∀ {kv : List (Key × V)}, kvs.map (·.1) = kv.map (fun p => dk p.1) → False := fun {kv} eb => by
          rw [hk] at eb
          cases rs with
          | nil =>
            cases kvs with
            | nil => exact absurd rfl hne
            | cons p ps => simp at hk
          | cons t ts =>
            cases kv with
            | nil => simp at eb
            | cons w ws =>
              simp only [List.map_cons, List.cons.injEq] at eb
              have eb1 : PyData.tuple (t.map .int) = dk w.1 := eb.1
              generalize w.1 = wk at eb1
              cases wk <;> cases eb1
        cases r1 with
        | dkfz f h e r => exact (bad e).elim
        | dkown h e r => exact (bad e).elim
        | dtfz f h ne e r => exact ⟨_, _, rfl, h, e⟩
        | dtown h ne e r => exact ⟨_, _, rfl, h, e⟩
        | objfz _ _ _ _ _ =>
          cases rs with
          | nil => simp at hk
          | cons t ts => simp [rowD] at hk
        | objown _ _ _ _ =>
          cases rs with
          | nil => simp at hk
          | cons t ts => simp [rowD] at hk
        | fn _ _ =>
          cases rs with
          | nil => simp at hk
          | cons t ts => simp [rowD] at hk
      subst hx
      obtain rfl : u = Value.ref a := ru
      obtain ⟨z, hs, ks, pr, o, es, ep, ho, hx, hdt, he, hn⟩ := (show ObjOk X.prog X.w H s.heap a (.dT kv) from I.hok a _ hA)
      have l1 : es.size = ks.length := size_of_entries he
      have l2 : kv.length = ks.length := Paired.length pr
      have l3 : kv.length = rs.length := by
        have e1 := congrArg List.length hke
        have e2 := congrArg List.length hk
        simp only [List.length_map] at e1 e2
        omega
      refine Calls.call_function_entry PyProof.Rows.kind_sorted PyProof.Rows.plain_sorted PyProof.Rows.entry_sorted (PyProof.Rows.args_sorted1 _) ?_
      unfold Builtin.«sorted»
      refine wpAny_bind (m := checkCount "sorted" 1 1 _) (wpAny_pure (wpAny_bind (PySem.W.kdu_collect (A := X.A.in1) (kdl_raw hs hx hdt) (I.ok.hd cc.calm) ho (by omega) fun h' tk acc kp it => ?_)))
      have ea : PySem.W.EachIs (StR c H rowD) acc.toList rs := by
        have hall : ∀ (i : Nat) (hi : i < rs.length), ∃ v, acc.toList[i]? = some v ∧ StR c H rowD v rs[i] := fun i hi => by
          have hi2 : i < ks.length := by omega
          have hi3 : i < acc.toList.length := by rw [Array.length_toList, it.1]; omega
          obtain ⟨en, hen, hv⟩ := it.2 i acc.toList[i] (by rw [← Array.getElem?_toList]; exact List.getElem?_eq_getElem hi3)
          have qe := entry_at he i
          rw [hen, List.getElem?_eq_getElem hi2] at qe
          have e2 : en = entryOfKey (tupleKind (mixKind X.prog X.w)) ks[i] := Option.some.inj qe
          obtain ⟨p1, p2, p3⟩ := pair_get pr i (by omega) hi2
          have ki : (kv[i]'(by omega)).1.map dk = (rs[i]).map PyData.int := by
            have e3 : (kv.map fun p => PyData.tuple (p.1.map dk))[i]? = (rs.map rowD)[i]? := by rw [← hke, hk]
            rw [List.getElem?_map, List.getElem?_map, List.getElem?_eq_getElem (by omega), List.getElem?_eq_getElem hi] at e3
            have e4 := Option.some.inj e3
            exact PyData.tuple.inj e4
          refine ⟨acc.toList[i], List.getElem?_eq_getElem hi3, .ref (ks[i]).2.1, ?_, .tup p2 ?_⟩
          · rw [hv, e2]
            rfl
          · rw [← ki]
            exact keys_rep c _ H _
        exact each_get (by rw [Array.length_toList, it.1]; omega) hall
      have I1 : Inv X pins σ H { s with heap := h', toks := tk } := I.kept kp
      exact sort_tail cc encR (alike_rows rs) (sortable_rows hall) I1 ea (by omega) fun s' ys p ry hp J => ⟨.ref p, _, J, rfl, q.lst (fun F' _ _ => ry F') p hp⟩
    · cases e
end
section
variable {c : Cn} {X : Cx} (cc : Cc c X)
include cc
theorem s_sorted : CallR X (.builtin "sorted") (C1 c .sorted) := by
  intro pins s σ H xs us Q I rv ⟨x, ex, F, k1, d1, fp1, r, r1, e, q⟩
  have e : sortedD d1 = some r := e
  have up : ∀ {ns ns' : List Int}, ns'.Perm ns → ns'.Pairwise (· ≤ ·) → ns' = sortI ns := fun hp hs => up_uniq (fun a b => Int.le_antisymm) hs (sortI_up _) (hp.trans (sortI_perm _).symm)
  have repI : ∀ (ns : List Int) (F' : Addr → Prop) (H' : Hp), RepL c F' H' 0 (ns.map V.int) (ns.map PyData.int) [] := fun ns F' H' => by
    induction ns with
    | nil => exact .nil _
    | cons n r ih => exact .cons (fp := []) (fq := []) (.int _ _) ih
  unfold sortedD at e
  cases d1 with
  | list ds =>
    simp only [seqOf, Option.bind_some] at e
    obtain ⟨a, vs, rfl, ha, la, fa⟩ := rep_list (F' := F) r1
    cases hi : intsL ds with
    | some ns =>
      rw [hi] at e
      cases e
      obtain rfl := intsL_map hi
      have := RepL.ints (fa (fun _ => True) (fun _ _ => trivial) fun _ _ => trivial)
      subst this
      refine cr_sortedI pins s σ H xs us Q I rv ⟨a, ns, ex, sq_of (c := ⟨X.K, c.fa, c.cl⟩) ha, fun ns' p h1 h2 hp => ?_⟩
      rw [up h1 h2]
      exact q.lst (fun F' _ _ => repI _ F' H) p hp
    | none =>
      rw [hi] at e
      cases hps : pairsI ds with
      | none =>
        rw [hps] at e
        obtain ⟨rs, hrs, e⟩ := Option.bind_eq_some_iff.mp e
        split at e
        · rename_i hne
          cases e
          obtain rfl := rowsI_map hrs
          subst ex
          obtain ⟨u, rfl, ru⟩ := vals1 rv
          obtain rfl : u = Value.ref a := ru
          exact sorted_enc cc encR (alike_rows rs) (sortable_rows hne) I (sq_of (c := ⟨X.K, c.fa, c.cl⟩) ha) (fa (fun _ => True) (fun _ _ => trivial) fun _ _ => trivial) fun ys p ry hp => q.lst (fun F' _ _ => ry F') p hp
        · cases e
      | some ps =>
      rw [hps] at e
      cases e
      obtain rfl := pairsI_map hps
      have rr := fa (fun _ => True) (fun _ _ => trivial) fun _ _ => trivial
      obtain ⟨k1, k2⟩ := pairs_of rr
      refine cr_sortedPO pins s σ H xs us Q I rv ⟨a, vs, kOf H, ex, sq_of (c := ⟨X.K, c.fa, c.cl⟩) ha, k2, fun ys p h1 h2 hp => ?_⟩
      have e := srt_pairs k1 h1 h2.perm
      have m : ∀ x ∈ ys, ∃ t, x = V.ref t ∧ H t = some (.tup [.int (kOf H x).1, .int (kOf H x).2]) := fun x hx => k2 x (h2.perm.mem_iff.mp hx)
      have := q.lst (xs := ys) (fun F' F0 _ => by
        have w := pairs_to (c := c) (F' := F') (H' := H) (H := H) (fun _ _ h => h) m
        rw [e] at w
        exact w) p hp
      exact this
  | tuple ds =>
    simp only [seqOf, Option.bind_some] at e
    obtain ⟨a, vs, rfl, ha, la, fa⟩ := rep_tup r1
    cases hi : intsL ds with
    | some ns =>
      rw [hi] at e
      cases e
      obtain rfl := intsL_map hi
      have := RepL.ints (fa (fun _ => True) (fun _ _ => trivial) fun _ _ => trivial)
      subst this
      subst ex
      obtain ⟨u, rfl, ru⟩ := vals1 rv
      obtain rfl : u = Value.ref a := ru
      obtain ⟨its, rvs, ht, hz⟩ := I.tuple (SqT.of ha)
      have hl := rvs.length
      rw [List.length_map] at hl hz
      refine sortedT_raw ht rvs.ints (by rw [← hl]; exact hz) fun h1 h2 out ep kk1 kk2 i1 i2 i3 he => ?_
      have I1 := I.kept (h' := h1) (t' := s.toks) kk1
      have e1 := up i2 i3
      refine ⟨.ref h1.objs.size, upd H h1.objs.size (.lst ((sortI ns).map V.int)), I1.laid (t' := s.toks) kk2 (Nat.le_refl _) ⟨?_, out, ep, by rw [← e1]; exact vals_of_ints i1, he⟩, rfl, ?_⟩
      · rw [List.length_map, (sortI_perm ns).length_eq]; exact hz
      · exact q.lst (fun F' _ _ => repI _ F' H) _ (I1.hok.fresh (Nat.le_refl _))
    | none =>
      rw [hi] at e
      cases e
  | dict kvs => exact s_sortedD cc pins s σ H xs us Q I rv ex r1 e q
  | _ => cases e
end
end Pv
end
section
set_option maxRecDepth 100000
set_option maxHeartbeats 4000000
/-! PvSetN: set(xs) of up to 76 tuples, also with tuples within. -/
namespace Pv
open PySem PySem.Spec PyProof.Rows L2
abbrev NL := List (Addr × NestedKey)
/-- the place of a probe's c-th step, whole -/
abbrev prb (m : Nat) (h : Int) (c : Nat) : SetTable.Probe := nth m (runAt m (SetTable.bits h % (m + 1)) (SetTable.bits h)) c
abbrev nhash (w : World) (k : NestedKey) : Int := NestedKey.hash w k
mutual
/-- no texts within -/
def noText : NestedKey → Bool
  | .text _ => false
  | .tup ks => noTexts ks
  | .none => true
  | .num _ => true
def noTexts : List NestedKey → Bool
  | [] => true
  | k :: ks => noText k && noTexts ks
end
/-- the tuple at a is the key k -/
structure IsN (h : Heap) (k : NestedKey) (a : Addr) : Prop where
  is : NestedIs h k (.ref a)
  dp : k.depth ≤ 7
  nt : noText k = true
def rowN (w : World) (L : NL) : List (Int × Value) := L.map fun q => (nhash w q.2, Value.ref q.1)
theorem IsN.kp {h h' : Heap} {k : NestedKey} {a : Addr} (x : IsN h k a) (hk : ∀ c o, h.get? c = some o → h'.get? c = some o) : IsN h' k a := ⟨NestedIs.at (fun b o _ _ e _ => hk b o e) _ _ x.is, x.dp, x.nt⟩
theorem IsN.but {h h' : Heap} {k : NestedKey} {a b : Addr} {o : Obj} {es : Array (Int × Value)} {ep : Nat} {t : SetTable} (x : IsN h k b) (ho : h.get? a = some o) (hd : o.data = .set es ep t) (hs : Heap.SameBut a h h') : IsN h' k b :=
  ⟨NestedIs.at (fun c u vs n e d => (hs.2 c fun z => by
    rw [z, ho] at e
    cases e
    rw [hd] at d
    cases d).trans e) _ _ x.is, x.dp, x.nt⟩
section
variable {P : Program} {w : World}
mutual
theorem hb_key : ∀ (k : NestedKey) (v : Value) (n : Nat) (s : Shared), NestedIs s.heap k v → k.depth ≤ n → noText k = true → ∀ (A : Around) (E : Value → Shared → Prop) (Q : Bool → Shared → Prop), Q true s → wpAny (model P w) A (hashByValue n v) Q E s
  | .none, _, n, s, x, _, _, A, E, Q, h => by cases x; cases n <;> exact wpAny_pure h
  | .num i, _, n, s, x, _, _, A, E, Q, h => by cases x <;> cases n <;> exact wpAny_pure h
  | .text y, _, n, s, x, _, q, A, E, Q, h => by simp [noText] at q
  | .tup ks, _, n, s, x, hn, q, A, E, Q, h => by
    cases x with
    | @tup a o vs m _ hg hc hd hk =>
      simp only [NestedKey.depth] at hn
      simp only [noText] at q
      cases n with
      | zero => omega
      | succ n =>
        have hT : s.TypeIs (.ref a) "tuple" := ⟨o, hg, hc⟩
        unfold hashByValue
        refine wpAny_bind (wpAny_specialOf hT F.slot_tuple_hash.lookup ?_)
        show wpAny _ _ (seqItems? (.ref a) >>= _) _ _ s
        refine wpAny_bind (wpAny_seqItems hg hd ?_)
        refine wpAny_bind ?_
        show wpAny _ _ (forIn vs _ _) _ _ s
        rw [← Array.forIn_toList]
        refine wpAny_forIn_list _ (fun rest r s' => r.1 = none ∧ s' = s ∧ ∀ v ∈ rest, v ∈ vs.toList) _ ?_ ?_ _ _ ⟨rfl, rfl, fun _ z => z⟩
        · rintro v rest r s' ⟨hr, rfl, hall⟩
          refine wpAny_bind (hb_keys ks vs.toList n s' hk (by omega) q v (hall v List.mem_cons_self) _ _ _ ?_)
          simp only [Bool.not_true, Bool.false_eq_true, if_false]
          exact wpAny_pure ⟨rfl, rfl, fun u hu' => hall u (List.mem_cons_of_mem _ hu')⟩
        · rintro ⟨r1, r2⟩ s' ⟨hr, rfl, _⟩
          simp only at hr
          subst hr
          exact wpAny_pure h
theorem hb_keys : ∀ (ks : List NestedKey) (vs : List Value) (n : Nat) (s : Shared), NestedAll s.heap ks vs → NestedKey.depthAll ks ≤ n → noTexts ks = true → ∀ v ∈ vs, ∀ (A : Around) (E : Value → Shared → Prop) (Q : Bool → Shared → Prop), Q true s → wpAny (model P w) A (hashByValue n v) Q E s
  | [], _, n, s, x, _, _, v, hv => by cases x; cases hv
  | k :: ks, _, n, s, x, hn, q, v, hv => by
    cases x with
    | cons x1 x2 =>
      simp only [NestedKey.depthAll] at hn
      simp only [noTexts, Bool.and_eq_true] at q
      rcases List.mem_cons.mp hv with e | hv
      · rw [e]; exact hb_key k _ n s x1 (by omega) q.1
      · exact hb_keys ks _ n s x2 (by omega) q.2 v hv
end
mutual
theorem oc_key : ∀ (k : NestedKey) (v : Value) (n : Nat) (s : Shared), NestedIs s.heap k v → k.depth ≤ n → ∀ (A : Around) (E : Value → Shared → Prop) (Q : Bool → Shared → Prop), Q false s → wpAny (model P w) A (ofAClassStatement n v) Q E s
  | .none, _, n, s, x, _, A, E, Q, h => by cases x; cases n <;> exact wpAny_pure h
  | .num i, _, n, s, x, _, A, E, Q, h => by cases x <;> cases n <;> exact wpAny_pure h
  | .text y, _, n, s, x, _, A, E, Q, h => by cases x; cases n <;> exact wpAny_pure h
  | .tup ks, _, n, s, x, hn, A, E, Q, h => by
    cases x with
    | @tup a o vs m _ hg hc hd hk =>
      simp only [NestedKey.depth] at hn
      cases n with
      | zero => omega
      | succ n =>
        have hT : s.TypeIs (.ref a) "tuple" := ⟨o, hg, hc⟩
        unfold ofAClassStatement
        refine wpAny_bind (wpAny_typeOf hT ?_)
        dsimp only
        have e : (("tuple" : String) == "tuple") = true := by decide
        simp only [e, if_true, Bool.not_true, Bool.false_eq_true, if_false]
        show wpAny _ _ (seqItems? (.ref a) >>= _) _ _ s
        refine wpAny_bind (wpAny_seqItems hg hd ?_)
        dsimp only
        refine wpAny_bind ?_
        show wpAny _ _ (forIn vs _ _) _ _ s
        rw [← Array.forIn_toList]
        refine wpAny_forIn_list _ (fun rest r s' => r.1 = none ∧ s' = s ∧ ∀ v ∈ rest, v ∈ vs.toList) _ ?_ ?_ _ _ ⟨rfl, rfl, fun _ z => z⟩
        · rintro v rest r s' ⟨hr, rfl, hall⟩
          refine wpAny_bind (oc_keys ks vs.toList n s' hk (by omega) v (hall v List.mem_cons_self) _ _ _ ?_)
          simp only [Bool.false_eq_true, if_false]
          exact wpAny_pure ⟨rfl, rfl, fun u hu' => hall u (List.mem_cons_of_mem _ hu')⟩
        · rintro ⟨r1, r2⟩ s' ⟨hr, rfl, _⟩
          simp only at hr
          subst hr
          exact wpAny_pure h
theorem oc_keys : ∀ (ks : List NestedKey) (vs : List Value) (n : Nat) (s : Shared), NestedAll s.heap ks vs → NestedKey.depthAll ks ≤ n → ∀ v ∈ vs, ∀ (A : Around) (E : Value → Shared → Prop) (Q : Bool → Shared → Prop), Q false s → wpAny (model P w) A (ofAClassStatement n v) Q E s
  | [], _, n, s, x, _, v, hv => by cases x; cases hv
  | k :: ks, _, n, s, x, hn, v, hv => by
    cases x with
    | cons x1 x2 =>
      simp only [NestedKey.depthAll] at hn
      rcases List.mem_cons.mp hv with e | hv
      · rw [e]; exact oc_key k _ n s x1 (by omega)
      · exact oc_keys ks _ n s x2 (by omega) v hv
end
end
section
variable {P : Program} {w : World} {A : Around} {E : Value → Shared → Prop} {s : Shared}
theorem quietN {k : NestedKey} {b : Addr} {Q : Bool → Shared → Prop} (hk : IsN s.heap k b) (h : Q true s) : wpAny (model P w) A (eqIsQuiet 8 (.ref b)) Q E s := quiet_key k _ 8 s hk.is (Nat.le_succ_of_le hk.dp) A E Q h
theorem seenN {k : NestedKey} {b : Addr} {Q : Bool → Shared → Prop} (hk : IsN s.heap k b) {ys : List Value} (hy : ∀ y ∈ ys, ∃ k' c, y = Value.ref c ∧ IsN s.heap k' c) (h : Q false s) : wpAny (model P w) A (searchCouldBeSeen (.ref b) ys) Q E s := by
  unfold searchCouldBeSeen
  refine wpAny_bind (wpAny_forIn_list _ (fun rest r s' => r.1 = none ∧ s' = s ∧ ∀ y ∈ rest, y ∈ ys) _ ?_ ?_ _ _ ⟨rfl, rfl, fun _ z => z⟩)
  · rintro v rest r s' ⟨hr, rfl, hall⟩
    obtain ⟨k', c, rfl, hc⟩ := hy v (hall v List.mem_cons_self)
    have more : ∀ y ∈ rest, y ∈ ys := fun u z => hall u (List.mem_cons_of_mem _ z)
    dsimp only
    by_cases hv : (b == c || (carriedByValue (.ref b) && carriedByValue (.ref c))) = true
    · exact wp_if_pos hv (wpAny_pure ⟨rfl, rfl, more⟩)
    · refine wp_if_neg hv (wpAny_bind (quietN hk ?_))
      simp only [Bool.not_true, Bool.false_eq_true, if_false]
      refine wpAny_bind (quietN hc ?_)
      simp only [Bool.not_true, Bool.false_eq_true, if_false]
      refine wpAny_bind (oc_key _ _ 8 s' hk.is (Nat.le_succ_of_le hk.dp) _ _ _ ?_)
      simp only [Bool.false_eq_true, if_false]
      refine wpAny_bind (oc_key _ _ 8 s' hc.is (Nat.le_succ_of_le hc.dp) _ _ _ ?_)
      simp only [Bool.false_eq_true, if_false]
      exact wpAny_pure ⟨rfl, rfl, more⟩
  · rintro ⟨r1, r2⟩ s' ⟨hr, rfl, _⟩
    simp only at hr
    subst hr
    exact wpAny_pure h
/-- what the set has got from the first i items -/
structure GotN (ks : NL) (i : Nat) (L : NL) : Prop where
  sub : ∀ q ∈ L, q ∈ ks.take i
  all : ∀ q ∈ ks.take i, q.2 ∈ L.map Prod.snd
  len : L.length ≤ i
theorem GotN.zero (ks : NL) : GotN ks 0 [] := ⟨fun _ h => (by cases h), fun _ h => (by simp at h), Nat.le_refl _⟩
theorem GotN.same {ks L : NL} {i : Nat} {x : Addr × NestedKey} (g : GotN ks i L) (h : ks[i]? = some x) (hm : x.2 ∈ L.map Prod.snd) : GotN ks (i + 1) L := by
  have e := take_next h
  refine ⟨fun q hq => ?_, fun q hq => ?_, Nat.le_succ_of_le g.len⟩
  · rw [e]; exact List.mem_append_left _ (g.sub q hq)
  · rw [e] at hq
    rcases List.mem_append.mp hq with hq | hq
    · exact g.all q hq
    · rw [List.mem_singleton.mp hq]; exact hm
theorem GotN.more {ks L L' : NL} {i : Nat} {x : Addr × NestedKey} (g : GotN ks i L) (h : ks[i]? = some x) (pm : L'.Perm (x :: L)) : GotN ks (i + 1) L' := by
  have e := take_next h
  refine ⟨fun q hq => ?_, fun q hq => ?_, ?_⟩
  · rw [e]
    rcases List.mem_cons.mp (pm.mem_iff.mp hq) with z | z
    · exact List.mem_append_right _ (by rw [z]; exact List.mem_singleton.mpr rfl)
    · exact List.mem_append_left _ (g.sub q z)
  · rw [e] at hq
    have m : ∀ k, k ∈ (x :: L).map Prod.snd → k ∈ L'.map Prod.snd := fun k hk => (pm.map Prod.snd).mem_iff.mpr hk
    rcases List.mem_append.mp hq with hq | hq
    · exact m _ (List.mem_cons_of_mem _ (g.all q hq))
    · rw [List.mem_singleton.mp hq]; exact m _ List.mem_cons_self
  · rw [pm.length_eq, List.length_cons]
    exact Nat.succ_le_succ g.len
theorem range_pick {α : Type} : ∀ L : List α, (List.range L.length).filterMap (fun i => L[i]?) = L
  | [] => rfl
  | x :: r => by
    rw [List.length_cons, List.range_succ_eq_map]
    have e : (0 :: List.map Nat.succ (List.range r.length)).filterMap (fun i => (x :: r)[i]?) = x :: (List.map Nat.succ (List.range r.length)).filterMap (fun i => (x :: r)[i]?) := List.filterMap_cons_some rfl
    rw [e, List.filterMap_map]
    exact congrArg (x :: ·) (range_pick r)
/-- rows taken in another order -/
theorem pick_rows {α : Type} (L : List α) (f : α → Int × Value) (es : Array (Int × Value)) (order : Array Nat) (hr : es.toList = L.map f) (hp : order.toList.Perm (List.range L.length)) :
    ∃ M : List α, (order.filterMap (es[·]?)).toList = M.map f ∧ M.Perm L ∧ M.map (fun x => (f x).1) = order.toList.map fun i => (es.map (·.1)).getD i 0 := by
  have at_ : ∀ i, es[i]? = (L[i]?).map f := fun i => by rw [← Array.getElem?_toList, hr, List.getElem?_map]
  refine ⟨order.toList.filterMap (fun i => L[i]?), ?_, ?_, ?_⟩
  · rw [Array.toList_filterMap, List.map_filterMap]
    exact congrArg (fun g => List.filterMap g order.toList) (funext at_)
  · have := hp.filterMap (fun i => L[i]?)
    rwa [range_pick] at this
  · have lt : ∀ i ∈ order.toList, i < L.length := fun i hi => List.mem_range.mp (hp.mem_iff.mp hi)
    generalize order.toList = l at lt
    induction l with
    | nil => rfl
    | cons i l ih =>
      have hi := lt i List.mem_cons_self
      rw [List.filterMap_cons_some (List.getElem?_eq_getElem hi), List.map_cons, List.map_cons, ih fun j hj => lt j (List.mem_cons_of_mem _ hj)]
      have e : (es.map (·.1)).getD i 0 = (f L[i]).1 := by
        have e5 : (es.map (·.1))[i]? = some (f L[i]).1 := by rw [Array.getElem?_map, at_, List.getElem?_eq_getElem hi]; rfl
        simp [Array.getD_eq_getD_getElem?, e5]
      rw [e]
end
section
variable (w : World)
structure NestSet (h : Heap) (a : Addr) (L : NL) (es : Array (Int × Value)) (ep : Nat) (t : SetTable) : Prop where
  obj : ∃ ob, h.get? a = some ob ∧ ob.ExactSet ∧ ob.data = .set es ep t
  row : es.toList = rowN w L
  tab : TabOk t (L.map fun q => nhash w q.2)
  dis : (L.map Prod.snd).Nodup
  isT : ∀ q ∈ L, IsN h q.2 q.1
  pla : t.plain = true
  ldd : w.params.followText "set-order" = true ∨ t.led = true
  spc : L.length * 5 < t.mask * 3
end
section
variable {P : Program} {w : World} {A : Around} {E : Value → Shared → Prop} {s : Shared} {a : Addr} {L : NL} {es : Array (Int × Value)} {ep : Nat} {t : SetTable}
theorem NestSet.few {h : Heap} (b : NestSet w h a L es ep t) : L.length ≤ 76 := by
  have r := b.spc
  rcases b.tab.mok with e | e | e <;> rw [e] at r <;> omega
theorem NestSet.cnt {h : Heap} (b : NestSet w h a L es ep t) : es.size = L.length := by
  rw [← Array.length_toList, b.row]
  simp [rowN]
theorem NestSet.ent {h : Heap} (b : NestSet w h a L es ep t) {i : Nat} {q : Addr × NestedKey} (e : L[i]? = some q) : es[i]? = some (nhash w q.2, Value.ref q.1) := by
  rw [← Array.getElem?_toList, b.row, rowN, List.getElem?_map, e]
  rfl
theorem NestSet.fit {h : Heap} (b : NestSet w h a L es ep t) : t.fits es.size = true := by
  have z := b.tab.sz
  rw [List.length_map] at z
  have y := b.cnt
  have x := b.spc
  unfold SetTable.fits SetTable.fill
  rw [b.tab.dm, Bool.and_eq_true, beq_iff_eq, decide_eq_true_eq]
  refine ⟨by omega, ?_⟩
  show t.place.size + 0 ≤ t.mask
  omega
theorem NestSet.going {h : Heap} (b : NestSet w h a L es ep t) : ¬ t.gaveWay = true := by
  unfold SetTable.gaveWay
  rw [mask_odd b.tab.mok]
  decide
theorem prbN_dummy (m : Nat) (h : Int) : ∀ c, (prb m h c).dummy = none := by
  have one : ∀ p : SetTable.Probe, p.dummy = none → (adv m p).dummy = none := fun p e => by
    unfold adv
    split <;> exact e
  have all : ∀ (c : Nat) (p : SetTable.Probe), p.dummy = none → (nth m p c).dummy = none := fun c => by
    induction c with
    | zero => exact fun _ e => e
    | succ c ih => exact fun p e => ih _ (one p e)
  exact fun c => all c _ rfl
/-- what a probe meets from its c-th step on, the way being taken up to K -/
theorem metN_of (T : TabOk t (L.map fun q => nhash w q.2)) (hr : es.toList = rowN w L) (h : Int) {c K : Nat} (hc : c ≤ K) (hK : K < 10 * SetTable.turns t.mask) (free : way t.mask h K ∉ t.place.toList) (taken : ∀ d, d < K → way t.mask h d ∈ t.place.toList) :
    (∃ (d i : Nat) (q : Addr × NestedKey), c ≤ d ∧ d < K ∧ t.place.toList[i]? = some (way t.mask h d) ∧ L[i]? = some q ∧ (∀ (d' i' : Nat) (q' : Addr × NestedKey), c ≤ d' → d' < d → t.place.toList[i']? = some (way t.mask h d') → L[i']? = some q' → nhash w q'.2 ≠ h) ∧
      t.probe (fun i => (es[i]?.map (·.1)).getD 0) h (prb t.mask h c) = some (.candidate (way t.mask h d) i (prb t.mask h (d + 1)))) ∨
    ((∀ (d' i' : Nat) (q' : Addr × NestedKey), c ≤ d' → d' < K → t.place.toList[i']? = some (way t.mask h d') → L[i']? = some q' → nhash w q'.2 ≠ h) ∧ t.probe (fun i => (es[i]?.map (·.1)).getD 0) h (prb t.mask h c) = some (.empty (way t.mask h K) none)) := by
  have at_ : ∀ {i : Nat} {q : Addr × NestedKey}, L[i]? = some q → (es[i]?.map (·.1)).getD 0 = nhash w q.2 := fun {i q} e => by
    have : es[i]? = some (nhash w q.2, Value.ref q.1) := by
      rw [← Array.getElem?_toList, hr, rowN, List.getElem?_map, e]; rfl
    rw [this]; rfl
  have shift : ∀ d, nth t.mask (prb t.mask h c) d = prb t.mask h (c + d) := fun d => (nth_add t.mask c _ d).symm
  have back : ∀ {d' : Nat}, c ≤ d' → (nth t.mask (prb t.mask h c) (d' - c)).j = way t.mask h d' := fun {d'} z => by
    rw [shift, Nat.add_sub_cancel' z]
  rcases go_spec t T.ris T.dm (fun i => (es[i]?.map (·.1)).getD 0) h (10 * SetTable.turns t.mask) (K - c) _ (prbN_dummy t.mask h c) (by omega) (fun d hd => by rw [shift]; exact taken _ (by omega)) (by rw [back hc]; exact free) with ⟨d, i, h1, h2, h3, h4, h5⟩ | ⟨h4, h5⟩
  · rw [shift] at h2 h5
    rw [shift] at h5
    have hi : i < L.length := by
      have z := (List.getElem?_eq_some_iff.mp h2).1
      rw [Array.length_toList, T.sz, List.length_map] at z
      exact z
    refine .inl ⟨c + d, i, L[i], Nat.le_add_right _ _, by omega, h2, List.getElem?_eq_getElem hi, fun d' i' q' z1 z2 z3 z4 e => ?_, h5⟩
    exact h4 (d' - c) i' (by omega) (by rw [back z1]; exact z3) ((at_ z4).trans e)
  · rw [back hc] at h5
    refine .inr ⟨fun d' i' q' z1 z2 z3 z4 e => ?_, h5⟩
    exact h4 (d' - c) i' (by omega) (by rw [back z1]; exact z3) ((at_ z4).trans e)
/-- the search goes on from the c-th step -/
theorem NestSet.seek (b : NestSet w s.heap a L es ep t) {x : Addr} {k : NestedKey} (hx : IsN s.heap k x) (hu : A.units + 8 < cLine) {K : Nat} (hK : K < 10 * SetTable.turns t.mask) (free : way t.mask (nhash w k) K ∉ t.place.toList)
    (taken : ∀ d, d < K → way t.mask (nhash w k) d ∈ t.place.toList) {Q : SetFound → Shared → Prop} (there : k ∈ L.map Prod.snd → Q (.there none) s) (gone : k ∉ L.map Prod.snd → Q (.free (way t.mask (nhash w k) K) false) s) :
    ∀ (fuel c : Nat) (st : Option SetTable.Probe), st.getD (t.probeStart (nhash w k)) = prb t.mask (nhash w k) c → c ≤ K → K < c + fuel → (∀ (i : Nat) (q : Addr × NestedKey), L[i]? = some q → q.2 = k → ∃ d, c ≤ d ∧ d < K ∧ t.place.toList[i]? = some (way t.mask (nhash w k) d)) →
      wpAny (model P w) A (setSearchFrom a (.ref x) (nhash w k) true fuel st) Q E s := by
  obtain ⟨ob, ho, hex, hd⟩ := b.obj
  intro fuel
  induction fuel with
  | zero => exact fun c st _ z1 z2 => absurd z2 (by omega)
  | succ fuel ih =>
    intro c st hst hc hf hold
    rw [setSearchFrom_succ]
    refine wpAny_bind (wpAny_setState_of ho hd b.fit ?_)
    dsimp only
    refine wp_if_neg b.going ?_
    rcases metN_of b.tab b.row (nhash w k) hc hK free taken with ⟨d, i, q, h1, h2, h3, h4, h5, h6⟩ | ⟨h5, h6⟩
    · rw [← hst] at h6
      rw [h6]
      dsimp only
      have live : t.slot (way t.mask (nhash w k) d) = .live i := slot_live b.tab.ris h3
      have go : wpAny (model P w) A (searchRest a (.ref x) (nhash w k) true fuel es t (way t.mask (nhash w k) d) i (prb t.mask (nhash w k) (d + 1))) Q E s := by
        unfold searchRest
        rw [b.ent h4]
        dsimp only
        refine wpAny_bind (wpAny_holding (eqAt_key _ _ A s _ _ (b.isT q (List.mem_of_getElem? h4)).is hx.is (by have := hx.dp; omega) _ _ _ _ ?_))
        rw [← NestedKey.decide_eq]
        refine wpAny_bind (wpAny_setState_of ho hd b.fit ?_)
        dsimp only
        by_cases hq : q.2 = k
        · exact wp_if_pos (by simp [hq]) (wpAny_pure (there (List.mem_map.mpr ⟨q, List.mem_of_getElem? h4, hq⟩)))
        · refine wp_if_neg (by simp [hq]) ?_
          rw [sameMem]
          dsimp only
          simp only [if_true, live, b.ent h4]
          refine wpAny_bind (wpAny_isSame_ref_self (wpAny_bind (wpAny_pure ?_)))
          simp only [if_true]
          refine wp_if_neg (by simp [hq]) (ih (d + 1) _ rfl h2 (by omega) fun i0 q0 z1 z2 => ?_)
          obtain ⟨d0, y1, y2, y3⟩ := hold i0 q0 z1 z2
          refine ⟨d0, ?_, y2, y3⟩
          have n1 : ¬ d0 < d := fun z => h5 d0 i0 q0 y1 z y3 z1 (by rw [z2])
          have n2 : d0 ≠ d := fun z => by
            rw [z] at y3
            have z3 := slot_live b.tab.ris y3
            rw [live] at z3
            injection z3 with z3
            rw [← z3, h4] at z1
            cases z1
            exact hq z2
          omega
      by_cases hl : t.led = true
      · exact wp_if_neg (by simp [hl]) go
      · refine wp_if_pos (by simp [hl]) (wpAny_bind (seenN hx (fun y hy => ?_) (wp_if_neg (by decide) go)))
        obtain ⟨e, he, rfl⟩ := List.mem_map.mp hy
        have he : e ∈ es := by
          have z : e ∈ es ∧ e.1 = nhash w k := by simpa using he
          exact z.1
        have he : e ∈ rowN w L := by rw [← b.row]; simpa using he
        obtain ⟨q2, z1, rfl⟩ := List.mem_map.mp he
        exact ⟨q2.2, q2.1, rfl, b.isT q2 z1⟩
    · rw [← hst] at h6
      rw [h6]
      dsimp only
      refine wpAny_pure (gone fun hm => ?_)
      obtain ⟨q0, m0, e0⟩ := List.mem_map.mp hm
      obtain ⟨i0, l0, e1⟩ := List.getElem_of_mem m0
      have g0 : L[i0]? = some q0 := by rw [List.getElem?_eq_getElem l0, e1]
      obtain ⟨d0, y1, y2, y3⟩ := hold i0 q0 g0 e0
      exact h5 d0 i0 q0 y1 y2 y3 g0 (by rw [e0])
theorem NestSet.ask (b : NestSet w s.heap a L es ep t) {x : Addr} {k : NestedKey} (hx : IsN s.heap k x) (hu : A.units + 8 < cLine) {Q : SetFound → Shared → Prop} (there : k ∈ L.map Prod.snd → Q (.there none) s)
    (gone : ∀ K, k ∉ L.map Prod.snd → way t.mask (nhash w k) K ∉ t.place.toList → (∀ d, d < K → way t.mask (nhash w k) d ∈ t.place.toList) → Q (.free (way t.mask (nhash w k) K) false) s) :
    wpAny (model P w) A (setSearch a (.ref x) (nhash w k) true) Q E s := by
  have sp := b.spc
  obtain ⟨K, hK, free, taken⟩ := b.tab.first (by rw [List.length_map]; omega) (nhash w k)
  have hKs : K < 100000 := by
    have z : SetTable.turns t.mask ≤ 5000 := by
      unfold SetTable.turns
      rcases b.tab.mok with e | e | e <;> omega
    omega
  unfold setSearch
  refine b.seek hx hu hK free taken there (fun hn => gone K hn free taken) 100000 0 none rfl (Nat.zero_le _) (by omega) fun i q hq hk => ?_
  have g : (L.map fun q => nhash w q.2)[i]? = some (nhash w k) := by rw [List.getElem?_map, hq, ← hk]; rfl
  have hi : i < t.place.toList.length := by
    rw [Array.length_toList, b.tab.sz, List.length_map]
    exact (List.getElem?_eq_some_iff.mp hq).1
  obtain ⟨d, y1, y2⟩ := b.tab.before free g (List.getElem?_eq_getElem hi)
  exact ⟨d, Nat.zero_le _, y1, by rw [List.getElem?_eq_getElem hi, y2]⟩
/-- the table laid anew, larger -/
theorem relayN {ob : Obj} (ho : s.heap.get? a = some ob) (hex : ob.ExactSet) (hd : ob.data = .set es ep t) (hr : es.toList = rowN w L) (hsz : t.place.size = es.size) (hdm : t.dummies = #[]) (hfl : es.size ≤ t.mask) (nd : (L.map Prod.snd).Nodup) (all : ∀ q ∈ L, IsN s.heap q.2 q.1)
    (pl : t.plain = true) (ld : w.params.followText "set-order" = true ∨ t.led = true) {wanted M : Nat} (hw : SetTable.sizeAbove wanted - 1 = M) (hM : MaskOk M) (hw2 : SetTable.sizeAbove wanted ≤ 128) (hn : L.length * 5 < M * 3) {Q : Unit → Shared → Prop}
    (hQ : ∀ h' L' es' ep' t', Heap.SameBut a s.heap h' → NestSet w h' a L' es' ep' t' → L'.Perm L → Q () { s with heap := h' }) : wpAny (model P w) A (setRelay a wanted) Q E s := by
  have cn : es.size = L.length := by
    rw [← Array.length_toList, hr]
    simp [rowN]
  have ft : t.fits es.size = true := by
    unfold SetTable.fits SetTable.fill
    rw [hdm, Bool.and_eq_true, beq_iff_eq, decide_eq_true_eq]
    refine ⟨hsz, ?_⟩
    show t.place.size + 0 ≤ t.mask
    omega
  obtain ⟨t2, order, e, hp, tb, em, el, epl, _⟩ := relaid_ok t (hs := es.map (·.1)) (wanted := wanted) hw hM (by rw [Array.size_map]; omega)
  rw [Array.size_map, cn] at hp
  obtain ⟨L2, r1, r2, r3⟩ := pick_rows L (fun q => (nhash w q.2, Value.ref q.1)) es order hr hp
  rw [← r3] at tb
  have sz2 : (order.filterMap (es[·]?)).size = es.size := by
    rw [← Array.length_toList, r1, List.length_map, r2.length_eq, cn]
  rw [setRelay_eq]
  refine wpAny_bind (wpAny_setState_of ho hd ft ?_)
  dsimp only
  refine wp_if_neg (by rw [sizeLine_eq]; omega) ?_
  rw [e]
  dsimp only
  refine wpAny_bind ?_
  refine wp_if_neg (by rw [sz2]; simp) (wpAny_pure ?_)
  dsimp only
  have few : L.length ≤ 76 := by rcases hM with z | z | z <;> rw [z] at hn <;> omega
  refine wpAny_storeSet_of ho hd ?_ (by rw [sz2, cn, sizeLine_eq]; omega)
  have sb : Heap.SameBut a s.heap (s.heap.update a (Obj.putSet (order.filterMap (es[·]?)) t2)) := Heap.SameBut.update ..
  refine hQ _ L2 (order.filterMap (es[·]?)) (ep + 1) t2 sb ⟨⟨_, store_at ho hd, ⟨hex.1, hex.2.1, hex.2.2⟩, rfl⟩, r1, tb, (r2.map Prod.snd).nodup_iff.mpr nd, fun q hq => IsN.but (all q (r2.mem_iff.mp hq)) ho hd sb, by rw [epl]; exact pl, by rw [el]; exact ld, ?_⟩ r2
  rw [r2.length_eq, em]
  exact hn
/-- adding -/
theorem NestSet.put (b : NestSet w s.heap a L es ep t) {x : Addr} {k : NestedKey} (hx : IsN s.heap k x) (hu : A.units + 8 < cLine) (hl : L.length + 1 ≤ 76) {Q : Bool → Shared → Prop}
    (hQ : ∀ r h' L' es' ep' t', Heap.SameBut a s.heap h' → NestSet w h' a L' es' ep' t' → (k ∈ L.map Prod.snd → L' = L) → (k ∉ L.map Prod.snd → L'.Perm ((x, k) :: L)) → Q r { s with heap := h' }) :
    wpAny (model P w) A (setAddHashed a (.ref x) (nhash w k)) Q E s := by
  obtain ⟨ob, ho, hex, hd⟩ := b.obj
  have cn := b.cnt
  have fw := b.few
  unfold setAddHashed
  refine wpAny_holding ?_
  rw [show (100000 : Nat) = 99999 + 1 from rfl, setAddHashedIn_succ]
  refine wpAny_bind (wpAny_setState_of ho hd b.fit ?_)
  dsimp only
  refine wp_if_neg (by simp [byScan, Value.scannable]) ?_
  refine wpAny_bind (b.ask hx hu (fun hm => wpAny_pure (hQ _ s.heap L es ep t (Heap.SameBut.refl a s.heap) b (fun _ => rfl) fun z => absurd hm z)) fun K hm free taken => ?_)
  dsimp only
  refine wpAny_bind (wpAny_setState_of ho hd b.fit ?_)
  dsimp only
  obtain ⟨p1, p2, p3, p4, p5, p6, p7, p8, p9⟩ := b.tab.put free taken
  have pl : (t.put (way t.mask (nhash w k) K)).1.plain = true := p6.trans b.pla
  generalize t.put (way t.mask (nhash w k) K) = tp at p1 p3 p4 p5 p6 p7 p8 p9 pl ⊢
  obtain ⟨t1, j⟩ := tp
  dsimp only at p1 p3 p4 p5 p6 p7 p8 p9 pl ⊢
  rw [← p1] at p2 p3
  refine wp_if_pos pl (wpAny_bind (hb_key _ _ 8 _ hx.is (Nat.le_succ_of_le hx.dp) hx.nt _ _ _ ?_))
  simp only [if_true]
  have er : (SetTable.insertAt es j (nhash w k, Value.ref x)).toList = rowN w (L.take j ++ (x, k) :: L.drop j) := by
    rw [SetTable.toList_insertAt, b.row]
    unfold rowN
    rw [List.map_append, List.map_cons, List.map_take, List.map_drop]
  have pm := put_perm L j (x, k)
  have eh : (L.map fun q => nhash w q.2).take j ++ nhash w k :: (L.map fun q => nhash w q.2).drop j = (L.take j ++ (x, k) :: L.drop j).map fun q => nhash w q.2 := by
    rw [List.map_append, List.map_cons, List.map_take, List.map_drop]
  rw [eh] at p3
  have len1 := pm.length_eq
  rw [List.length_cons] at len1
  have sz1 : (SetTable.insertAt es j (nhash w k, Value.ref x)).size = L.length + 1 := by
    rw [← Array.length_toList, er, rowN, List.length_map]
    exact len1
  have dis1 : ((L.take j ++ (x, k) :: L.drop j).map Prod.snd).Nodup := (pm.map Prod.snd).nodup_iff.mpr (List.nodup_cons.mpr ⟨hm, b.dis⟩)
  generalize SetTable.insertAt es j (nhash w k, Value.ref x) = es1 at er sz1 ⊢
  generalize L.take j ++ (x, k) :: L.drop j = L1 at pm p3 er len1 dis1
  refine wpAny_bind (wpAny_storeSet_of ho hd ?_ (by rw [sz1, sizeLine_eq]; omega))
  have sb : Heap.SameBut a s.heap (s.heap.update a (Obj.putSet es1 t1)) := Heap.SameBut.update ..
  have ho1 := store_at (es' := es1) (t' := t1) ho hd
  have ld1 : w.params.followText "set-order" = true ∨ t1.led = true := by rw [p5]; exact b.ldd
  generalize s.heap.update a (Obj.putSet es1 t1) = h1 at sb ho1 ⊢
  have all1 : ∀ q ∈ L1, IsN h1 q.2 q.1 := fun q hq => by
    rcases List.mem_cons.mp (pm.mem_iff.mp hq) with rfl | z
    · exact IsN.but hx ho hd sb
    · exact IsN.but (b.isT q z) ho hd sb
  have sp := b.spc
  by_cases tf : t1.tooFull = true
  · have full : (L.length + 1) * 5 ≥ t.mask * 3 := by
      have z := tf
      unfold SetTable.tooFull at z
      rw [decide_eq_true_eq, p9, List.length_map, p4] at z
      exact z
    have two : (t.mask = 7 ∧ L.length = 4) ∨ (t.mask = 31 ∧ L.length = 18) := by
      rcases b.tab.mok with e | e | e <;> rw [e] at full sp
      · exact .inl ⟨e, by omega⟩
      · exact .inr ⟨e, by omega⟩
      · omega
    refine wp_if_pos (by simp [tf]) (wpAny_bind ?_)
    rw [cn]
    have go : ∀ M, SetTable.sizeAbove (SetTable.grown (L.length + 1)) - 1 = M → MaskOk M → SetTable.sizeAbove (SetTable.grown (L.length + 1)) ≤ 128 → (L.length + 1) * 5 < M * 3 → wpAny (model P w) A (setRelay a (SetTable.grown (L.length + 1))) (fun _ s' => wpAny (model P w) A (pure true) Q E s') E { s with heap := h1 } := fun M e1 e2 e3 e4 => by
      refine relayN (s := { s with heap := h1 }) (L := L1) ho1 ⟨hex.1, hex.2.1, hex.2.2⟩ rfl er ?_ p3.dm ?_ dis1 all1 pl ld1 e1 e2 e3 (by rw [len1]; exact e4) fun h2 L2 es2 ep2 t2 sb2 b2 pm2 => wpAny_pure (hQ true h2 L2 es2 ep2 t2 (sb.trans sb2) b2 (fun z => absurd z hm) fun _ => pm2.trans pm)
      · have z := p3.sz
        rw [List.length_map, len1] at z
        rw [z, sz1]
      · rw [sz1, p4]
        rcases two with ⟨z1, z2⟩ | ⟨z1, z2⟩ <;> omega
    rcases two with ⟨_, z⟩ | ⟨_, z⟩
    · exact go 31 (by rw [z, size_20]) (.inr (.inl rfl)) (by rw [z, size_20]; decide) (by omega)
    · exact go 127 (by rw [z, size_76]) (.inr (.inr rfl)) (by rw [z, size_76]; decide) (by omega)
  · refine wp_if_neg (by simp [tf]) (wpAny_pure (hQ _ _ L1 es1 (ep + 1) t1 sb ⟨⟨_, ho1, ⟨hex.1, hex.2.1, hex.2.2⟩, rfl⟩, er, p3, dis1, all1, pl, ld1, ?_⟩ (fun z => absurd z hm) fun _ => pm))
    have z := tf
    unfold SetTable.tooFull at z
    rw [decide_eq_true_eq, p9, List.length_map] at z
    omega
theorem NestSet.keep {h h' : Heap} (b : NestSet w h a L es ep t) (ka : ∀ o, h.get? a = some o → h'.get? a = some o) (kt : ∀ q ∈ L, IsN h' q.2 q.1) : NestSet w h' a L es ep t := by
  obtain ⟨ob, ho, r⟩ := b.obj
  exact ⟨⟨ob, ka ob ho, r⟩, b.row, b.tab, b.dis, kt, b.pla, b.ldd, b.spc⟩
/-- an empty set -/
theorem nest_fresh (P : Program) {h : Heap} {a : Addr} (ho : h.get? a = some { cls := .type "set", dict := none, data := .set #[] 0 (.fresh 0 0 (!w.params.followText "set-order")) }) : NestSet w h a [] #[] 0 (.fresh 0 0 (!w.params.followText "set-order")) := by
  have r := setTR_fresh (P := P) (w := w) ho
  exact ⟨r.ob, rfl, r.tab, List.nodup_nil, fun _ z => (by cases z), r.plain, r.led, r.room⟩
/-- what set.update's loop does with a walk over tuples -/
theorem fill_loopN {I : Addr} {fp wr : List Addr} {G : Array GenState → Array GenState → Prop} {n : Nat} {Pv : Nat → Value → Prop} {Sg : Nat → Shared → Prop} {R : Result → Shared → Prop} (W : WalksS P w A.in1 I fp wr G n Pv Sg) (D : Addr) (nD : D ∉ fp) (ks : NL)
    (en : n = ks.length) (hl : ks.length ≤ 76) (val : ∀ i v, Pv i v → ∃ q, ks[i]? = some q ∧ v = .ref q.1) (g : Heap) (hk : ∀ q ∈ ks, IsN g q.2 q.1) (fD : g.get? D = none) (fw : ∀ b ∈ wr, g.get? b = none) (hu : A.in1.units + 8 < cLine) :
    ∀ (m i : Nat) (s : Shared), i + m = n → Sg i s → (∀ b o, g.get? b = some o → s.heap.get? b = some o) → (∃ L es ep t, NestSet w s.heap D L es ep t ∧ GotN ks i L) →
      (∀ s' L es ep t, Moved (D :: wr) G s s' → NestSet w s'.heap D L es ep t → GotN ks n L → (∀ b o, g.get? b = some o → s'.heap.get? b = some o) → R (.ok (.ret .none)) s') → codeAny (model P w) A (.builtin "set.update.loop" ⟨[.ref D, .ref I], []⟩) R s := by
  have nDw : D ∉ wr := fun z => nD (W.sub _ z)
  have up : ∀ {s s' : Shared}, Moved wr G s s' → (∀ b o, g.get? b = some o → s.heap.get? b = some o) → ∀ b o, g.get? b = some o → s'.heap.get? b = some o := fun mv kp b o e => mv.heap b o (fun z => by rw [fw b z] at e; cases e) (kp b o e)
  intro m
  induction m with
  | zero =>
    intro i s hi hst kp ⟨L, es, ep, t, hS, got⟩ hR
    obtain rfl : i = n := hi
    refine codeAny_builtin F.entry_set_update_loop ?_
    rw [Around.under_plainId F.plain_set_update_loop _]
    show wpAny _ A.in1 (pyNext (.ref I) >>= _) _ _ s
    refine wpAny_bind (W.done s _ _ hst fun s1 mv => ?_)
    have kp1 := up mv kp
    exact wpAny_pure (hR s1 L es ep t (mv.mono fun b z => List.mem_cons_of_mem _ z) (hS.keep (fun o e => mv.heap D o nDw e) fun q hq => IsN.kp (hk q (List.mem_of_mem_take (got.sub q hq))) kp1) got kp1)
  | succ m ih =>
    intro i s hi hst kp ⟨L, es, ep, t, hS, got⟩ hR
    refine codeAny_builtin F.entry_set_update_loop ?_
    rw [Around.under_plainId F.plain_set_update_loop _]
    show wpAny _ A.in1 (pyNext (.ref I) >>= _) _ _ s
    refine wpAny_bind (W.item i s _ _ (by omega) hst fun v s1 hv hst1 mv => ?_)
    obtain ⟨q, hq, rfl⟩ := val i v hv
    have kp1 := up mv kp
    have hS1 := hS.keep (h' := s1.heap) (fun o e => mv.heap D o nDw e) fun r hr => IsN.kp (hk r (List.mem_of_mem_take (got.sub r hr))) kp1
    have hx := IsN.kp (hk q (List.mem_of_getElem? hq)) kp1
    have hlen := got.len
    show wpAny _ A.in1 (holding [Value.ref q.1] (setAdd D (.ref q.1)) >>= _) _ _ s1
    refine wpAny_bind (wpAny_holding ?_)
    unfold setAdd
    refine wpAny_holding (wpAny_bind (pyHash_key _ _ _ _ _ hx.is (by have := hx.dp; omega) ?_))
    refine NestSet.put (s := { s1 with toks := s1.toks + q.2.draws }) hS1 hx hu (by omega) fun r h2 L2 es2 ep2 t2 sb hS2 c1 c2 => ?_
    have kp2 : ∀ b o, g.get? b = some o → h2.get? b = some o := fun b o e => (sb.2 b fun z => by rw [z, fD] at e; cases e).trans (kp1 b o e)
    have got2 : GotN ks (i + 1) L2 := by
      by_cases z : q.2 ∈ L.map Prod.snd
      · rw [c1 z]; exact got.same hq z
      · exact got.more hq (c2 z)
    refine wpAny_pure ⟨plainId_quiet F.plain_set_update_loop _, ih (i + 1) _ (by omega) (W.frame _ s1 _ _ hst1 (Nat.le_add_right _ _) fun b hb o e => ?_) kp2 ⟨L2, es2, ep2, t2, hS2, got2⟩ fun s3 L3 es3 ep3 t3 mv3 hS3 got3 kp3 => ?_⟩
    · rw [sb.2 b fun z => nD (by rw [← z]; exact hb)]; exact e
    · refine hR s3 L3 es3 ep3 t3 (Moved.trans W.gtrans ((mv.mono fun b z => List.mem_cons_of_mem _ z).then_heap (Nat.le_add_right _ _) fun b o hb e => ?_) mv3) hS3 got3 kp3
      rw [sb.2 b fun z => hb (by rw [z]; exact List.mem_cons_self)]; exact e
/-- an empty set, just made -/
abbrev setN0 (w : World) : Obj := { cls := .type "set", dict := none, data := .set #[] 0 (.fresh 0 0 (!w.params.followText "set-order")) }
theorem pushN_none {h : Heap} {b : Addr} (z : h.objs.size ≤ b) : h.get? b = none := by
  cases e : h.get? b with
  | none => rfl
  | some o => exact absurd (Heap.lt_size e) (Nat.not_lt.mpr z)
set_option maxHeartbeats 8000000 in
/-- set(xs), xs a list of up to 76 tuples -/
theorem set_of_nest {l : Addr} {items : Array Value} (ks : NL) {Q : Value → Shared → Prop} (hh : A.handled = none) (hl : s.heap.IsList l items) (hit : items.toList = ks.map fun q => Value.ref q.1) (hk : ∀ q ∈ ks, IsN s.heap q.2 q.1) (h76 : ks.length ≤ 76) (hu : A.units + 12 < cLine)
    (hQ : ∀ (h' : Heap) (tk : Nat) L es ep t, NestSet w h' s.heap.objs.size L es ep t → GotN ks ks.length L → (∀ b o, s.heap.get? b = some o → h'.get? b = some o) → Q (.ref s.heap.objs.size) { s with heap := h', toks := tk }) :
    wpAny (model P w) A (call (.type "set") [.ref l]) Q E s := by
  have size_ks : items.size = ks.length := by rw [← Array.length_toList, hit, List.length_map]
  obtain ⟨c, tl, in_mro⟩ := F.called_set.mro
  have is_made := F.called_set.made
  have is_sub := F.called_set.sub
  refine wpAny_call (codeAny_of_tree ?_)
  show wpAny _ _ (callAny (.type "set") _) _ _ _
  refine wpAny_pure ⟨Code.quiet_builtin _ (by decide +kernel), codeAny_builtin F.entry_type_call ?_⟩
  rw [Around.under_plain (weight_type_call_type "set" [.ref l] []) rfl]
  have no_type := F.called_set.notType
  have may_make := F.called_set.canCreate
  have asked := F.typeCall_set_1 (.ref l)
  repeat (any_goals (first | assumption | wp_step))
  refine codeAny_mono (code_set_led1 (.ref l) (E := E) (Q₁ := fun v s1 => v = .ref s.heap.objs.size ∧ s1 = { s with heap := s.heap.push (setN0 w) }) ⟨rfl, rfl⟩) fun r s1 hr => ?_
  rcases r with er | (_ | _ | _ | v)
  · exact hr
  · exact hr.elim
  · exact hr.elim
  · exact hr.elim
  · obtain ⟨rfl, rfl⟩ := hr
    have at0 : (s.heap.push (setN0 w)).get? s.heap.objs.size = some (setN0 w) := Heap.get?_push_size _ rfl
    have ty0 : Shared.TypeIs { s with heap := s.heap.push (setN0 w) } (.ref s.heap.objs.size) "set" := ⟨_, at0, rfl⟩
    have init_is := F.called_set.init.lookup
    have init_by := F.called_set.init.bind (.ref s.heap.objs.size)
    repeat (any_goals (first | assumption | wp_step))
    refine codeAny_mono (codeAny_call_builtin (R := wants (fun v s2 => v = .none ∧ ∃ h' tk L es ep t, s2 = { s with heap := h', toks := tk } ∧ NestSet w h' s.heap.objs.size L es ep t ∧ GotN ks ks.length L ∧ ∀ b o, s.heap.get? b = some o → h'.get? b = some o) E)
      F.called_set.init.plain F.entry_set_init (check_set_init_1 ty0 ?_)) fun r2 s2 hr2 => ?_
    · have lt : l < s.heap.objs.size := by
        obtain ⟨o, ho, _⟩ := hl
        exact Heap.lt_size ho
      obtain ⟨⟨oc, odt, odat, osl⟩, ho, e1, n, e2⟩ := hl
      simp only at e1 e2
      subst e1; subst e2
      have ho1 : (s.heap.push (setN0 w)).get? l = some { cls := .type "list", dict := odt, data := .seq items n, slots := osl } := Heap.get?_push_of_some _ ho
      have no1 := F.sub_list_set
      have no2 := F.sub_list_frozenset
      have no3 : (Value.type "list" == Value.type "dict") = false := by decide
      have isl : (s.heap.push (setN0 w)).IsList l items := ⟨_, ho1, rfl, n, rfl⟩
      have sz1 : (s.heap.push (setN0 w)).objs.size = s.heap.objs.size + 1 := Heap.size_push ..
      unfold Builtin.«set.__init__» noKeywords Builtin.Frozenset.updateFrom
      generalize hPI : pyIter = PI
      wp_walk
      subst hPI
      refine wpAny_pyIter_list isl (wpAny_bind (wpAny_runValue ?_))
      refine fill_loopN ((Walks.list (by simp [hh] : A.in1.in1.in1.handled = none) _ l (by rw [sz1]; exact Nat.ne_of_lt (Nat.lt_succ_of_lt lt)) items).toS) s.heap.objs.size ?_ ks size_ks h76 (fun i v hv => ?_) s.heap hk (pushN_none (Nat.le_refl _)) (fun b hb => ?_) (by simp only [Around.in1_units]; omega) items.size 0 _ (Nat.zero_add _)
        ⟨⟨_, Heap.get?_push_size _ rfl, rfl, rfl⟩, isl.push _⟩ (fun b o e => Heap.get?_push_of_some _ (Heap.get?_push_of_some _ e)) ⟨[], #[], 0, _, nest_fresh P (Heap.get?_push_of_some _ at0), GotN.zero ks⟩ fun s3 L es ep t mv hS got kp => ?_
      · rw [sz1]
        simp only [List.mem_cons, List.not_mem_nil, or_false, not_or]
        exact ⟨Nat.ne_of_lt (Nat.lt_succ_self _), Nat.ne_of_gt lt⟩
      · have z : items.toList[i]? = some v := by rw [Array.getElem?_toList]; exact hv
        rw [hit, List.getElem?_map] at z
        obtain ⟨q, z1, z2⟩ := Option.map_eq_some_iff.mp z
        exact ⟨q, z1, z2.symm⟩
      · refine pushN_none ?_
        rw [List.mem_singleton.mp hb, sz1]
        exact Nat.le_succ _
      · obtain ⟨h3, g3, d3, tk3, os3⟩ := s3
        have y1 : g3 = s.gens := mv.gens
        have y2 : d3 = s.drawn := mv.drawn
        have y3 : os3 = s.os := mv.os
        subst y1; subst y2; subst y3
        refine wpAny_pure ?_
        rw [size_ks] at got
        exact wpAny_pure ⟨rfl, h3, tk3, L, es, ep, t, rfl, hS, got, kp⟩
    · rcases r2 with er | (_ | _ | _ | v)
      · exact hr2
      · exact hr2.elim
      · exact hr2.elim
      · exact hr2.elim
      · obtain ⟨rfl, h3, tk, L, es, ep, t, rfl, hS, got, kp⟩ := hr2
        repeat (any_goals (first | assumption | wp_step))
        exact hQ h3 tk L es ep t hS got kp
set_option maxHeartbeats 8000000 in
/-- set(xs), xs a tuple of up to 76 tuples -/
theorem set_of_nestT {l : Addr} {items : Array Value} (ks : NL) {Q : Value → Shared → Prop} (hh : A.handled = none) (hl : s.heap.IsTuple l items) (hit : items.toList = ks.map fun q => Value.ref q.1) (hk : ∀ q ∈ ks, IsN s.heap q.2 q.1) (h76 : ks.length ≤ 76) (hu : A.units + 12 < cLine)
    (hQ : ∀ (h' : Heap) (tk : Nat) L es ep t, NestSet w h' s.heap.objs.size L es ep t → GotN ks ks.length L → (∀ b o, s.heap.get? b = some o → h'.get? b = some o) → Q (.ref s.heap.objs.size) { s with heap := h', toks := tk }) :
    wpAny (model P w) A (call (.type "set") [.ref l]) Q E s := by
  have size_ks : items.size = ks.length := by rw [← Array.length_toList, hit, List.length_map]
  obtain ⟨c, tl, in_mro⟩ := F.called_set.mro
  have is_made := F.called_set.made
  have is_sub := F.called_set.sub
  refine wpAny_call (codeAny_of_tree ?_)
  show wpAny _ _ (callAny (.type "set") _) _ _ _
  refine wpAny_pure ⟨Code.quiet_builtin _ (by decide +kernel), codeAny_builtin F.entry_type_call ?_⟩
  rw [Around.under_plain (weight_type_call_type "set" [.ref l] []) rfl]
  have no_type := F.called_set.notType
  have may_make := F.called_set.canCreate
  have asked := F.typeCall_set_1 (.ref l)
  repeat (any_goals (first | assumption | wp_step))
  refine codeAny_mono (code_set_led1 (.ref l) (E := E) (Q₁ := fun v s1 => v = .ref s.heap.objs.size ∧ s1 = { s with heap := s.heap.push (setN0 w) }) ⟨rfl, rfl⟩) fun r s1 hr => ?_
  rcases r with er | (_ | _ | _ | v)
  · exact hr
  · exact hr.elim
  · exact hr.elim
  · exact hr.elim
  · obtain ⟨rfl, rfl⟩ := hr
    have at0 : (s.heap.push (setN0 w)).get? s.heap.objs.size = some (setN0 w) := Heap.get?_push_size _ rfl
    have ty0 : Shared.TypeIs { s with heap := s.heap.push (setN0 w) } (.ref s.heap.objs.size) "set" := ⟨_, at0, rfl⟩
    have init_is := F.called_set.init.lookup
    have init_by := F.called_set.init.bind (.ref s.heap.objs.size)
    repeat (any_goals (first | assumption | wp_step))
    refine codeAny_mono (codeAny_call_builtin (R := wants (fun v s2 => v = .none ∧ ∃ h' tk L es ep t, s2 = { s with heap := h', toks := tk } ∧ NestSet w h' s.heap.objs.size L es ep t ∧ GotN ks ks.length L ∧ ∀ b o, s.heap.get? b = some o → h'.get? b = some o) E)
      F.called_set.init.plain F.entry_set_init (check_set_init_1 ty0 ?_)) fun r2 s2 hr2 => ?_
    · have lt : l < s.heap.objs.size := by
        obtain ⟨o, ho, _⟩ := hl
        exact Heap.lt_size ho
      obtain ⟨⟨oc, odt, odat, osl⟩, ho, e1, n, e2⟩ := hl
      simp only at e1 e2
      subst e1; subst e2
      have ho1 : (s.heap.push (setN0 w)).get? l = some { cls := .type "tuple", dict := odt, data := .seq items n, slots := osl } := Heap.get?_push_of_some _ ho
      have no1 := F.sub_tuple_set
      have no2 := F.sub_tuple_frozenset
      have no3 : (Value.type "tuple" == Value.type "dict") = false := by decide
      have isl : (s.heap.push (setN0 w)).IsTuple l items := ⟨_, ho1, rfl, n, rfl⟩
      have sz1 : (s.heap.push (setN0 w)).objs.size = s.heap.objs.size + 1 := Heap.size_push ..
      unfold Builtin.«set.__init__» noKeywords Builtin.Frozenset.updateFrom
      generalize hPI : pyIter = PI
      wp_walk
      subst hPI
      refine wpAny_pyIter_tuple isl (wpAny_bind (wpAny_runValue ?_))
      refine fill_loopN ((Walks.tuple (by simp [hh] : A.in1.in1.in1.handled = none) _ l (by rw [sz1]; exact Nat.ne_of_lt (Nat.lt_succ_of_lt lt)) items).toS) s.heap.objs.size ?_ ks size_ks h76 (fun i v hv => ?_) s.heap hk (pushN_none (Nat.le_refl _)) (fun b hb => ?_) (by simp only [Around.in1_units]; omega) items.size 0 _ (Nat.zero_add _)
        ⟨⟨_, Heap.get?_push_size _ rfl, rfl, rfl⟩, isl.push _⟩ (fun b o e => Heap.get?_push_of_some _ (Heap.get?_push_of_some _ e)) ⟨[], #[], 0, _, nest_fresh P (Heap.get?_push_of_some _ at0), GotN.zero ks⟩ fun s3 L es ep t mv hS got kp => ?_
      · rw [sz1]
        simp only [List.mem_cons, List.not_mem_nil, or_false, not_or]
        exact ⟨Nat.ne_of_lt (Nat.lt_succ_self _), Nat.ne_of_gt lt⟩
      · have z : items.toList[i]? = some v := by rw [Array.getElem?_toList]; exact hv
        rw [hit, List.getElem?_map] at z
        obtain ⟨q, z1, z2⟩ := Option.map_eq_some_iff.mp z
        exact ⟨q, z1, z2.symm⟩
      · refine pushN_none ?_
        rw [List.mem_singleton.mp hb, sz1]
        exact Nat.le_succ _
      · obtain ⟨h3, g3, d3, tk3, os3⟩ := s3
        have y1 : g3 = s.gens := mv.gens
        have y2 : d3 = s.drawn := mv.drawn
        have y3 : os3 = s.os := mv.os
        subst y1; subst y2; subst y3
        refine wpAny_pure ?_
        rw [size_ks] at got
        exact wpAny_pure ⟨rfl, h3, tk3, L, es, ep, t, rfl, hS, got, kp⟩
    · rcases r2 with er | (_ | _ | _ | v)
      · exact hr2
      · exact hr2.elim
      · exact hr2.elim
      · exact hr2.elim
      · obtain ⟨rfl, h3, tk, L, es, ep, t, rfl, hS, got, kp⟩ := hr2
        repeat (any_goals (first | assumption | wp_step))
        exact hQ h3 tk L es ep t hS got kp
end
end Pv
end
section
set_option maxRecDepth 100000
set_option maxHeartbeats 4000000
/-! PvSetM: sorted(set(xs)), len(set(xs)) of rows, of ints. -/
namespace Pv
open PySem PySem.Spec PyProof.Rows L2
/-! ### data as keys -/
mutual
def toKey : D → NestedKey
  | .int i => .num i
  | .tuple ds => .tup (toKeys ds)
  | _ => .none
def toKeys : List D → List NestedKey
  | [] => []
  | d :: r => toKey d :: toKeys r
end
mutual
def numsOnly : D → Bool
  | .int _ => true
  | .tuple ds => numsOnlyL ds
  | _ => false
def numsOnlyL : List D → Bool
  | [] => true
  | d :: r => numsOnly d && numsOnlyL r
end
mutual
theorem key_reads {h : Heap} : ∀ {d : D} {v : Value} {as : List Addr}, numsOnly d = true → Reads h v d as → NestedIs h (toKey d) v
  | .int _, _, _, _, r => by
    cases r
    exact .int _ _
  | .tuple ds, _, _, q, r => by
    cases r with
    | tuple h1 h2 h3 rs =>
      rw [toKey]
      exact .tup h1 h2 h3 (key_readsL (by simpa only [numsOnly] using q) rs)
  | .none, _, _, q, _ => by simp [numsOnly] at q
  | .bool _, _, _, q, _ => by simp [numsOnly] at q
  | .str _, _, _, q, _ => by simp [numsOnly] at q
  | .list _, _, _, q, _ => by simp [numsOnly] at q
  | .dict _, _, _, q, _ => by simp [numsOnly] at q
theorem key_readsL {h : Heap} : ∀ {ds : List D} {vs : List Value} {as : List Addr}, numsOnlyL ds = true → ReadsAll h vs ds as → NestedAll h (toKeys ds) vs
  | [], _, _, _, r => by
    cases r
    exact .nil
  | d :: ds, _, _, q, r => by
    simp only [numsOnlyL, Bool.and_eq_true] at q
    cases r with
    | cons r1 r2 =>
      rw [toKeys]
      exact .cons (key_reads q.1 r1) (key_readsL q.2 r2)
end
theorem toKeys_ints : ∀ ns : List Int, toKeys (ns.map .int) = ns.map .num
  | [] => by simp [toKeys]
  | n :: r => by rw [List.map_cons, toKeys, toKeys_ints r, toKey]; rfl
theorem num_inj : ∀ {a b : List Int}, a.map NestedKey.num = b.map NestedKey.num → a = b
  | [], [], _ => rfl
  | [], _ :: _, h => by simp at h
  | _ :: _, [], h => by simp at h
  | x :: a, y :: b, h => by
    simp only [List.map_cons, List.cons.injEq, NestedKey.num.injEq] at h
    rw [h.1, num_inj h.2]
theorem depth_nums : ∀ ns : List Int, NestedKey.depthAll (ns.map .num) = 0
  | [] => by simp [NestedKey.depthAll]
  | n :: r => by rw [List.map_cons, NestedKey.depthAll, depth_nums r]; simp [NestedKey.depth]
theorem noText_nums : ∀ ns : List Int, noTexts (ns.map .num) = true
  | [] => rfl
  | n :: r => by rw [List.map_cons, noTexts, noText_nums r]; rfl
theorem only_ints : ∀ ns : List Int, numsOnlyL (ns.map .int) = true
  | [] => rfl
  | n :: r => by rw [List.map_cons, numsOnlyL, only_ints r]; rfl
/-- data that may be a set's -/
structure EncK {β : Type} (enc : β → D) : Prop where
  only : ∀ b, numsOnly (enc b) = true
  tup : ∀ b, ∃ ds, enc b = .tuple ds
  inj : ∀ a b, toKey (enc a) = toKey (enc b) → a = b
  dp : ∀ b, (toKey (enc b)).depth ≤ 7
  nt : ∀ b, noText (toKey (enc b)) = true
theorem key_row (ns : List Int) : toKey (rowD ns) = .tup (ns.map .num) := by
  show toKey (.tuple _) = _
  rw [toKey, toKeys_ints]
theorem key_nest (p : Int × List Int) : toKey (nestD p) = .tup [.num p.1, .tup (p.2.map .num)] := by
  show toKey (.tuple [.int p.1, .tuple _]) = _
  simp only [toKey, toKeys, toKeys_ints]
theorem encKR : EncK rowD := ⟨fun b => only_ints b, fun b => ⟨_, rfl⟩, fun a b h => by
    rw [key_row, key_row, NestedKey.tup.injEq] at h
    exact num_inj h, fun b => by
    rw [key_row, NestedKey.depth, depth_nums]
    decide, fun b => by
    rw [key_row, noText]
    exact noText_nums b⟩
theorem encKN : EncK nestD := ⟨fun b => by
    show numsOnlyL [.int b.1, .tuple (b.2.map .int)] = true
    simp [numsOnlyL, numsOnly, only_ints], fun b => ⟨_, rfl⟩, fun a b h => by
    rw [key_nest, key_nest] at h
    simp only [NestedKey.tup.injEq, List.cons.injEq, NestedKey.num.injEq, and_true] at h
    exact Prod.ext h.1 (num_inj h.2), fun b => by
    rw [key_nest]
    simp [NestedKey.depth, NestedKey.depthAll, depth_nums], fun b => by
    rw [key_nest]
    simp [noText, noTexts, noText_nums]⟩
def adr : V → Addr
  | .ref b => b
  | _ => 0
section
variable {c : Cn} {X : Cx} (cc : Cc c X)
include cc
/-- the items of a row of rows, as keys -/
theorem keys_of {pins : List (Addr × Obj)} {s : Shared} {σ : L2.St} {H : Hp} {β : Type} {enc : β → D} {le : β → β → Bool} (N : Enc enc le) (M : EncK enc) (I : Inv X pins σ H s) : ∀ {us : List Value} {bs : List β}, PySem.W.EachIs (StR c H enc) us bs →
    ∃ lb : List (Addr × β), us = lb.map (fun q => Value.ref q.1) ∧ lb.map Prod.snd = bs ∧ ∀ q ∈ lb, StR c H enc (.ref q.1) q.2 ∧ IsN s.heap (toKey (enc q.2)) q.1
  | _, _, .nil => ⟨[], rfl, rfl, fun _ h => by cases h⟩
  | _, _, .cons (a := u) (b := b) h t => by
    obtain ⟨lb, e1, e2, e3⟩ := keys_of N M I t
    obtain ⟨as, r⟩ := StR.reads cc N.cl I h
    obtain ⟨a, rfl⟩ : ∃ a, u = .ref a := by
      obtain ⟨ds, e⟩ := M.tup b
      rw [e] at r
      cases r
      exact ⟨_, rfl⟩
    refine ⟨(a, b) :: lb, by rw [List.map_cons, e1], by rw [List.map_cons, e2], fun q hq => ?_⟩
    rcases List.mem_cons.mp hq with rfl | hq
    · exact ⟨h, key_reads (M.only b) r, M.dp b, M.nt b⟩
    · exact e3 q hq
end
/-- what the set has, said of the data -/
theorem got_data {β : Type} [BEq β] [LawfulBEq β] {enc : β → D} (M : EncK enc) {lb : List (Addr × β)} {L : NL} (g : GotN (lb.map fun q => (q.1, toKey (enc q.2))) (lb.map fun q => (q.1, toKey (enc q.2))).length L) (nd : (L.map Prod.snd).Nodup) :
    ∃ lb' : List (Addr × β), L = lb'.map (fun q => (q.1, toKey (enc q.2))) ∧ (∀ q ∈ lb', q ∈ lb) ∧ (lb'.map Prod.snd).Perm (dist (lb.map Prod.snd)) := by
  have sub := g.sub
  have all := g.all
  rw [List.take_of_length_le (Nat.le_refl _)] at sub all
  have pick : ∀ L : NL, (∀ q ∈ L, q ∈ lb.map fun q => (q.1, toKey (enc q.2))) → ∃ lb' : List (Addr × β), L = lb'.map (fun q => (q.1, toKey (enc q.2))) ∧ ∀ q ∈ lb', q ∈ lb := by
    intro L
    induction L with
    | nil => exact fun _ => ⟨[], rfl, fun _ h => by cases h⟩
    | cons q L ih =>
      intro h
      obtain ⟨l2, e1, e2⟩ := ih fun r hr => h r (List.mem_cons_of_mem _ hr)
      obtain ⟨p, hp, rfl⟩ := List.mem_map.mp (h q List.mem_cons_self)
      refine ⟨p :: l2, by rw [List.map_cons, e1], fun r hr => ?_⟩
      rcases List.mem_cons.mp hr with rfl | hr
      · exact hp
      · exact e2 r hr
  obtain ⟨lb', rfl, hs⟩ := pick L sub
  refine ⟨lb', rfl, hs, ?_⟩
  have nd' : (lb'.map Prod.snd).Nodup := by
    rw [List.map_map] at nd
    have : (lb'.map fun q => toKey (enc q.2)) = (lb'.map Prod.snd).map fun b => toKey (enc b) := by rw [List.map_map]; rfl
    exact List.Pairwise.of_map (fun b => toKey (enc b)) (fun _ _ hne e => hne (by rw [e])) (this ▸ nd)
  refine (List.perm_ext_iff_of_nodup nd' (dist_nodup _)).mpr fun b => ?_
  rw [dist_mem]
  constructor
  · intro hb
    obtain ⟨q, hq, rfl⟩ := List.mem_map.mp hb
    exact List.mem_map.mpr ⟨q, hs q hq, rfl⟩
  · intro hb
    obtain ⟨q, hq, rfl⟩ := List.mem_map.mp hb
    have z := all _ (List.mem_map.mpr ⟨q, hq, rfl⟩)
    rw [List.map_map] at z
    obtain ⟨r, hr, e⟩ := List.mem_map.mp z
    exact List.mem_map.mpr ⟨r, hr, M.inj _ _ e⟩
section
variable {c : Cn} {X : Cx} (cc : Cc c X)
include cc
/-- sorted(s), s such a set -/
theorem sorted_set {pins : List (Addr × Obj)} {s : Shared} {σ : L2.St} {H : Hp} {Q : Value → Shared → Prop} {E : Value → Shared → Prop} {β : Type} {enc : β → D} {le : β → β → Bool} (N : Enc enc le) {ds : List β} (al : PySem.W.AllAlike (ds.map enc)) (sk : PySem.W.Sortable (ds.map enc))
    (al' : ∀ bs : List β, bs.Perm ds → PySem.W.AllAlike (bs.map enc)) (sk' : ∀ bs : List β, bs.Perm ds → PySem.W.Sortable (bs.map enc)) (I : Inv X pins σ H s) {a : Addr} {L : NL} {es : Array (Int × Value)} {ep : Nat} {t : SetTable} (b : NestSet X.w s.heap a L es ep t) {lb : List (Addr × β)}
    (eL : L.map (fun q => Value.ref q.1) = lb.map fun q => Value.ref q.1) (hs : ∀ q ∈ lb, StR c H enc (.ref q.1) q.2) (pm : (lb.map Prod.snd).Perm ds)
    (hQ : ∀ s' ys p, (∀ F' : Addr → Prop, RepL c F' H 0 ys ((sortB le ds).map enc) []) → H p = none → Inv X pins σ (upd H p (.lst ys)) s' → Q (.ref p) s') :
    wpAny (model X.prog X.w) X.A (call (.builtin "sorted") [.ref a]) Q E s := by
  obtain ⟨ob, ho, hex, hd⟩ := b.obj
  have cn := b.cnt
  have fw := b.few
  refine Calls.call_function_entry PyProof.Rows.kind_sorted PyProof.Rows.plain_sorted PyProof.Rows.entry_sorted (PyProof.Rows.args_sorted1 _) ?_
  unfold Builtin.«sorted»
  refine wpAny_bind (m := checkCount "sorted" 1 1 _) (wpAny_pure (wpAny_bind (collect_set (A := X.A.in1) (I.ok.hd cc.calm) ⟨ob, ho, hex.1, hd⟩ b.fit (by unfold scanBound; omega) b.tab.ris b.ldd fun s1 vs k1 hz g1 o1 p1 => ?_)))
  have row2 : es.toList.map (·.2) = lb.map fun q => Value.ref q.1 := by
    rw [b.row, rowN, List.map_map, ← eL]
    rfl
  rw [row2] at p1
  obtain ⟨l2, p2, e2⟩ := perm_lift (fun q : Addr × β => Value.ref q.1) p1 lb rfl
  have pb : (l2.map Prod.snd).Perm ds := (p2.map Prod.snd).trans pm
  have ea : PySem.W.EachIs (StR c H enc) vs (l2.map Prod.snd) := by
    rw [← e2]
    have all : ∀ q ∈ l2, StR c H enc (.ref q.1) q.2 := fun q hq => hs q (p2.mem_iff.mp hq)
    clear e2 p2 pb
    induction l2 with
    | nil => exact .nil
    | cons q l ih => exact .cons (all q List.mem_cons_self) (ih fun r hr => all r (List.mem_cons_of_mem _ hr))
  have I1 : Inv X pins σ H s1 := I.call' (ch := []) o1 (Un.kept k1) (I.hok.kept k1) (by rw [g1]; exact I.bare) (fun _ z => nomatch z)
  refine sort_tail cc N (al' _ pb) (sk' _ pb) I1 ea (by
    rw [pb.length_eq, ← pm.length_eq, List.length_map]
    have z := congrArg List.length eL
    rw [List.length_map, List.length_map] at z
    rw [← z, sizeLine_eq]
    omega) fun s' ys p ry hp J => hQ s' ys p (fun F' => ?_) hp J
  rw [← sortB_of N.ord pb]
  exact ry F'
theorem pe_sortedSet {a : Expr} {ta : TE} {p p2 q pos : Pos} (hg : Gl X "sorted") (hm : X.mg "sorted" = none) (hg2 : Gl X "set") (hm2 : X.mg "set" = none) (ha : PE X a ta) (na : starEach [a] X.env = (false, eval a X.env) :: starEach [] X.env) :
    PE X (.Call (.Name "sorted" p) [.Call (.Name "set" p2) [a] [] q] [] pos) (fun σ H Q => ta σ H fun v H1 => R1 c .sortedSet v H1 Q) := by
  refine ⟨fun pins s σ H Q I h => ?_⟩
  refine Call_ (ld_blt I hg hm PyProof.Rows.boot_sorted (PyProof.Rows.callWith_builtin1 (PyProof.Rows.args_cons ?_ rfl) rfl rfl))
  refine Call_ (ld_blt I hg2 hm2 PyProof.Rows.boot_set (PyProof.Rows.callWith_type1 (PyProof.Rows.args_cons (thn (ha.run pins s σ H _ I h) fun v s1 ⟨x, H1, I1, rx, q1⟩ => PyProof.Rows.args_nil ?_) na) na rfl))
  obtain ⟨F, k1, d1, fp1, r, r1, e, q⟩ := q1
  have e : sortedSetD d1 = some r := e
  cases d1 with
  | list xs0 =>
    simp only [sortedSetD] at e
    split at e
    · rename_i small
      have small := of_decide_eq_true small
      obtain ⟨l, vs, rfl, hl, la, fa⟩ := rep_list (F' := F) r1
      cases rx
      have rl := fa (fun _ => True) (fun _ _ => trivial) fun _ _ => trivial
      have go : ∀ {β : Type} [BEq β] [LawfulBEq β] {enc : β → D} {le : β → β → Bool} (N : Enc enc le) (M : EncK enc) (bs : List β), xs0 = bs.map enc → r = .list ((sortB le (dist bs)).map enc) → (∀ l : List β, l.Perm (dist bs) → PySem.W.AllAlike (l.map enc)) → (∀ l : List β, l.Perm (dist bs) → PySem.W.Sortable (l.map enc)) →
          wpAny (model X.prog X.w) X.A (call (.type "set") [.ref l]) (fun v s' => wpAny (model X.prog X.w) X.A (call (.builtin "sorted") [v]) (EP X pins σ Q) X.xe s') X.xe s1 := by
        intro β _ _ enc le N M bs hx hr al sk
        subst hx hr
        obtain ⟨its, rv, pl, hz⟩ := I1.list (sq_of (c := ⟨X.K, c.fa, c.cl⟩) hl)
        obtain ⟨lb, e1, e2, e3⟩ := keys_of cc N M I1 (each_of N.fl rl rv)
        have hl1 : lb.length = bs.length := by rw [← e2, List.length_map]
        refine set_of_nest (P := X.prog) (w := X.w) (lb.map fun q => (q.1, toKey (enc q.2))) (I1.ok.hd cc.calm) pl.isList (by rw [List.map_map]; exact e1) (fun q hq => ?_) (by rw [List.length_map, hl1]; simpa using small) (by have := cc.un; omega) fun h' tk L es ep t b got kp => ?_
        · obtain ⟨z, hz2, rfl⟩ := List.mem_map.mp hq
          exact (e3 z hz2).2
        · obtain ⟨lb', eL, hs, pm⟩ := got_data M got b.dis
          have I2 : Inv X pins σ H1 { s1 with heap := h', toks := tk } := I1.kept kp
          rw [e2] at pm
          refine sorted_set cc N (al _ (List.Perm.refl _)) (sk _ (List.Perm.refl _)) al sk I2 b (lb := lb') (by rw [eL, List.map_map]; rfl) (fun q hq => (e3 q (hs q hq)).1) pm fun s' ys p ry hp J => ⟨.ref p, _, J, rfl, q.lst (fun F' _ _ => ry F') p hp⟩
      have fin : wpAny (model X.prog X.w) X.A (call (.type "set") [.ref l]) (fun v s' => wpAny (model X.prog X.w) X.A (call (.builtin "sorted") [v]) (EP X pins σ Q) X.xe s') X.xe s1 := by
        cases hr : rowsI xs0 with
        | some rs =>
          rw [hr] at e
          simp only at e
          split at e
          · rename_i hall
            cases e
            refine go encR encKR rs (rowsI_map hr) rfl (fun l _ => alike_rows l) fun l pl => sortable_rows (List.all_eq_true.mpr fun y hy => List.all_eq_true.mp hall y ((dist_mem y rs).mp (pl.mem_iff.mp hy)))
          · cases e
        | none =>
          rw [hr] at e
          obtain ⟨ps, hps, rfl⟩ := Option.map_eq_some_iff.mp e
          exact go encN encKN ps (nestI_map hps) rfl (fun l _ => alike_nests l) fun l _ => sortable_nests l
      exact wpAny_mono fin (fun v s' h => PyProof.Rows.args_nil h) fun _ _ h => h
    · cases e
  | _ => cases e
end
/-! ### len(set(xs)) -/
theorem dedup_step (l : List Int) (x : Int) : (∀ y, y ∈ step_dedup l x ↔ y ∈ l ∨ y = x) ∧ (l.Nodup → (step_dedup l x).Nodup) := by
  unfold step_dedup
  by_cases h : l.any (· == x) = true
  · rw [if_pos h]
    obtain ⟨z, hz, e⟩ := List.any_eq_true.mp h
    have e : z = x := by simpa using e
    subst e
    exact ⟨fun y => ⟨.inl, fun q => q.elim id fun e => e ▸ hz⟩, id⟩
  · rw [if_neg h]
    have hn : x ∉ l := fun z => h (List.any_eq_true.mpr ⟨x, z, by simp⟩)
    refine ⟨fun y => by simp, fun nd => List.nodup_append.mpr ⟨nd, by simp, fun a ha b hb e => ?_⟩⟩
    rw [List.mem_singleton.mp hb] at e
    exact hn (e ▸ ha)
theorem dedup_fold : ∀ (r l : List Int), (∀ y, y ∈ r.foldl step_dedup l ↔ y ∈ l ∨ y ∈ r) ∧ (l.Nodup → (r.foldl step_dedup l).Nodup)
  | [], l => ⟨fun y => by simp, id⟩
  | x :: r, l => by
    obtain ⟨i1, i2⟩ := dedup_fold r (step_dedup l x)
    obtain ⟨j1, j2⟩ := dedup_step l x
    refine ⟨fun y => ?_, fun nd => i2 (j2 nd)⟩
    rw [List.foldl_cons, i1, j1, List.mem_cons]
    constructor
    · rintro ((h | h) | h)
      · exact .inl h
      · exact .inr (.inl h)
      · exact .inr (.inr h)
    · rintro (h | h | h)
      · exact .inl (.inl h)
      · exact .inl (.inr h)
      · exact .inr h
theorem range_getD (ns : List Int) : (List.range ns.length).map (fun i => ns.getD i 0) = ns := by
  apply List.ext_getElem
  · simp
  · intro i h1 h2
    simp [h2]
theorem met_len (ns : List Int) : (firstMet (fun i => ns.getD i 0) ns.length).length = (dist ns).length := by
  unfold firstMet
  rw [range_getD]
  obtain ⟨a, b⟩ := dedup_fold ns []
  exact ((List.perm_ext_iff_of_nodup (b List.nodup_nil) (dist_nodup ns)).mpr fun y => by rw [a, dist_mem]; simp).length_eq
section
variable {c : Cn} {X : Cx} (cc : Cc c X)
include cc
theorem pe_lenSet {a : Expr} {ta : TE} {p p2 q pos : Pos} (hg : Gl X "len") (hm : X.mg "len" = none) (hg2 : Gl X "set") (hm2 : X.mg "set" = none) (ha : PE X a ta) (na : starEach [a] X.env = (false, eval a X.env) :: starEach [] X.env) :
    PE X (.Call (.Name "len" p) [.Call (.Name "set" p2) [a] [] q] [] pos) (fun σ H Q => ta σ H fun v H1 => R1 c .lenSet v H1 Q) := by
  refine ⟨fun pins s σ H Q I h => ?_⟩
  refine Call_ (ld_blt I hg hm boot_len (PyProof.Rows.callWith_builtin1 (PyProof.Rows.args_cons ?_ rfl) rfl rfl))
  refine Call_ (ld_blt I hg2 hm2 PyProof.Rows.boot_set (PyProof.Rows.callWith_type1 (PyProof.Rows.args_cons (thn (ha.run pins s σ H _ I h) fun v s1 ⟨x, H1, I1, rx, q1⟩ => PyProof.Rows.args_nil ?_) na) na rfl))
  obtain ⟨F, k1, d1, fp1, r, r1, e, q⟩ := q1
  have e : lenSetD d1 = some r := e
  -- the set's length, at a state behind
  have lenN : ∀ {L : NL} {es : Array (Int × Value)} {ep : Nat} {t : SetTable} {a : Addr} {s2 : Shared} {n : Nat}, Inv X pins σ H1 s2 → NestSet X.w s2.heap a L es ep t → L.length = n → r = .int n → wpAny (model X.prog X.w) X.A (call (.builtin "len") [.ref a]) (EP X pins σ Q) X.xe s2 := by
    intro L es ep t a s2 n I2 b hn hr
    subst hr
    obtain ⟨ob, ho, hex, hd⟩ := b.obj
    have cn := b.cnt
    have fw := b.few
    exact call_len_set ho hex hd b.fit (by omega) ⟨.int n, H1, I2.tok _, ⟨_, by rw [cn, hn]⟩, q.int⟩
  have rows : ∀ {xs0 : List D} {vs : List V}, lenRows xs0 = some r → RepL c (fun _ => True) H1 0 vs xs0 [] → ∀ {its : List Value}, Vals vs its → ∃ (rs : List (List Int)) (lb : List (Addr × List Int)), r = .int (dist rs).length ∧ lb.length ≤ 76 ∧ lb.map Prod.snd = rs ∧ its = lb.map (fun q => Value.ref q.1) ∧ ∀ q ∈ lb, IsN s1.heap (toKey (rowD q.2)) q.1 := by
    intro xs0 vs e rl its rv
    unfold lenRows at e
    split at e
    · rename_i small
      have small := of_decide_eq_true small
      obtain ⟨rs, hrs, rfl⟩ := Option.map_eq_some_iff.mp e
      obtain rfl := rowsI_map hrs
      obtain ⟨lb, e1, e2, e3⟩ := keys_of cc encR encKR I1 (each_of encR.fl rl rv)
      rw [List.length_map] at small
      exact ⟨rs, lb, rfl, by rw [← e2, List.length_map] at small; exact small, e2, e1, fun q hq => (e3 q hq).2⟩
    · cases e
  have fin : wpAny (model X.prog X.w) X.A (call (.type "set") [v]) (fun v s' => wpAny (model X.prog X.w) X.A (call (.builtin "len") [v]) (EP X pins σ Q) X.xe s') X.xe s1 := by
    cases d1 with
    | list xs0 =>
      obtain ⟨l, vs, rfl, hl, la, fa⟩ := rep_list (F' := F) r1
      cases rx
      have rl := fa (fun _ => True) (fun _ _ => trivial) fun _ _ => trivial
      obtain ⟨its, rv, pl, hz⟩ := I1.list (sq_of (c := ⟨X.K, c.fa, c.cl⟩) hl)
      simp only [lenSetD] at e
      cases hi : intsL xs0 with
      | some ns =>
        rw [hi] at e
        simp only at e
        split at e
        · rename_i small
          have small := of_decide_eq_true small
          cases e
          obtain rfl := intsL_map hi
          have := RepL.ints rl
          subst this
          have hlen : its.toArray.size = ns.length := by rw [List.size_toArray, ← rv.length, List.length_map]
          refine call_set_list (I1.ok.hd cc.calm) pl.isList (by simpa using rv.ints) (by rw [hlen]; unfold scanBound; omega) fun h' tk hS hk => ?_
          rw [hlen, met_len] at hS
          obtain ⟨o, es, ep, t, ho, hex, hd, _, _, _, hf, hn⟩ := hS
          have I2 : Inv X pins σ H1 { s1 with heap := h', toks := tk } := I1.kept fun b o e => hk b o (Heap.lt_size e) e
          have := dist_len ns
          exact call_len_set ho hex hd hf (by omega) ⟨.int (dist ns).length, H1, I2.tok _, ⟨_, by rw [hn]⟩, q.int⟩
        · cases e
      | none =>
        rw [hi] at e
        obtain ⟨rs, lb, hr, small, e2, e1, e3⟩ := rows e rl rv
        refine set_of_nest (P := X.prog) (w := X.w) (lb.map fun q => (q.1, toKey (rowD q.2))) (I1.ok.hd cc.calm) pl.isList (by rw [List.map_map]; exact e1) (fun q hq => ?_) (by rw [List.length_map]; exact small) (by have := cc.un; omega) fun h' tk L es ep t b got kp => ?_
        · obtain ⟨z, hz2, rfl⟩ := List.mem_map.mp hq
          exact e3 z hz2
        · obtain ⟨lb', eL, hs, pm⟩ := got_data encKR got b.dis
          rw [e2] at pm
          exact lenN (I1.kept kp) b (by rw [eL, List.length_map, ← pm.length_eq, List.length_map]) hr
    | tuple xs0 =>
      obtain ⟨l, vs, rfl, hl, la, fa⟩ := rep_tup r1
      cases rx
      have rl := fa (fun _ => True) (fun _ _ => trivial) fun _ _ => trivial
      obtain ⟨its, rv, pl, hz⟩ := I1.tuple (SqT.of hl)
      obtain ⟨rs, lb, hr, small, e2, e1, e3⟩ := rows e rl rv
      refine set_of_nestT (P := X.prog) (w := X.w) (lb.map fun q => (q.1, toKey (rowD q.2))) (I1.ok.hd cc.calm) pl (by rw [List.map_map]; exact e1) (fun q hq => ?_) (by rw [List.length_map]; exact small) (by have := cc.un; omega) fun h' tk L es ep t b got kp => ?_
      · obtain ⟨z, hz2, rfl⟩ := List.mem_map.mp hq
        exact e3 z hz2
      · obtain ⟨lb', eL, hs, pm⟩ := got_data encKR got b.dis
        rw [e2] at pm
        exact lenN (I1.kept kp) b (by rw [eL, List.length_map, ← pm.length_eq, List.length_map]) hr
    | _ => cases e
  exact wpAny_mono fin (fun v s' h => PyProof.Rows.args_nil h) fun _ _ h => h
end
end Pv
end
section
set_option maxRecDepth 100000
set_option maxHeartbeats 4000000
/-! PvDict: dict(xs), xs a list of pairs (key, value), the keys ints and texts or tuples of these. -/
namespace Pv
open PySem PySem.Spec PyProof.Rows L2
/-! ### the pairs, in the heap and as data -/
inductive DR {κ : Type} (g : κ → D) (c : Cn) (F : Addr → Prop) (H : Hp) : List (κ × V) → List (D × D) → Prop
  | nil : DR g c F H [] []
  | cons {k : κ} {v : V} {d : D} {kvs : List (κ × V)} {ds : List (D × D)} (r : Rep c F H 0 v d []) (rs : DR g c F H kvs ds) : DR g c F H ((k, v) :: kvs) ((g k, d) :: ds)
section
variable {κ : Type} [DecidableEq κ]
theorem putK_same {p : κ × V} {r : List (κ × V)} {v : V} (n : p.1 ∉ r.map Prod.fst) : putK (p :: r) p.1 v = (p.1, v) :: r := by
  unfold putK
  rw [if_pos (by simp)]
  rw [List.map_cons, if_pos rfl]
  congr 1
  refine (List.map_congr_left fun q hq => ?_).trans (List.map_id r)
  exact if_neg fun e => n (List.mem_map.mpr ⟨q, hq, e⟩)
theorem putK_other {p : κ × V} {r : List (κ × V)} {k : κ} {v : V} (n : ¬ p.1 = k) : putK (p :: r) k v = p :: putK r k v := by
  unfold putK
  have e : ((p :: r).any fun kv => decide (kv.1 = k)) = r.any fun kv => decide (kv.1 = k) := by simp [n]
  rw [e]
  split
  · rw [List.map_cons, if_neg n]
  · rfl
theorem putK_keys {k j : κ} {v : V} : ∀ {r : List (κ × V)}, j ∈ (putK r k v).map Prod.fst ↔ j = k ∨ j ∈ r.map Prod.fst
  | [] => by simp [putK]
  | p :: r => by
    have ih := putK_keys (k := k) (j := j) (v := v) (r := r)
    by_cases e : p.1 = k
    · subst e
      unfold putK
      rw [if_pos (by simp)]
      have : ((p :: r).map fun kv => if kv.1 = p.1 then (kv.1, v) else kv).map Prod.fst = (p :: r).map Prod.fst := by
        rw [List.map_map]
        refine List.map_congr_left fun q _ => ?_
        show (if q.1 = p.1 then (q.1, v) else q).1 = q.1
        split <;> rfl
      rw [this]
      simp
    · rw [putK_other e, List.map_cons, List.mem_cons, ih, List.map_cons, List.mem_cons]
      constructor
      · rintro (z | z | z)
        · exact .inr (.inl z)
        · exact .inl z
        · exact .inr (.inr z)
      · rintro (z | z | z)
        · exact .inr (.inl z)
        · exact .inl z
        · exact .inr (.inr z)
theorem putK_nodup {k : κ} {v : V} : ∀ {r : List (κ × V)}, (r.map Prod.fst).Nodup → ((putK r k v).map Prod.fst).Nodup
  | [], _ => by simp [putK]
  | p :: r, h => by
    obtain ⟨h1, h2⟩ := List.nodup_cons.mp (show (p.1 :: r.map Prod.fst).Nodup from h)
    by_cases e : p.1 = k
    · subst e
      rw [putK_same h1]
      exact h
    · rw [putK_other e, List.map_cons]
      refine List.nodup_cons.mpr ⟨fun z => ?_, putK_nodup h2⟩
      rcases putK_keys.mp z with z | z
      · exact e z
      · exact h1 z
def mergeG (kvs more : List (κ × V)) : List (κ × V) := more.foldl (fun acc kv => putK acc kv.1 kv.2) kvs
theorem mergeG_len : ∀ (more kvs : List (κ × V)), (mergeG kvs more).length ≤ kvs.length + more.length
  | [], kvs => Nat.le_refl _
  | p :: r, kvs => by
    have h1 := mergeG_len r (putK kvs p.1 p.2)
    have h2 := length_putK kvs p.1 p.2
    simp only [List.length_cons]
    show (mergeG (putK kvs p.1 p.2) r).length ≤ _
    omega
variable {g : κ → D} {c : Cn} {F : Addr → Prop} {H : Hp}
theorem DR.put (hg : ∀ a b, PyData.eqv (g a) (g b) = decide (a = b)) {k : κ} {v : V} {d : D} (q : Rep c F H 0 v d []) : ∀ {kvs : List (κ × V)} {ds : List (D × D)}, DR g c F H kvs ds → (kvs.map Prod.fst).Nodup → DR g c F H (putK kvs k v) (putKey ds (g k) d)
  | _, _, .nil, _ => by
    show DR g c F H [(k, v)] [(g k, d)]
    exact .cons q .nil
  | _, _, .cons (k := k') (kvs := kvs) r rs, h => by
    obtain ⟨h1, h2⟩ := List.nodup_cons.mp (show (k' :: kvs.map Prod.fst).Nodup from h)
    simp only [putKey]
    by_cases e : k' = k
    · subst e
      rw [if_pos (by rw [hg]; simp), putK_same (p := (k', _)) h1]
      exact .cons q rs
    · rw [if_neg (by rw [hg]; simp [e]), putK_other (p := (k', _)) e]
      exact .cons r (DR.put hg q rs h2)
theorem DR.merge (hg : ∀ a b, PyData.eqv (g a) (g b) = decide (a = b)) : ∀ {more kvs : List (κ × V)} {ps ds : List (D × D)}, DR g c F H more ps → DR g c F H kvs ds → (kvs.map Prod.fst).Nodup → DR g c F H (mergeG kvs more) (ps.foldl (fun a p => putKey a p.1 p.2) ds)
  | _, _, _, _, .nil, b, _ => b
  | _, _, _, _, .cons (k := k) (v := v) (d := d) (kvs := m) (ds := q) r rs, b, h => by
    have z := DR.merge hg rs (DR.put hg (k := k) r b h) (putK_nodup (k := k) (v := v) h)
    exact z
theorem DR.keys {kvs : List (κ × V)} {ds : List (D × D)} (a : DR g c F H kvs ds) : ds.map (·.1) = kvs.map fun p => g p.1 := by
  induction a with
  | nil => rfl
  | cons r rs ih => rw [List.map_cons, List.map_cons, ih]
theorem DR.vals {kvs : List (κ × V)} {ds : List (D × D)} (a : DR g c F H kvs ds) : RepL c F H 0 (kvs.map (·.2)) (ds.map (·.2)) [] := by
  induction a with
  | nil => exact .nil _
  | cons r rs ih => exact .cons (fp := []) (fq := []) r ih
theorem DR.len {kvs : List (κ × V)} {ds : List (D × D)} (a : DR g c F H kvs ds) : kvs.length = ds.length := by
  induction a with
  | nil => rfl
  | cons r rs ih => simp [ih]
end
/-! ### reading them -/
def two (H : Hp) (x : V) : V × V := match x with
  | .ref t => (match H t with
    | some (.tup [a, b]) => (a, b)
    | _ => (.non, .non))
  | _ => (.non, .non)
def keyI : V → Key
  | .str x => .inr x
  | .int i => .inl i
  | _ => .inl 0
def keyT (H : Hp) : V → List Key
  | .ref t => (match H t with
    | some (.tup ys) => ys.map keyI
    | _ => [])
  | _ => []
theorem keyI_kV (k : Key) : keyI (kV k) = k := by cases k <;> rfl
theorem pairsOf_map : ∀ {xs : List D} {ps : List (D × D)}, Pv.pairsOf xs = some ps → xs = ps.map fun p => PyData.tuple [p.1, p.2]
  | [], ps, h => by simp [Pv.pairsOf] at h; subst h; rfl
  | d :: r, ps, h => by
    unfold Pv.pairsOf at h
    split at h
    · rename_i e; cases e
    · rename_i e
      cases e
      obtain ⟨qs, hq, rfl⟩ := Option.map_eq_some_iff.mp h
      rw [pairsOf_map hq]
      rfl
    · cases h
section
variable {c : Cn} {F : Addr → Prop} {H : Hp}
theorem rep_two {k : Nat} {v : V} {a b : D} {fp : List Addr} (r : Rep c F H k v (.tuple [a, b]) fp) : ∃ t x y fa fb, v = .ref t ∧ H t = some (.tup [x, y]) ∧ two H v = (x, y) ∧ Rep c F H k x a fa ∧ Rep c F H k y b fb ∧ fp = fa ++ (fb ++ []) := by
  cases r with
  | tup h r =>
    cases r with
    | cons r1 rs =>
      cases rs with
      | cons r2 rs =>
        cases rs
        exact ⟨_, _, _, _, _, rfl, h, by simp only [two, h], r1, r2, rfl⟩
theorem dr_int : ∀ {ps : List (D × D)} {xs : List V}, (ps.all fun p => isKey p.1) = true → RepL c F H 0 xs (ps.map fun p => PyData.tuple [p.1, p.2]) [] → DR dk c F H (xs.map fun x => (keyI (two H x).1, (two H x).2)) ps ∧
    ∀ x ∈ xs, ∃ t, x = .ref t ∧ H t = some (.tup [kV (keyI (two H x).1), (two H x).2])
  | [], _, _, r => by
    cases r
    exact ⟨.nil, fun x hx => by cases hx⟩
  | (a, b) :: ps, xs, h, r => by
    simp only [List.all_cons, Bool.and_eq_true] at h
    generalize hf : ([] : List Addr) = f at r
    cases r with
    | cons r rs =>
      obtain ⟨e1, e2⟩ := List.append_eq_nil_iff.mp hf.symm
      subst e1 e2
      obtain ⟨i1, i2⟩ := dr_int h.2 rs
      obtain ⟨t, x, y, fa, fb, rfl, ht, e3, r1, r2, e4⟩ := rep_two r
      have e5 : fa = [] ∧ fb = [] := by simpa using e4.symm
      obtain ⟨rfl, rfl⟩ := e5
      have hk : ∃ q : Key, a = dk q ∧ x = kV q := by
        cases a with
        | int i => cases r1; exact ⟨.inl i, rfl, rfl⟩
        | str i => cases r1; exact ⟨.inr i, rfl, rfl⟩
        | _ => simp [isKey] at h
      obtain ⟨q, rfl, rfl⟩ := hk
      refine ⟨?_, fun z hz => ?_⟩
      · rw [List.map_cons, e3]
        simp only [keyI_kV]
        exact .cons r2 i1
      · rcases List.mem_cons.mp hz with rfl | hz
        · rw [e3]
          exact ⟨t, rfl, by rw [ht]; simp only [keyI_kV]⟩
        · exact i2 z hz
theorem dr_tup : ∀ {ps : List (D × D)} {xs : List V}, (ps.all fun p => tupKey p.1) = true → RepL c F H 0 xs (ps.map fun p => PyData.tuple [p.1, p.2]) [] → DR (fun ks : List Key => PyData.tuple (ks.map dk)) c F H (xs.map fun x => (keyT H (two H x).1, (two H x).2)) ps ∧
    ∀ x ∈ xs, ∃ t b, x = .ref t ∧ H t = some (.tup [.ref b, (two H x).2]) ∧ H b = some (.tup ((keyT H (two H x).1).map kV))
  | [], _, _, r => by
    cases r
    exact ⟨.nil, fun x hx => by cases hx⟩
  | (a, b) :: ps, xs, h, r => by
    simp only [List.all_cons, Bool.and_eq_true] at h
    generalize hf : ([] : List Addr) = f at r
    cases r with
    | cons r rs =>
      obtain ⟨e1, e2⟩ := List.append_eq_nil_iff.mp hf.symm
      subst e1 e2
      obtain ⟨i1, i2⟩ := dr_tup h.2 rs
      obtain ⟨t, x, y, fa, fb, rfl, ht, e3, r1, r2, e4⟩ := rep_two r
      have e5 : fa = [] ∧ fb = [] := by simpa using e4.symm
      obtain ⟨rfl, rfl⟩ := e5
      have hk : ∃ (q : List Key) (u : Addr), a = .tuple (q.map dk) ∧ x = .ref u ∧ H u = some (.tup (q.map kV)) := by
        cases a with
        | tuple ks =>
          obtain ⟨q, rfl⟩ := keyD_all h.1
          cases r1 with
          | tup hu ru =>
            obtain rfl := RepL.keys ru
            exact ⟨q, _, rfl, rfl, hu⟩
        | _ => simp [tupKey] at h
      obtain ⟨q, u, rfl, rfl, hu⟩ := hk
      have e6 : keyT H (.ref u) = q := by
        simp only [keyT, hu, List.map_map]
        refine (List.map_congr_left fun k _ => ?_).trans (List.map_id q)
        exact keyI_kV k
      refine ⟨?_, fun z hz => ?_⟩
      · rw [List.map_cons, e3]
        simp only [e6]
        exact .cons (g := fun ks : List Key => PyData.tuple (ks.map dk)) r2 i1
      · rcases List.mem_cons.mp hz with rfl | hz
        · rw [e3]
          exact ⟨t, u, rfl, ht, by simp only [e6]; exact hu⟩
        · exact i2 z hz
end
/-! ### the loop, the keys tuples -/
section
variable {prog : Program} {w : World} {A : Around} {E : Value → Shared → Prop}
abbrev MT (prog : Program) (w : World) := tupleKind (mixKind prog w)
def mergeH (acc more : List (List Key × Addr × Value)) : List (List Key × Addr × Value) := more.foldl (fun a x => storedH a x.1 x.2.1 x.2.2) acc
theorem KT.merge {H : Hp} : ∀ {more : List (List Key × V)} {rs : List (List Key × Addr × Value)} {kvs : List (List Key × V)} {vs : List (List Key × Addr × Value)}, KT H more rs → KT H kvs vs → KT H (mergeG kvs more) (mergeH vs rs)
  | _, _, _, _, .nil, b => b
  | _, _, _, _, .cons (a := p) (b := q) h t, b => by
    have e := KT.put b p.1 h.2.1 h.2.2
    obtain ⟨h1, h2, h3⟩ := h
    show KT H (mergeG (putK _ p.1 p.2) _) (mergeH (storedH _ q.1 q.2.1 q.2.2) _)
    rw [← h1]
    exact KT.merge t e
theorem key_keep {h h' : Heap} {k : List Key} {b : Addr} (x : (MT prog w).is h k b) (kk : ∀ c o, h.get? c = some o → o.cls = .type "tuple" → h'.get? c = some o) : (MT prog w).is h' k b := by
  obtain ⟨o, items, n, ho, hc, r⟩ := x
  exact ⟨o, items, n, kk b o ho hc, hc, r⟩
theorem dictH_keep {h h' : Heap} {d : Addr} {xs : List (List Key × Addr × Value)} (m : h.DictOfH (MT prog w) d xs) (kd : ∀ o, h.get? d = some o → h'.get? d = some o) (kk : ∀ c o, h.get? c = some o → o.cls = .type "tuple" → h'.get? c = some o) : h'.DictOfH (MT prog w) d xs := by
  obtain ⟨o, es, ep, h1, h2, h3, h4, h5, h6⟩ := m
  exact ⟨o, es, ep, kd o h1, h2, h3, h4, fun x hx => key_keep (h5 x hx) kk, h6⟩
theorem storedH_len (acc : List (List Key × Addr × Value)) (k : List Key) (b : Addr) (v : Value) : (storedH acc k b v).length ≤ acc.length + 1 := by
  unfold storedH
  split
  · rw [List.length_map]; omega
  · simp
/-- the walk over the pairs -/
theorem updT_loop {R : Result → Shared → Prop} {S I l : Addr} {items : Array Value} {res : Value} (hh : A.handled = none) (hu : A.units + 1 < cLine) (hlI : l ≠ I) (hSI : S ≠ I) (hSl : S ≠ l) :
    ∀ (rest : List (List Key × Addr × Value)) (i : Nat) (acc : List (List Key × Addr × Value)) (ix : Int) (tk : Tok) (s : Shared), items.size = i + rest.length → acc.length + rest.length ≤ sizeLine → (∀ o, s.heap.get? I = some o → o.cls ≠ .type "tuple") →
      (∀ (j : Nat) (q : List Key × Addr × Value), rest[j]? = some q → ∃ b, items[i + j]? = some (.ref b) ∧ b ≠ S ∧ b ≠ I ∧ IsTup s.heap b #[.ref q.2.1, q.2.2] ∧ (MT prog w).is s.heap q.1 q.2.1) →
      s.heap.IsListIter I l i → s.heap.IsList l items → s.heap.DictOfH (MT prog w) S acc →
      (∀ h' tk, h'.DictOfH (MT prog w) S (mergeH acc rest) → (∀ b o, b ≠ S → b ≠ I → s.heap.get? b = some o → h'.get? b = some o) → R (.ok (.ret res)) { s with heap := h', toks := tk }) →
      codeAny (model prog w) A (.builtin "dict.update.loop" ⟨[.ref S, .ref I, .int ix tk, res], []⟩) R s
  | [], i, acc, ix, tk, s, hsz, hln, hnI, hr, hit, hl, hm, hR => by
    refine codeAny_builtin ud_entry ?_
    rw [Around.under_plainId ud_plain _]
    show wpAny _ A.in1 (pyNext (.ref I) >>= _) _ _ s
    refine wpAny_bind (wpAny_pyNext_list_end (A := A.in1) hh hit hl (Array.getElem?_eq_none (Nat.le_of_eq hsz)) fun h' he => ?_)
    show wpAny _ A.in1 (Builtin.Dict.addKeywords S [] >>= _) _ _ _
    refine wpAny_bind (wpAny_pure (wpAny_pure ?_))
    refine hR h' s.toks (dictH_keep hm (fun o e => he S o hSI e) fun c o e hc => he c o (fun z => ?_) e) fun b o _ hb e => he b o hb e
    subst z
    exact hnI o e hc
  | q :: rest, i, acc, ix, tk, s, hsz, hln, hnI, hr, hit, hl, hm, hR => by
    obtain ⟨b, hb, hbS, hbI, htup, hkey⟩ := hr 0 q rfl
    rw [List.length_cons] at hsz hln
    refine codeAny_builtin ud_entry ?_
    rw [Around.under_plainId ud_plain _]
    show wpAny _ A.in1 (pyNext (.ref I) >>= _) _ _ s
    refine wpAny_bind (wpAny_pyNext_list_item (x := .ref b) hit hl (by simpa using hb) fun h1 hit1 hs1 => ?_)
    have kt1 : ∀ c o, s.heap.get? c = some o → o.cls = .type "tuple" → h1.get? c = some o := fun c o e hc => hs1.extBut c o (fun z => by subst z; exact hnI o e hc) e
    have ht1 : IsTup h1 b #[.ref q.2.1, q.2.2] := htup.extBut hs1.extBut hbI
    have hl1 : h1.IsList l items := hl.extBut hs1.extBut hlI
    have hm1 : h1.DictOfH (MT prog w) S acc := dictH_keep hm (fun o e => hs1.extBut S o hSI e) kt1
    obtain ⟨o, ho, hc, n, hd⟩ := id ht1
    show wpAny _ A.in1 (holding [Value.ref b] _ >>= _) _ _ _
    refine wpAny_bind (wpAny_holding (wpAny_bind (wpAny_tryCatch ?_)))
    unfold Builtin.Dict.pairItems
    refine wpAny_bind (wpAny_typeOf (T := "tuple") ⟨o, ho, hc⟩ ?_)
    rw [if_pos (by first | decide | rfl | simp)]
    refine wpAny_bind (wpAny_seqItems ho hd (wpAny_pure ?_))
    show wpAny _ A.in1 (holding [Value.ref q.2.1, q.2.2] (dictSet S (.ref q.2.1) q.2.2)) _ _ _
    refine wpAny_holding (wpAny_dictSet_heap (knd := MT prog w) (s := { s with heap := h1 }) (k := q.1) (tupleKind_room_in1 hu) (key_keep hkey kt1) hm1 (fun h2 hm2 hs2 => ?_) (by omega))
    have dS : ∀ c o, h1.get? c = some o → o.cls = .type "tuple" → c ≠ S := fun c o e hc z => by
      obtain ⟨o2, _, _, z1, z2, _⟩ := hm1
      subst z
      rw [e] at z1
      cases z1
      have z3 := z2.1
      rw [hc] at z3
      exact absurd (Value.type.inj z3) (by decide)
    have kt2 : ∀ c o, h1.get? c = some o → o.cls = .type "tuple" → h2.get? c = some o := fun c o e hc => hs2.extBut c o (dS c o e hc) e
    have sl := storedH_len acc q.1 q.2.1 q.2.2
    obtain ⟨oI, hoI, cI, dI⟩ := id hit1
    refine wpAny_pure ⟨plainId_quiet ud_plain _, updT_loop (items := items) hh hu hlI hSI hSl rest (i + 1) (storedH acc q.1 q.2.1 q.2.2) (ix + 1) 0 _ (show items.size = i + 1 + rest.length by omega) (by omega) (fun o' e hc' => ?_) (fun j q' e => ?_) ?_ ?_ hm2 fun h' tk hd' k => ?_⟩
    · have e2 := hs2.extBut I oI (Ne.symm hSI) hoI
      have e3 : some o' = some oI := e.symm.trans e2
      cases e3
      rw [cI] at hc'
      exact absurd (Value.type.inj hc') (by decide)
    · obtain ⟨b', hb', hbS', hbI', htup', hk'⟩ := hr (j + 1) q' (by simpa using e)
      refine ⟨b', ?_, hbS', hbI', (htup'.extBut hs1.extBut hbI').extBut hs2.extBut hbS', key_keep (key_keep hk' kt1) kt2⟩
      rw [show i + 1 + j = i + (j + 1) by omega]
      exact hb'
    · exact hit1.at fun o' e => hs2.extBut I o' (Ne.symm hSI) e
    · exact hl1.extBut hs2.extBut (Ne.symm hSl)
    · exact hR h' tk hd' fun c oc h3 h4 e => k c oc h3 h4 (hs2.extBut c oc h3 (hs1.extBut c oc h4 e))
/-- dict(l) of such a list -/
theorem dict_of_tups {s : Shared} {l : Addr} {ol : Obj} {items : Array Value} {n : Nat} {prs : List (List Key × Addr × Value)} {Q : Value → Shared → Prop} (hh : A.handled = none) (hu : A.units + 3 < cLine) (hl : s.heap.get? l = some ol) (hc : ol.cls = .type "list") (hd : ol.dict = none)
    (hdat : ol.data = .seq items n) (hsz : items.size = prs.length) (hln : prs.length ≤ sizeLine)
    (hr : ∀ (j : Nat) (q : List Key × Addr × Value), prs[j]? = some q → ∃ b, items[j]? = some (.ref b) ∧ IsTup s.heap b #[.ref q.2.1, q.2.2] ∧ (MT prog w).is s.heap q.1 q.2.1)
    (h : ∀ h' tk, h'.DictOfH (MT prog w) s.heap.objs.size (mergeH [] prs) → (∀ b o, s.heap.get? b = some o → h'.get? b = some o) → Q (.ref s.heap.objs.size) { s with heap := h', toks := tk }) :
    wpAny (model prog w) A (call (.type "dict") [.ref l]) Q E s := by
  refine callType_codes (Q₁ := fun v s1 => v = .ref s.heap.objs.size ∧ s1 = { s with heap := s.heap.push { cls := .type "dict", data := .dict #[] } }) PySem.F.kt_called_dict (PySem.F.kt_typeCall_dict_1 _) PySem.F.entry_dict_init (kt_code_dict_new _ ⟨rfl, rfl⟩) ?_
  rintro v s1 ⟨rfl, rfl⟩
  have new0 : (s.heap.push { cls := .type "dict", data := .dict #[] }).DictOfH (MT prog w) s.heap.objs.size [] := Heap.DictOfH.new s.heap
  have k0 : ∀ b o, s.heap.get? b = some o → (s.heap.push { cls := .type "dict", data := .dict #[] }).get? b = some o := fun b o e => Heap.get?_push_of_some _ e
  refine ⟨new0.typeIs, PySem.F.args_dict_init_2 _ _, ?_⟩
  unfold Builtin.«dict.__init__»
  refine wpAny_bind ?_
  unfold Builtin.Dict.selfAndRest
  refine wpAny_bind (wpAny_notOrdered_dict new0.typeIs (wpAny_pure (a := (s.heap.objs.size, [Value.ref l])) ?_))
  show wpAny _ _ (Builtin.Dict.updateFrom "dict.__init__" s.heap.objs.size (.ref l) [] .none) _ _ _
  unfold Builtin.Dict.updateFrom
  refine wpAny_bind (wpAny_typeOf (T := "list") ⟨ol, k0 _ _ hl, hc⟩ ?_)
  rw [if_pos (by first | decide | rfl | simp)]
  refine wpAny_bind (miss_list (k0 _ _ hl) hc hdat hd hh fun h1 tk1 hk1 => ?_)
  rw [if_pos (show (none : Option Value).isNone = true from rfl)]
  refine wpAny_bind (wpAny_rule ?_)
  have hl1 : h1.IsList l items := ⟨ol, hk1 _ _ (k0 _ _ hl), hc, n, hdat⟩
  have hS1 : s.heap.objs.size < h1.objs.size := Heap.lt_size (hk1 s.heap.objs.size _ (Heap.get?_push_size _ rfl))
  refine wpAny_bind (wpAny_pyIter_list hl1 ?_)
  have k2 : ∀ b o, h1.get? b = some o → (h1.push { cls := .type "list_iterator", data := .fields #[.ref l, .int 0 0] }).get? b = some o := fun b o e => Heap.get?_push_of_some _ e
  have k3 : ∀ b o, s.heap.get? b = some o → (h1.push { cls := .type "list_iterator", data := .fields #[.ref l, .int 0 0] }).get? b = some o := fun b o e => k2 _ _ (hk1 _ _ (k0 _ _ e))
  have low : ∀ {b : Addr} {o : Obj}, s.heap.get? b = some o → b < s.heap.objs.size := fun e => Heap.lt_size e
  have hlt := low hl
  have key := updT_loop (prog := prog) (w := w) (A := A.in1) (R := wants (fun r s2 => r = .none ∧ Q (.ref s.heap.objs.size) s2) E) (S := s.heap.objs.size) (I := h1.objs.size) (l := l) (items := items) (res := Value.none) hh (by show A.units + 1 + 1 < cLine; omega)
    (Nat.ne_of_lt (Nat.lt_trans hlt hS1)) (Nat.ne_of_lt hS1) (Nat.ne_of_gt hlt) prs 0 [] 0 0 { s with heap := h1.push { cls := .type "list_iterator", data := .fields #[.ref l, .int 0 0] }, toks := tk1 } (by rw [hsz, Nat.zero_add]) (by simpa using hln)
    (fun o e hc' => by
      have e2 : some o = some { cls := .type "list_iterator", data := .fields #[.ref l, .int 0 0] } := e.symm.trans (Heap.get?_push_size _ rfl)
      cases e2
      exact absurd (Value.type.inj hc') (by decide))
    (fun j q e => by
      obtain ⟨b, e1, e2, e3⟩ := hr j q e
      have hb : b < s.heap.objs.size := e2.lt
      exact ⟨b, by rw [Nat.zero_add]; exact e1, Nat.ne_of_lt hb, Nat.ne_of_lt (Nat.lt_trans hb hS1), e2.keeps fun c o z => k3 c o z, key_keep e3 fun c o z _ => k3 c o z⟩)
    ⟨_, Heap.get?_push_size _ rfl, rfl, rfl⟩ (hl1.at fun o e => k2 _ _ e) (dictH_keep new0 (fun o e => k2 _ _ (hk1 _ _ e)) fun c o e _ => k2 _ _ (hk1 _ _ e))
    (fun h' tk hd' k => ⟨rfl, h h' tk hd' fun b o e => k b o (Nat.ne_of_lt (low e)) (Nat.ne_of_lt (Nat.lt_trans (low e) hS1)) (k3 b o e)⟩)
  first
    | exact wpAny_pure ⟨plainId_quiet ud_plain _, key⟩
    | exact wpAny_bind (wpAny_pure (wpAny_pure ⟨plainId_quiet ud_plain _, key⟩))
end
/-! ### dict(xs) -/
theorem vals_pairs {X : Cx} {pins : List (Addr × Obj)} {σ : L2.St} {H : Hp} {s : Shared} (I : Inv X pins σ H s) : ∀ (xs : List V), (∀ x ∈ xs, ∃ t b, x = .ref t ∧ H t = some (.tup [.ref b, (two H x).2]) ∧ H b = some (.tup ((keyT H (two H x).1).map kV))) →
    ∃ prs : List (List Key × Addr × Value), KT H (xs.map fun x => (keyT H (two H x).1, (two H x).2)) prs ∧ prs.length = xs.length ∧ ∀ (j : Nat) (q : List Key × Addr × Value), prs[j]? = some q → ∃ b, xs[j]? = some (V.ref b) ∧ IsTup s.heap b #[.ref q.2.1, q.2.2] ∧ (MT X.prog X.w).is s.heap q.1 q.2.1
  | [], _ => ⟨[], .nil, rfl, fun j q e => by simp at e⟩
  | x :: xs, h => by
    obtain ⟨prs, r, hl, hp⟩ := vals_pairs I xs fun y hy => h y (List.mem_cons_of_mem _ hy)
    obtain ⟨t, b, rfl, ht, hb⟩ := h x List.mem_cons_self
    obtain ⟨its, rv, hit, _⟩ := I.tuple (SqT.of ht)
    obtain ⟨u, y, rfl, ru, ry⟩ := vals2 rv
    obtain rfl : u = Value.ref b := ru
    refine ⟨(keyT H (two H (.ref t)).1, b, y) :: prs, .cons ⟨rfl, hb, ry⟩ r, by simp [hl], fun j q e => ?_⟩
    cases j with
    | zero =>
      obtain rfl := Option.some.inj (show some _ = some q from e)
      exact ⟨t, rfl, hit, key_of I.hok hb⟩
    | succ j =>
      obtain ⟨b2, e1, e2⟩ := hp j q (by simpa using e)
      exact ⟨b2, by simpa using e1, e2⟩
def adrD : V → Addr
  | .ref b => b
  | _ => 0
theorem putKey_ne (k v : D) : ∀ ds : List (D × D), putKey ds k v ≠ []
  | [] => by simp [putKey]
  | (q, u) :: r => by
    simp only [putKey]
    split <;> simp
theorem mergeD_ne : ∀ (ps ds : List (D × D)), ps ≠ [] ∨ ds ≠ [] → ps.foldl (fun a p => putKey a p.1 p.2) ds ≠ []
  | [], ds, h => h.resolve_left fun z => z rfl
  | p :: ps, ds, _ => mergeD_ne ps _ (.inr (putKey_ne _ _ _))
theorem refs_get : ∀ {vs : List V} {us : List Value} {j : Nat} {b : Addr}, Vals vs us → vs[j]? = some (.ref b) → us.toArray[j]? = some (.ref b)
  | _, _, _, _, .nil, h => by simp at h
  | _, _, 0, b, .cons r t, h => by
    cases Option.some.inj (show some _ = some _ from h)
    cases r
    rfl
  | _, _, j + 1, b, .cons r t, h => by
    have := refs_get t (j := j) (by simpa using h)
    simpa using this
section
variable {c : Cn} {X : Cx} (cc : Cc c X)
include cc
theorem s_dict : CallR X (.type "dict") (C1 c .dict) := by
  intro pins s σ H xs us Q I rv ⟨x, ex, F, k1, d1, fp1, r, r1, e, q⟩
  have e : dictD d1 = some r := e
  cases d1 with
  | list ds =>
    simp only [dictD] at e
    obtain ⟨ps, hps, e2⟩ := Option.bind_eq_some_iff.mp e
    clear e
    obtain rfl := pairsOf_map hps
    obtain ⟨a, vs, rfl, ha, la, fa⟩ := rep_list (F' := F) r1
    have lz : vs.length = ps.length := by rw [la, List.length_map]
    split at e2
    · rename_i hk
      cases e2
      rw [Bool.or_eq_true] at hk
      by_cases hi : (ps.all fun p => isKey p.1) = true
      · obtain ⟨_, m⟩ := dr_int hi (fa (fun _ => True) (fun _ _ => trivial) fun _ _ => trivial)
        refine call_dictP cc.calm pins s σ H xs us Q I rv ⟨a, vs.map adrD, vs.map fun x => (keyI (two H x).1, (two H x).2), ex, ?_, ?_, fun p hp => ?_⟩
        · have z : (vs.map adrD).map V.ref = vs := by
            rw [List.map_map]
            refine (List.map_congr_left fun x hx => ?_).trans (List.map_id vs)
            obtain ⟨t, rfl, _⟩ := m x hx
            rfl
          rw [z]
          exact sq_of (c := ⟨X.K, c.fa, c.cl⟩) ha
        · have z : ∀ l : List V, (∀ x ∈ l, ∃ t, x = .ref t ∧ H t = some (.tup [kV (keyI (two H x).1), (two H x).2])) → Paired (fun p kv => SqT X.K H p [kV kv.1, kv.2]) (l.map adrD) (l.map fun x => (keyI (two H x).1, (two H x).2)) := fun l => by
            induction l with
            | nil => exact fun _ => .nil
            | cons x l ih =>
              intro h
              obtain ⟨t, rfl, ht⟩ := h x List.mem_cons_self
              exact .cons (SqT.of ht) (ih fun y hy => h y (List.mem_cons_of_mem _ hy))
          exact z vs m
        · refine q (.ref p) _ (Same.new hp) fun F' mm n => ⟨[p], ?_, by simp, fun b hb => by rw [List.mem_singleton.mp hb]; exact hp⟩
          have D0 := (dr_int hi (fa F' mm n)).1
          have D1 := DR.merge eqv_dk D0 .nil List.nodup_nil
          exact .dkown upd_same D1.keys (D1.vals.same (Same.new hp))
      · have ht := hk.resolve_left hi
        have ne : ps ≠ [] := fun z => by subst z; exact hi rfl
        obtain ⟨_, m⟩ := dr_tup ht (fa (fun _ => True) (fun _ _ => trivial) fun _ _ => trivial)
        subst ex
        obtain ⟨u, rfl, ru⟩ := vals1 rv
        obtain rfl : u = Value.ref a := ru
        obtain ⟨its, rvs, pl, hz⟩ := I.list (sq_of (c := ⟨X.K, c.fa, c.cl⟩) ha)
        obtain ⟨prs, rel, hl, hpr⟩ := vals_pairs I vs m
        have hln := rvs.length
        obtain ⟨o, n, ho, hc, hd, hdat⟩ := pl
        refine dict_of_tups (prs := prs) (I.ok.hd cc.calm) (by have := cc.un; omega) ho hc hd hdat (by simp [hl, hln]) (by rw [hl]; exact hz) (fun j q' e => ?_) fun h' tk hd' k => ?_
        · obtain ⟨b, e1, e2⟩ := hpr j q' e
          exact ⟨b, refs_get rvs e1, e2⟩
        · have hm : (s.heap.objs.size == sysModules) = false := beq_eq_false_iff_ne.mpr (Nat.ne_of_gt I.big)
          have rel2 := KT.merge rel .nil
          have hlen : (mergeG [] (vs.map fun x => (keyT H (two H x).1, (two H x).2))).length ≤ sizeLine := by
            refine Nat.le_trans (mergeG_len _ _) ?_
            rw [List.length_nil, Nat.zero_add, List.length_map]
            exact hz
          have fr := I.hok.fresh (Nat.le_refl _)
          obtain ⟨o', es, ep, z1, z2, z3, z4, z5, z6⟩ := hd'
          refine ⟨.ref s.heap.objs.size, upd H s.heap.objs.size (.dT (mergeG [] (vs.map fun x => (keyT H (two H x).1, (two H x).2)))), I.laid (t' := tk) k (Nat.le_refl _)
            (show ObjOk X.prog X.w _ _ _ (.dT _) from ⟨hlen, hm, mergeH [] prs, KT.keeps rel2 fun b ys hb => Same.new fr b _ hb, o', es, ep, z1, z2, z3, z4, z6⟩), rfl, ?_⟩
          refine q (.ref s.heap.objs.size) _ (Same.new fr) fun F' mm n => ⟨[s.heap.objs.size], ?_, by simp, fun b hb => by rw [List.mem_singleton.mp hb]; exact fr⟩
          have D0 := (dr_tup ht (fa F' mm n)).1
          have D1 := DR.merge (g := fun ks : List Key => PyData.tuple (ks.map dk)) (fun x y => by simp only [PyData.eqv]; exact eqv_dks x y) D0 .nil List.nodup_nil
          exact .dtown upd_same (fun z => mergeD_ne ps [] (.inl ne) z) D1.keys (D1.vals.same (Same.new fr))
    · cases e2
  | _ => cases e
end
end Pv
end
section
set_option maxRecDepth 100000
set_option maxHeartbeats 4000000
/-! PvShape: what a text's expression must look like, for each operation. -/
namespace Pv
open PySem PySem.Spec PyProof.Rows L2
/-- what holds of the text, C: its defs at the level below -/
structure Kn (T : Tab) (c : Cn) (xc : Xc) (C : Calls) (lv : Nat) (P : Program) (w : World) (K : PySem.W.Frag) (mg : Str → Option Value) (base : Heap) : Prop where
  dbg : ∀ x, x ∈ T.defs → (x == ("__debug__" : Str)) = false
  def_ : ∀ i x, T.defs[i]? = some x → ∃ a fd ps, mg x = some (.ref a) ∧ c.fa i = some a ∧ PySem.W.keepIn K (.ref a) = true ∧ Binds K fd ps [] ∧ FnOk P w K mg base (L2.CX P w) lv a fd ps (spC c xc ((T.out[i]?).getD none) (C i))
  fa : ∀ i a, c.fa i = some a → ∃ fd ps, PySem.W.keepIn K (.ref a) = true ∧ Binds K fd ps [] ∧ FnOk P w K mg base (L2.CX P w) lv a fd ps (spC c xc ((T.out[i]?).getD none) (C i))
  cst_ : ∀ x d, (x, d) ∈ T.csts → ∃ u v, mg x = some u ∧ RelV v u ∧ (x == ("__debug__" : Str)) = false ∧ ∀ (F' : Addr → Prop) (H' : Hp) (j : Nat), Rep c F' H' j v d []
  blt : ∀ x, x ∈ bnames → mg x = none
  mth : ∀ f i m, (f, i, m) ∈ T.meths → ∃ Ca a fd ps, c.cl i = some Ca ∧ L2.Cls K Ca ∧ Meth K Ca m a ∧ Binds K fd ps [] ∧ FnOk P w K mg base (L2.CX P w) lv a fd ps (spC c xc ((T.out[f]?).getD none) (C f))
  mk_ : ∀ i x f, T.own[i]? = some x → T.inits[i]? = some f → ∃ Ca a fd ps, mg x = some (.ref Ca) ∧ c.cl i = some Ca ∧ (x == ("__debug__" : Str)) = false ∧ Mk K Ca a ∧ Binds K fd ps [] ∧ FnOk P w K mg base (L2.CX P w) lv a fd ps (spC c xc (some 0) (C f))
  fld_ : ∀ i Ca, c.cl i = some Ca → L2.Cls K Ca ∧ ∀ x, x ∈ T.flds → NoAttr K Ca x
/-- a place in the text -/
structure Xk (T : Tab) (c : Cn) (xc : Xc) (C : Calls) (lv : Nat) (X : Cx) (N : List Str) (sc : Scope) (st : Str → Bool) (W : WX) : Prop where
  kn : Kn T c xc C lv X.prog X.w X.K X.mg X.base
  cc : Cc c X
  room : Room (lv + 1) X.A
  hN : X.N = N
  hs : X.env.scope = sc
  nd : N.Nodup
  dbg : ∀ x, x ∈ N → (x == ("__debug__" : Str)) = false ∧ (x == ("__classdict__" : Str)) = false
  tk : Takes X W
  fn : ∀ x, st x = true → X.fn x = true
  kind : sc.kind = .function
def glob (sc : Scope) (x : Str) : Bool := decide (sc.names.lookup x = some .globalImplicit)
def vis (N : List Str) (sc : Scope) (i : Nat) (x : Str) : Bool := decide (N[i]? = some x) && (match sc.names.lookup x with
  | some .local => true
  | some .cell => true
  | some .free => true
  | _ => false)
/-- a name that may be stored -/
def stored (N : List Str) (sc : Scope) (st : Str → Bool) (i : Nat) (x : Str) : Bool := decide (N[i]? = some x) && (match sc.names.lookup x with
  | some .local => true
  | some .cell => st x
  | _ => false)
def plainT : Expr → Bool
  | .UnaryOp .Not _ _ => false
  | .BoolOp _ _ _ => false
  | .IfExp _ _ _ _ => false
  | .Compare _ _ _ _ => false
  | _ => true
def isB : Expr → Bool
  | .BoolOp _ _ _ => true
  | _ => false
/-- its truth is asked by a rule that we have -/
def tst : Expr → Bool
  | .IfExp _ _ _ _ => false
  | _ => true
def noStar : Expr → Bool
  | .Starred _ _ => false
  | _ => true
def noSlice : Expr → Bool
  | .Slice _ _ _ _ => false
  | _ => true
def noSet : Expr → Bool
  | .Set _ _ _ => false
  | _ => true
def noSup : Expr → Bool
  | .Call _ _ _ _ => false
  | _ => true
section
variable {X : Cx}
theorem star1 {e : Expr} {es : List Expr} {env : PySem.Env} (h : noStar e = true) : starEach (e :: es) env = (false, eval e env) :: starEach es env := by
  cases e <;> first | rfl | cases h
theorem stars {es : List Expr} {env : PySem.Env} {pos : Pos} (h : es.all noStar = true) : (backTo pos (starEach es env)).any (·.1) = false := by
  induction es with
  | nil => rfl
  | cons e es ih =>
    simp only [List.all_cons, Bool.and_eq_true] at h
    rw [star1 h.1]
    exact ih h.2
theorem nomarkS {op : CmpOp} {b : Expr} (h : noSet b = true) : behindInMarks op b = false := by
  cases b <;> first | rfl | cases h
theorem plainIx {b : Expr} (h : noSlice b = true) : PlainIx b := fun o i => by
  cases b <;> first | rfl | cases h
theorem baseOf {o : Expr} {m : Str} {env : PySem.Env} (h : noSup o = true) : attributeBase o m env (eval o env) = eval o env := by
  cases o <;> first | rfl | cases h
theorem folded {e : Expr} {env : PySem.Env} (h : noSet e = true) : ∀ x, foldedSetIterable e env x = pure x := fun x => by
  cases e <;> first | rfl | cases h
theorem pt_plain {e : Expr} {t : TE} (h : plainT e = true) (p : PE X e t) : PT X e (tTest t) := pt_val p fun w => by
  cases e with
  | UnaryOp op a pos => cases op <;> first | rfl | cases h
  | _ => first | rfl | cases h
theorem few {e : Expr} {es : List Expr} {env : PySem.Env} {pos : Pos} (h : (e :: es).all noStar = true) (hl : es.length ≤ 20) : ((backTo pos (starEach (e :: es) env)).all (fun x => !x.1) && (backToKw pos (keywordEach [] env)).all (fun x => x.1.isSome)
      && decide ((e :: es).length + ([] : List Keyword).length + (if ([] : List Keyword).isEmpty then 0 else 1) < 30)) = true := by
  have h1 : (backTo pos (starEach (e :: es) env)).all (fun x => !x.1) = true := by
    have := stars (pos := pos) (env := env) h
    rw [List.any_eq_false] at this
    rw [List.all_eq_true]
    exact fun x hx => by
      have := this x hx
      simpa using this
  rw [h1]
  simp only [keywordEach, backToKw, List.map_nil, List.all_nil, Bool.and_true, Bool.true_and, List.length_cons, List.length_nil, List.isEmpty_nil, if_true, decide_eq_true_eq]
  omega
theorem asgLen {es : List Expr} {env : PySem.Env} : (assignEach es env).length = es.length := by
  induction es with
  | nil => rfl
  | cons e es ih => cases e <;> exact congrArg (· + 1) ih
theorem asgStar {es : List Expr} {env : PySem.Env} (h : es.all noStar = true) : (assignEach es env).findIdx? (·.1) = none := by
  induction es with
  | nil => rfl
  | cons e es ih =>
    simp only [List.all_cons, Bool.and_eq_true] at h
    have e1 : assignEach (e :: es) env = (false, assign e env) :: assignEach es env := by
      cases e <;> first | rfl | cases h.1
    rw [e1, List.findIdx?_cons]
    simp only [Bool.false_eq_true, if_false]
    rw [ih h.2]
    rfl
theorem asgCons {e : Expr} {es : List Expr} {env : PySem.Env} (h : noStar e = true) : (assignEach (e :: es) env).map (·.2) = assign e env :: (assignEach es env).map (·.2) := by
  cases e <;> first | rfl | cases h
end
section
variable {T : Tab} {c : Cn} {xc : Xc} {C : Calls} {lv : Nat} {X : Cx} {N : List Str} {sc : Scope} {st : Str → Bool} {W : WX}
theorem Xk.gl (k : Xk T c xc C lv X N sc st W) {x : Str} (h : glob sc x = true) : Gl X x := by
  have : X.env.scope.names.lookup x = some .globalImplicit := by rw [k.hs]; exact of_decide_eq_true h
  exact this
theorem Xk.var (k : Xk T c xc C lv X N sc st W) {i : Nat} {x : Str} {pos : Pos} (h : vis N sc i x = true) : PE X (.Name x pos) (tVar i) := by
  unfold vis at h
  rw [Bool.and_eq_true] at h
  have h1 : N[i]? = some x := of_decide_eq_true h.1
  have hm : x ∈ N := by
    obtain ⟨hi, e⟩ := List.getElem?_eq_some_iff.mp h1
    rw [← e]; exact List.getElem_mem hi
  obtain ⟨d1, d2⟩ := k.dbg x hm
  refine pe_var (by rw [k.hN]; exact h1) ?_ d1 d2
  have h2 := h.2
  unfold Vis
  rw [k.hs]
  split at h2
  · rename_i q; exact .inl q
  · rename_i q; exact .inr (.inl q)
  · rename_i q; exact .inr (.inr q)
  · cases h2
/-! ### one operand -/
def bin1 (o : O1) : Option Str := match o with
  | .len => some "len"
  | .abs => some "abs"
  | .int => some "int"
  | .str => some "str"
  | .list => some "list"
  | .tuple => some "tuple"
  | .sorted => some "sorted"
  | .sum => some "sum"
  | .min => some "min"
  | .max => some "max"
  | .all => some "all"
  | .any => some "any"
  | .dict => some "dict"
  | _ => none
def kdOf (x : Str) : Option Kd := if x = "int" then some .int else if x = "bool" then some .bool else if x = "str" then some .str else if x = "list" then some .list else if x = "tuple" then some .tuple else none
def isaTs : O1 → List Kd
  | .isInt => [.int]
  | .isBool => [.bool]
  | .isTup => [.tuple]
  | .isStr => [.str]
  | .isList => [.list]
  | .isSeq => [.list, .tuple]
  | .isBoolStr => [.bool, .str]
  | _ => []
def isa1 (o : O1) (t : Str) : Bool := match kdOf t, isaTs o with
  | some k, [k'] => decide (k = k')
  | _, _ => false
def isa2 (o : O1) (t u : Str) : Bool := match kdOf t, kdOf u, isaTs o with
  | some k, some l, [k', l'] => decide (k = k') && decide (l = l')
  | _, _, _ => false
/-- sorted(set(b)), len(set(b)): b -/
def setOf (sc : Scope) (z x : Str) : Expr → Option Expr
  | .Call (.Name y _) [b] [] _ => if decide (x = z) && decide (y = "set") && glob sc x && glob sc y && noStar b then some b else none
  | _ => none
/-- list(range(b)): b -/
def rngOf (sc : Scope) (x : Str) : Expr → Option Expr
  | .Call (.Name y _) [b] [] _ => if decide (x = "list") && decide (y = "range") && glob sc x && glob sc y && noStar b then some b else none
  | _ => none
def sh1 (sc : Scope) (o : O1) : Expr → Option Expr
  | .UnaryOp .USub a _ => if decide (o = .neg) then some a else none
  | .UnaryOp .Invert a _ => if decide (o = .inv) then some a else none
  | .Compare a [.Is] [.Constant .none _ _] _ => if decide (o = .isNone) then some a else none
  | .Compare a [.IsNot] [.Constant .none _ _] _ => if decide (o = .notNone) then some a else none
  | .Subscript a (.Slice (some (.UnaryOp .USub (.Constant (.int m) _ _) _)) none (some (.UnaryOp .USub (.Constant (.int n) _ _) _)) _) _ => if decide (o = .revButLast) && decide (m = 2) && decide (n = 1) then some a else none
  | .Call (.Name x _) [a] [] _ => if decide (o = .listRng) then rngOf sc x a else if decide (o = .sortedSet) then setOf sc "sorted" x a else if decide (o = .lenSet) then setOf sc "len" x a else if decide (bin1 o = some x) && glob sc x && noStar a then some a else none
  | .Call (.Name x _) [a, .Name t _] [] _ => if decide (x = "isinstance") && glob sc x && glob sc t && noStar a && isa1 o t then some a else none
  | .Call (.Name x _) [a, .Tuple [.Name t _, .Name u _] _ _] [] _ => if decide (x = "isinstance") && glob sc x && glob sc t && glob sc u && noStar a && isa2 o t u then some a else none
  | _ => none
/-- e is a's value, put through o -/
def Sh1 (X : Cx) (c : Cn) (o : O1) (a e : Expr) : Prop := ∀ t, PE X a t → PE X e (fun σ H Q => t σ H fun v H1 => R1 c o v H1 Q) ∧ (tst e = true → PT X e (tTest fun σ H Q => t σ H fun v H1 => R1 c o v H1 Q))
theorem sh1_call {o : O1} {x : Str} {p pos : Pos} {a : Expr} (h : ∀ t, PE X a t → PE X (.Call (.Name x p) [a] [] pos) (fun σ H Q => t σ H fun v H1 => R1 c o v H1 Q)) : Sh1 X c o a (.Call (.Name x p) [a] [] pos) := fun t q => ⟨h t q, fun _ => pt_plain rfl (h t q)⟩
theorem tcb_of {t : TE} {o : O1} {σ : L2.St} {H : Hp} {Q : VK} (z : t σ H fun v H1 => R1 c o v H1 Q) : tCB (C1 c o) (tCons t tNil) σ H Q := by
  have : (fun (v : V) (H1 : Hp) => R1 c o v H1 Q) = fun v H1 => tNil σ H1 fun xs H2 => C1 c o (v :: xs) H2 Q := by
    funext v H1
    exact propext ⟨fun r => ⟨v, rfl, r⟩, fun ⟨x, e, r⟩ => by cases e; exact r⟩
  show t σ H fun v H1 => tNil σ H1 fun xs H2 => C1 c o (v :: xs) H2 Q
  rw [← this]
  exact z
theorem callB1 (k : Xk T c xc C lv X N sc st W) {o : O1} {x : Str} {id : String} {p pos : Pos} {a : Expr} (hc : CallR X (.builtin id) (C1 c o)) (hg : glob sc x = true) (hb : x ∈ bnames) (hv : bootBuiltins x = some (.builtin id)) (hs : noStar a = true)
    (hn : x ≠ "__name__" := by decide) (hd : (x == ("__debug__" : Str)) = false := by decide) : Sh1 X c o a (.Call (.Name x p) [a] [] pos) := sh1_call fun t q =>
  PE.imp (pe_callB hc (k.gl hg) (k.kn.blt x hb) hv (pa_cons q pa_nil (star1 hs)) hn hd (star1 hs) rfl) fun σ H Q z => tcb_of z
theorem callT1 (k : Xk T c xc C lv X N sc st W) {o : O1} {x : Str} {id : String} {p pos : Pos} {a : Expr} (hc : CallR X (.type id) (C1 c o)) (hg : glob sc x = true) (hb : x ∈ bnames) (hv : bootBuiltins x = some (.type id)) (hs : noStar a = true)
    (hn : x ≠ "__name__" := by decide) (hd : (x == ("__debug__" : Str)) = false := by decide) : Sh1 X c o a (.Call (.Name x p) [a] [] pos) := sh1_call fun t q =>
  PE.imp (pe_callTy hc (k.gl hg) (k.kn.blt x hb) hv (pa_cons q pa_nil (star1 hs)) hn hd (star1 hs) rfl) fun σ H Q z => tcb_of z
theorem R1_non {o : O1} {f : Bool → Bool} (ho : ∀ d, ap1 o d = some (.bool (f (decide (kd d = .non))))) {x : V} {H : Hp} {Q : VK} (h : R1 c o x H Q) : Q (.bl (f (decide (x = .non)))) H := by
  obtain ⟨F, k1, d1, fp1, r, r1, e, q⟩ := h
  rw [ho d1] at e
  cases e
  have : decide (x = .non) = decide (kd d1 = .non) := by
    cases r1 <;> rfl
  rw [this]
  exact q.bl
/-- PE under a stronger wish of the operand -/
theorem PE.mono' {X : Cx} {a : Expr} {t : TE} (q : PE X a t) : PE X a (fun σ H Q => ∃ Q0 : VK, (∀ v H1, Q0 v H1 → Q v H1) ∧ t σ H Q0) := ⟨fun pins s σ H Q I ⟨Q0, i, h⟩ => thn (q.run pins s σ H Q0 I h) fun u s' ⟨v, H', I', r, z⟩ => ⟨v, H', I', r, i v H' z⟩⟩
theorem sh_non {o : O1} {t : TE} {a : Expr} {pos p2 : Pos} {j : Nat} (op : CmpOp) (f : Bool → Bool) (ho : ∀ d, ap1 o d = some (.bool (f (decide (kd d = .non))))) (hp : ∀ t, PE X a t → PC X op a (.Constant .none j p2) (fun σ H Q => t σ H fun x H1 => Q (.bl (f (decide (x = .non)))) H1)) (q : PE X a t)
    (hm : behindInMarks op (.Constant .none j p2) = false := by rfl) : PE X (.Compare a [op] [.Constant .none j p2] pos) (fun σ H Q => t σ H fun v H1 => R1 c o v H1 Q) ∧ (tst (.Compare a [op] [.Constant .none j p2] pos) = true → PT X (.Compare a [op] [.Constant .none j p2] pos) (tTest fun σ H Q => t σ H fun v H1 => R1 c o v H1 Q)) := by
  have h := hp _ (PE.mono' q)
  refine ⟨PE.imp (pe_cmp h hm) fun σ H Q z => ⟨_, fun v H1 r => R1_non ho r, z⟩, fun _ => PT.imp (pt_cmp h hm) fun σ H Q z => ⟨_, fun v H1 r => ?_, z⟩⟩
  exact R1_non ho r
theorem kdOf_ok {x : Str} {t : Kd} (h : kdOf x = some t) : clsKd t = true ∧ bootBuiltins x = some (.type (kdName t)) ∧ x ∈ bnames ∧ x ≠ "__name__" ∧ (x == ("__debug__" : Str)) = false := by
  unfold kdOf at h
  split at h
  · rename_i e; cases h; subst e; exact ⟨rfl, rfl, by decide, by decide, by decide⟩
  · split at h
    · rename_i e; cases h; subst e; exact ⟨rfl, rfl, by decide, by decide, by decide⟩
    · split at h
      · rename_i e; cases h; subst e; exact ⟨rfl, rfl, by decide, by decide, by decide⟩
      · split at h
        · rename_i e; cases h; subst e; exact ⟨rfl, rfl, by decide, by decide, by decide⟩
        · split at h
          · rename_i e; cases h; subst e; exact ⟨rfl, rfl, by decide, by decide, by decide⟩
          · cases h
theorem pe_kd (k : Xk T c xc C lv X N sc st W) {x : Str} {t : Kd} {p : Pos} (hg : glob sc x = true) (h : kdOf x = some t) : PE X (.Name x p) (tC (.ty (kdName t))) := by
  obtain ⟨_, h2, h3, h4, h5⟩ := kdOf_ok h
  exact pe_bltn (k.gl hg) (k.kn.blt x h3) h2 rfl h4 h5
theorem isaR {o : O1} {ts : List Kd} (ho : isaTs o = ts) (hne : ts ≠ []) {x : V} {H : Hp} {Q : VK} (h : R1 c o x H Q) : RIsa c ts x H Q := by
  obtain ⟨F, k1, d1, fp1, r, r1, e, q⟩ := h
  subst ho
  cases o <;> first | exact absurd rfl hne | exact ⟨F, k1, d1, fp1, r, r1, e, q⟩
theorem isa1_ok (k : Xk T c xc C lv X N sc st W) {o : O1} {t : Str} {a : Expr} {p p2 pos : Pos} (hg : glob sc "isinstance" = true) (ht : glob sc t = true) (hs : noStar a = true) (h : isa1 o t = true) : Sh1 X c o a (.Call (.Name "isinstance" p) [a, .Name t p2] [] pos) := by
  unfold isa1 at h
  split at h
  · rename_i kd k' e1 e2
    obtain rfl := of_decide_eq_true h
    intro tt q
    have pe : PE X (.Call (.Name "isinstance" p) [a, .Name t p2] [] pos) (fun σ H Q => tt σ H fun v H1 => R1 c o v H1 Q) := by
      refine PE.imp (pe_callB (s_isa1 k.cc (kdOf_ok e1).1) (k.gl hg) (k.kn.blt _ (by decide)) PyProof.Rows.boot_isinstance (pa_cons (PE.mono' q) (pa_cons (pe_kd k ht e1) pa_nil (star1 rfl)) (star1 hs)) (by decide) (by decide) (star1 hs) rfl) fun σ H Q z => ?_
      exact ⟨_, fun v H1 r => ⟨v, rfl, isaR e2 (by simp) r⟩, z⟩
    exact ⟨pe, fun _ => pt_plain rfl pe⟩
  · cases h
theorem isa2_ok (k : Xk T c xc C lv X N sc st W) {o : O1} {t u : Str} {a : Expr} {p p2 p3 p4 pos : Pos} {kk : Nat} (hg : glob sc "isinstance" = true) (ht : glob sc t = true) (hu : glob sc u = true) (hs : noStar a = true) (h : isa2 o t u = true) : Sh1 X c o a (.Call (.Name "isinstance" p) [a, .Tuple [.Name t p2, .Name u p3] kk p4] [] pos) := by
  unfold isa2 at h
  split at h
  · rename_i kd kl k' l' e1 e2 e3
    rw [Bool.and_eq_true] at h
    obtain rfl := of_decide_eq_true h.1
    obtain rfl := of_decide_eq_true h.2
    intro tt q
    have pe : PE X (.Call (.Name "isinstance" p) [a, .Tuple [.Name t p2, .Name u p3] kk p4] [] pos) (fun σ H Q => tt σ H fun v H1 => R1 c o v H1 Q) := by
      refine PE.imp (pe_callB (s_isa2 k.cc (kdOf_ok e1).1 (kdOf_ok e2).1) (k.gl hg) (k.kn.blt _ (by decide)) PyProof.Rows.boot_isinstance (pa_cons (PE.mono' q) (pa_cons (pe_tup (pa_cons (pe_kd k ht e1) (pa_cons (pe_kd k hu e2) pa_nil (star1 rfl)) (star1 rfl))) pa_nil (star1 rfl)) (star1 hs)) (by decide) (by decide) (star1 hs) rfl) fun σ H Q z => ?_
      exact ⟨_, fun v H1 r => ⟨(by decide : 2 ≤ sizeLine), fun tp htp => ⟨v, tp, H1, rfl, htp, rfl, isaR e3 (by simp) r⟩⟩, z⟩
    exact ⟨pe, fun _ => pt_plain rfl pe⟩
  · cases h
theorem setOf_ok (k : Xk T c xc C lv X N sc st W) {x : Str} {p pos : Pos} {a e : Expr} (h : setOf sc "sorted" x e = some a) : Sh1 X c .sortedSet a (.Call (.Name x p) [e] [] pos) := by
  unfold setOf at h
  split at h
  · split at h
    · rename_i hc
      cases h
      simp only [Bool.and_eq_true] at hc
      obtain ⟨⟨⟨⟨h1, h2⟩, h3⟩, h4⟩, h5⟩ := hc
      obtain rfl := of_decide_eq_true h1
      obtain rfl := of_decide_eq_true h2
      intro t q
      have pe := fun p2 q2 => pe_sortedSet (p := p) (p2 := p2) (q := q2) (pos := pos) k.cc (k.gl h3) (k.kn.blt _ (by decide)) (k.gl h4) (k.kn.blt _ (by decide)) q (star1 h5)
      exact ⟨pe _ _, fun _ => pt_plain rfl (pe _ _)⟩
    · cases h
  · cases h
theorem lenOf_ok (k : Xk T c xc C lv X N sc st W) {x : Str} {p pos : Pos} {a e : Expr} (h : setOf sc "len" x e = some a) : Sh1 X c .lenSet a (.Call (.Name x p) [e] [] pos) := by
  unfold setOf at h
  split at h
  · split at h
    · rename_i hc
      cases h
      simp only [Bool.and_eq_true] at hc
      obtain ⟨⟨⟨⟨h1, h2⟩, h3⟩, h4⟩, h5⟩ := hc
      obtain rfl := of_decide_eq_true h1
      obtain rfl := of_decide_eq_true h2
      intro t q
      have pe := fun p2 q2 => pe_lenSet (p := p) (p2 := p2) (q := q2) (pos := pos) k.cc (k.gl h3) (k.kn.blt _ (by decide)) (k.gl h4) (k.kn.blt _ (by decide)) q (star1 h5)
      exact ⟨pe _ _, fun _ => pt_plain rfl (pe _ _)⟩
    · cases h
  · cases h
theorem rgV_rngL : ∀ (n : Nat) (lo : Int), (List.range n).map (fun i => V.int (lo + (i : Nat))) = (rngL lo n).map fun d => match d with
    | .int i => V.int i
    | _ => .non
  | 0, _ => rfl
  | n + 1, lo => by
    rw [List.range_succ_eq_map, List.map_cons, List.map_map, rngL, List.map_cons, ← rgV_rngL n (lo + 1)]
    congr 1
    · simp
    · apply List.map_congr_left
      intro i _
      show V.int _ = V.int _
      congr 1
      push_cast
      omega
theorem rngL_rep (F : Addr → Prop) (H : Hp) : ∀ (n : Nat) (lo : Int), RepL c F H 0 ((rngL lo n).map fun d => match d with
    | .int i => V.int i
    | _ => .non) (rngL lo n) []
  | 0, _ => .nil _
  | n + 1, lo => .cons (fp := []) (fq := []) (.int _ _) (rngL_rep F H n (lo + 1))
theorem rngOf_ok (k : Xk T c xc C lv X N sc st W) {x : Str} {p pos : Pos} {a e : Expr} (h : rngOf sc x e = some a) : Sh1 X c .listRng a (.Call (.Name x p) [e] [] pos) := by
  unfold rngOf at h
  split at h
  · split at h
    · rename_i hc
      cases h
      simp only [Bool.and_eq_true] at hc
      obtain ⟨⟨⟨⟨h1, h2⟩, h3⟩, h4⟩, h5⟩ := hc
      obtain rfl := of_decide_eq_true h1
      obtain rfl := of_decide_eq_true h2
      intro t q
      have pe : ∀ p2 q2, PE X (.Call (.Name "list" p) [.Call (.Name "range" p2) [a] [] q2] [] pos) (fun σ H Q => t σ H fun v H1 => R1 c .listRng v H1 Q) := fun p2 q2 => by
        refine PE.imp (pe_listRg k.cc.calm (k.gl h3) (k.kn.blt _ (by decide)) (prg_1 (p := p2) (pos := q2) (k.gl h4) (k.kn.blt _ (by decide)) (PE.mono' q) (star1 h5))) fun σ H Q z => ?_
        refine ⟨_, fun v H1 r => ?_, z⟩
        obtain ⟨F, k1, d1, fp1, r0, r1, e, q⟩ := r
        have e : lrngD d1 = some r0 := e
        unfold lrngD at e
        split at e
        · split at e
          · rename_i hj
            rw [Bool.and_eq_true] at hj
            have hz := szOk_le hj.1
            rw [sizeLine_eq] at hz
            have hlo := of_decide_eq_true hj.2
            cases e
            cases r1
            refine ⟨_, rfl, ⟨by omega, by omega, by omega, by omega, by omega⟩, q.lst fun F' _ _ => ?_⟩
            unfold rgV
            rw [rgV_rngL, Int.sub_zero]
            exact rngL_rep F' H1 _ _
          · cases e
        · cases e
      exact ⟨pe _ _, fun _ => pt_plain rfl (pe _ _)⟩
    · cases h
  · cases h
theorem sh1_ok (k : Xk T c xc C lv X N sc st W) {o : O1} {a e : Expr} (h : sh1 sc o e = some a) : Sh1 X c o a e := by
  unfold sh1 at h
  split at h
  · split at h
    · rename_i ho
      cases h
      obtain rfl := of_decide_eq_true ho
      exact fun t q => ⟨pe_un (s_neg k.cc) q, fun _ => pt_plain rfl (pe_un (s_neg k.cc) q)⟩
    · cases h
  · split at h
    · rename_i ho
      cases h
      obtain rfl := of_decide_eq_true ho
      exact fun t q => ⟨pe_un (s_inv k.cc) q, fun _ => pt_plain rfl (pe_un (s_inv k.cc) q)⟩
    · cases h
  · split at h
    · rename_i ho
      cases h
      obtain rfl := of_decide_eq_true ho
      exact fun t q => sh_non .Is id (fun _ => rfl) (fun _ q => pc_isN q) q
    · cases h
  · split at h
    · rename_i ho
      cases h
      obtain rfl := of_decide_eq_true ho
      exact fun t q => sh_non .IsNot not (fun _ => rfl) (fun _ q => pc_notN q) q
    · cases h
  · split at h
    · rename_i ho
      cases h
      rw [Bool.and_eq_true, Bool.and_eq_true] at ho
      obtain rfl := of_decide_eq_true ho.1.1
      obtain rfl := of_decide_eq_true ho.1.2
      obtain rfl := of_decide_eq_true ho.2
      exact fun t q => ⟨pe_revB k.cc q, fun _ => pt_plain rfl (pe_revB k.cc q)⟩
    · cases h
  · rename_i x p a' pos
    split at h
    · rename_i ho
      obtain rfl := of_decide_eq_true ho
      exact rngOf_ok k h
    split at h
    · rename_i ho
      obtain rfl := of_decide_eq_true ho
      exact setOf_ok k h
    split at h
    · rename_i ho
      obtain rfl := of_decide_eq_true ho
      exact lenOf_ok k h
    split at h
    · rename_i hc
      cases h
      rw [Bool.and_eq_true, Bool.and_eq_true] at hc
      obtain ⟨⟨h1, h2⟩, h3⟩ := hc
      have h1 := of_decide_eq_true h1
      cases o <;> first | (cases h1; done) | skip
      · cases h1; exact callB1 k (s_len k.cc) h2 (by decide) rfl h3
      · cases h1; exact callB1 k (s_abs k.cc) h2 (by decide) rfl h3
      · cases h1; exact callT1 k (s_int k.cc) h2 (by decide) rfl h3
      · cases h1; exact callT1 k (s_str k.cc) h2 (by decide) rfl h3
      · cases h1; exact callT1 k (s_list k.cc) h2 (by decide) rfl h3
      · cases h1; exact callT1 k (s_tuple k.cc) h2 (by decide) rfl h3
      · cases h1; exact callB1 k (s_sorted k.cc) h2 (by decide) rfl h3
      · cases h1; exact callB1 k (s_sum k.cc) h2 (by decide) rfl h3
      · cases h1; exact callB1 k (s_min k.cc) h2 (by decide) rfl h3
      · cases h1; exact callB1 k (s_max k.cc) h2 (by decide) rfl h3
      · cases h1; exact callB1 k (s_all k.cc) h2 (by decide) rfl h3
      · cases h1; exact callB1 k (s_any k.cc) h2 (by decide) rfl h3
      · cases h1; exact callT1 k (s_dict k.cc) h2 (by decide) rfl h3
    · cases h
  · split at h
    · rename_i hc
      cases h
      simp only [Bool.and_eq_true] at hc
      obtain ⟨⟨⟨⟨h1, h2⟩, h3⟩, h4⟩, h5⟩ := hc
      obtain rfl := of_decide_eq_true h1
      exact isa1_ok k h2 h3 h4 h5
    · cases h
  · split at h
    · rename_i hc
      cases h
      simp only [Bool.and_eq_true] at hc
      obtain ⟨⟨⟨⟨⟨h1, h2⟩, h3⟩, h3'⟩, h4⟩, h5⟩ := hc
      obtain rfl := of_decide_eq_true h1
      exact isa2_ok k h2 h3 h3' h4 h5
    · cases h
  · cases h
/-! ### two operands -/
def op2n : Operator → Option O2
  | .Add => some .add
  | .Sub => some .sub
  | .Mult => some .mul
  | .FloorDiv => some .fdiv
  | .Mod => some .mod
  | .Pow => some .pow
  | .LShift => some .shl
  | .RShift => some .shr
  | .BitAnd => some .band
  | .BitOr => some .bor
  | .BitXor => some .bxor
  | _ => none
def cmpn : CmpOp → Option O2
  | .Eq => some .eq
  | .NotEq => some .ne
  | .Lt => some .lt
  | .LtE => some .le
  | .Gt => some .gt
  | .GtE => some .ge
  | .In => some .isin
  | .NotIn => some .notin
  | _ => none
theorem op2n_ok (cc : Cc c X) {op : Operator} {o : O2} (h : op2n op = some o) : OpR X (binaryOp op) (R2 c o) := by
  cases op <;> first | (cases h; done) | skip
  · cases h; exact s_add cc
  · cases h; exact s_sub cc
  · cases h; exact s_mul cc
  · cases h; exact s_mod cc
  · cases h; exact s_pow cc
  · cases h; exact s_shl cc
  · cases h; exact s_shr cc
  · cases h; exact s_or cc
  · cases h; exact s_xor cc
  · cases h; exact s_and cc
  · cases h; exact s_fdiv cc
theorem cmpn_ok (cc : Cc c X) {op : CmpOp} {o : O2} (h : cmpn op = some o) : OpR X (compareOp op) (R2 c o) := by
  cases op <;> first | (cases h; done) | skip
  · cases h; exact s_eq cc
  · cases h; exact s_ne cc
  · cases h; exact s_lt cc
  · cases h; exact s_le cc
  · cases h; exact s_gt cc
  · cases h; exact s_ge cc
  · cases h; exact s_in cc
  · cases h; exact s_notin cc
def bin2n (o : O2) : Option Str := match o with
  | .min2 => some "min"
  | .max2 => some "max"
  | _ => none
def sh2 (sc : Scope) (o : O2) : Expr → Option (Expr × Expr)
  | .BinOp a op b _ => if decide (op2n op = some o) then some (a, b) else none
  | .Compare a [op] [b] _ => if decide (cmpn op = some o) && noSet b then some (a, b) else none
  | .Subscript a b _ => if decide (o = .ix) && noSlice b then some (a, b) else none
  | .Call (.Name x _) [a, b] [] _ => if decide (bin2n o = some x) && glob sc x && noStar a && noStar b then some (a, b) else none
  | _ => none
def Sh2 (X : Cx) (c : Cn) (o : O2) (a b e : Expr) : Prop := ∀ ta tb, PE X a ta → PE X b tb → PE X e (tOp (R2 c o) ta tb) ∧ (tst e = true → PT X e (tTest (tOp (R2 c o) ta tb)))
theorem tcb2_of {ta tb : TE} {o : O2} {σ : L2.St} {H : Hp} {Q : VK} (z : tOp (R2 c o) ta tb σ H Q) : tCB (C2 c o) (tCons ta (tCons tb tNil)) σ H Q := by
  have : ∀ v : V, (fun (u : V) (H1 : Hp) => R2 c o v u H1 Q) = fun u H1 => tNil σ H1 fun xs H2 => C2 c o (v :: u :: xs) H2 Q := fun v => by
    funext u H1
    exact propext ⟨fun r => ⟨v, u, rfl, r⟩, fun ⟨x, y, e, r⟩ => by cases e; exact r⟩
  show ta σ H fun v H1 => tb σ H1 fun u H2 => tNil σ H2 fun xs H3 => C2 c o (v :: u :: xs) H3 Q
  simp only [← this]
  exact z
theorem callB2 (k : Xk T c xc C lv X N sc st W) {o : O2} {x : Str} {id : String} {p pos : Pos} {a b : Expr} (hc : CallR X (.builtin id) (C2 c o)) (hg : glob sc x = true) (hb : x ∈ bnames) (hv : bootBuiltins x = some (.builtin id)) (hs : noStar a = true) (hs2 : noStar b = true)
    (hn : x ≠ "__name__" := by decide) (hd : (x == ("__debug__" : Str)) = false := by decide) : Sh2 X c o a b (.Call (.Name x p) [a, b] [] pos) := fun ta tb qa qb => by
  have h : PE X (.Call (.Name x p) [a, b] [] pos) (tOp (R2 c o) ta tb) := PE.imp (pe_callB hc (k.gl hg) (k.kn.blt x hb) hv (pa_cons qa (pa_cons qb pa_nil (star1 hs2)) (star1 hs)) hn hd (star1 hs) (stars (by simp [hs2]))) fun σ H Q z => tcb2_of z
  exact ⟨h, fun _ => pt_plain rfl h⟩
theorem sh2_ok (k : Xk T c xc C lv X N sc st W) {o : O2} {a b e : Expr} (h : sh2 sc o e = some (a, b)) : Sh2 X c o a b e := by
  unfold sh2 at h
  split at h
  · split at h
    · rename_i ho
      cases h
      have h := op2n_ok k.cc (of_decide_eq_true ho)
      exact fun ta tb qa qb => ⟨pe_op h qa qb, fun _ => pt_plain rfl (pe_op h qa qb)⟩
    · cases h
  · split at h
    · rename_i ho
      cases h
      rw [Bool.and_eq_true] at ho
      have h := cmpn_ok k.cc (of_decide_eq_true ho.1)
      exact fun ta tb qa qb => ⟨pe_cmpR h qa qb (nomarkS ho.2), fun _ => pt_cmpR h qa qb (nomarkS ho.2)⟩
    · cases h
  · split at h
    · rename_i ho
      cases h
      rw [Bool.and_eq_true] at ho
      obtain rfl := of_decide_eq_true ho.1
      exact fun ta tb qa qb => ⟨pe_ix (s_ix k.cc) qa qb (plainIx ho.2), fun _ => pt_plain rfl (pe_ix (s_ix k.cc) qa qb (plainIx ho.2))⟩
    · cases h
  · split at h
    · rename_i hc
      cases h
      rw [Bool.and_eq_true, Bool.and_eq_true, Bool.and_eq_true] at hc
      obtain ⟨⟨⟨h1, h2⟩, h3⟩, h4⟩ := hc
      have h1 := of_decide_eq_true h1
      cases o <;> first | (cases h1; done) | skip
      · cases h1; exact callB2 k (s_min2 k.cc) h2 (by decide) rfl h3 h4
      · cases h1; exact callB2 k (s_max2 k.cc) h2 (by decide) rfl h3 h4
    · cases h
  · cases h
end
end Pv
end
section
set_option maxRecDepth 100000
set_option maxHeartbeats 1000000
/-! PvDic: an empty dict takes its kind with its first key: the store, the display of one pair. -/
namespace Pv
open PySem PySem.Spec PyProof.Rows L2
theorem upd_upd {H : Hp} {a : Addr} {o o' : HO} : upd (upd H a o) a o' = upd H a o' := by
  funext b
  by_cases e : b = a
  · rw [e, upd_same, upd_same]
  · rw [upd_ne e, upd_ne e, upd_ne e]
/-- a store where an empty dict may take a tuple -/
def DPutX (H : Hp) (a : Addr) (y v : V) (H' : Hp) : Prop := DPut H a y v H' ∨ (H a = some (.dK []) ∧ ∃ ks b, y = .ref b ∧ H b = some (.tup (ks.map kV)) ∧ H' = upd H a (.dT [(ks, v)]))
section
variable {X : Cx} {pins : List (Addr × Obj)} {σ : L2.St} {H : Hp} {s : Shared} {a : Addr} {y v : V} {u r : Value} {A : Around} {E : Value → Shared → Prop}
theorem dk_bare {P : Program} {w : World} {h : Heap} {vs : List (Key × Value)} (r : KV [] vs) (d : h.DictOf (mixKind P w) a vs) : h.DictOfH (tupleKind (mixKind P w)) a [] := by
  cases r
  obtain ⟨o, es, ep, h1, h2, h3, _, h5, _⟩ := d
  refine ⟨o, es, ep, h1, h2, h3, ?_, (fun x hx => by cases hx), List.nodup_nil⟩
  generalize es.toList = l at h5
  cases h5
  rfl
/-- {} told anew: a dict of tuples -/
theorem toT (I : Inv X pins σ H s) (e : H a = some (.dK [])) : Inv X pins σ (upd H a (.dT [])) s := by
  obtain ⟨z, hd, vs, rel, dd⟩ := dk_of I.hok e
  obtain ⟨o, es, ep, h1, h2, h3, h4, _, h5⟩ := dk_bare rel dd
  exact d_write (t' := s.toks) I (by rw [e]; exact True.intro) (Heap.SameBut.refl _ _) ⟨o, h1⟩ ⟨Nat.zero_le _, hd, [], .nil, o, es, ep, h1, h2, h3, h4, h5⟩
theorem d_setItemX {H' : Hp} {Q : Unit → Shared → Prop} (hu : A.units + 1 < cLine) (I : Inv X pins σ H s) (g : DPutX H a y v H') (ry : RelV y u) (rv : RelV v r) (h : ∀ s', Inv X pins σ H' s' → Q () s') : wpAny (model X.prog X.w) A (setItem (.ref a) u r) Q E s := by
  rcases g with g | ⟨e, ks, b, rfl, eb, rfl⟩
  · exact d_setItem hu I g ry rv h
  · have ne : b ≠ a := fun z => by rw [z, e] at eb; cases eb
    refine d_setItem hu (toT I e) (DPut.t (k := ks) (v := v) upd_same ((upd_ne ne).trans eb) (by show 0 < sizeLine; decide)) ry rv fun s' I' => h s' ?_
    rw [upd_upd] at I'
    exact I'
/-- d[y] = v -/
def sDPutX (td ty tv : TE) : TS := fun D σ H => tv σ H fun v H1 => td σ H1 fun x H2 => ty σ H2 fun y H3 => ∃ a H4, x = .ref a ∧ DPutX H3 a y v H4 ∧ D.nx σ H4
theorem ps_dputX {o i value : Expr} {pos pos' : Pos} {td ty tv : TE} (hu : X.A.units + 1 < cLine) (ho : PE X o td) (hi : PE X i ty) (hv : PE X value tv) (hs : swapsWith value (some (.Subscript o i pos')) pos.line X.env = pure false) : PS X (.Assign [.Subscript o i pos'] value pos) (sDPutX td ty tv) :=
  ⟨fun pins s σ H D I h => wpAny_Assign_Subscript (thn (hv.run pins s σ H _ I h) fun r s1 ⟨v, H1, I1, rv, q1⟩ => thn (ho.run pins s1 σ H1 _ I1 q1) fun u s2 ⟨x, H2, I2, rx, q2⟩ => thn (hi.run pins s2 σ H2 _ I2 q2) fun iv s3 ⟨y, H3, I3, ry, a, H4, ex, g, q3⟩ => by
    subst ex
    cases rx
    exact d_setItemX hu I3 g ry rv fun s4 I4 => ⟨σ, H4, I4, q3⟩) hs⟩
end
section
variable {prog : Program} {w : World} {A : Around} {E : Value → Shared → Prop} {s : Shared}
theorem subDict_one {pairs : List (Sem Value × Sem Value)} {Q : Addr → Shared → Prop} (hl : pairs.length ≤ 15)
    (h : wpAny (model prog w) A (evalPairs pairs) (fun vs s1 => wpAny (model prog w) A (forIn vs PUnit.unit fun (x : Value × Value) (_ : PUnit) => (do dictSet s.heap.objs.size x.1 x.2; pure (ForInStep.yield PUnit.unit) : Sem (ForInStep PUnit))) (fun _ s2 => Q s.heap.objs.size s2) E s1) E
      { s with heap := s.heap.push { cls := .type "dict", data := .dict #[] } }) : wpAny (model prog w) A (subDict pairs) Q E s := by
  unfold subDict
  refine wpAny_bind (wpAny_alloc (wpAny_bind (wpAny_holding ?_)))
  rw [if_pos hl]
  refine wpAny_bind (wpAny_mono h (fun vs s1 h1 => ?_) fun _ _ e => e)
  exact wpAny_holding (wpAny_bind (wpAny_mono h1 (fun _ s2 h2 => wpAny_pure (wpAny_pure h2)) fun _ _ e => e))
end
/-- {k: v} -/
def tDict1 (tk tv : TE) : TE := fun σ H Q => ∀ p, H p = none → tk σ (upd H p (.dK [])) fun x H1 => tv σ H1 fun y H2 => H2 p = some (.dK []) ∧ ((∃ k, x = kV k ∧ Q (.ref p) (upd H2 p (.dK [(k, y)]))) ∨ ∃ b ks, x = .ref b ∧ H2 b = some (.tup (ks.map kV)) ∧ Q (.ref p) (upd H2 p (.dT [(ks, y)])))
theorem pe_dict1 {X : Cx} {k v : Expr} {pos : Pos} {tk tv : TE} (hu : X.A.units + 1 < cLine) (hk : PE X k tk) (hv : PE X v tv) : PE X (.Dict [some k] [v] pos) (tDict1 tk tv) := by
  refine ⟨fun pins s σ H Q I q => ?_⟩
  have hn := I.hok.fresh (Nat.le_refl s.heap.objs.size)
  have I1 := I.laid (a := s.heap.objs.size) (o := .dK []) (h' := s.heap.push { cls := .type "dict", data := .dict #[] }) (t' := s.toks) (fun _ _ q => Heap.get?_push_of_some _ q) (Nat.le_refl _) (dk_empty s.heap I.big)
  have hsh := zip_pairTrees [some k] [v] X.env pos rfl rfl
  rw [arm_eval_Dict, hsh, dictDisplay_pairs _ (by
    intro z
    have := pairTrees_length [some k] [v] X.env pos rfl rfl
    rw [z] at this
    cases this) (by rw [pairTrees_length [some k] [v] X.env pos rfl rfl]; exact (by decide : 1 < 17))]
  refine wpAny_bind (wpAny_standAt (wpAny_bind (subDict_one (Q := fun d s' => wpAny (model X.prog X.w) X.A (pure (Value.ref d)) (EP X pins σ Q) X.xe s') (by rw [pairTrees_length [some k] [v] X.env pos rfl rfl]; exact (by decide : 1 ≤ 15)) ?_)))
  refine pairTrees_cons_walk (thn (hk.run pins _ σ _ _ I1 (q _ hn)) fun u s1 ⟨x, H1, I2, rx, q1⟩ => thn (hv.run pins s1 σ H1 _ I2 q1) fun w2 s2 ⟨y, H2, I3, ry, e, q2⟩ => pairTrees_nil_walk ?_)
  obtain ⟨z, hd, vs0, r0, dd⟩ := dk_of I3.hok e
  have mu : Mut (H2 s.heap.objs.size) := by rw [e]; exact True.intro
  rcases q2 with ⟨k0, rfl, q2⟩ | ⟨b, ks, rfl, eb, q2⟩
  · cases r0
    refine wpAny_storeAll (knd := mixKind X.prog X.w) [(u, w2)] [(k0, w2)] [] s2 _ ⟨kV_is rx, rfl, trivial⟩ dd (by show 0 + 1 ≤ sizeLine; decide) fun h' dd' hs => wpAny_pure ⟨.ref s.heap.objs.size, _, ?_, rfl, q2⟩
    have he : ∃ q, h'.get? s.heap.objs.size = some q := let ⟨q, _, _, hq, _⟩ := dd'; ⟨q, hq⟩
    exact d_write I3 mu hs he (dk_new (by show 1 ≤ sizeLine; decide) hd (.cons ⟨rfl, ry⟩ .nil) dd')
  · cases (show u = Value.ref b from rx)
    have db := dk_bare r0 dd
    refine wpAny_storeAllH (knd := tupleKind (mixKind X.prog X.w)) (show X.A.units < cLine by omega) [(.ref b, w2)] [(ks, b, w2)] [] s2 _ ⟨rfl, rfl, key_of I3.hok eb, trivial⟩ db (by show 0 + 1 ≤ sizeLine; decide) fun h' tk dd' hs => wpAny_pure ⟨.ref s.heap.objs.size, _, ?_, rfl, q2⟩
    obtain ⟨o, es, ep, hq, h2, h3, h4, _, h5⟩ := dd'
    have ne : b ≠ s.heap.objs.size := fun z => by rw [z, e] at eb; cases eb
    exact d_write I3 mu hs ⟨o, hq⟩ ⟨by show 1 ≤ sizeLine; decide, hd, [(ks, b, w2)], .cons ⟨rfl, (upd_ne ne).trans eb, ry⟩ .nil, o, es, ep, hq, h2, h3, h4, h5⟩
end Pv
end
section
set_option maxRecDepth 100000
set_option maxHeartbeats 4000000
/-! PvObj: dicts that are built, objects of own classes. -/
namespace Pv
open PySem PySem.Spec PyProof.Rows L2
/-! ### a key put into a dict -/
section
variable {κ : Type} [DecidableEq κ] {g : κ → D}
theorem cntK_zero (hg : ∀ a b, PyData.eqv (g a) (g b) = decide (a = b)) {k : κ} {d : D} {v : V} : ∀ {kvs : List (κ × V)} {ds : List (D × D)}, ds.map (·.1) = kvs.map (fun p => g p.1) → cntK ds (g k) = 0 → putK kvs k v = kvs ++ [(k, v)] ∧ putKey ds (g k) d = ds ++ [(g k, d)]
  | [], [], _, _ => ⟨rfl, rfl⟩
  | [], _ :: _, e, _ => by simp at e
  | _ :: _, [], e, _ => by simp at e
  | p :: kvs, (q, u) :: ds, e, h => by
    simp only [List.map_cons, List.cons.injEq] at e
    obtain ⟨rfl, e⟩ := e
    simp only [cntK, hg] at h
    by_cases hk : p.1 = k
    · rw [if_pos (by simpa using hk)] at h; omega
    · rw [if_neg (by simpa using hk)] at h
      obtain ⟨h1, h2⟩ := cntK_zero hg (d := d) (v := v) e h
      refine ⟨?_, ?_⟩
      · unfold putK at h1 ⊢
        rw [List.any_cons, decide_eq_false hk, Bool.false_or]
        split
        · rename_i ha
          rw [if_pos ha] at h1
          rw [List.map_cons, if_neg hk, h1]; rfl
        · rfl
      · simp only [putKey, hg]
        rw [if_neg (by simpa using hk), h2]; rfl
theorem put_split (hg : ∀ a b, PyData.eqv (g a) (g b) = decide (a = b)) {k : κ} {d : D} {v : V} : ∀ {kvs : List (κ × V)} {ds : List (D × D)}, ds.map (·.1) = kvs.map (fun p => g p.1) → cntK ds (g k) ≤ 1 →
    (putK kvs k v = kvs ++ [(k, v)] ∧ putKey ds (g k) d = ds ++ [(g k, d)]) ∨ ∃ A w B dA dw dB, kvs = A ++ (k, w) :: B ∧ ds = dA ++ (g k, dw) :: dB ∧ A.length = dA.length ∧ putK kvs k v = A ++ (k, v) :: B ∧ putKey ds (g k) d = dA ++ (g k, d) :: dB
  | [], [], _, _ => .inl ⟨rfl, rfl⟩
  | [], _ :: _, e, _ => by simp at e
  | _ :: _, [], e, _ => by simp at e
  | p :: kvs, (q, u) :: ds, e, h => by
    simp only [List.map_cons, List.cons.injEq] at e
    obtain ⟨rfl, e⟩ := e
    simp only [cntK, hg] at h
    by_cases hk : p.1 = k
    · rw [if_pos (by simpa using hk)] at h
      have h0 := cntK_zero hg (k := k) (d := d) (v := v) e (by omega)
      obtain ⟨p1, p2⟩ := p
      obtain rfl : p1 = k := hk
      refine .inr ⟨[], p2, kvs, [], u, ds, rfl, rfl, rfl, ?_, ?_⟩
      · unfold putK
        rw [if_pos (by simp), List.map_cons, if_pos rfl]
        have : (kvs.any fun kv => decide (kv.1 = p1)) = false := by
          cases ha : kvs.any fun kv => decide (kv.1 = p1) with
          | false => rfl
          | true =>
            have := h0.1
            unfold putK at this
            rw [if_pos ha] at this
            have := congrArg List.length this
            simp at this
        rw [List.nil_append]
        congr 1
        refine (List.map_congr_left fun z hz => ?_).trans (List.map_id kvs)
        rw [List.any_eq_false] at this
        exact if_neg (by simpa using this z hz)
      · simp only [putKey, hg]
        rw [if_pos (by simp)]; rfl
    · rw [if_neg (by simpa using hk)] at h
      rcases put_split hg (d := d) (v := v) e h with ⟨h1, h2⟩ | ⟨A, w, B, dA, dw, dB, rfl, rfl, hl, h1, h2⟩
      · refine .inl ⟨?_, ?_⟩
        · unfold putK at h1 ⊢
          rw [List.any_cons, decide_eq_false hk, Bool.false_or]
          split
          · rename_i ha
            rw [if_pos ha] at h1
            rw [List.map_cons, if_neg hk, h1]; rfl
          · rfl
        · simp only [putKey, hg]
          rw [if_neg (by simpa using hk), h2]; rfl
      · refine .inr ⟨p :: A, w, B, (g p.1, u) :: dA, dw, dB, rfl, rfl, by simp [hl], ?_, ?_⟩
        · unfold putK at h1 ⊢
          rw [List.any_cons, decide_eq_false hk, Bool.false_or]
          split
          · rename_i ha
            rw [if_pos ha] at h1
            rw [List.map_cons, if_neg hk, h1]; rfl
          · rename_i ha
            rw [if_neg ha] at h1
            have := congrArg List.length h1
            simp at this
        · simp only [putKey, hg]
          rw [if_neg (by simpa using hk), h2]; rfl
end
section
variable {c : Cn} {xc : Xc} {W : WX} {C : Calls} {cs : Clss} {wf : Nat} {pr : List Nat} {σ : L2.St} {F O : Addr → Prop} {H : Hp} {Dn : Ends}
theorem RepL.app_split {k : Nat} : ∀ {va vb : List V} {da db : List D} {fp : List Addr}, va.length = da.length → RepL c F H k (va ++ vb) (da ++ db) fp → ∃ fa fb, fp = fa ++ fb ∧ RepL c F H k va da fa ∧ RepL c F H k vb db fb
  | [], _, [], _, fp, _, r => ⟨[], fp, rfl, .nil _, r⟩
  | [], _, _ :: _, _, _, h, _ => by cases h
  | _ :: _, _, [], _, _, h, _ => by cases h
  | v :: va, vb, d :: da, db, fp, h, r => by
    cases r with
    | cons r rs =>
      obtain ⟨fa, fb, rfl, ra, rb⟩ := RepL.app_split (by simpa using h) rs
      exact ⟨_, fb, by rw [List.append_assoc], .cons r ra, rb⟩
/-- the store into a dict of one's own, of any kind -/
theorem dict_core {κ : Type} [DecidableEq κ] {g : κ → D} (hg : ∀ a b, PyData.eqv (g a) (g b) = decide (a = b)) (mkO : List (κ × V) → HO) {i k ke : Nat} {F O F1 O1 O1r : Addr → Prop} {H H1 : Hp} {env1 : Env} {σ : L2.St} {d : D} {q : κ} {v : V} {fp fp0 : List Addr} {a : Addr} {kvs : List (κ × V)} {ds : List (D × D)} {dOld : D} {kk : Nat} {Q : Hp → Prop}
    (s1 : Step F O H F1 O1 H1) (t : Tmp c F1 O1 H1 ke v d fp) (fr : ∀ a, a ∈ fp → O a ∨ H a = none) (hx : σ[i]? = some (some (.ref a))) (gr : Good c F1 (putS env1 i none) σ H1 O1r) (tS : Tmp c F1 O1r H1 kk (.ref a) dOld (a :: fp0)) (eq : ∀ x, O1 x ↔ x ∈ a :: fp0 ∨ O1r x)
    (e : ds.map (·.1) = kvs.map fun p => g p.1) (rl : RepL c F1 H1 k (kvs.map (·.2)) (ds.map (·.2)) fp0) (hc : cntK ds (g q) ≤ 1)
    (mk : ∀ (F2 : Addr → Prop) (kvs' : List (κ × V)) (ds' : List (D × D)) fpn, ds' ≠ [] → ds'.map (·.1) = kvs'.map (fun p => g p.1) → RepL c F2 (upd H1 a (mkO kvs')) (min k (lvl ke d)) (kvs'.map (·.2)) (ds'.map (·.2)) fpn → Rep c F2 (upd H1 a (mkO kvs')) (min k (lvl ke d) + 1) (.ref a) (.dict ds') (a :: fpn))
    (p : ∀ F' O' H', Step F O H F' O' H' → Good c F' (putS env1 i (some (min k (lvl ke d) + 1, .dict (putKey ds (g q) d)))) σ H' O' → Q H') : Q (upd H1 a (mkO (putK kvs q v))) := by
  obtain ⟨n1, n2⟩ := List.nodup_cons.mp tS.nd
  rcases put_split hg (k := q) (d := d) (v := v) e hc with ⟨h1, h2⟩ | ⟨A, w, B, dA, dw, dB, rfl, rfl, hl, h1, h2⟩
  · rw [h1]
    rw [h2] at p
    refine store_core (va := kvs.map (·.2)) (vb := []) (da := ds.map (·.2)) (db := []) (fa := fp0) (fb := []) (dN := .dict (ds ++ [(g q, d)])) (oN := mkO (kvs ++ [(q, v)])) s1 t fr hx gr tS eq rl (.nil _) (by rw [List.append_nil]; exact n2) (fun x z => by simpa using z) (fun F2 fpn r => mk F2 _ _ fpn (by simp) (by simp [e]) (by simpa using r)) fun F' O' H' s' g' _ => p F' O' H' s' g'
  · rw [h1]
    rw [h2] at p
    simp only [List.map_append, List.map_cons] at rl
    obtain ⟨fa, fb, rfl, ra, rb⟩ := RepL.app_split (by simpa using hl) rl
    cases rb with
    | cons rw0 rb =>
      rename_i fw fb
      simp only [List.map_append, List.map_cons] at e
      have eA := List.append_inj e (by simpa using hl.symm)
      simp only [List.cons.injEq] at eA
      refine store_core (va := A.map (·.2)) (vb := B.map (·.2)) (da := dA.map (·.2)) (db := dB.map (·.2)) (fa := fa) (fb := fb) (dN := .dict (dA ++ (g q, d) :: dB)) (oN := mkO (A ++ (q, v) :: B)) s1 t fr hx gr tS eq ra rb
        (List.Sublist.nodup ((List.Sublist.refl fa).append (List.sublist_append_right fw fb)) n2) (fun x z => ?_) (fun F2 fpn r => mk F2 _ _ fpn (by simp) (by simp [eA.1, eA.2]) (by simpa using r)) fun F' O' H' s' g' _ => p F' O' H' s' g'
      rcases List.mem_append.mp z with z | z
      · exact List.mem_append_left _ z
      · exact List.mem_append_right _ (List.mem_append_right _ z)
theorem setDS_nx {env : Env} {i ke : Nat} {j d : D} : (∃ env2, setDS env i j ke d = .nx env2) ∨ setDS env i j ke d = .bad := by
  unfold setDS
  split
  · split
    · exact .inl ⟨_, rfl⟩
    · exact .inr rfl
  · exact .inr rfl
theorem eqv_tup (a b : List Key) : PyData.eqv (.tuple (a.map dk)) (.tuple (b.map dk)) = decide (a = b) := by
  simp only [PyData.eqv]
  exact eqv_dks a b
theorem setD_core {i : Nat} {F O F1 O1 : Addr → Prop} {H H1 : Hp} {env1 : Env} {σ : L2.St} {ke : Nat} {d j : D} {v u x : V} {fp fq : List Addr} {Q : Hp → Prop} (s1 : Step F O H F1 O1 H1) (g1 : Good c F1 env1 σ H1 O1) (t : Tmp c F1 O1 H1 ke v d fp) (fr : ∀ a, a ∈ fp → O a ∨ H a = none)
    (hx : σ[i]? = some (some x)) {ku : Nat} (rj : Rep c F1 H1 ku u j fq) {env2 : Env} (e : setDS env1 i j ke d = .nx env2) (q : ∀ F' O' H', Step F O H F' O' H' → Good c F' env2 σ H' O' → Q H') : ∃ a H4, x = .ref a ∧ DPutX H1 a u v H4 ∧ Q H4 := by
  unfold setDS at e
  split at e
  · rename_i k kvs ei
    split at e
    · rename_i hc
      cases e
      simp only [Bool.and_eq_true] at hc
      obtain ⟨⟨⟨hd, hk⟩, hcnt⟩, hz⟩ := hc
      have hcnt := of_decide_eq_true hcnt
      obtain ⟨v0, fpS, O1r, hv0, gr, tS, eq⟩ := g1.out ei
      rw [hx] at hv0
      cases hv0
      have hz' : kvs.length + 1 ≤ sizeLine := szOk_le hz
      have tup1 : ∀ {b : Addr} {ks : List D}, j = .tuple ks → ks.all isKey = true → ∃ (b : Addr) (qs : List Key), u = .ref b ∧ ks = qs.map dk ∧ H1 b = some (.tup (qs.map kV)) := fun {b ks} e1 e2 => by
        subst e1
        obtain ⟨qs, rfl⟩ := keyD_all e2
        cases rj with
        | tup hb rb =>
          obtain rfl := RepL.keys rb
          exact ⟨_, qs, rfl, rfl, hb⟩
      have r := tS.rep
      generalize hkd : (.dict kvs : D) = dd at r
      cases r with
      | dkown h e r =>
        injection hkd with hkd
        subst hkd
        rename_i a kv fp0
        have hlen : kv.length = kvs.length := by simpa using (congrArg List.length e).symm
        by_cases hkey : isKey j = true
        · obtain ⟨q0, rfl, rfl⟩ : ∃ q : Key, j = dk q ∧ u = kV q := by
            cases j with
            | int i => cases rj; exact ⟨.inl i, rfl, rfl⟩
            | str i => cases rj; exact ⟨.inr i, rfl, rfl⟩
            | _ => simp [isKey] at hkey
          refine ⟨a, _, rfl, .inl (DPut.k (k := q0) h (by omega)), ?_⟩
          exact dict_core (g := dk) eqv_dk HO.dK s1 t fr hx gr tS eq e r hcnt (fun F2 kvs' ds' fpn _ e' r' => .dkown upd_same e' r') q
        · have hjt : ∃ ks, j = .tuple ks ∧ ks.all isKey = true ∧ kvs = [] := by
            rw [Bool.or_eq_true, Bool.and_eq_true] at hk
            rcases hk with ⟨h1, h2⟩ | h2
            · have h1 : kvs = [] := by simpa using h1
              cases j with
              | tuple ks => exact ⟨ks, rfl, by simpa [isKey, tupKey] using h2, h1⟩
              | _ => simp [tupKey, hkey] at h2
            · exfalso
              cases j with
              | tuple ks =>
                simp only [keyOk, Bool.and_eq_true] at h2
                cases kvs with
                | nil => simp at h2
                | cons p ps =>
                  cases kv with
                  | nil => simp at e
                  | cons q0 qs =>
                    simp only [List.map_cons, List.cons.injEq] at e
                    obtain ⟨p1, p2⟩ := p
                    obtain ⟨q1, q2⟩ := q0
                    have e1 : p1 = dk q1 := e.1
                    subst e1
                    cases q1 <;> simp [dk] at h2
              | _ => simp [keyOk, isKey] at h2 hkey
          obtain ⟨ks, rfl, hks, rfl⟩ := hjt
          obtain ⟨b, qs, rfl, rfl, hb⟩ := tup1 (b := a) rfl hks
          have ekv : kv = [] := by simpa using hlen
          subst ekv
          refine ⟨a, _, rfl, .inr ⟨h, qs, b, rfl, hb, rfl⟩, ?_⟩
          have := dict_core (κ := List Key) (g := fun z => PyData.tuple (z.map dk)) (q := qs) (kvs := []) (ds := []) (k := k) eqv_tup HO.dT s1 t fr hx gr tS eq rfl (by simpa using r) hcnt (fun F2 kvs' ds' fpn ne e' r' => .dtown upd_same ne e' r') q
          exact this
      | dtown h ne e r =>
        injection hkd with hkd
        subst hkd
        rename_i a kv fp0
        have hlen : kv.length = kvs.length := by simpa using (congrArg List.length e).symm
        have hjt : ∃ ks, j = .tuple ks ∧ ks.all isKey = true := by
          have h2 : keyOk kvs j = true := by
            rw [Bool.or_eq_true, Bool.and_eq_true] at hk
            rcases hk with ⟨h1, _⟩ | h2
            · exact absurd (by simpa using h1) ne
            · exact h2
          cases kvs with
          | nil => exact absurd rfl ne
          | cons p ps =>
            cases kv with
            | nil => simp at e
            | cons q0 qs =>
              simp only [List.map_cons, List.cons.injEq] at e
              obtain ⟨p1, p2⟩ := p
              have e1 : p1 = _ := e.1
              subst e1
              cases j with
              | tuple ks => exact ⟨ks, rfl, by simp only [keyOk, Bool.and_eq_true] at h2; exact h2.1⟩
              | _ => simp [keyOk, isKey] at h2
        obtain ⟨ks, rfl, hks⟩ := hjt
        obtain ⟨b, qs, rfl, rfl, hb⟩ := tup1 (b := a) rfl hks
        refine ⟨a, _, rfl, .inl (DPut.t (k := qs) h hb (by omega)), ?_⟩
        exact dict_core (g := fun z : List Key => PyData.tuple (z.map dk)) eqv_tup HO.dT s1 t fr hx gr tS eq e r hcnt (fun F2 kvs' ds' fpn ne e' r' => .dtown upd_same ne e' r') q
      | objown h hcl e r =>
        injection hkd with hkd
        subst hkd
        simp [dOk] at hd
      | fn _ h =>
        injection hkd with hkd
        subst hkd
        simp [dOk] at hd
      | _ => cases hkd
    · cases e
  · cases e
/-- d[key] = e -/
theorem setD_ok {i : Nat} {ix e : E} (h : rS c xc W C cs wf pr (.setD i ix e) Dn σ H) : sDPutX (tVar i) (rO c xc W C ix) (rE c xc W C e) Dn σ H := by
  obtain ⟨env, F, O, gd, p⟩ := h
  unfold evS at p
  split at p
  · exact p.elim
  · rename_i w0 e00
    obtain ⟨k00, d00⟩ := w0
    obtain ⟨x, _, hv, _, _⟩ := gd.get e00
    refine ⟨env, F, O, gd, ?_⟩
    cases e1 : evE C e env with
    | bad => rw [e1] at p; exact p
    | exc env1 y => rw [e1] at p; exact p
    | ok env1 k d =>
      rw [e1] at p
      simp only at p
      intro F1 O1 H1 v fp s1 g1 t fr
      refine ⟨x, hv, rO_of (F := F1) (O := O1) (env := env1) g1 ?_⟩
      cases e2 : opd ix env1 (evE C ix env1) with
      | bad => rw [e2] at p; exact p
      | exc env2 y => rw [e2] at p; exact PostX.later p s1
      | ok env2 k2 d2 =>
        rw [e2] at p
        simp only at p
        intro F2 O2 H2 u s2 g2 o2
        obtain ⟨fq, ru, _⟩ := o2.rep g2
        rcases setDS_nx (env := env2) (i := i) (ke := k) (j := d2) (d := d) with ⟨env3, e3⟩ | e3
        · rw [e3] at p
          exact setD_core (s1.trans s2) g2 (t.step s2 g1) fr hv ru e3 fun F' O' H' s' g' => p F' O' H' σ s' g' Prot.refl
        · rw [e3] at p; exact p.elim
/-- {k: v} -/
theorem dct1_ok {es : Es} (h : rE c xc W C (.dct1 es) σ H Q) : ∀ p, H p = none → rL c xc W C es σ (upd H p (.dK [])) fun vs H2 => H2 p = some (.dK []) ∧ ∃ x y, vs = [x, y] ∧ ((∃ k, x = kV k ∧ Q (.ref p) (upd H2 p (.dK [(k, y)]))) ∨ ∃ b ks, x = .ref b ∧ H2 b = some (.tup (ks.map kV)) ∧ Q (.ref p) (upd H2 p (.dT [(ks, y)]))) := by
  intro p hp
  obtain ⟨env, F, O, g, z⟩ := h
  unfold evE at z
  have nO : ¬ O p := fun w => by
    obtain ⟨o, e, _⟩ := g.mt w
    rw [hp] at e; cases e
  have nF : ¬ F p := fun w => g.dom p w hp
  have s0 : Step F O H F O (upd H p (.dK [])) := Step.new hp
  refine ⟨env, F, O, g.new hp, ?_⟩
  cases el : evL C es env with
  | bad => rw [el] at z; exact z
  | exc env1 y => rw [el] at z; exact PostX.later z s0
  | ok env1 l =>
    rw [el] at z
    intro F1 O1 H1 vs fp s1 g1 t fr
    have hH : H1 p = some (.dK []) := s1.keep p _ upd_same nO
    have nO1 : ¬ O1 p := fun w => by
      rcases s1.own p w with q | q
      · exact nO q
      · rw [upd_same] at q; cases q
    have nF1 : ¬ F1 p := fun w => by
      rcases s1.frz p w with q | q | q
      · exact nF q
      · exact nO q
      · rw [upd_same] at q; cases q
    have npf : p ∉ fp := fun w => by
      rcases fr p w with q | q
      · exact nO q
      · rw [upd_same] at q; cases q
    split at z
    · rename_i k0 q k d heq
      cases heq
      split at z
      · rename_i hk
        obtain ⟨x, y, fp1, fp2, rfl, rfl, r1, r2⟩ := args2 t.rep
        have mtp : ∃ o, H1 p = some o ∧ Mt o := ⟨_, hH, trivial⟩
        have fin : ∀ (oN : HO), Rep c F1 (upd H1 p oN) (k + 1) (.ref p) (.dict [(q, d)]) (p :: fp2) → Q (.ref p) (upd H1 p oN) := fun oN rr => by
          rw [Nat.add_comm] at rr
          have ndp : fp2.Nodup := (List.nodup_append.mp t.nd).2.1
          refine z F1 O1 _ (.ref p) (p :: fp2) ⟨fun a w => s1.mono a w, fun a w => (s1.own a w).imp id fun q => (upd_dom q).2, fun a w => (s1.frz a w).imp id fun q => q.imp id fun q => (upd_dom q).2, fun a o e n => ?_, fun a e => ?_⟩ (g1.aside mtp nO1 nF1)
            ⟨rr, List.nodup_cons.mpr ⟨fun w => npf (List.mem_append_right _ w), ndp⟩, fun a w => ?_, fun a w => ?_⟩ fun a w => ?_
          · have ne : a ≠ p := fun w => by rw [w, hp] at e; cases e
            exact (upd_ne ne).trans (s1.keep a o ((upd_ne ne).trans e) n)
          · obtain ⟨h1, h2⟩ := upd_dom e
            exact (upd_dom (s1.dom a h2)).2
          · rcases List.mem_cons.mp w with rfl | w
            · exact nO1
            · exact t.nO a (List.mem_append_right _ w)
          · rcases List.mem_cons.mp w with rfl | w
            · exact nF1
            · exact t.nF a (List.mem_append_right _ w)
          · rcases List.mem_cons.mp w with rfl | w
            · exact .inr hp
            · exact (fr a (List.mem_append_right _ w)).imp id fun q => (upd_dom q).2
        have r2' : Rep c F1 (upd H1 p (.dK [])) k y d fp2 := Rep.aside r2 mtp (fun w => npf (List.mem_append_right _ w)) nF1
        refine ⟨hH, x, y, rfl, ?_⟩
        rw [Bool.or_eq_true] at hk
        rcases hk with hk | hk
        · obtain ⟨q0, rfl, rfl⟩ : ∃ z : Key, q = dk z ∧ x = kV z := by
            cases q with
            | int i => cases r1; exact ⟨.inl i, rfl, rfl⟩
            | str i => cases r1; exact ⟨.inr i, rfl, rfl⟩
            | _ => simp [isKey] at hk
          refine .inl ⟨q0, rfl, fin _ (.dkown (kvs := [(q0, y)]) upd_same rfl ?_)⟩
          have := RepL.cons (c := c) (F := F1) (H := upd H1 p (.dK [(q0, y)])) (Rep.aside r2 mtp (fun w => npf (List.mem_append_right _ w)) nF1) (.nil k)
          rw [List.append_nil] at this
          exact this
        · obtain ⟨ks, rfl⟩ : ∃ ks, q = .tuple ks := by
            cases q with
            | tuple ks => exact ⟨ks, rfl⟩
            | _ => simp [tupKey] at hk
          obtain ⟨qs, rfl⟩ := keyD_all (show ks.all isKey = true from hk)
          cases r1 with
          | tup hb rb =>
            obtain rfl := RepL.keys rb
            refine .inr ⟨_, qs, rfl, hb, fin _ (.dtown (kvs := [(qs, y)]) upd_same (by simp) rfl ?_)⟩
            have := RepL.cons (c := c) (F := F1) (H := upd H1 p (.dT [(qs, y)])) (Rep.aside r2 mtp (fun w => npf (List.mem_append_right _ w)) nF1) (.nil k)
            rw [List.append_nil] at this
            exact this
      · exact z.elim
    all_goals first | exact z.elim | (exfalso; rename_i hq; cases hq)
/-- {} -/
theorem dct0_ok (h : rE c xc W C (.cst (.dict [])) σ H Q) : tDNewK σ H Q := by
  intro p hp
  obtain ⟨env, F, O, g, z⟩ := h
  unfold evE at z
  refine z F O _ (.ref p) [p] (Step.new hp) (g.new hp) ⟨.dkown (k := 8) (kvs := []) upd_same rfl (.nil _), by simp, fun a w => ?_, fun a w => ?_⟩ fun a w => ?_
  · obtain rfl : a = p := by simpa using w
    exact fun w => by
      obtain ⟨o, e, _⟩ := g.mt w
      rw [hp] at e; cases e
  · obtain rfl : a = p := by simpa using w
    exact fun w => g.dom _ w hp
  · obtain rfl : a = p := by simpa using w
    exact .inr hp
end
/-! ### objects -/
section
variable {c : Cn} {F O : Addr → Prop} {H : Hp}
theorem rep_obj {k : Nat} {v : V} {z : Int} {kvs : List (D × D)} {fp : List Addr} (r : Rep c F H k v (.dict ((.none, .tuple [.int z]) :: kvs)) fp) : ∃ (n : Nat) (a Ca dx : Addr) (fs : List (Str × V)), z = (n : Int) ∧ v = .ref a ∧ H a = some (.ins Ca dx fs) ∧ c.cl n = some Ca ∧ kvs.map (·.1) = fs.map (fun p => PyData.str p.1) ∧
    ∀ F' : Addr → Prop, (∀ a, F a → F' a) → (∀ a, a ∈ fp → F' a) → RepL c F' H 0 (fs.map (·.2)) (kvs.map (·.2)) [] := by
  generalize hd : (.dict ((.none, .tuple [.int z]) :: kvs) : D) = dd at r
  have noK : ∀ {kv : List (Key × V)}, (((PyData.none : D), (PyData.tuple [.int z] : D)) :: kvs).map (·.1) = kv.map (fun p => dk p.1) → False := fun {kv} e => by
    cases kv with
    | nil => simp at e
    | cons p r =>
      obtain ⟨q, v⟩ := p
      cases q <;> simp [dk] at e
  have noT : ∀ {kv : List (List Key × V)}, (((PyData.none : D), (PyData.tuple [.int z] : D)) :: kvs).map (·.1) = kv.map (fun p => PyData.tuple (p.1.map dk)) → False := fun {kv} e => by
    cases kv with
    | nil => simp at e
    | cons p r => simp at e
  cases r with
  | dkfz f h e r => injection hd with hd; subst hd; exact (noK e).elim
  | dkown h e r => injection hd with hd; subst hd; exact (noK e).elim
  | dtfz f h ne e r => injection hd with hd; subst hd; exact (noT e).elim
  | dtown h ne e r => injection hd with hd; subst hd; exact (noT e).elim
  | objfz f h hc e r =>
    unfold objD at hd
    injection hd with hd
    simp only [List.cons.injEq, Prod.mk.injEq, PyData.tuple.injEq, PyData.int.injEq, true_and, and_true] at hd
    obtain ⟨rfl, rfl⟩ := hd
    exact ⟨_, _, _, _, _, rfl, rfl, h, hc, e, fun F' m n => RepL.freeze m (fun a z => by cases z) r⟩
  | objown h hc e r =>
    unfold objD at hd
    injection hd with hd
    simp only [List.cons.injEq, Prod.mk.injEq, PyData.tuple.injEq, PyData.int.injEq, true_and, and_true] at hd
    obtain ⟨rfl, rfl⟩ := hd
    exact ⟨_, _, _, _, _, rfl, rfl, h, hc, e, fun F' m n => RepL.freeze m (fun a z => n a (List.mem_cons_of_mem _ z)) r⟩
  | fn _ h => simp [fnD] at hd
  | _ => cases hd
theorem fld_at {x : Str} {d : D} : ∀ {kvs : List (D × D)} {fs : List (Str × V)}, kvs.map (·.1) = fs.map (fun p => PyData.str p.1) → findFld x kvs = some d → ∃ (j : Nat) (v : V), fs.lookup x = some v ∧ (fs.map (·.2))[j]? = some v ∧ (kvs.map (·.2))[j]? = some d
  | [], [], _, h => by simp [findFld] at h
  | [], _ :: _, e, _ => by simp at e
  | _ :: _, [], e, _ => by simp at e
  | (q, u) :: kvs, (y, v) :: fs, e, h => by
    simp only [List.map_cons, List.cons.injEq] at e
    obtain ⟨rfl, e⟩ := e
    simp only [findFld] at h
    by_cases hx : y = x
    · subst hx
      rw [if_pos rfl] at h
      cases h
      exact ⟨0, v, by simp [List.lookup], rfl, rfl⟩
    · rw [if_neg hx] at h
      obtain ⟨j, w, h1, h2, h3⟩ := fld_at e h
      refine ⟨j + 1, w, ?_, by simpa using h2, by simpa using h3⟩
      have : (x == y) = false := by simpa using fun z => hx z.symm
      simp [List.lookup, this, h1]
theorem fld_no {x : Str} : ∀ {kvs : List (D × D)} {fs : List (Str × V)}, kvs.map (·.1) = fs.map (fun p => PyData.str p.1) → findFld x kvs = none → fs.lookup x = none
  | [], [], _, _ => rfl
  | [], _ :: _, e, _ => by simp at e
  | _ :: _, [], e, _ => by simp at e
  | (q, u) :: kvs, (y, v) :: fs, e, h => by
    simp only [List.map_cons, List.cons.injEq] at e
    obtain ⟨rfl, e⟩ := e
    simp only [findFld] at h
    by_cases hx : y = x
    · subst hx
      rw [if_pos rfl] at h
      cases h
    · rw [if_neg hx] at h
      have : (x == y) = false := by simpa using fun z => hx z.symm
      simp [List.lookup, this, fld_no e h]
/-- o.x as a value -/
theorem s_fld {X : Cx} {T : List Str} (hK : X.K = c.K) (hc : ∀ i Ca, c.cl i = some Ca → L2.Cls X.K Ca ∧ ∀ x, x ∈ T → NoAttr X.K Ca x) {x : Str} {a : Expr} {t : TE} {pos : Pos} (hx : x ∈ T) (hs : noSup a = true) (q : PE X a t) : PE X (.Attribute a x pos) (fun σ H Q => t σ H fun v H1 => R1 c (.fld x) v H1 Q) := by
  refine PE.imp (pe_fld (PE.mono' q) (baseOf hs)) fun σ H Q z => ⟨_, fun v H1 r => ?_, z⟩
  obtain ⟨F, k1, d1, fp1, r0, r1, e, p⟩ := r
  have e : fldD x d1 = some r0 := e
  unfold fldD at e
  split at e
  · obtain ⟨n, b, Ca, dx, fs, rfl, rfl, hb, hcl, ek, fz⟩ := rep_obj r1
    obtain ⟨j, w, h1, h2, h3⟩ := fld_at ek e
    obtain ⟨c1, c2⟩ := hc n Ca hcl
    refine ⟨b, Ca, dx, fs, w, rfl, hb, c1, c2 x hx, h1, p.old fun F' m n => ?_⟩
    obtain ⟨v', fq, e1, r2, s2⟩ := RepL.get0 (fz F' m n) h3
    rw [h2] at e1
    cases e1
    obtain rfl : fq = [] := List.eq_nil_iff_forall_not_mem.mpr fun a z => by cases s2 a z
    exact r2
  · cases e
end
section
variable {c : Cn} {xc : Xc} {W : WX} {C : Calls} {cs : Clss} {wf : Nat} {pr : List Nat} {σ : L2.St} {F O : Addr → Prop} {H : Hp} {Dn : Ends}
/-- o.m(..), o an instance of the class at Ca -/
def tMethSD (Ca : Addr) (m : Str) (sp : Sp) (E : L2.St → XK) (ta : TE) (t : TA) : TE := fun σ H Q => ta σ H fun x H1 => ∃ a dx fs, x = .ref a ∧ H1 a = some (.ins Ca dx fs) ∧ fs.lookup m = none ∧ t σ H1 fun vs H2 => sp (x :: vs) H2 Q (E σ)
theorem meth_eq {f ci : Nat} {m : Str} {o : E} {es : Es} {env : Env} : evE C (.meth f ci m o es) env = evE C (.call f (.cons (.op1 (.self ci m) o) es) none) env := by
  have e0 : evE C (.meth f ci m o es) env = (match opd o env (evE C o env) with
    | .ok env1 k d => (match selfD ci m d with
      | some r => (match evA C es (keepO o env1 k (shareOk 0 r)) with
        | .ok env l => (match C f (some (0, r) :: l) with
          | .ok k d none => .ok env k d
          | .exc x => .exc env x
          | _ => .bad)
        | .exc e x => .exc e x
        | .bad => .bad)
      | none => .bad)
    | .exc e x => .exc e x
    | .bad => .bad) := rfl
  have e1 : evE C (.call f (.cons (.op1 (.self ci m) o) es) none) env = (match evA C (.cons (.op1 (.self ci m) o) es) env with
    | .ok env l => (match insIo env l none with
      | some (env, l) => (match C f l with
        | .ok k d out => (match putIo env none out with
          | some env => .ok env k d
          | none => .bad)
        | .exc x => .exc env x
        | .bad => .bad)
      | none => .bad)
    | .exc e x => .exc e x
    | .bad => .bad) := rfl
  have e2 : evA C (.cons (.op1 (.self ci m) o) es) env = (match evE C (.op1 (.self ci m) o) env with
    | .ok env1 k d => (match evA C es env1 with
      | .ok env2 l => .ok env2 (some (lvl k d, d) :: l)
      | .exc e x => .exc e x
      | .bad => .bad)
    | .exc e x => .exc e x
    | .bad => .bad) := rfl
  have e3 : evE C (.op1 (.self ci m) o) env = (match opd o env (evE C o env) with
    | .ok env1 k d => (match ap1 (.self ci m) d with
      | some r => if atom r then .ok env1 9 r else .ok (keepO o env1 k (shareOk (lv1 (.self ci m) r) r)) (lv1 (.self ci m) r) r
      | none => .bad)
    | .exc e x => .exc e x
    | .bad => .bad) := rfl
  rw [e0, e1, e2, e3]
  cases opd o env (evE C o env) with
  | bad => rfl
  | exc e x => rfl
  | ok env1 k d =>
    have hap : ap1 (.self ci m) d = selfD ci m d := rfl
    simp only [hap]
    cases hs : selfD ci m d with
    | none => rfl
    | some r =>
      have hr : atom r = false := by
        unfold selfD at hs
        split at hs
        · split at hs
          · cases hs; rfl
          · cases hs
        · cases hs
      simp only [hr, Bool.false_eq_true, if_false]
      have hl : lv1 (.self ci m) r = 0 := rfl
      simp only [hl, lvl, hr, Bool.false_eq_true, if_false]
      cases evA C es (keepO o env1 k (shareOk 0 r)) with
      | bad => rfl
      | exc e x => rfl
      | ok env2 l =>
        simp only [insIo]
        cases hc : C f (some (0, r) :: l) with
        | bad => rfl
        | exc x => rfl
        | ok k2 d2 out => cases out <;> rfl
theorem meth_ok {f ci : Nat} {m : Str} {o : E} {es : Es} {Ca : Addr} {Q : VK} (hcl : c.cl ci = some Ca) (h : rE c xc W C (.meth f ci m o es) σ H Q) : (fun σ H Q => ∃ Q0 : VK, (∀ x H1, Q0 x H1 → ∃ a dx fs, x = .ref a ∧ H1 a = some (.ins Ca dx fs) ∧ fs.lookup m = none ∧ rA c xc W C es σ H1 fun vs H2 => spC c xc none (C f) (x :: vs) H2 Q (WE W σ)) ∧ rO c xc W C o σ H Q0) σ H Q := by
  have h2 : rE c xc W C (.call f (.cons (.op1 (.self ci m) o) es) none) σ H Q := by
    obtain ⟨env, F, O, g, p⟩ := h
    exact ⟨env, F, O, g, by rw [← meth_eq]; exact p⟩
  have h3 := call_ok (ou := none) (fun p i e => by cases e) h2
  have h4 : rE c xc W C (.op1 (.self ci m) o) σ H fun x H1 => rA c xc W C es σ H1 fun vs H2 => spC c xc none (C f) (x :: vs ++ []) H2 Q (WE W σ) := acons_ok h3
  refine ⟨_, fun x H1 r => ?_, op1_ok h4⟩
  obtain ⟨F, k1, d1, fp1, r0, r1, e, p⟩ := r
  have e : selfD ci m d1 = some r0 := e
  unfold selfD at e
  split at e
  · split at e
    · rename_i hc
      cases e
      rw [Bool.and_eq_true] at hc
      obtain ⟨n, b, Cb, dx, fs, hn, rfl, hb, hcb, ek, fz⟩ := rep_obj r1
      have hi := of_decide_eq_true hc.1
      rw [hn] at hi
      have : n = ci := by omega
      subst this
      rw [hcl] at hcb
      cases hcb
      refine ⟨b, dx, fs, rfl, hb, fld_no ek (by simpa using hc.2), ?_⟩
      have := p.old (v := .ref b) fun F' mm nn => Rep.freeze mm nn r1
      simpa using this
    · cases e
  · cases e
theorem methN_eq {x m : Str} {p apos pos : Pos} {es : List Expr} {env : PySem.Env} (hf : methodCallForm (es.length + ([] : List Keyword).length) (backTo pos (starEach es env)) (backToKw pos (keywordEach [] env)) = true) (hl : (apos.endLine == pos.line) = true) :
    eval (.Call (.Attribute (.Name x p) m apos) es [] pos) env = (do
      let ov ← eval (.Name x p) env
      standAt apos.atName
      let (f, first) ← holding [ov] (getMethod ov m (do return (← importBound (.Name x p) env).getD true))
      callWith pos f first (backTo pos (starEach es env)) (backToKw pos (keywordEach [] env))) := by
  show (do
    let ov ← attributeBase (.Name x p) m env (eval (.Name x p) env)
    standAt apos.atName
    methodCall (.Name x p) m apos pos env ov (es.length + ([] : List Keyword).length) (backTo pos (starEach es env)) (backToKw pos (keywordEach [] env))) = _
  have hb : attributeBase (.Name x p) m env (eval (.Name x p) env) = eval (.Name x p) env := rfl
  rw [hb]
  unfold methodCall calleeOf methodCallPos
  rw [hf]
  simp only [if_true, Bool.not_true, Bool.false_or, hl, pure_bind]
theorem pe_methN {X : Cx} {CX : CXT} {k : Nat} {g Ca : Addr} {fd : FuncData} {ps : List Str} {sp : Sp} {E : L2.St → XK} {x m : Str} {p apos pos : Pos} {es : List Expr} {ta : TE} {t : TA} (he : PE X (.Name x p) ta) (cl : L2.Cls X.K Ca) (hm : Meth X.K Ca m g) (F : FnOk X.prog X.w X.K X.mg X.base CX k g fd ps sp) (hr : Room k X.A) (hb : Binds X.K fd ps []) (hx : ∀ σ, PassesAt CX X σ (E σ)) (ha : PA X es t) (h0 : es = [] → ∀ σ H Q, t σ H Q → Q [] H) (hs : es.all noStar = true) (hl20 : es.length ≤ 20) (hl : (apos.endLine == pos.line) = true) :
    PE X (.Call (.Attribute (.Name x p) m apos) es [] pos) (tMethSD Ca m sp E ta t) := by
  refine ⟨fun pins s σ H Q I h => ?_⟩
  cases es with
  | nil =>
    refine PySem.W.methodCall_KW (thn (he.run pins s σ H _ I h) fun u s1 ⟨v, H1, I1, rx, a, dx, fs, ex, ea, l, q⟩ => ?_) (methN_eq rfl hl)
    subst ex
    cases rx
    refine getmeth_ok I1 ea cl hm l ?_
    exact PySem.W.callWith_K0 (first := [.ref a]) I1.kIn hm.kp (run_fnSD (us := [.ref a]) (vs := [.ref a]) (dvs := []) F hr hb .nil (hx σ) I1 (.cons rfl .nil) (h0 rfl _ _ _ q))
  | cons e es =>
    simp only [List.all_cons, Bool.and_eq_true] at hs
    refine PySem.W.methodCall_KW (thn (he.run pins s σ H _ I h) fun u s1 ⟨v, H1, I1, rx, a, dx, fs, ex, ea, l, q⟩ => ?_) (methN_eq (few (e := e) (es := es) (by simp [hs]) (by simp at hl20; omega)) hl)
    subst ex
    cases rx
    refine getmeth_ok I1 ea cl hm l ?_
    refine PySem.W.callWith_K (first := [.ref a]) (h₀ := X.base) I1.ok.mod.kin hm.kp (thn (ha.run pos pins s1 σ H1 _ I1 q) fun us s2 ⟨vs, H2, I2, r, q2⟩ => ⟨I2.kIn, ?_⟩) (star1 hs.1) (stars hs.2)
    exact run_fnSD (us := .ref a :: us) (vs := .ref a :: vs) (dvs := []) F hr hb .nil (hx σ) I2 (.cons rfl r) (by rw [List.append_nil]; exact q2)
/-- C(..) -/
def tMakeSD (Ca : Addr) (sp : Sp) (E : L2.St → XK) (t : TA) : TE := fun σ H Q => t σ H fun vs H1 => ∀ x dx, H1 x = none → H1 dx = none → dx ≠ x → sp (.ref x :: vs) (upd (upd H1 dx (.own x)) x (.ins Ca dx [])) (fun v H2 => v = .non ∧ Q (.ref x) H2) (E σ)
theorem new_ok {f ci : Nat} {es : Es} {Ca : Addr} {Q : VK} (hcl : c.cl ci = some Ca) (h : rE c xc W C (.new ci f es) σ H Q) : tMakeSD Ca (spC c xc (some 0) (C f)) (WE W) (rA c xc W C es) σ H Q := by
  obtain ⟨env, F, O, g, p⟩ := h
  unfold evE at p
  refine ⟨env, F, O, g, ?_⟩
  cases ea : evA C es env with
  | bad => rw [ea] at p; exact p
  | exc env1 y => rw [ea] at p; exact p
  | ok env1 l =>
    rw [ea] at p
    simp only at p
    intro F1 O1 H1 vs fp s1 g1 t fr pv x dx hx hdx hne
    have hx1 : upd H1 dx (.own x) x = none := (upd_ne hne.symm).trans hx
    have sN : Step F1 O1 H1 F1 O1 (upd (upd H1 dx (.own x)) x (.ins Ca dx [])) := (Step.new hdx).trans (Step.new hx1)
    have g2 := (g1.new hdx (o := .own x)).new hx1 (o := .ins Ca dx [])
    have g0 := ((t.good g1).new hdx (o := .own x)).new hx1 (o := .ins Ca dx [])
    have nfp : x ∉ fp := fun z => by
      obtain ⟨o, e, _⟩ := t.rep.mem x z
      rw [hx] at e; cases e
    have nF : ¬ F1 x := fun z => g1.dom x z hx
    have g3 : Good c F1 (some (9, objD ci []) :: l) (some (.ref x) :: vs.map some) (upd (upd H1 dx (.own x)) x (.ins Ca dx [])) (fun a => a = x ∨ a ∈ fp) := by
      obtain ⟨q, sl, nd, e⟩ := g0.l
      refine ⟨⟨[x] ++ q, .som (.objown (k := 8) (ds := []) (fs := []) upd_same hcl rfl (.nil _)) sl, ?_, fun a => ?_⟩, fun a z f => ?_, g0.dom⟩
      · exact List.nodup_cons.mpr ⟨fun z => nfp ((e x).mp z), nd⟩
      · show a ∈ x :: q ↔ _
        rw [List.mem_cons, e]
      · rcases z with rfl | z
        · exact nF f
        · exact t.nF a z f
    have frO : ∀ a, (a = x ∨ a ∈ fp) → O a ∨ H a = none := fun a z => by
      rcases z with rfl | z
      · exact .inr (s1.dom _ hx)
      · exact fr a z
    have hr : ∀ a, O1 a → ¬ (a = x ∨ a ∈ fp) := fun a z y => by
      rcases y with rfl | y
      · obtain ⟨o, e, _⟩ := g1.mt z
        rw [hx] at e; cases e
      · exact t.nO a y z
    refine ⟨F1, _, _, g3, ?_⟩
    cases ec : C f (some (9, objD ci []) :: l) with
    | bad => rw [ec] at p; exact p
    | exc y => rw [ec] at p; exact fun F' H' cls dct s2 dm ex => p F' H' cls dct σ (call_step (s1.trans sN) (fun a z => z.elim) frO s2) dm rfl ex
    | ok k d out =>
      rw [ec] at p
      split at p
      · rename_i k2 k3 d3 heq
        cases heq
        refine ⟨0, .ref x, rfl, rfl, fun F' H' v fp' fq s2 dm r rq nd nF' fr2 => ?_⟩
        cases r
        refine ⟨rfl, ?_⟩
        obtain ⟨n1, n2, n3⟩ := List.nodup_append.mp nd
        have fr3 : ∀ a, a ∈ fq → O a ∨ H a = none := fun a z => by
          rcases fr2 a (List.mem_append_right _ z) with q | q
          · exact frO a q
          · exact .inr ((s1.trans sN).dom a q)
        refine p F' O1 H' (.ref x) fq (call_step (s1.trans sN) (s1.trans sN).own frO s2) (call_good g2 hr g3 s2 dm) ⟨rq, n2, fun a z y => ?_, fun a z => nF' a (List.mem_append_right _ z)⟩ fr3
        rcases fr2 a (List.mem_append_right _ z) with q | q
        · exact hr a y q
        · obtain ⟨u, e, _⟩ := g2.mt y
          rw [q] at e; cases e
      all_goals first | exact p.elim | (exfalso; rename_i hq; cases hq)
theorem run_makeSD {X : Cx} {CX : CXT} {k : Nat} {f Ca : Addr} {fd : FuncData} {ps : List Str} {sp : Sp} {E : L2.St → XK} {pins : List (Addr × Obj)} {σ : L2.St} {H : Hp} {s : Shared} {Q : VK} {us : List Value} {vs : List V} (M : Mk X.K Ca f) (F : FnOk X.prog X.w X.K X.mg X.base CX k f fd ps sp) (hr : Room (k + 1) X.A) (hb : Binds X.K fd ps [])
    (hx : PassesAt CX X σ (E σ)) (I : L2.Inv X pins σ H s) (r : Vals vs us) (h : ∀ x dx, H x = none → H dx = none → dx ≠ x → sp (.ref x :: vs) (upd (upd H dx (.own x)) x (.ins Ca dx [])) (fun v H2 => v = .non ∧ Q (.ref x) H2) (E σ)) : wpAny (model X.prog X.w) X.A (call (.ref Ca) us) (EP X pins σ Q) X.xe s := by
  have hq := h (s.heap.objs.size + 1) s.heap.objs.size (I.hok.fresh (Nat.le_succ _)) (I.hok.fresh (Nat.le_refl _)) (Nat.ne_of_lt (Nat.lt_succ_self _))
  have J := L2.Inv.made (C := Ca) I
  have rr : Vals (V.ref (s.heap.objs.size + 1) :: vs) (Value.ref (s.heap.objs.size + 1) :: us) := .cons rfl r
  have hl : (Value.ref (s.heap.objs.size + 1) :: us ++ []).length = ps.length := by
    rw [List.append_nil, ← rr.length]
    exact F.len _ _ _ _ hq
  have hbd := hb _ (Value.ref (s.heap.objs.size + 1) :: us) J.kIn hl
  rw [List.append_nil] at hbd
  refine wpAny_call (make_map (f := f) I.kIn M.makes M.init (beq_iff_eq.mp M.fn) (codeAny_mono (F.run _ X.stack _ _ ⟨Value.ref (s.heap.objs.size + 1) :: us, []⟩ _ _ _ (E σ) (hr.make Ca us []) (J.env0.make Ca us []) hbd rr hq) fun r s' z => ?_))
  cases r with
  | error e => exact hx pins _ _ e s' J z
  | ok fl =>
    cases fl with
    | ret u =>
      obtain ⟨v, H', I3, rv, ev, q3⟩ := J.after z
      subst ev
      exact ⟨rv, V.ref (s.heap.objs.size + 1), H', I3, rfl, q3⟩
    | next => exact z.elim
    | brk => exact z.elim
    | cont => exact z.elim
theorem pe_makeN {X : Cx} {CX : CXT} {k : Nat} {f Ca : Addr} {fd : FuncData} {ps : List Str} {sp : Sp} {E : L2.St → XK} {x : Str} {p pos : Pos} {es : List Expr} {t : TA} (M : Mk X.K Ca f) (F : FnOk X.prog X.w X.K X.mg X.base CX k f fd ps sp) (hr : Room (k + 1) X.A) (hg : Gl X x) (hm : X.mg x = some (.ref Ca)) (hb : Binds X.K fd ps [])
    (hx : ∀ σ, PassesAt CX X σ (E σ)) (ha : PA X es t) (h0 : es = [] → ∀ σ H Q, t σ H Q → Q [] H) (hs : es.all noStar = true) (hdb : (x == ("__debug__" : Str)) = false) : PE X (.Call (.Name x p) es [] pos) (tMakeSD Ca sp E t) := by
  refine ⟨fun pins s σ H Q I h => ?_⟩
  refine wpAny_Call_Name_kw (ld_glob I hg hm ?_ hdb)
  cases es with
  | nil => exact PySem.W.callWith_K0 I.kIn M.kp (run_makeSD (us := []) M F hr hb (hx σ) I .nil (h0 rfl _ _ _ h))
  | cons e es =>
    simp only [List.all_cons, Bool.and_eq_true] at hs
    exact PySem.W.callWith_K (h₀ := X.base) I.ok.mod.kin M.kp (thn (ha.run pos pins s σ H _ I h) fun us s1 ⟨vs, H1, I1, r, q⟩ => ⟨I1.kIn, run_makeSD M F hr hb (hx σ) I1 r q⟩) (star1 hs.1) (stars hs.2)
/-! ### o.x = e -/
theorem fld_split {x : Str} {v : V} {d : D} : ∀ {kvs : List (D × D)} {fs : List (Str × V)}, kvs.map (·.1) = fs.map (fun p => PyData.str p.1) →
    (putF x v fs = fs ++ [(x, v)] ∧ putFld x d kvs = kvs ++ [(.str x, d)]) ∨ ∃ A w B dA dw dB, fs = A ++ (x, w) :: B ∧ kvs = dA ++ (.str x, dw) :: dB ∧ A.length = dA.length ∧ putF x v fs = A ++ (x, v) :: B ∧ putFld x d kvs = dA ++ (.str x, d) :: dB
  | [], [], _ => .inl ⟨rfl, rfl⟩
  | [], _ :: _, e => by simp at e
  | _ :: _, [], e => by simp at e
  | (q, u) :: kvs, (y, w) :: fs, e => by
    simp only [List.map_cons, List.cons.injEq] at e
    obtain ⟨rfl, e⟩ := e
    by_cases hx : y = x
    · subst hx
      exact .inr ⟨[], w, fs, [], u, kvs, rfl, rfl, rfl, by simp [putF], by simp [putFld]⟩
    · rcases fld_split (x := x) (v := v) (d := d) e with ⟨h1, h2⟩ | ⟨A, w', B, dA, dw, dB, rfl, rfl, hl, h1, h2⟩
      · exact .inl ⟨by simp [putF, hx, h1], by simp [putFld, hx, h2]⟩
      · exact .inr ⟨(y, w) :: A, w', B, (.str y, u) :: dA, dw, dB, rfl, rfl, by simp [hl], by simp [putF, hx, h1], by simp [putFld, hx, h2]⟩
theorem setFS_nx {env : Env} {i ke : Nat} {x : Str} {d : D} : (∃ env2, setFS env i x ke d = .nx env2) ∨ setFS env i x ke d = .bad := by
  unfold setFS
  split
  · split
    · exact .inl ⟨_, rfl⟩
    · exact .inr rfl
  · exact .inr rfl
theorem setF_core {i : Nat} {y : Str} {F O F1 O1 : Addr → Prop} {H H1 : Hp} {env1 : Env} {σ : L2.St} {ke : Nat} {d : D} {v : V} {fp : List Addr} {Q : L2.St → Hp → Prop} {T : List Str} {K : PySem.W.Frag} (hc : ∀ i Ca, c.cl i = some Ca → L2.Cls K Ca ∧ ∀ x, x ∈ T → NoAttr K Ca x) (hy : y ∈ T) (s1 : Step F O H F1 O1 H1) (g1 : Good c F1 env1 σ H1 O1) (t : Tmp c F1 O1 H1 ke v d fp) (fr : ∀ a, a ∈ fp → O a ∨ H a = none)
    {env2 : Env} (e : setFS env1 i y ke d = .nx env2) (q : ∀ F' O' H', Step F O H F' O' H' → Good c F' env2 σ H' O' → Q σ H') : tVar i σ H1 fun x H2 => ∃ a Ca dx fs, x = .ref a ∧ H2 a = some (.ins Ca dx fs) ∧ L2.Cls K Ca ∧ NoAttr K Ca y ∧ fs.length < 1000 ∧ Q σ (upd H2 a (.ins Ca dx (putF y v fs))) := by
  unfold setFS at e
  split at e
  · rename_i k z kvs ei
    split at e
    · rename_i hl
      have hl := of_decide_eq_true hl
      cases e
      obtain ⟨x, fpS, O1r, hx, gr, tS, eq⟩ := g1.out ei
      refine ⟨x, hx, ?_⟩
      have r := tS.rep
      generalize hkd : (.dict ((.none, .tuple [.int z]) :: kvs) : D) = dd at r
      have noK : ∀ {kv : List (Key × V)}, (((PyData.none : D), (PyData.tuple [.int z] : D)) :: kvs).map (·.1) = kv.map (fun p => dk p.1) → False := fun {kv} e => by
        cases kv with
        | nil => simp at e
        | cons p r =>
          obtain ⟨q, v⟩ := p
          cases q <;> simp [dk] at e
      have noT : ∀ {kv : List (List Key × V)}, (((PyData.none : D), (PyData.tuple [.int z] : D)) :: kvs).map (·.1) = kv.map (fun p => PyData.tuple (p.1.map dk)) → False := fun {kv} e => by
        cases kv with
        | nil => simp at e
        | cons p r => simp at e
      cases r with
      | dkown h e r => injection hkd with hkd; subst hkd; exact (noK e).elim
      | dtown h ne e r => injection hkd with hkd; subst hkd; exact (noT e).elim
      | fn _ h => simp [fnD] at hkd
      | objown h hcl ek rl =>
        unfold objD at hkd
        injection hkd with hkd
        simp only [List.cons.injEq, Prod.mk.injEq, PyData.tuple.injEq, PyData.int.injEq, true_and, and_true] at hkd
        obtain ⟨rfl, rfl⟩ := hkd
        rename_i a Ca dx fs n fp0
        obtain ⟨c1, c2⟩ := hc n Ca hcl
        have hlen : fs.length = kvs.length := by simpa using (congrArg List.length ek).symm
        refine ⟨a, Ca, dx, fs, rfl, h, c1, c2 y hy, by omega, ?_⟩
        obtain ⟨n1, n2⟩ := List.nodup_cons.mp tS.nd
        have mk : ∀ (F2 : Addr → Prop) (fs' : List (Str × V)) (ds' : List (D × D)) fpn, ds'.map (·.1) = fs'.map (fun p => PyData.str p.1) → RepL c F2 (upd H1 a (.ins Ca dx fs')) (min k (lvl ke d)) (fs'.map (·.2)) (ds'.map (·.2)) fpn → Rep c F2 (upd H1 a (.ins Ca dx fs')) (min k (lvl ke d) + 1) (.ref a) (.dict ((.none, .tuple [.int n]) :: ds')) (a :: fpn) :=
          fun F2 fs' ds' fpn e' r' => .objown upd_same hcl e' r'
        rcases fld_split (x := y) (v := v) (d := d) ek with ⟨h1, h2⟩ | ⟨A, w, B, dA, dw, dB, rfl, rfl, hal, h1, h2⟩
        · rw [h1]
          rw [h2] at q
          exact store_core (va := fs.map (·.2)) (vb := []) (da := kvs.map (·.2)) (db := []) (fa := fp0) (fb := []) (oN := .ins Ca dx (fs ++ [(y, v)])) s1 t fr hx gr tS eq rl (.nil _) (by rw [List.append_nil]; exact n2) (fun x z => by simpa using z) (fun F2 fpn r => mk F2 _ _ fpn (by simp [ek]) (by simpa using r)) fun F' O' H' s' g' _ => q F' O' H' s' g'
        · rw [h1]
          rw [h2] at q
          simp only [List.map_append, List.map_cons] at rl
          obtain ⟨fa, fb, rfl, ra, rb⟩ := RepL.app_split (by simpa using hal) rl
          cases rb with
          | cons rw0 rb =>
            rename_i fw fb
            simp only [List.map_append, List.map_cons] at ek
            have eA := List.append_inj ek (by simpa using hal.symm)
            simp only [List.cons.injEq] at eA
            refine store_core (va := A.map (·.2)) (vb := B.map (·.2)) (da := dA.map (·.2)) (db := dB.map (·.2)) (fa := fa) (fb := fb) (oN := .ins Ca dx (A ++ (y, v) :: B)) s1 t fr hx gr tS eq ra rb
              (List.Sublist.nodup ((List.Sublist.refl fa).append (List.sublist_append_right fw fb)) n2) (fun x z => ?_) (fun F2 fpn r => mk F2 _ _ fpn (by simp [eA.1, eA.2]) (by simpa using r)) fun F' O' H' s' g' _ => q F' O' H' s' g'
            rcases List.mem_append.mp z with z | z
            · exact List.mem_append_left _ z
            · exact List.mem_append_right _ (List.mem_append_right _ z)
      | _ => cases hkd
    · cases e
  · cases e
theorem setF_ok {i : Nat} {y : Str} {e : E} {T : List Str} {K : PySem.W.Frag} (hc : ∀ i Ca, c.cl i = some Ca → L2.Cls K Ca ∧ ∀ x, x ∈ T → NoAttr K Ca x) (hy : y ∈ T) (h : rS c xc W C cs wf pr (.setF i y e) Dn σ H) : sFld K (tVar i) (rE c xc W C e) y Dn σ H := by
  obtain ⟨env, F, O, gd, p⟩ := h
  unfold evS at p
  refine ⟨env, F, O, gd, ?_⟩
  cases e1 : evE C e env with
  | bad => rw [e1] at p; exact p
  | exc env1 y => rw [e1] at p; exact p
  | ok env1 k d =>
    rw [e1] at p
    simp only at p
    intro F1 O1 H1 v fp s1 g1 t fr
    rcases setFS_nx (env := env1) (i := i) (ke := k) (x := y) (d := d) with ⟨env3, e3⟩ | e3
    · rw [e3] at p
      exact setF_core (Q := Dn.nx) hc hy s1 g1 t fr e3 fun F' O' H' s' g' => p F' O' H' σ s' g' Prot.refl
    · rw [e3] at p; exact p.elim
end
end Pv
end
section
set_option maxRecDepth 100000
set_option maxHeartbeats 8000000
/-! PvChk: a text's expression against the evaluator's code. -/
namespace Pv
open PySem PySem.Spec PyProof.Rows L2
def esLen : Es → Nat
  | .nil => 0
  | .cons _ r => esLen r + 1
def cstOk : D → Const → Bool
  | .none, .none => true
  | .bool a, .bool b => decide (a = b)
  | .int a, .int b => decide (a = b)
  | .str a, .str b => decide (a = b)
  | _, _ => false
/-- the same plain constant -/
def sameA : D → D → Bool
  | .none, .none => true
  | .bool a, .bool b => decide (a = b)
  | .int a, .int b => decide (a = b)
  | .str a, .str b => decide (a = b)
  | _, _ => false
theorem sameA_eq {a b : D} (h : sameA a b = true) : a = b := by
  unfold sameA at h
  split at h
  · rfl
  · rw [of_decide_eq_true h]
  · rw [of_decide_eq_true h]
  · rw [of_decide_eq_true h]
  · cases h
def ownN (N : List Str) (own : List Nat) : List (Str × Nat) := own.map fun i => ((N[i]?).getD ⟨#[]⟩, i)
mutual
def chkG (N : List Str) (sc : Scope) (st : Str → Bool) : G → Expr → Bool
  | .name i, .Name x _ => stored N sc st i x
  | .tup gs, .Tuple es _ _ => chkGs N sc st gs es && es.all noStar
  | _, _ => false
def chkGs (N : List Str) (sc : Scope) (st : Str → Bool) : List G → List Expr → Bool
  | [], [] => true
  | g :: gs, e :: es => chkG N sc st g e && chkGs N sc st gs es
  | _, _ => false
end
/-- the arguments of what is walked -/
def srcArgs (sc : Scope) : Sk → Expr → Expr → Option (List Expr)
  | .val, _, e => if noSet e then some [e] else none
  | .rng1, _, .Call (.Name x _) [a] [] _ => if decide (x = "range") && glob sc x && noStar a then some [a] else none
  | .rng2, _, .Call (.Name x _) [a, b] [] _ => if decide (x = "range") && glob sc x && noStar a && noStar b then some [a, b] else none
  | .enum, .Tuple _ _ _, .Call (.Name x _) [a] [] _ => if decide (x = "enumerate") && glob sc x && noStar a then some [a] else none
  | .zip2, .Tuple _ _ _, .Call (.Name x _) [a, b] [] _ => if decide (x = "zip") && glob sc x && noStar a && noStar b then some [a, b] else none
  | .zip3, .Tuple _ _ _, .Call (.Name x _) [a, b, d] [] _ => if decide (x = "zip") && glob sc x && noStar a && noStar b && noStar d then some [a, b, d] else none
  | _, _, _ => none
/-- a name that is walked -/
def srcP (N : List Str) (sc : Scope) (i : Nat) : Sk → Expr → Expr → Bool
  | .val, _, .Name x _ => vis N sc i x
  | .enum, .Tuple _ _ _, .Call (.Name y _) [.Name x _] [] _ => decide (y = "enumerate") && glob sc y && vis N sc i x
  | _, _, _ => false
def mutOk : Mu → Bool
  | .append => true
  | .extend => true
  | .insert => true
  | .popAt => true
  | _ => false
def ioOk (T : Tab) (f : Nat) (es : Es) : Option (Nat × Nat) → Bool
  | none => true
  | some (p, i) => decide ((T.out[f]?).getD none = some p) && decide (peekAt es p = some i)
def blkSt (scope : Scope) : Str → Bool := fun x => scope.names.lookup x == some .cell
def asName : Expr → Option Str
  | .Name x _ => some x
  | _ => none
theorem asName_ok {e : Expr} {x : Str} (h : asName e = some x) : ∃ p, e = .Name x p := by
  unfold asName at h
  split at h
  · cases h; exact ⟨_, rfl⟩
  · cases h
def asConst : Expr → Option Const
  | .Constant k _ _ => some k
  | _ => none
theorem asConst_ok {e : Expr} {x : Const} (h : asConst e = some x) : ∃ j p, e = .Constant x j p := by
  unfold asConst at h
  split at h
  · cases h; exact ⟨_, _, rfl⟩
  · cases h
def asTup : Expr → Option (List Expr)
  | .Tuple l _ _ => some l
  | _ => none
theorem asTup_ok {e : Expr} {x : List Expr} (h : asTup e = some x) : ∃ j p, e = .Tuple x j p := by
  unfold asTup at h
  split at h
  · cases h; exact ⟨_, _, rfl⟩
  · cases h
def asLst : Expr → Option (List Expr)
  | .List l _ => some l
  | _ => none
theorem asLst_ok {e : Expr} {x : List Expr} (h : asLst e = some x) : ∃ p, e = .List x p := by
  unfold asLst at h
  split at h
  · cases h; exact ⟨_, rfl⟩
  · cases h
def asAnd : Expr → Option (Expr × Expr)
  | .BoolOp .And (a :: b :: r) pos => some (a, .BoolOp .And (b :: r) pos)
  | _ => none
theorem asAnd_ok {e a d : Expr} (h : asAnd e = some (a, d)) : ∃ b r p, e = .BoolOp .And (a :: b :: r) p ∧ d = .BoolOp .And (b :: r) p := by
  unfold asAnd at h
  split at h
  · cases h; exact ⟨_, _, _, rfl, rfl⟩
  · cases h
def asOr : Expr → Option (Expr × Expr)
  | .BoolOp .Or (a :: b :: r) pos => some (a, .BoolOp .Or (b :: r) pos)
  | _ => none
theorem asOr_ok {e a d : Expr} (h : asOr e = some (a, d)) : ∃ b r p, e = .BoolOp .Or (a :: b :: r) p ∧ d = .BoolOp .Or (b :: r) p := by
  unfold asOr at h
  split at h
  · cases h; exact ⟨_, _, _, rfl, rfl⟩
  · cases h
def asOne : Expr → Option Expr
  | .BoolOp _ [a] _ => some a
  | _ => none
theorem asOne_ok {e a : Expr} (h : asOne e = some a) : ∃ o p, e = .BoolOp o [a] p := by
  unfold asOne at h
  split at h
  · cases h; exact ⟨_, _, rfl⟩
  · cases h
def asNot : Expr → Option Expr
  | .UnaryOp .Not a _ => some a
  | _ => none
theorem asNot_ok {e a : Expr} (h : asNot e = some a) : ∃ p, e = .UnaryOp .Not a p := by
  unfold asNot at h
  split at h
  · cases h; exact ⟨_, rfl⟩
  · cases h
def asIf : Expr → Option (Expr × Expr × Expr)
  | .IfExp t a b _ => some (t, a, b)
  | _ => none
theorem asIf_ok {e t a b : Expr} (h : asIf e = some (t, a, b)) : ∃ p, e = .IfExp t a b p := by
  unfold asIf at h
  split at h
  · cases h; exact ⟨_, rfl⟩
  · cases h
def asCmp : Expr → Option (Expr × CmpOp × CmpOp × Expr × Expr)
  | .Compare a [o, p] [b, d] _ => some (a, o, p, b, d)
  | _ => none
theorem asCmp_ok {e a b d : Expr} {o p : CmpOp} (h : asCmp e = some (a, o, p, b, d)) : ∃ q, e = .Compare a [o, p] [b, d] q := by
  unfold asCmp at h
  split at h
  · cases h; exact ⟨_, rfl⟩
  · cases h
def asCall : Expr → Option (Str × List Expr)
  | .Call (.Name x _) l [] _ => some (x, l)
  | _ => none
theorem asCall_ok {e : Expr} {x : Str} {l : List Expr} (h : asCall e = some (x, l)) : ∃ p q, e = .Call (.Name x p) l [] q := by
  unfold asCall at h
  split at h
  · cases h; exact ⟨_, _, rfl⟩
  · cases h
def asCallS : Expr → Option (Expr × Expr × List Expr)
  | .Call (.Subscript a b p) (x :: l) [] _ => some (.Subscript a b p, x, l)
  | _ => none
theorem asCallS_ok {e f x : Expr} {l : List Expr} (h : asCallS e = some (f, x, l)) : ∃ a b p q, f = .Subscript a b p ∧ e = .Call (.Subscript a b p) (x :: l) [] q := by
  unfold asCallS at h
  split at h
  · cases h; exact ⟨_, _, _, _, rfl, rfl⟩
  · cases h
def asMeth : Expr → Option (Expr × Str × Expr × List Expr)
  | .Call (.Attribute o nm apos) (y :: l) [] cpos => if apos.endLine == cpos.line then some (o, nm, y, l) else none
  | _ => none
theorem asMeth_ok {e o y : Expr} {nm : Str} {l : List Expr} (h : asMeth e = some (o, nm, y, l)) : ∃ (p q : Pos), e = .Call (.Attribute o nm p) (y :: l) [] q ∧ (p.endLine == q.line) = true := by
  unfold asMeth at h
  split at h
  · split at h
    · rename_i hp
      cases h
      exact ⟨_, _, rfl, hp⟩
    · cases h
  · cases h
def asFld : Expr → Option (Expr × Str)
  | .Attribute a x _ => some (a, x)
  | _ => none
theorem asFld_ok {e a : Expr} {x : Str} (h : asFld e = some (a, x)) : ∃ p, e = .Attribute a x p := by
  unfold asFld at h
  split at h
  · cases h; exact ⟨_, rfl⟩
  · cases h
/-- {}; {k: v} -/
def asDict0 : Expr → Bool
  | .Dict [] [] _ => true
  | _ => false
theorem asDict0_ok {e : Expr} (h : asDict0 e = true) : ∃ p, e = .Dict [] [] p := by
  unfold asDict0 at h
  split at h
  · exact ⟨_, rfl⟩
  · cases h
def asDict1 : Expr → Option (Expr × Expr)
  | .Dict [some k] [v] _ => some (k, v)
  | _ => none
theorem asDict1_ok {e k v : Expr} (h : asDict1 e = some (k, v)) : ∃ p, e = .Dict [some k] [v] p := by
  unfold asDict1 at h
  split at h
  · cases h; exact ⟨_, rfl⟩
  · cases h
/-- a call of a method upon a name -/
def asMethN : Expr → Option (Str × Str × List Expr)
  | .Call (.Attribute (.Name x _) m apos) l [] pos => if apos.endLine == pos.line then some (x, m, l) else none
  | _ => none
theorem asMethN_ok {e : Expr} {x m : Str} {l : List Expr} (h : asMethN e = some (x, m, l)) : ∃ (p apos pos : Pos), e = .Call (.Attribute (.Name x p) m apos) l [] pos ∧ (apos.endLine == pos.line) = true := by
  unfold asMethN at h
  split at h
  · split at h
    · rename_i hp
      cases h
      exact ⟨_, _, _, rfl, hp⟩
    · cases h
  · cases h
/-- l.index(x) -/
def asIdx : Expr → Option (Expr × Expr)
  | .Call (.Attribute o nm apos) [y] [] cpos => if apos.endLine == cpos.line && decide (nm = "index") then some (o, y) else none
  | _ => none
theorem asIdx_ok {e o y : Expr} (h : asIdx e = some (o, y)) : ∃ (p q : Pos), e = .Call (.Attribute o "index" p) [y] [] q ∧ (p.endLine == q.line) = true := by
  unfold asIdx at h
  split at h
  · split at h
    · rename_i hp
      cases h
      rw [Bool.and_eq_true] at hp
      obtain rfl := of_decide_eq_true hp.2
      exact ⟨_, _, rfl, hp.1⟩
    · cases h
  · cases h
/-- an operand that is a slot -/
def slotOf : E → Option Nat
  | .peek i => some i
  | .var i => some i
  | _ => none
def isDict0 : D → Bool
  | .dict [] => true
  | _ => false
def asSub : Expr → Option (Expr × Expr)
  | .Subscript a b _ => some (a, b)
  | _ => none
theorem asSub_ok {e a b : Expr} (h : asSub e = some (a, b)) : ∃ p, e = .Subscript a b p := by
  unfold asSub at h
  split at h
  · cases h; exact ⟨_, rfl⟩
  · cases h
def asSlice : Expr → Option (Expr × Option Expr × Option Expr)
  | .Subscript a (.Slice lo hi none _) _ => some (a, lo, hi)
  | _ => none
theorem asSlice_ok {e a : Expr} {lo hi : Option Expr} (h : asSlice e = some (a, lo, hi)) : ∃ p q, e = .Subscript a (.Slice lo hi none p) q := by
  unfold asSlice at h
  split at h
  · cases h; exact ⟨_, _, rfl⟩
  · cases h
def asLc : Expr → Option (Expr × Expr × Expr × List Expr × Scope)
  | .ListComp elt [⟨tg, iter, ifs, 0⟩] scope _ => some (elt, tg, iter, ifs, scope)
  | _ => none
theorem asLc_ok {e elt tg iter : Expr} {ifs : List Expr} {scope : Scope} (h : asLc e = some (elt, tg, iter, ifs, scope)) : ∃ p, e = .ListComp elt [⟨tg, iter, ifs, 0⟩] scope p := by
  unfold asLc at h
  split at h
  · cases h; exact ⟨_, rfl⟩
  · cases h
def asLc2 : Expr → Option (Expr × Expr × Expr × List Expr × Expr × Expr × List Expr × Scope)
  | .ListComp elt [⟨tg, iter, ifs, 0⟩, ⟨tg2, iter2, ifs2, 0⟩] scope _ => some (elt, tg, iter, ifs, tg2, iter2, ifs2, scope)
  | _ => none
theorem asLc2_ok {e elt tg iter tg2 iter2 : Expr} {ifs ifs2 : List Expr} {scope : Scope} (h : asLc2 e = some (elt, tg, iter, ifs, tg2, iter2, ifs2, scope)) : ∃ p, e = .ListComp elt [⟨tg, iter, ifs, 0⟩, ⟨tg2, iter2, ifs2, 0⟩] scope p := by
  unfold asLc2 at h
  split at h
  · cases h; exact ⟨_, rfl⟩
  · cases h
mutual
def chkE (T : Tab) (N : List Str) : E → Scope → (Str → Bool) → Expr → Bool
  | .var i, sc, _, e => (match asName e with
    | some x => vis N sc i x
    | none => false)
  | .peek i, sc, _, e => (match asName e with
    | some x => vis N sc i x
    | none => false)
  | .mov i, sc, _, e => (match asName e with
    | some x => vis N sc i x
    | none => false)
  | .cst d, _, _, e => (match asConst e with
    | some k => cstOk d k
    | none => isDict0 d && asDict0 e)
  | .gcst x d, sc, _, e => (match asName e with
    | some y => decide (x = y) && glob sc y && T.csts.any (fun p => decide (p.1 = x) && sameA p.2 d)
    | none => false)
  | .fn x f, sc, _, e => (match asName e with
    | some y => decide (x = y) && glob sc y && decide (T.defs[f]? = some x)
    | none => false)
  | .tup es, sc, st, e => (match asTup e with
    | some l => chkL T N es sc st l && l.all noStar && decide (esLen es ≤ 1000)
    | none => false)
  | .lst es, sc, st, e => (match asLst e with
    | some l => chkL T N es sc st l && l.all noStar && decide (esLen es ≤ 1000)
    | none => false)
  | .op1 o a, sc, st, e => (match asFld e with
    | some (a', x) => decide (o = .fld x) && T.flds.contains x && noSup a' && chkE T N a sc st a'
    | none => (match sh1 sc o e with
      | some a' => chkE T N a sc st a'
      | none => false))
  | .op2 o a b, sc, st, e => (match asIdx e with
    | some (a', b') => decide (o = .index) && noSup a' && noStar b' && chkE T N a sc st a' && chkE T N b sc st b'
    | none => (match sh2 sc o e with
      | some (a', b') => chkE T N a sc st a' && chkE T N b sc st b'
      | none => false))
  | .op3 .slice a b d, sc, st, e => (match asSlice e with
    | some (a', lo, hi) => chkE T N a sc st a' && (match lo with
      | none => isNoneC b
      | some b' => !isNoneC b && chkE T N b sc st b') && (match hi with
      | none => isNoneC d
      | some d' => !isNoneC d && chkE T N d sc st d')
    | none => false)
  | .op3 _ _ _ _, _, _, _ => false
  | .and a b, sc, st, e => (match asAnd e with
    | some (a', b') => tst a' && chkE T N a sc st a' && chkE T N b sc st b'
    | none => false)
  | .or a b, sc, st, e => (match asOr e with
    | some (a', b') => tst a' && chkE T N a sc st a' && chkE T N b sc st b'
    | none => false)
  | .one a, sc, st, e => (match asOne e with
    | some a' => tst a' && chkE T N a sc st a'
    | none => false)
  | .not a, sc, st, e => (match asNot e with
    | some a' => tst a' && chkE T N a sc st a'
    | none => false)
  | .orT _ _, _, _, _ => false
  | .ite t a b, sc, st, e => (match asIf e with
    | some (t', a', b') => tst t' && chkE T N t sc st t' && chkE T N a sc st a' && chkE T N b sc st b'
    | none => false)
  | .chain o p a b c, sc, st, e => (match asCmp e with
    | some (a', o', p', b', c') => decide (cmpn o' = some o) && decide (cmpn p' = some p) && noSet c' && chkE T N a sc st a' && chkE T N b sc st b' && chkE T N c sc st c'
    | none => false)
  | .call f es io, sc, st, e => (match asCall e with
    | some (x, l) => decide (T.defs[f]? = some x) && glob sc x && chkL T N es sc st l && l.all noStar && ioOk T f es io
    | none => false)
  | .callV y es, sc, st, e => (match asCallS e with
    | some (f, x, l) => chkE T N y sc st f && chkL T N es sc st (x :: l) && (x :: l).all noStar
    | none => false)
  | .mut m i .nil es, sc, st, e => (match asMeth e with
    | some (o, nm, y, l) => (match asName o with
      | some x => decide (nm = mName m) && mutOk m && vis N sc i x && chkL T N es sc st (y :: l) && (y :: l).all noStar && decide (l.length ≤ 20)
      | none => false)
    | none => false)
  | .mut m i (.cons p r) es, sc, st, e => (match asMeth e with
    | some (o, nm, y, l) => (match asSub o with
      | some (n, p') => (match asName n with
        | some x => decide (nm = mName m) && mutOk m && vis N sc i x && chkE T N p sc st p' && noSlice p' && chkL T N es sc st (y :: l) && (y :: l).all noStar && decide (l.length ≤ 20) && decide (esLen r = 0)
        | none => false)
      | none => false)
    | none => false)
  | .lc own g sk src ifs elt, sc, st, e => (match asLc e with
    | some (elt', tg, iter, ifs', scope) => (match srcArgs sc sk tg iter with
      | some l => blkC N sc scope (ownN N own) && (names g).all (fun i => own.contains i) && shortE ifs && chkL T N src sc st l && chkG N (relS scope sc) (blkSt scope) g tg && ifs'.all tst && chkL T N ifs (relS scope sc) (blkSt scope) ifs' && chkE T N elt (relS scope sc) (blkSt scope) elt'
      | none => false)
    | none => false)
  | .lc2 own own2 g sk src ifs g2 sk2 src2 ifs2 elt, sc, st, e => (match asLc2 e with
    | some (elt', tg, iter, ifs', tg2, iter2, ifs2', scope) => (match srcArgs sc sk tg iter, srcArgs (relS scope sc) sk2 tg2 iter2 with
      | some l, some l2 => blkC N sc scope (ownN N own) && (names g).all (fun i => own.contains i) && shortE ifs && chkL T N src sc st l && chkG N (relS scope sc) (blkSt scope) g tg && ifs'.all tst && (names g2).all (fun i => own2.contains i) && own2.all (fun i => own.contains i) && shortE ifs2 &&
        chkG N (relS scope sc) (blkSt scope) g2 tg2 && ifs2'.all tst && chkL T N ifs (relS scope sc) (blkSt scope) ifs' && chkE T N elt (relS scope sc) (blkSt scope) elt' && chkL T N src2 (relS scope sc) (blkSt scope) l2 && chkL T N ifs2 (relS scope sc) (blkSt scope) ifs2'
      | _, _ => false)
    | none => false)
  | .new i f es, sc, st, e => (match asCall e with
    | some (x, l) => decide (T.own[i]? = some x) && decide (T.inits[i]? = some f) && glob sc x && chkL T N es sc st l && l.all noStar
    | none => false)
  | .dct1 es, sc, st, e => (match asDict1 e with
    | some (k, v) => noStar k && noStar v && chkL T N es sc st [k, v]
    | none => false)
  | .meth f i m o es, sc, st, e => (match asMethN e with
    | some (x, m', l) => (match slotOf o with
      | some j => decide (m = m') && T.meths.contains (f, i, m) && decide ((T.out[f]?).getD none = none) && vis N sc j x && chkL T N es sc st l && l.all noStar && decide (l.length ≤ 20)
      | none => false)
    | none => false)
  | .lcP own i g sk ifs elt, sc, st, e => (match asLc e with
    | some (elt', tg, iter, ifs', scope) => srcP N sc i sk tg iter && blkC N sc scope (ownN N own) && (names g).all (fun i => own.contains i) && shortE ifs && chkG N (relS scope sc) (blkSt scope) g tg && ifs'.all tst && chkL T N ifs (relS scope sc) (blkSt scope) ifs' && chkE T N elt (relS scope sc) (blkSt scope) elt'
    | none => false)
def chkL (T : Tab) (N : List Str) : Es → Scope → (Str → Bool) → List Expr → Bool
  | .nil, _, _, [] => true
  | .cons e r, sc, st, x :: l => chkE T N e sc st x && chkL T N r sc st l
  | _, _, _, _ => false
end
section
variable {T : Tab} {c : Cn} {xc : Xc} {C : Calls} {lv : Nat} {N : List Str}
/-- a checked expression -/
structure Snd (c : Cn) (xc : Xc) (W : WX) (C : Calls) (X : Cx) (x : E) (e : Expr) : Prop where
  pe : PE X e (rO c xc W C x)
  pt : tst e = true → PT X e (tTest (rO c xc W C x))
  pw : isB e = true → PW X e (tTest (rE c xc W C x))
inductive SndL (c : Cn) (xc : Xc) (W : WX) (C : Calls) (X : Cx) : Es → List Expr → Prop
  | nil : SndL c xc W C X .nil []
  | cons {x : E} {r : Es} {e : Expr} {l : List Expr} (h : Snd c xc W C X x e) (hr : SndL c xc W C X r l) : SndL c xc W C X (.cons x r) (e :: l)
variable {W : WX} {X : Cx} {sc : Scope} {st : Str → Bool}
theorem Snd.re {x : E} {e : Expr} (h : Snd c xc W C X x e) : PE X e (rE c xc W C x) := by
  cases x with
  | peek i =>
    refine PE.imp h.pe fun σ H Q z => ?_
    obtain ⟨env, F, O, g, p⟩ := z
    simp only [evE] at p
    exact p.elim
  | _ => exact h.pe
theorem Snd.of {x : E} {e : Expr} (h : PE X e (rO c xc W C x)) (p : plainT e = true) : Snd c xc W C X x e := ⟨h, fun _ => pt_plain p h, fun b => by
  cases e <;> first | (cases b; done) | (cases p; done)⟩
theorem SndL.pl {es : Es} {l : List Expr} (h : SndL c xc W C X es l) (hs : l.all noStar = true) : PA X l (rL c xc W C es) := by
  induction h with
  | nil => exact PA.imp pa_nil fun σ H Q z => lnil_ok z
  | cons h hr ih =>
    simp only [List.all_cons, Bool.and_eq_true] at hs
    exact PA.imp (pa_cons h.re (ih hs.2) (star1 hs.1)) fun σ H Q z => lcons_ok z
theorem SndL.pa {es : Es} {l : List Expr} (h : SndL c xc W C X es l) (hs : l.all noStar = true) : PA X l (rA c xc W C es) := by
  induction h with
  | nil => exact PA.imp pa_nil fun σ H Q z => anil_ok z
  | cons h hr ih =>
    simp only [List.all_cons, Bool.and_eq_true] at hs
    exact PA.imp (pa_cons h.pe (ih hs.2) (star1 hs.1)) fun σ H Q z => acons_ok z
theorem SndL.len2 {es : Es} {l : List Expr} (h : SndL c xc W C X es l) : esLen es = l.length := by
  induction h with
  | nil => rfl
  | cons _ _ ih => exact congrArg (· + 1) ih
theorem evL_len : ∀ {es : Es} {env env' : Env} {l : List (Nat × D)}, evL C es env = .ok env' l → l.length = esLen es
  | .nil, _, _, _, h => by simp only [evL, ResL.ok.injEq] at h; rw [← h.2]; rfl
  | .cons e r, env, env', l, h => by
    simp only [evL] at h
    split at h
    · split at h
      · rename_i hr
        cases h
        exact congrArg (· + 1) (evL_len hr)
      · cases h
      · cases h
    · cases h
    · cases h
theorem rL_len {es : Es} {σ : L2.St} {H : Hp} {Q : List V → Hp → Prop} (h : rL c xc W C es σ H Q) : rL c xc W C es σ H fun vs H1 => vs.length = esLen es ∧ Q vs H1 := by
  obtain ⟨env, F, O, g, p⟩ := h
  refine ⟨env, F, O, g, ?_⟩
  cases e : evL C es env with
  | bad => rw [e] at p; exact p
  | exc env1 y => rw [e] at p; exact p
  | ok env1 l =>
    rw [e] at p
    exact fun F1 O1 H1 vs fp s1 g1 t fr => ⟨t.rep.length.trans (evL_len e), p F1 O1 H1 vs fp s1 g1 t fr⟩
theorem tup_snd {es : Es} {l : List Expr} {k : Nat} {pos : Pos} (h : SndL c xc W C X es l) (hs : l.all noStar = true) (hl : esLen es ≤ 1000) : Snd c xc W C X (.tup es) (.Tuple l k pos) :=
  .of (PE.imp (pe_tup (h.pl hs)) fun σ H Q z => rL_imp (rL_len (tup_ok z)) fun vs H1 q => ⟨by rw [q.1]; exact Nat.le_trans hl (by decide), q.2⟩) rfl
theorem lst_snd {es : Es} {l : List Expr} {pos : Pos} (h : SndL c xc W C X es l) (hs : l.all noStar = true) (hl : esLen es ≤ 1000) : Snd c xc W C X (.lst es) (.List l pos) :=
  .of (PE.imp (pe_lst (h.pl hs)) fun σ H Q z => rL_imp (rL_len (lst_ok z)) fun vs H1 q => ⟨by rw [q.1]; exact Nat.le_trans hl (by decide), q.2⟩) rfl
theorem cst_snd {d : D} {k : Const} {j : Nat} {pos : Pos} (h : cstOk d k = true) : Snd c xc W C X (.cst d) (.Constant k j pos) := by
  unfold cstOk at h
  split at h
  · exact .of (PE.imp pe_non fun σ H Q z => cst_ok z fun _ _ _ => .non _) rfl
  · rw [of_decide_eq_true h]; exact .of (PE.imp pe_bl fun σ H Q z => cst_ok z fun _ _ _ => .bl _ _) rfl
  · rw [of_decide_eq_true h]; exact .of (PE.imp pe_int fun σ H Q z => cst_ok z fun _ _ _ => .int _ _) rfl
  · rw [of_decide_eq_true h]; exact .of (PE.imp pe_str fun σ H Q z => cst_ok z fun _ _ _ => .str _ _) rfl
  · cases h
theorem pe_callSD0 {CX : CXT} {k : Nat} {f : Addr} {fd : FuncData} {ps : List Str} {sp : Sp} {dvs : List V} {ds : List Value} {E : L2.St → XK} {x : Str} {p pos : Pos} (F : FnOk X.prog X.w X.K X.mg X.base CX k f fd ps sp) (hr : Room k X.A) (hg : Gl X x) (hm : X.mg x = some (.ref f)) (hk : PySem.W.keepIn X.K (.ref f) = true)
    (hb : Binds X.K fd ps ds) (hd : Vals dvs ds) (hx : ∀ σ, PassesAt CX X σ (E σ)) (hdb : (x == ("__debug__" : Str)) = false) : PE X (.Call (.Name x p) [] [] pos) (tCallSD sp dvs E tNil) :=
  ⟨fun pins s σ H Q I h => wpAny_Call_Name_kw (ld_glob I hg hm (PySem.W.callWith_K0 I.kIn hk (run_fnSD (us := []) F hr hb hd (hx σ) I .nil h)) hdb)⟩
theorem call_snd (k : Xk T c xc C lv X N sc st W) {f : Nat} {es : Es} {io : Option (Nat × Nat)} {x : Str} {l : List Expr} {p pos : Pos} (hd : T.defs[f]? = some x) (hg : glob sc x = true) (h : SndL c xc W C X es l) (hs : l.all noStar = true) (hio : ioOk T f es io = true) :
    Snd c xc W C X (.call f es io) (.Call (.Name x p) l [] pos) := by
  obtain ⟨a, fd, ps, hm, _, hk, hb, F⟩ := k.kn.def_ f x hd
  have db : (x == ("__debug__" : Str)) = false := by
    obtain ⟨hi, e⟩ := List.getElem?_eq_some_iff.mp hd
    exact k.kn.dbg x (e ▸ List.getElem_mem hi)
  have hio' : ∀ p i, io = some (p, i) → (T.out[f]?).getD none = some p ∧ peekAt es p = some i := fun p i e => by
    subst e
    simp only [ioOk, Bool.and_eq_true] at hio
    exact ⟨of_decide_eq_true hio.1, of_decide_eq_true hio.2⟩
  have hp := h.pa hs
  refine .of ?_ rfl
  cases l with
  | nil =>
    cases h
    refine PE.imp (pe_callSD0 F (k.room.mono (Nat.le_succ _)) (k.gl hg) hm hk hb .nil (fun σ => passAt k.tk σ) db) fun σ H Q z => ?_
    exact anil_ok (call_ok hio' z)
  | cons e l =>
    simp only [List.all_cons, Bool.and_eq_true] at hs
    exact PE.imp (pe_callSD F (k.room.mono (Nat.le_succ _)) (k.gl hg) hm hk hb .nil (fun σ => passAt k.tk σ) hp db (star1 hs.1) (stars hs.2)) fun σ H Q z => call_ok hio' z
theorem callV_snd (k : Xk T c xc C lv X N sc st W) {y : E} {es : Es} {a b e : Expr} {l : List Expr} {p pos : Pos} (h0 : Snd c xc W C X y (.Subscript a b p)) (h : SndL c xc W C X es (e :: l)) (hs : (e :: l).all noStar = true) : Snd c xc W C X (.callV y es) (.Call (.Subscript a b p) (e :: l) [] pos) := by
  refine .of (PE.imp (t := tCallF (fun f => spC c xc ((T.out[f]?).getD none) (C f)) (WE W) (rE c xc W C y) (rA c xc W C es) c.fa) ⟨fun pins s σ H Q I z => ?_⟩ fun σ H Q z => callV_ok z) rfl
  have hs' := hs
  simp only [List.all_cons, Bool.and_eq_true] at hs'
  refine Call_ (thn (h0.re.run pins s σ H _ I z) fun u s1 ⟨v, H0, I0, r0, f, a0, ev, hf, q⟩ => ?_)
  subst ev
  cases r0
  obtain ⟨fd, ps, hk, hb, F⟩ := k.kn.fa f a0 hf
  refine PySem.W.callWith_K (h₀ := X.base) I.ok.mod.kin hk (thn ((h.pa hs).run pos pins s1 σ H0 _ I0 q) fun us s2 ⟨vs, H2, I2, r, q2⟩ => ⟨I2.kIn, ?_⟩) (star1 hs'.1) (stars hs'.2)
  exact run_fnSD (dvs := []) F (k.room.mono (Nat.le_succ _)) hb .nil (passAt k.tk σ) I2 r (by rw [List.append_nil]; exact q2)
theorem slot_snd (k : Xk T c xc C lv X N sc st W) {o : E} {j : Nat} {x : Str} {p : Pos} (ho : slotOf o = some j) (hv : vis N sc j x = true) : Snd c xc W C X o (.Name x p) := by
  unfold slotOf at ho
  split at ho
  · cases ho; exact .of (k.var hv) rfl
  · cases ho; exact .of (PE.imp (k.var hv) fun σ H Q z => var_ok z) rfl
  · cases ho
theorem meth_snd (k : Xk T c xc C lv X N sc st W) {f i : Nat} {m : Str} {o : E} {es : Es} {x : Str} {l : List Expr} {p apos pos : Pos} (hm : (f, i, m) ∈ T.meths) (hou : (T.out[f]?).getD none = none) (h0 : Snd c xc W C X o (.Name x p)) (h : SndL c xc W C X es l) (hs : l.all noStar = true) (hl : l.length ≤ 20) (hp : (apos.endLine == pos.line) = true) :
    Snd c xc W C X (.meth f i m o es) (.Call (.Attribute (.Name x p) m apos) l [] pos) := by
  obtain ⟨Ca, a, fd, ps, hcl, cl, me, hb, F⟩ := k.kn.mth f i m hm
  rw [hou] at F
  refine .of (PE.imp (pe_methN (PE.mono' h0.pe) cl me F (k.room.mono (Nat.le_succ _)) hb (fun σ => passAt k.tk σ) (h.pa hs) (fun e σ H Q z => ?_) hs hl hp) fun σ H Q z => meth_ok hcl z) rfl
  subst e
  cases h
  exact anil_ok z
theorem new_snd (k : Xk T c xc C lv X N sc st W) {f i : Nat} {es : Es} {x : Str} {l : List Expr} {p pos : Pos} (h1 : T.own[i]? = some x) (h2 : T.inits[i]? = some f) (hg : glob sc x = true) (h : SndL c xc W C X es l) (hs : l.all noStar = true) : Snd c xc W C X (.new i f es) (.Call (.Name x p) l [] pos) := by
  obtain ⟨Ca, a, fd, ps, hm, hcl, db, M, hb, F⟩ := k.kn.mk_ i x f h1 h2
  refine .of (PE.imp (pe_makeN M F k.room (k.gl hg) hm hb (fun σ => passAt k.tk σ) (h.pa hs) (fun e σ H Q z => ?_) hs db) fun σ H Q z => new_ok hcl z) rfl
  subst e
  cases h
  exact anil_ok z
theorem dct1_snd (k : Xk T c xc C lv X N sc st W) {es : Es} {a b : Expr} {pos : Pos} (h : SndL c xc W C X es [a, b]) : Snd c xc W C X (.dct1 es) (.Dict [some a] [b] pos) := by
  cases h with
  | cons h1 h =>
    cases h with
    | cons h2 h =>
      cases h
      refine .of (PE.imp (pe_dict1 (by have := k.cc.un; omega) h1.re h2.re) fun σ H Q z => ?_) rfl
      intro p hp
      have z1 := lcons_ok (dct1_ok z p hp)
      obtain ⟨env, F, O, g, q⟩ := z1
      refine ⟨env, F, O, g, ?_⟩
      generalize evE C _ env = r at q ⊢
      cases r with
      | bad => exact q
      | exc e x => exact q
      | ok env1 k d =>
        intro F1 O1 H1 v fp s1 g1 t fr
        have z2 := lcons_ok (q F1 O1 H1 v fp s1 g1 t fr)
        obtain ⟨env', F', O', g', q'⟩ := z2
        refine ⟨env', F', O', g', ?_⟩
        generalize evE C _ env' = r at q' ⊢
        cases r with
        | bad => exact q'
        | exc e x => exact q'
        | ok env1 k d =>
          intro F1 O1 H1 v' fp s1 g1 t fr
          have z3 := lnil_ok (q' F1 O1 H1 v' fp s1 g1 t fr)
          obtain ⟨e, x, y, ev, z4⟩ := z3
          cases ev
          exact ⟨e, z4⟩
theorem idxD_some {x : D} : ∀ {xs : List D} {n m : Nat}, idxD x xs n = some m → ∃ (j : Nat) (z : D), m = n + j ∧ xs[j]? = some z ∧ PyData.eqv z x = true ∧ ∀ (i : Nat) (y : D), i < j → xs[i]? = some y → PyData.eqv y x = false
  | [], _, _, h => by simp [idxD] at h
  | y :: r, n, m, h => by
    simp only [idxD] at h
    cases hy : PyData.eqv y x with
    | true =>
      rw [hy] at h
      obtain rfl : n = m := by simpa using h
      exact ⟨0, y, rfl, rfl, hy, fun i _ hi => by omega⟩
    | false =>
      rw [hy] at h
      obtain ⟨j, z, rfl, h1, h2, h3⟩ := idxD_some (show idxD x r (n + 1) = some m by simpa using h)
      refine ⟨j + 1, z, by omega, by simpa using h1, h2, fun i y' hi hy' => ?_⟩
      cases i with
      | zero =>
        obtain rfl : y = y' := by simpa using hy'
        exact hy
      | succ i => exact h3 i y' (by omega) (by simpa using hy')
theorem idx_snd (k : Xk T c xc C lv X N sc st W) {a b : E} {o y : Expr} {p q : Pos} (h0 : Snd c xc W C X a o) (h1 : Snd c xc W C X b y) (hs : noSup o = true) (hn : noStar y = true) (hp : (p.endLine == q.line) = true) : Snd c xc W C X (.op2 .index a b) (.Call (.Attribute o "index" p) [y] [] q) := by
  refine .of (PE.imp (pe_bm F.plainAttrs_list F.slot_list_index F.type_list_index (mt_indexD (by have := k.cc.un; omega)) (PE.mono' h0.pe) (pa_cons h1.pe pa_nil (star1 hn)) (baseOf hs) (few (e := y) (es := []) (by simp [hn]) (by simp)) hp (star1 hn) rfl) fun σ H Q z => ?_) rfl
  refine ⟨_, fun x H1 w => ?_, op2_pre z⟩
  obtain ⟨⟨F, k1, d, fp, r, hd⟩, w⟩ := w
  have ty : tyV X.K "list" x H1 := by
    unfold preOk at hd
    split at hd
    · obtain ⟨l, vs, rfl, hl, _⟩ := rep_list (F' := F) r
      exact .inl ⟨rfl, vs, by rw [k.cc.hK]; exact sq_of hl⟩
    · cases hd
    · rename_i h _; exact absurd rfl h
  refine ⟨ty, rO_mono w fun v H2 r2 => ?_⟩
  obtain ⟨F, k1, k2, d1, d2, fp1, fp2, r0, r1, r2, _, e, p⟩ := r2
  have e : indexD d1 d2 = some r0 := e
  unfold indexD at e
  split at e
  · split at e
    · rename_i xs hl
      rw [Bool.and_eq_true] at hl
      obtain ⟨m, hm, rfl⟩ := Option.map_eq_some_iff.mp e
      obtain ⟨j, z, rfl, q1, q2, q3⟩ := idxD_some hm
      obtain ⟨l, vs, rfl, _⟩ := rep_list (F' := F) r1
      rw [Nat.zero_add] at p
      have dl := Rep.lay hl.2 r1
      have dx := Rep.lay hl.1 r2
      rw [← k.cc.hK] at dl dx
      exact ⟨l, v, d2, _, j, z, rfl, rfl, dl, dx, lay_shaped hl.2, lay_shaped hl.1, q1, q2, q3, p.int⟩
    · cases e
  · cases e
theorem dct0_snd {pos : Pos} : Snd c xc W C X (.cst (.dict [])) (.Dict [] [] pos) := .of (PE.imp pe_dnewK fun σ H Q z => dct0_ok z) rfl
theorem mut_facts {m : Mu} (h : mutOk m = true) : ∃ id, Slot "list" (mName m) id ∧ typeOf (.builtin id) = pure (.type "method_descriptor") ∧ MtR X id (rM m) := by
  cases m <;> first | (cases h; done) | skip
  · exact ⟨_, F.slot_list_append, F.type_list_append, mt_append⟩
  · exact ⟨_, F.slot_list_extend, F.type_list_extend, mt_extendA⟩
  · exact ⟨_, F.slot_list_insert, F.type_list_insert, fun pins s σ H x xs v us Q I r rs h => mt_insert pins s σ H x xs v us Q I r rs h⟩
  · exact ⟨_, F.slot_list_pop, F.type_list_pop, mt_popAt⟩
theorem mut_snd (k : Xk T c xc C lv X N sc st W) {m : Mu} {i : Nat} {es : Es} {x : Str} {y : Expr} {l : List Expr} {p apos cpos : Pos} (hm : mutOk m = true) (hv : vis N sc i x = true) (h : SndL c xc W C X es (y :: l)) (hs : (y :: l).all noStar = true) (hl : l.length ≤ 20) (hp : (apos.endLine == cpos.line) = true) :
    Snd c xc W C X (.mut m i .nil es) (.Call (.Attribute (.Name x p) (mName m) apos) (y :: l) [] cpos) := by
  obtain ⟨id, s1, s2, s3⟩ := mut_facts (X := X) hm
  have hs' := hs
  simp only [List.all_cons, Bool.and_eq_true] at hs'
  refine .of (PE.imp (pe_bm F.plainAttrs_list s1 s2 s3 (k.var hv) (h.pl hs) (baseOf rfl) (few hs hl) hp (star1 hs'.1) (stars hs'.2)) fun σ H Q z => ?_) rfl
  rw [k.cc.hK]
  exact mut_ok z
theorem mutP_snd (k : Xk T c xc C lv X N sc st W) {m : Mu} {i : Nat} {z0 : E} {es : Es} {x : Str} {y e : Expr} {l : List Expr} {p p2 apos cpos : Pos} (hm : mutOk m = true) (hv : vis N sc i x = true) (h0 : Snd c xc W C X z0 e) (hsl : noSlice e = true) (h : SndL c xc W C X es (y :: l)) (hs : (y :: l).all noStar = true) (hl : l.length ≤ 20) (hp : (apos.endLine == cpos.line) = true) :
    Snd c xc W C X (.mut m i (.cons z0 .nil) es) (.Call (.Attribute (.Subscript (.Name x p) e p2) (mName m) apos) (y :: l) [] cpos) := by
  obtain ⟨id, s1, s2, s3⟩ := mut_facts (X := X) hm
  have hs' := hs
  simp only [List.all_cons, Bool.and_eq_true] at hs'
  refine .of (PE.imp (pe_bm F.plainAttrs_list s1 s2 s3 (pe_ix ix_list (k.var hv) h0.pe (plainIx hsl)) (h.pl hs) (baseOf rfl) (few hs hl) hp (star1 hs'.1) (stars hs'.2)) fun σ H Q z => ?_) rfl
  rw [k.cc.hK]
  exact mutP_ok z
/-! ### targets, blocks -/
mutual
theorem chkG_ok (hc : X.calm = true) (hN : X.N = N) (hs : X.env.scope = sc) (nd : N.Nodup) (hK : X.K = c.K) (fn : ∀ x, st x = true → X.fn x = true) : ∀ {g : G} {e : Expr}, chkG N sc st g e = true → PG X e (gR c.K g)
  | .name i, .Name x pos, h => by
    simp only [chkG, stored, Bool.and_eq_true] at h
    have h1 : X.N[i]? = some x := by rw [hN]; exact of_decide_eq_true h.1
    have h2 := h.2
    simp only [gR]
    split at h2
    · rename_i q
      exact pg_name (by rw [hN]; exact nd) h1 (.inl (by rw [hs]; exact q)) (.inr (by rw [hs]; exact q))
    · rename_i q
      exact pg_name (by rw [hN]; exact nd) h1 (.inr (by rw [hs]; exact q)) (.inl (fn x h2))
    · cases h2
  | .tup gs, .Tuple es k pos, h => by
    simp only [chkG, Bool.and_eq_true] at h
    obtain ⟨hl, hp⟩ := chkGs_ok hc hN hs nd hK fn h.1 h.2
    simp only [gR]
    rw [← hK] at hp ⊢
    exact pg_tup hc hp (by rw [asgLen]; exact hl) (asgStar h.2)
theorem chkGs_ok (hc : X.calm = true) (hN : X.N = N) (hs : X.env.scope = sc) (nd : N.Nodup) (hK : X.K = c.K) (fn : ∀ x, st x = true → X.fn x = true) : ∀ {gs : List G} {es : List Expr}, chkGs N sc st gs es = true → es.all noStar = true → es.length = gs.length ∧ PGs X es (gRs c.K gs)
  | [], [], _, _ => ⟨rfl, by simp only [gRs]; exact pgs_nil⟩
  | g :: gs, e :: es, h, ha => by
    simp only [chkGs, Bool.and_eq_true] at h
    simp only [List.all_cons, Bool.and_eq_true] at ha
    obtain ⟨hl, hp⟩ := chkGs_ok hc hN hs nd hK fn h.2 ha.2
    refine ⟨congrArg (· + 1) hl, ?_⟩
    simp only [gRs]
    exact pgs_cons (chkG_ok hc hN hs nd hK fn h.1) hp (asgCons ha.1)
end
/-- within a block -/
theorem Xk.blk (k : Xk T c xc C lv X N sc st W) {scope : Scope} (hk : scope.kind = .function) (s : Shared) (H : Hp) (A : Addr) (cl : List (Str × Addr)) (fp : List Addr) : Xk T c xc C lv (X.blk s H scope (compEnvC scope cl A X.env) fp) N (relS scope sc) (blkSt scope) WN where
  kn := k.kn
  cc := ⟨k.cc.hK, k.cc.calm, k.cc.un⟩
  room := k.room
  hN := k.hN
  hs := by
    have := k.hs
    subst this
    rfl
  nd := k.nd
  dbg := k.dbg
  tk := takes0
  fn := fun x h => h
  kind := hk
theorem own_snd (own : List Nat) : (ownN N own).map (·.2) = own := by
  unfold ownN
  rw [List.map_map]
  exact List.map_id' own
theorem tIfs_pts {X : Cx} {ifs : Es} {l : List Expr} (h : SndL c xc WN C X ifs l) (hs : shortE ifs = true) (ht : l.all tst = true) : PTs X l (tIfs c xc C ifs) := by
  cases h with
  | nil => exact pts_nil
  | cons h hr =>
    cases hr with
    | nil =>
      simp only [List.all_cons, List.all_nil, Bool.and_true] at ht
      exact pts_one (h.pt ht)
    | cons _ _ => cases hs
theorem src_pi (k : Xk T c xc C lv X N sc st W) {sk : Sk} {src : Es} {tg iter : Expr} {l : List Expr} (h : srcArgs sc sk tg iter = some l) (hl : SndL c xc W C X src l) : PI X tg iter (rI c xc W C sk src) := by
  have cal := k.cc.calm
  unfold srcArgs at h
  split at h
  · split at h
    · cases h
      cases hl with
      | cons h1 h2 =>
        cases h2
        have p1 := pi_list (tg := tg) h1.re
        have p2 := pi_tup (tg := tg) h1.re
        rw [k.cc.hK] at p1 p2
        exact PI.or p1 p2 fun σ H R z => i_val z
    · cases h
  · split at h
    · rename_i hc
      cases h
      simp only [Bool.and_eq_true] at hc
      obtain ⟨⟨hx, hg⟩, hs⟩ := hc
      obtain rfl := of_decide_eq_true hx
      exact PI.imp (pi_range1 (k.gl hg) (k.kn.blt _ (by decide)) (hl.pl (by simp [hs])) (star1 hs)) fun σ H R z => i_rng1 z
    · cases h
  · split at h
    · rename_i hc
      cases h
      simp only [Bool.and_eq_true] at hc
      obtain ⟨⟨⟨hx, hg⟩, hs⟩, hs2⟩ := hc
      obtain rfl := of_decide_eq_true hx
      exact PI.imp (pi_range2 (k.gl hg) (k.kn.blt _ (by decide)) (hl.pl (by simp [hs, hs2])) ((star1 hs).trans (by rw [star1 hs2]; rfl)) (star1 hs2)) fun σ H R z => i_rng2 z
    · cases h
  · split at h
    · rename_i hc
      cases h
      simp only [Bool.and_eq_true] at hc
      obtain ⟨⟨hx, hg⟩, hs⟩ := hc
      obtain rfl := of_decide_eq_true hx
      exact PI.imp (pi_enumA (k.gl hg) (k.kn.blt _ (by decide)) (hl.pl (by simp [hs])) (star1 hs)) fun σ H R z => by
        rw [k.cc.hK]
        exact i_enum z
    · cases h
  · split at h
    · rename_i hc
      cases h
      simp only [Bool.and_eq_true] at hc
      obtain ⟨⟨⟨hx, hg⟩, hs⟩, hs2⟩ := hc
      obtain rfl := of_decide_eq_true hx
      exact PI.imp (pi_zipn (.inl rfl) (k.gl hg) (k.kn.blt _ (by decide)) (hl.pl (by simp [hs, hs2])) (fun σ H Q z => rL_imp (rL_len z) fun vs H1 y => ⟨y.1.trans hl.len2, y.2⟩) (star1 hs) (stars (by simp [hs2]))) fun σ H R z => by
        rw [k.cc.hK]
        exact i_zip2 z
    · cases h
  · split at h
    · rename_i hc
      cases h
      simp only [Bool.and_eq_true] at hc
      obtain ⟨⟨⟨⟨hx, hg⟩, hs⟩, hs2⟩, hs3⟩ := hc
      obtain rfl := of_decide_eq_true hx
      exact PI.imp (pi_zipn (.inr (.inl rfl)) (k.gl hg) (k.kn.blt _ (by decide)) (hl.pl (by simp [hs, hs2, hs3])) (fun σ H Q z => rL_imp (rL_len z) fun vs H1 y => ⟨y.1.trans hl.len2, y.2⟩) (star1 hs) (stars (by simp [hs2, hs3]))) fun σ H R z => by
        rw [k.cc.hK]
        exact i_zip3 z
    · cases h
  · cases h
theorem srcArgs_noSet {sk : Sk} {tg iter : Expr} {l : List Expr} (h : srcArgs sc sk tg iter = some l) : noSet iter = true := by
  unfold srcArgs at h
  split at h
  · split at h
    · assumption
    · cases h
  all_goals first | rfl | cases h
theorem lc_snd (k : Xk T c xc C lv X N sc st W) {own : List Nat} {g : G} {sk : Sk} {src ifs : Es} {elt : E} {elt' tg iter : Expr} {ifs' l : List Expr} {scope : Scope} {pos : Pos} (hb : blkC N sc scope (ownN N own) = true) (hg : (names g).all (fun i => own.contains i) = true) (hi : shortE ifs = true)
    (hsrc : srcArgs sc sk tg iter = some l) (hl : SndL c xc W C X src l) (hG : chkG N (relS scope sc) (blkSt scope) g tg = true) (ht : ifs'.all tst = true)
    (h1 : ∀ X', Xk T c xc C lv X' N (relS scope sc) (blkSt scope) WN → SndL c xc WN C X' ifs ifs') (h2 : ∀ X', Xk T c xc C lv X' N (relS scope sc) (blkSt scope) WN → Snd c xc WN C X' elt elt') :
    Snd c xc W C X (.lc own g sk src ifs elt) (.ListComp elt' [⟨tg, iter, ifs', 0⟩] scope pos) := by
  have bo : BlkOk X.N X.env.scope scope (ownN N own) := by rw [k.hN, k.hs]; exact blkOk_by hb
  have hk := bo.kind
  refine .of (PE.imp (pe_lc (te := rE c xc WN C elt) k.cc.calm (by rw [k.hN]; exact k.nd) (src_pi k hsrc hl) bo (fun s H A cl fp => chkG_ok (c := c) (k.blk hk s H A cl fp).cc.calm k.hN (k.blk hk s H A cl fp).hs k.nd k.cc.hK (k.blk hk s H A cl fp).fn hG)
    (fun s H A cl fp => tIfs_pts (h1 _ (k.blk hk s H A cl fp)) hi ht) (fun s H A cl fp => (h2 _ (k.blk hk s H A cl fp)).re) (folded (srcArgs_noSet hsrc))) fun σ H Q z => ?_) rfl
  rw [own_snd]
  exact lc_ok (fun i hi => by
    have := List.all_eq_true.mp hg i hi
    simpa using this) hi z
theorem srcP_pi (k : Xk T c xc C lv X N sc st W) {sk : Sk} {i : Nat} {tg iter : Expr} (h : srcP N sc i sk tg iter = true) : (sk = .val ∨ sk = .enum) ∧ noSet iter = true ∧ PI X tg iter (rIP c i sk) := by
  unfold srcP at h
  split at h
  · have p1 := pi_list (tg := tg) (k.var h (pos := by assumption))
    have p2 := pi_tup (tg := tg) (k.var h (pos := by assumption))
    rw [k.cc.hK] at p1 p2
    exact ⟨.inl rfl, rfl, PI.or p1 p2 fun σ H R z => i_valP z⟩
  · simp only [Bool.and_eq_true] at h
    obtain ⟨⟨hx, hg⟩, hs⟩ := h
    obtain rfl := of_decide_eq_true hx
    exact ⟨.inr rfl, rfl, PI.imp (pi_enumA (k.gl hg) (k.kn.blt _ (by decide)) (pa_cons (k.var hs) pa_nil (star1 rfl)) (star1 rfl)) fun σ H R z => by
      rw [k.cc.hK]
      exact i_enumP z⟩
  · cases h
theorem lcP_snd (k : Xk T c xc C lv X N sc st W) {own : List Nat} {i : Nat} {g : G} {sk : Sk} {ifs : Es} {elt : E} {elt' tg iter : Expr} {ifs' : List Expr} {scope : Scope} {pos : Pos} (h0 : srcP N sc i sk tg iter = true) (hb : blkC N sc scope (ownN N own) = true) (hg : (names g).all (fun i => own.contains i) = true) (hi : shortE ifs = true)
    (hG : chkG N (relS scope sc) (blkSt scope) g tg = true) (ht : ifs'.all tst = true)
    (h1 : ∀ X', Xk T c xc C lv X' N (relS scope sc) (blkSt scope) WN → SndL c xc WN C X' ifs ifs') (h2 : ∀ X', Xk T c xc C lv X' N (relS scope sc) (blkSt scope) WN → Snd c xc WN C X' elt elt') :
    Snd c xc W C X (.lcP own i g sk ifs elt) (.ListComp elt' [⟨tg, iter, ifs', 0⟩] scope pos) := by
  have bo : BlkOk X.N X.env.scope scope (ownN N own) := by rw [k.hN, k.hs]; exact blkOk_by hb
  have hk := bo.kind
  obtain ⟨hsk, hns, hpi⟩ := srcP_pi k h0
  refine .of (PE.imp (pe_lc (te := rE c xc WN C elt) k.cc.calm (by rw [k.hN]; exact k.nd) hpi bo (fun s H A cl fp => chkG_ok (c := c) (k.blk hk s H A cl fp).cc.calm k.hN (k.blk hk s H A cl fp).hs k.nd k.cc.hK (k.blk hk s H A cl fp).fn hG)
    (fun s H A cl fp => tIfs_pts (h1 _ (k.blk hk s H A cl fp)) hi ht) (fun s H A cl fp => (h2 _ (k.blk hk s H A cl fp)).re) (folded hns)) fun σ H Q z => ?_) rfl
  rw [own_snd]
  exact lcP_ok hsk (fun i hi => by
    have := List.all_eq_true.mp hg i hi
    simpa using this) hi z
theorem lc2_snd (k : Xk T c xc C lv X N sc st W) {own own2 : List Nat} {g g2 : G} {sk sk2 : Sk} {src src2 ifs ifs2 : Es} {elt : E} {elt' tg iter tg2 iter2 : Expr} {ifs' ifs2' l l2 : List Expr} {scope : Scope} {pos : Pos} (hb : blkC N sc scope (ownN N own) = true) (hg : (names g).all (fun i => own.contains i) = true) (hi : shortE ifs = true)
    (hsrc : srcArgs sc sk tg iter = some l) (hl : SndL c xc W C X src l) (hG : chkG N (relS scope sc) (blkSt scope) g tg = true) (ht : ifs'.all tst = true)
    (hg2 : (names g2).all (fun i => own2.contains i) = true) (ho : own2.all (fun i => own.contains i) = true) (hi2 : shortE ifs2 = true) (hsrc2 : srcArgs (relS scope sc) sk2 tg2 iter2 = some l2) (hG2 : chkG N (relS scope sc) (blkSt scope) g2 tg2 = true) (ht2 : ifs2'.all tst = true)
    (h1 : ∀ X', Xk T c xc C lv X' N (relS scope sc) (blkSt scope) WN → SndL c xc WN C X' ifs ifs') (h2 : ∀ X', Xk T c xc C lv X' N (relS scope sc) (blkSt scope) WN → Snd c xc WN C X' elt elt')
    (h3 : ∀ X', Xk T c xc C lv X' N (relS scope sc) (blkSt scope) WN → SndL c xc WN C X' src2 l2) (h4 : ∀ X', Xk T c xc C lv X' N (relS scope sc) (blkSt scope) WN → SndL c xc WN C X' ifs2 ifs2') :
    Snd c xc W C X (.lc2 own own2 g sk src ifs g2 sk2 src2 ifs2 elt) (.ListComp elt' [⟨tg, iter, ifs', 0⟩, ⟨tg2, iter2, ifs2', 0⟩] scope pos) := by
  have bo : BlkOk X.N X.env.scope scope (ownN N own) := by rw [k.hN, k.hs]; exact blkOk_by hb
  have hk := bo.kind
  have sub : ∀ {a b : List Nat}, a.all (fun i => b.contains i) = true → ∀ i, i ∈ a → i ∈ b := fun h i hi => by
    have := List.all_eq_true.mp h i hi
    simpa using this
  refine .of (PE.imp (pe_lc2 (te := rE c xc WN C elt) (vs1 := own2) k.cc.calm (by rw [k.hN]; exact k.nd) (src_pi k hsrc hl) bo (by rw [own_snd]; exact sub ho) (fun s H A cl fp => chkG_ok (c := c) (k.blk hk s H A cl fp).cc.calm k.hN (k.blk hk s H A cl fp).hs k.nd k.cc.hK (k.blk hk s H A cl fp).fn hG)
    (fun s H A cl fp => tIfs_pts (h1 _ (k.blk hk s H A cl fp)) hi ht) (fun s H A cl fp => src_pi (k.blk hk s H A cl fp) hsrc2 (h3 _ (k.blk hk s H A cl fp))) (fun s H A cl fp => chkG_ok (c := c) (k.blk hk s H A cl fp).cc.calm k.hN (k.blk hk s H A cl fp).hs k.nd k.cc.hK (k.blk hk s H A cl fp).fn hG2)
    (fun s H A cl fp => tIfs_pts (h4 _ (k.blk hk s H A cl fp)) hi2 ht2) (fun s H A cl fp => (h2 _ (k.blk hk s H A cl fp)).re) (folded (srcArgs_noSet hsrc)) (fun env => folded (srcArgs_noSet hsrc2))) fun σ H Q z => ?_) rfl
  rw [own_snd]
  exact lc2_ok (sub hg) (sub hg2) (sub ho) hi hi2 z
theorem rE_imp {x : E} {σ : L2.St} {H : Hp} {Q Q' : VK} (h : rE c xc W C x σ H Q) (i : ∀ v H1, Q v H1 → Q' v H1) : rE c xc W C x σ H Q' := by
  obtain ⟨env, F, O, g, p⟩ := h
  refine ⟨env, F, O, g, ?_⟩
  cases e : evE C x env with
  | bad => rw [e] at p; exact p
  | exc env1 y => rw [e] at p; exact p
  | ok env1 k d =>
    rw [e] at p
    exact fun F1 O1 H1 v fp s1 g1 t fr => i _ _ (p F1 O1 H1 v fp s1 g1 t fr)
theorem rO_imp {x : E} {σ : L2.St} {H : Hp} {Q Q' : VK} (h : rO c xc W C x σ H Q) (i : ∀ v H1, Q v H1 → Q' v H1) : rO c xc W C x σ H Q' := by
  cases x with
  | peek j =>
    obtain ⟨v, e, q⟩ := h
    exact ⟨v, e, i _ _ q⟩
  | _ => exact rE_imp h i
/-- and, or, not as tests -/
theorem and_t {a b : E} {σ : L2.St} {H : Hp} {Q : Bool → Hp → Prop} (h : tTest (rE c xc W C (.and a b)) σ H Q) : tAnd (tTest (rO c xc W C a)) (tTest (rE c xc W C b)) σ H Q :=
  rO_imp (and_ok h) fun v H1 ⟨k, e, q⟩ => ⟨k, e, by
    cases k with
    | true => exact q
    | false =>
      obtain ⟨k', e', q'⟩ := q
      cases e'
      exact q'⟩
theorem or_t {a b : E} {σ : L2.St} {H : Hp} {Q : Bool → Hp → Prop} (h : tTest (rE c xc W C (.or a b)) σ H Q) : tOr (tTest (rO c xc W C a)) (tTest (rE c xc W C b)) σ H Q :=
  rO_imp (or_ok h) fun v H1 ⟨k, e, q⟩ => ⟨k, e, by
    cases k with
    | false => exact q
    | true =>
      obtain ⟨k', e', q'⟩ := q
      cases e'
      exact q'⟩
theorem not_t {a : E} {σ : L2.St} {H : Hp} {Q : Bool → Hp → Prop} (h : tTest (rE c xc W C (.not a)) σ H Q) : tNot (tTest (rO c xc W C a)) σ H Q :=
  rO_imp (not_ok h) fun v H1 ⟨k, e, k', e', q'⟩ => ⟨k, e, by cases e'; exact q'⟩
theorem chainB (k : Xk T c xc C lv X N sc st W) {o p : O2} {o' p' : CmpOp} {x y z : E} {a b d : Expr} {pos : Pos} (ho : cmpn o' = some o) (hp : cmpn p' = some p) (hd : noSet d = true) (h1 : Snd c xc W C X x a) (h2 : Snd c xc W C X y b) (h3 : Snd c xc W C X z d) : Snd c xc W C X (.chain o p x y z) (.Compare a [o', p'] [b, d] pos) :=
  ⟨PE.imp (pe_chain (cmpn_ok k.cc ho) (cmpn_ok k.cc hp) h1.pe h2.pe h3.pe (nomarkS hd)) fun σ H Q z => chain_ok z,
    fun _ => PT.imp (pt_chain (cmpn_ok k.cc ho) (cmpn_ok k.cc hp) h1.pe h2.pe h3.pe (nomarkS hd)) fun σ H Q z => chain_ok z, fun b => by cases b⟩
theorem esLen_nil {es : Es} (h : esLen es = 0) : es = .nil := by
  cases es with
  | nil => rfl
  | cons _ _ => cases h
mutual
theorem chk_ok : ∀ {x : E} {X : Cx} {sc : Scope} {st : Str → Bool} {W : WX} {e : Expr}, Xk T c xc C lv X N sc st W → chkE T N x sc st e = true → Snd c xc W C X x e
  | .var i, X, sc, st, W, e, k, h => by
    simp only [chkE] at h
    split at h
    · rename_i hv
      obtain ⟨p, rfl⟩ := asName_ok hv
      exact .of (PE.imp (k.var h) fun σ H Q z => var_ok z) rfl
    · cases h
  | .peek i, X, sc, st, W, e, k, h => by
    simp only [chkE] at h
    split at h
    · rename_i hv
      obtain ⟨p, rfl⟩ := asName_ok hv
      exact .of (k.var h) rfl
    · cases h
  | .mov i, X, sc, st, W, e, k, h => by
    simp only [chkE] at h
    split at h
    · rename_i hv
      obtain ⟨p, rfl⟩ := asName_ok hv
      exact .of (PE.imp (k.var h) fun σ H Q z => mov_ok z) rfl
    · cases h
  | .cst d, X, sc, st, W, e, k, h => by
    simp only [chkE] at h
    split at h
    · rename_i hv
      obtain ⟨j, p, rfl⟩ := asConst_ok hv
      exact cst_snd h
    · rw [Bool.and_eq_true] at h
      obtain ⟨p, rfl⟩ := asDict0_ok h.2
      have hd : d = .dict [] := by
        have := h.1
        unfold isDict0 at this
        split at this
        · rfl
        · cases this
      subst hd
      exact dct0_snd
  | .gcst x d, X, sc, st, W, e, k, h => by
    simp only [chkE] at h
    split at h
    · rename_i hv
      obtain ⟨p, rfl⟩ := asName_ok hv
      simp only [Bool.and_eq_true] at h
      obtain ⟨⟨hx, hg⟩, ha⟩ := h
      obtain rfl := of_decide_eq_true hx
      rw [List.any_eq_true] at ha
      obtain ⟨q, hq, hs⟩ := ha
      rw [Bool.and_eq_true] at hs
      obtain ⟨y, d'⟩ := q
      have e1 : y = x := of_decide_eq_true hs.1
      have e2 := sameA_eq hs.2
      subst e1
      simp only at e2
      subst e2
      obtain ⟨u, v, hm, r, db, rp⟩ := k.kn.cst_ _ _ hq
      exact .of (PE.imp (pe_glob (k.gl hg) hm r db) fun σ H Q z => gcst_ok z rp) rfl
    · cases h
  | .fn x f, X, sc, st, W, e, k, h => by
    simp only [chkE] at h
    split at h
    · rename_i hv
      obtain ⟨p, rfl⟩ := asName_ok hv
      simp only [Bool.and_eq_true] at h
      obtain ⟨⟨hx, hg⟩, ha⟩ := h
      obtain rfl := of_decide_eq_true hx
      have hd := of_decide_eq_true ha
      obtain ⟨a, fd, ps, hm, hf, _⟩ := k.kn.def_ f x hd
      have db : (x == ("__debug__" : Str)) = false := by
        obtain ⟨hi, e⟩ := List.getElem?_eq_some_iff.mp hd
        exact k.kn.dbg x (e ▸ List.getElem_mem hi)
      exact .of (PE.imp (pe_glob (v := .ref a) (k.gl hg) hm rfl db) fun σ H Q z => fn_ok z hf) rfl
    · cases h
  | .tup es, X, sc, st, W, e, k, h => by
    simp only [chkE] at h
    split at h
    · rename_i hv
      obtain ⟨j, p, rfl⟩ := asTup_ok hv
      simp only [Bool.and_eq_true] at h
      exact tup_snd (chkL_ok k h.1.1) h.1.2 (of_decide_eq_true h.2)
    · cases h
  | .lst es, X, sc, st, W, e, k, h => by
    simp only [chkE] at h
    split at h
    · rename_i hv
      obtain ⟨p, rfl⟩ := asLst_ok hv
      simp only [Bool.and_eq_true] at h
      exact lst_snd (chkL_ok k h.1.1) h.1.2 (of_decide_eq_true h.2)
    · cases h
  | .op1 o a, X, sc, st, W, e, k, h => by
    simp only [chkE] at h
    split at h
    · rename_i a' x hv
      obtain ⟨p, rfl⟩ := asFld_ok hv
      simp only [Bool.and_eq_true] at h
      obtain ⟨⟨⟨h1, h2⟩, h3⟩, h4⟩ := h
      obtain rfl := of_decide_eq_true h1
      exact .of (PE.imp (s_fld (T := T.flds) (pos := p) k.cc.hK k.kn.fld_ (by simpa using h2) h3 (chk_ok k h4).pe) fun σ H Q z => op1_ok z) rfl
    · split at h
      · rename_i a' ha
        have q := sh1_ok k ha _ (chk_ok k h).pe
        exact ⟨PE.imp q.1 fun σ H Q z => op1_ok z, fun t => PT.imp (q.2 t) fun σ H Q z => op1_ok z, fun b => by
          cases e <;> first | (cases b; done) | (simp [sh1] at ha; done)⟩
      · cases h
  | .op2 o a b, X, sc, st, W, e, k, h => by
    simp only [chkE] at h
    split at h
    · rename_i a' b' hv
      obtain ⟨p, q, rfl, hp⟩ := asIdx_ok hv
      simp only [Bool.and_eq_true] at h
      obtain ⟨⟨⟨⟨h1, h2⟩, h3⟩, h4⟩, h5⟩ := h
      obtain rfl := of_decide_eq_true h1
      exact idx_snd k (chk_ok k h4) (chk_ok k h5) h2 h3 hp
    · split at h
      · rename_i a' b' ha
        rw [Bool.and_eq_true] at h
        have q := sh2_ok k ha _ _ (chk_ok k h.1).pe (chk_ok k h.2).pe
        exact ⟨PE.imp q.1 fun σ H Q z => op2_ok z, fun t => PT.imp (q.2 t) fun σ H Q z => op2_ok z, fun b => by
          cases e <;> first | (cases b; done) | (simp [sh2] at ha; done)⟩
      · cases h
  | .op3 .slice a b d, X, sc, st, W, e, k, h => by
    simp only [chkE] at h
    split at h
    · rename_i a' lo hi hv
      obtain ⟨p, q, rfl⟩ := asSlice_ok hv
      simp only [Bool.and_eq_true] at h
      obtain ⟨⟨h1, h2⟩, h3⟩ := h
      have pl : PO X lo (tPt (c := c) (xc := xc) (W := W) (C := C) b) := by
        cases lo with
        | none => exact ⟨fun pins s σ H Q I z => po_none.run pins s σ H Q I (tPt_none h2 z)⟩
        | some b' =>
          simp only [Bool.and_eq_true, Bool.not_eq_true'] at h2
          exact ⟨fun pins s σ H Q I z => (po_some (chk_ok k h2.2).pe).run pins s σ H Q I (tPt_some h2.1 z)⟩
      have ph : PO X hi (tPt (c := c) (xc := xc) (W := W) (C := C) d) := by
        cases hi with
        | none => exact ⟨fun pins s σ H Q I z => po_none.run pins s σ H Q I (tPt_none h3 z)⟩
        | some b' =>
          simp only [Bool.and_eq_true, Bool.not_eq_true'] at h3
          exact ⟨fun pins s σ H Q I z => (po_some (chk_ok k h3.2).pe).run pins s σ H Q I (tPt_some h3.1 z)⟩
      exact .of (PE.imp (pe_slice (s_slice k.cc) (chk_ok k h1).pe pl ph) fun σ H Q z => op3_ok z) rfl
    · cases h
  | .op3 .min3 a b d, X, sc, st, W, e, k, h => by
    simp only [chkE] at h
    cases h
  | .and a b, X, sc, st, W, e, k, h => by
    simp only [chkE] at h
    split at h
    · rename_i hv
      obtain ⟨b1, r, p, rfl, rfl⟩ := asAnd_ok hv
      simp only [Bool.and_eq_true] at h
      have qa := chk_ok k h.1.2
      have qb := chk_ok k h.2
      have w : PW X _ (tTest (rE c xc W C (.and a b))) := ⟨fun wh pins s σ H Q I z => (pw_and (qa.pt h.1.1) (qb.pw rfl)).run wh pins s σ H Q I (and_t z)⟩
      exact ⟨PE.imp (pe_and qa.pe qb.re) fun σ H Q z => and_ok z, fun _ => w.pt, fun _ => w⟩
    · cases h
  | .or a b, X, sc, st, W, e, k, h => by
    simp only [chkE] at h
    split at h
    · rename_i hv
      obtain ⟨b1, r, p, rfl, rfl⟩ := asOr_ok hv
      simp only [Bool.and_eq_true] at h
      have qa := chk_ok k h.1.2
      have qb := chk_ok k h.2
      have w : PW X _ (tTest (rE c xc W C (.or a b))) := ⟨fun wh pins s σ H Q I z => (pw_or (qa.pt h.1.1) (qb.pw rfl)).run wh pins s σ H Q I (or_t z)⟩
      exact ⟨PE.imp (pe_or qa.pe qb.re) fun σ H Q z => or_ok z, fun _ => w.pt, fun _ => w⟩
    · cases h
  | .one a, X, sc, st, W, e, k, h => by
    simp only [chkE] at h
    split at h
    · rename_i hv
      obtain ⟨o, p, rfl⟩ := asOne_ok hv
      simp only [Bool.and_eq_true] at h
      have qa := chk_ok k h.2
      rename_i a1
      have w : PW X (.BoolOp o [a1] p) (tTest (rE c xc W C (.one a))) := by
        cases o with
        | And => exact ⟨fun wh pins s σ H Q I z => (pw_and1 (qa.pt h.1)).run wh pins s σ H Q I (one_ok z)⟩
        | Or => exact ⟨fun wh pins s σ H Q I z => (pw_or1 (qa.pt h.1)).run wh pins s σ H Q I (one_ok z)⟩
      exact ⟨PE.imp (pe_one qa.pe) fun σ H Q z => one_ok z, fun _ => w.pt, fun _ => w⟩
    · cases h
  | .not a, X, sc, st, W, e, k, h => by
    simp only [chkE] at h
    split at h
    · rename_i hv
      obtain ⟨p, rfl⟩ := asNot_ok hv
      simp only [Bool.and_eq_true] at h
      have qa := chk_ok k h.2
      exact ⟨PE.imp (pe_not qa.pe) fun σ H Q z => not_ok z, fun _ => PT.imp (pt_not (qa.pt h.1)) fun σ H Q z => not_t z, fun b => by cases b⟩
    · cases h
  | .ite t a b, X, sc, st, W, e, k, h => by
    simp only [chkE] at h
    split at h
    · rename_i hv
      obtain ⟨p, rfl⟩ := asIf_ok hv
      simp only [Bool.and_eq_true] at h
      have qt := chk_ok k h.1.1.2
      exact ⟨PE.imp (pe_ifExp (qt.pt h.1.1.1) (chk_ok k h.1.2).re (chk_ok k h.2).re) fun σ H Q z => ite_ok z, (fun b => by cases b), fun b => by cases b⟩
    · cases h
  | .chain o p a b d, X, sc, st, W, e, k, h => by
    simp only [chkE] at h
    split at h
    · rename_i hv
      obtain ⟨q, rfl⟩ := asCmp_ok hv
      simp only [Bool.and_eq_true] at h
      obtain ⟨⟨⟨⟨⟨h1, h2⟩, h3⟩, h4⟩, h5⟩, h6⟩ := h
      exact chainB k (of_decide_eq_true h1) (of_decide_eq_true h2) h3 (chk_ok k h4) (chk_ok k h5) (chk_ok k h6)
    · cases h
  | .orT a b, X, sc, st, W, e, k, h => by
    simp only [chkE] at h
    cases h
  | .call f es io, X, sc, st, W, e, k, h => by
    simp only [chkE] at h
    split at h
    · rename_i hv
      obtain ⟨p, q, rfl⟩ := asCall_ok hv
      simp only [Bool.and_eq_true] at h
      obtain ⟨⟨⟨⟨h1, h2⟩, h3⟩, h4⟩, h5⟩ := h
      exact call_snd k (of_decide_eq_true h1) h2 (chkL_ok k h3) h4 h5
    · cases h
  | .callV y es, X, sc, st, W, e, k, h => by
    simp only [chkE] at h
    split at h
    · rename_i hv
      obtain ⟨a, b, p, q, rfl, rfl⟩ := asCallS_ok hv
      simp only [Bool.and_eq_true] at h
      exact callV_snd k (chk_ok k h.1.1) (chkL_ok k h.1.2) h.2
    · cases h
  | .mut m i .nil es, X, sc, st, W, e, k, h => by
    simp only [chkE] at h
    split at h
    · rename_i hv
      split at h
      · rename_i hn
        obtain ⟨p1, rfl⟩ := asName_ok hn
        obtain ⟨p, q, rfl, hp⟩ := asMeth_ok hv
        simp only [Bool.and_eq_true] at h
        obtain ⟨⟨⟨⟨⟨h1, h2⟩, h3⟩, h4⟩, h5⟩, h6⟩ := h
        obtain rfl := of_decide_eq_true h1
        exact mut_snd k h2 h3 (chkL_ok k h4) h5 (of_decide_eq_true h6) hp
      · cases h
    · cases h
  | .mut m i (.cons pe pr) es, X, sc, st, W, e, k, h => by
    simp only [chkE] at h
    split at h
    · rename_i hv
      split at h
      · rename_i hn
        split at h
        · rename_i hm
          obtain ⟨p1, rfl⟩ := asName_ok hm
          obtain ⟨p2, rfl⟩ := asSub_ok hn
          obtain ⟨p, q, rfl, hp⟩ := asMeth_ok hv
          simp only [Bool.and_eq_true] at h
          obtain ⟨⟨⟨⟨⟨⟨⟨⟨h1, h2⟩, h3⟩, h4⟩, h5⟩, h6⟩, h7⟩, h8⟩, h9⟩ := h
          obtain rfl := of_decide_eq_true h1
          obtain rfl := esLen_nil (of_decide_eq_true h9)
          exact mutP_snd k h2 h3 (chk_ok k h4) h5 (chkL_ok k h6) h7 (of_decide_eq_true h8) hp
        · cases h
      · cases h
    · cases h
  | .lc own g sk src ifs elt, X, sc, st, W, e, k, h => by
    simp only [chkE] at h
    split at h
    · rename_i hv
      split at h
      · rename_i hs
        obtain ⟨p, rfl⟩ := asLc_ok hv
        simp only [Bool.and_eq_true] at h
        obtain ⟨⟨⟨⟨⟨⟨⟨h1, h2⟩, h3⟩, h4⟩, h5⟩, h6⟩, h7⟩, h8⟩ := h
        exact lc_snd k h1 h2 h3 hs (chkL_ok k h4) h5 h6 (fun X' k' => chkL_ok k' h7) (fun X' k' => chk_ok k' h8)
      · cases h
    · cases h
  | .new i f es, X, sc, st, W, e, k, h => by
    simp only [chkE] at h
    split at h
    · rename_i hv
      obtain ⟨p, q, rfl⟩ := asCall_ok hv
      simp only [Bool.and_eq_true] at h
      obtain ⟨⟨⟨⟨h1, h2⟩, h3⟩, h4⟩, h5⟩ := h
      exact new_snd k (of_decide_eq_true h1) (of_decide_eq_true h2) h3 (chkL_ok k h4) h5
    · cases h
  | .dct1 es, X, sc, st, W, e, k, h => by
    simp only [chkE] at h
    split at h
    · rename_i hv
      obtain ⟨p, rfl⟩ := asDict1_ok hv
      simp only [Bool.and_eq_true] at h
      exact dct1_snd k (chkL_ok k h.2)
    · cases h
  | .meth f i m o es, X, sc, st, W, e, k, h => by
    simp only [chkE] at h
    split at h
    · rename_i hv
      split at h
      · rename_i j ho
        obtain ⟨p, apos, pos, rfl, hp⟩ := asMethN_ok hv
        simp only [Bool.and_eq_true] at h
        obtain ⟨⟨⟨⟨⟨⟨h1, h2⟩, h3⟩, h4⟩, h5⟩, h6⟩, h7⟩ := h
        obtain rfl := of_decide_eq_true h1
        exact meth_snd k (by simpa using h2) (of_decide_eq_true h3) (slot_snd k ho h4) (chkL_ok k h5) h6 (of_decide_eq_true h7) hp
      · cases h
    · cases h
  | .lcP own i g sk ifs elt, X, sc, st, W, e, k, h => by
    simp only [chkE] at h
    split at h
    · rename_i hv
      obtain ⟨p, rfl⟩ := asLc_ok hv
      simp only [Bool.and_eq_true] at h
      obtain ⟨⟨⟨⟨⟨⟨⟨h0, h1⟩, h2⟩, h3⟩, h5⟩, h6⟩, h7⟩, h8⟩ := h
      exact lcP_snd k h0 h1 h2 h3 h5 h6 (fun X' k' => chkL_ok k' h7) (fun X' k' => chk_ok k' h8)
    · cases h
  | .lc2 own own2 g sk src ifs g2 sk2 src2 ifs2 elt, X, sc, st, W, e, k, h => by
    simp only [chkE] at h
    split at h
    · rename_i hv
      split at h
      · rename_i hs hs2
        obtain ⟨p, rfl⟩ := asLc2_ok hv
        simp only [Bool.and_eq_true] at h
        obtain ⟨⟨⟨⟨⟨⟨⟨⟨⟨⟨⟨⟨⟨⟨h1, h2⟩, h3⟩, h4⟩, h5⟩, h6⟩, h7⟩, h8⟩, h9⟩, h10⟩, h11⟩, h12⟩, h13⟩, h14⟩, h15⟩ := h
        exact lc2_snd k h1 h2 h3 hs (chkL_ok k h4) h5 h6 h7 h8 h9 hs2 h10 h11 (fun X' k' => chkL_ok k' h12) (fun X' k' => chk_ok k' h13) (fun X' k' => chkL_ok k' h14) (fun X' k' => chkL_ok k' h15)
      · cases h
    · cases h
theorem chkL_ok : ∀ {es : Es} {X : Cx} {sc : Scope} {st : Str → Bool} {W : WX} {l : List Expr}, Xk T c xc C lv X N sc st W → chkL T N es sc st l = true → SndL c xc W C X es l
  | .nil, X, sc, st, W, [], k, h => .nil
  | .nil, X, sc, st, W, _ :: _, k, h => by simp [chkL] at h
  | .cons e r, X, sc, st, W, [], k, h => by simp [chkL] at h
  | .cons e r, X, sc, st, W, x :: l, k, h => by
    simp only [chkL, Bool.and_eq_true] at h
    exact .cons (chk_ok k h.1) (chkL_ok k h.2)
end
def asOr2 : Expr → Option (Expr × Expr)
  | .BoolOp .Or [a, b] _ => some (a, b)
  | _ => none
theorem asOr2_ok {e a b : Expr} (h : asOr2 e = some (a, b)) : ∃ p, e = .BoolOp .Or [a, b] p := by
  unfold asOr2 at h
  split at h
  · cases h; exact ⟨_, rfl⟩
  · cases h
/-- .. or xs or ys as a value -/
def chk1 (T : Tab) (N : List Str) (sc : Scope) (st : Str → Bool) (x : E) (e : Expr) : Bool := match x with
  | .orT a b => (match asOr2 e with
    | some (a', b') => chkE T N a sc st a' && chkE T N b sc st b'
    | none => false)
  | x => chkE T N x sc st e
theorem chk1_ok {x : E} {e : Expr} (k : Xk T c xc C lv X N sc st W) (h : chk1 T N sc st x e = true) : PE X e (rE c xc W C x) := by
  unfold chk1 at h
  split at h
  · split at h
    · rename_i hv
      obtain ⟨p, rfl⟩ := asOr2_ok hv
      simp only [Bool.and_eq_true] at h
      have q := pe_orT (pos := p) (chk_ok k h.1).re (pe_one (op := .Or) (pos := p) (chk_ok k h.2).re)
      rw [k.cc.hK] at q
      exact PE.imp q fun σ H Q z => orT_ok z
    · cases h
  · exact (chk_ok k h).re
end
end Pv
end
section
set_option maxRecDepth 100000
set_option maxHeartbeats 4000000
/-! PvTry: a try with any number of clauses, each with a class and a name. -/
namespace Pv
open PySem PySem.Spec PyProof.Rows L2
/-- what a clause's suite does, told the exception -/
abbrev SuiteT := Addr → Value → Option Addr → TS
/-- a clause: the name's slot, the class, the suite -/
abbrev Clause := Nat × Value × SuiteT
/-- what all the clauses wish of the body's exceptions -/
def wCs (K : PySem.W.Frag) (Wo : WX) (D : Ends) (l : List Clause) : WX := l.foldr (fun q w => wAs K q.2.1 q.1 q.2.2 w D) Wo
inductive HdsAs (X : Cx) : List ExceptHandler → List Clause → Prop
  | nil : HdsAs X [] []
  | cons {cn nm : Str} {cv : Value} {i : Nat} {su : SuiteT} {f : Stmt} {fs : List Stmt} {p1 p2 : Pos} {hr : List ExceptHandler} {lr : List Clause}
      (slot : X.N[i]? = some nm) (loc : X.env.kindOf nm = some .local) (nam : Names X cn cv)
      (run : ∀ a oe cls d pn, Zc cls d oe → (∃ vs, oe.data = .fields vs) → PSs (X.suite a ((a, oe) :: pn)) (f :: fs) (su a cls d))
      (rest : HdsAs X hr lr) : HdsAs X (.ExceptHandler (some (.Name cn p1)) (some nm) (f :: fs) p2 :: hr) ((i, cv, su) :: lr)
section
variable {X : Cx} {pins : List (Addr × Obj)} {σ : L2.St} {H : Hp} {s : Shared} {D : Ends} {Wo : WX}
/-- the end of a suite: the name goes, and the suite's end is the statement's -/
theorem suite_end {a : Addr} {q : Addr × Obj} {i : Nat} {nm : Str} {p2 : Pos} {fl : Flow} {s6 : Shared} (ok : X.Ok) (nd : X.N.Nodup) (slot : X.N[i]? = some nm) (loc : X.env.kindOf nm = some .local)
    (z : SP (X.suite a (q :: (X.pn ++ pins))) [] { nx := fun τ G => D.nx (τ.set i none) G, rt := D.rt, bk := fun τ G => D.bk (τ.set i none) G, ct := fun τ G => D.ct (τ.set i none) G } fl s6) :
    wpAny (model X.prog X.w) X.A (do bindName X.env nm .none; unbindBehindTheSuite X.env nm p2) (fun _ s7 => SP X pins D fl s7) X.xe s6 := by
  cases fl <;> (first
    | (obtain ⟨τ, G, J, w⟩ := z; exact gone_ok (J.unsuite ok) nd slot loc fun _ J7 => ⟨τ.set i none, G, J7, w⟩)
    | (obtain ⟨v, τ, G, J, rv, w⟩ := z; exact gone_ok (J.unsuite ok) nd slot loc fun _ J7 => ⟨v, τ.set i none, G, J7, rv, w⟩))
section
variable {B : Heap} {sI s3 : Shared} {a : Addr} {cls : Value} {d : Option Addr}
/-- an object with fields is none of the frames -/
theorem no_frame {fl : List PySem.Env} {h : Heap} {o : Obj} {vs : Array Value} (ff : h.FunFrames B fl) (e : h.get? a = some o) (dd : o.data = .fields vs) : a ∉ frs fl := by
  intro m
  obtain ⟨_, o2, e2, no⟩ := ff.mem m
  obtain rfl : o = o2 := Option.some.inj (e.symm.trans e2)
  exact no _ dd
/-- .. so it may be pinned while a suite runs -/
theorem pinned (st : X.stack = X.env :: X.outer) (hf : X.env.frame = some X.env.locals) (na : H a = none) (fly : HandSPX.FlyingZ B (X.env :: X.outer) a (Zc cls d) s3.heap) (J : Inv X pins σ H s3) :
    ∃ oe, s3.heap.get? a = some oe ∧ Zc cls d oe ∧ (∃ vs, oe.data = .fields vs) ∧ Inv (X.suite a ((a, oe) :: (X.pn ++ pins))) [] σ H s3 := by
  obtain ⟨oe, vs, g, z, dd⟩ := fly.there
  have out := no_frame fly.2.2.1 g dd
  refine ⟨oe, g, z, ⟨vs, dd⟩, J.suite g dd na (fun y => out ?_) fun m => ?_⟩
  · exact List.mem_filterMap.mpr ⟨X.env, List.mem_cons_self, hf.trans (congrArg some y.symm)⟩
  · obtain ⟨e, me, fe⟩ := List.mem_filterMap.mp m
    exact out (List.mem_filterMap.mpr ⟨e, List.mem_cons_of_mem _ me, fe⟩)
theorem walkCs (st : X.stack = X.env :: X.outer) (hf : X.env.frame = some X.env.locals) (nd : X.N.Nodup) (tk : Takes X Wo) (J : Inv X pins σ H sI)
    (nb : ∀ b o, sI.heap.get? b = some o → b ∉ frs X.stack → B.get? b = some o) (na : H a = none) :
    ∀ {hr : List ExceptHandler} {lr : List Clause}, HdsAs X hr lr → wCs X.K Wo D lr cls d σ H → ∀ {s3 : Shared}, HandSPX.FlyingZ B (X.env :: X.outer) a (Zc cls d) s3.heap → sI.heap.UpToSlots s3.heap → s3.os = sI.os → AllBare s3.gens →
      wpAny (model X.prog X.w) X.A (handleBy (.ref a) X.env hr) (SP X pins D) X.xe s3 := by
  intro hr lr hk
  induction hk with
  | nil =>
    intro w s3 fly up os ag
    refine wpAny_handleBy_nil ?_
    obtain ⟨_, _, _, oe, vs, T, _, _, g, _, dd, f1, _⟩ := id fly
    have thrown : wpAny (model X.prog X.w) X.A (setFlight (.ref a) X.env.frame) (fun _ s4 => wpAny (model X.prog X.w) X.A (throw (.ref a) : Sem Flow) (SP X pins D) X.xe s4) X.xe s3 := by
      rw [hf]
      exact HandSPX.setFlight_upZ fly fun h4 held up4 => wpAny_throw (tk _ _ ⟨a, B, sI, pins, σ, H, cls, d, rfl, J, nb, up.trans up4, .inr (.inr (st ▸ held)), na, os, ag, w⟩)
    unfold PySem.passOn
    refine wpAny_bind (wpAny_field g dd f1 ?_)
    rw [if_neg (show ¬ (Value.ref T == Value.none) = true by simp)]
    first
      | exact wpAny_bind thrown
      | exact wpAny_bind (wpAny_pure (wpAny_bind thrown))
  | @cons cn nm cv i su f fs p1 p2 hr2 lr2 slot loc nam run rest ih =>
    intro w s3 fly up os ag
    obtain ⟨b, eb, yes, no⟩ := w
    have J3 : Inv X pins σ H s3 := J.landed nb fly.1 up os ag
    obtain ⟨oe, g, z, _, S3⟩ := pinned st hf na fly J3
    have ty : PySem.W.Looks (model X.prog X.w) s3.heap (typeOf (.ref a)) cls := fun A' Q' E' t k q => wpAny_typeOf_ref (k _ _ g) (z.1.symm ▸ q)
    have mt := PySem.W.exm_one (M := model X.prog X.w) J3.kIn ty eb
    refine wpAny_handleBy_cons (codeAny_handlers_test ?_) (fun q => by cases q)
    have asked : ∀ {Q' : Value → Shared → Prop} {E' : Value → Shared → Prop}, Q' cv s3 → wpAny (model X.prog X.w) (X.A.mark (some (.ref a))) (eval (.Name cn p1) X.env) Q' E' s3 := by
      intro Q' E' q
      obtain ⟨gl, db, own | ⟨non, bt, nn⟩⟩ := nam
      · exact ld_glob (X := X.suite a ((a, oe) :: (X.pn ++ pins))) S3 gl own q db
      · exact ld_blt (X := X.suite a ((a, oe) :: (X.pn ++ pins))) S3 gl non bt q nn db
    refine asked (mt.here ?_)
    cases b with
    | false => exact ih (no rfl) fly up os ag
    | true =>
      refine codeAny_handlers_suite_as (HandSPX.lands_againZ fly fun h4 fly4 up4 => ?_)
      obtain ⟨oe4, g4, z4, f4, S4⟩ := pinned (s3 := { s3 with heap := h4 }) st hf na fly4 (J.landed nb fly4.1 (up.trans up4) os ag)
      refine store_ok (X := X.suite a ((a, oe4) :: (X.pn ++ pins))) (v := .ref a) S4 nd slot (.inl loc) rfl (fun s5 S5 => ?_) (.inr loc)
      exact wpAny_mono ((run a oe4 cls d (X.pn ++ pins) z4 f4).run [] s5 _ H _ S5 (yes rfl a na)) (fun fl s6 sp => suite_end J.ok nd slot loc sp) fun _ _ x => x.elim
end
/-- try: body / except C1 as n1: .. / except C2 as n2: .. -/
theorem ps_tryAs {body : List Stmt} {h0 : ExceptHandler} {hr : List ExceptHandler} {lr : List Clause} {pos : Pos} {tb : WX → TS} (st : X.stack = X.env :: X.outer) (hf : X.env.frame = some X.env.locals) (nd : X.N.Nodup) (tk : Takes X Wo)
    (hb : ∀ (W : WX) pn xe, Takes (X.tr pn xe) W → PassesOwn (model X.prog X.w) X.A X.env xe → PSs (X.tr pn xe) body (tb W)) (hh : HdsAs X (h0 :: hr) lr) :
    PS X (.Try body (h0 :: hr) [] [] pos) (fun D τ G => tb (wCs X.K Wo D lr) D τ G) := by
  refine ⟨fun pins s τ G D I h => ?_⟩
  have ok := I.ok
  have frm : X.A.frames = some (X.env :: X.outer) := ok.frames.trans (congrArg some st)
  let after : Value → Shared → Prop := fun e s1 => wpAny (model X.prog X.w) X.A (noteFrame e X.env) (fun _ s2 => wpAny (model X.prog X.w) X.A (setFlight e none) (fun _ s3 =>
    wpAny (model X.prog X.w) X.A (handleBy e X.env (h0 :: hr)) (SP X pins D) X.xe s3) X.xe s2) X.xe s1
  have catch_ : Takes (X.tr (X.pn ++ pins) after) (wCs X.K Wo D lr) := by
    intro u s1 x
    obtain ⟨a, B, sI, pins', σ', H', cls, d, rfl, J, nb, up, sky, na, os, ag, w⟩ := x
    show wpAny (model X.prog X.w) X.A (noteFrame (.ref a) X.env) _ _ _
    refine Sky.land Zc.steady frm hf (st ▸ sky) fun h3 fly up3 => ?_
    exact walkCs (s3 := { s1 with heap := h3 }) st hf nd tk (J.ofTry ok) nb na hh w fly (up.trans up3) os ag
  refine wpAny_Try_except (wpAny_mono ((hb _ (X.pn ++ pins) after catch_ PassesOwn.looking).run [] s τ G D (I.toTry _) h) (fun f s1 sp => ?_) fun _ _ z => z)
  cases f with
  | next =>
    obtain ⟨τ', G', J, q⟩ := sp
    exact wpAny_execs_nil ⟨τ', G', J.ofTry ok, q⟩
  | ret u =>
    obtain ⟨v, τ', G', J, rv, q⟩ := sp
    exact ⟨v, τ', G', J.ofTry ok, rv, q⟩
  | brk =>
    obtain ⟨τ', G', J, q⟩ := sp
    exact ⟨τ', G', J.ofTry ok, q⟩
  | cont =>
    obtain ⟨τ', G', J, q⟩ := sp
    exact ⟨τ', G', J.ofTry ok, q⟩
end
end Pv
end
section
set_option maxRecDepth 100000
set_option maxHeartbeats 4000000
/-! PvHand: except clauses, as the evaluator has them. -/
namespace Pv
open PySem PySem.Spec PyProof.Rows L2
/-! ### isinstance(e, T), T a base of e's class -/
section
variable {K : PySem.W.Frag} {x t : Value} {G : Heap → Prop}
theorem ans_base {b : Value} (ty : ∀ (M : Model) (h : Heap), K.In h → G h → PySem.W.Looks M h (typeOf x) t) (e : PySem.W.kitOne K t b = some true) : Answers (fun s => K.In s.heap ∧ G s.heap) x b true := by
  intro dep tk prog w A R s hs
  obtain ⟨h0, g, d, tt, os⟩ := s
  obtain ⟨⟨kin, gh⟩, q⟩ := hs
  have look := ty (model prog w) h0 kin gh
  unfold Builtin.«isinstance.nested»
  refine wpAny_bind (look.at ?_)
  unfold PySem.W.kitOne at e
  by_cases same : (t == b) = true
  · rw [if_pos same]
    first
      | exact wpAny_pure (q tt)
      | exact wpAny_bind (wpAny_rule (q tt))
      | exact wpAny_bind (wpAny_rule (wpAny_pure (q tt)))
  · rw [if_neg same]
    rw [if_neg same] at e
    obtain ⟨l1, l2, l3⟩ := PySem.W.kit_cls (M := model prog w) kin e
    refine wpAny_bind (l1.at ?_)
    rw [if_pos (by decide)]
    k_delta "plainIsInstance"
    refine wpAny_bind (wpAny_bind (l2.at ?_))
    simp only [Bool.not_true, Bool.false_eq_true, if_false]
    refine wpAny_bind ((look.andThen l3).at ?_)
    first
      | exact wpAny_pure (wpAny_pure (q tt))
      | (simp only [if_true]; exact wpAny_bind (wpAny_pure (wpAny_pure (q tt))))
      | (simp only [if_true]; exact wpAny_pure (q tt))
end
/-! ### what a suite reads -/
/-- the class at A gives its instances' field f -/
structure Gets (K : PySem.W.Frag) (A : Addr) (f : Str) : Prop where
  ga : PySem.W.findIn K (.ref A) "__getattribute__" = some (some (.builtin "BaseException.__getattribute__"))
  gg : PySem.W.findIn K (.ref A) "__getattr__" = some none
  ex : PySem.W.subIn K (.ref A) (.type "BaseException") = some true
  hd : PySem.W.hasDictIn K A = true
  no : PySem.W.findIn K (.ref A) f = some none
/-- .. of the clause that holds the error at a in slot i -/
def rHi (K : PySem.W.Frag) (i : Nat) (a : Addr) (cls : Value) (d : Option Addr) : Hi → TE
  | .cst (.str x) => tC (.str x)
  | .cst _ => fun _ _ _ => False
  | .field f => fun σ H Q => σ[i]? = some (some (.ref a)) ∧ ∃ A dd v, cls = .ref A ∧ d = some dd ∧ H dd = some (.xd [(f, v)]) ∧ Gets K A f ∧ Q v H
  | .isa t => fun σ H Q => σ[i]? = some (some (.ref a)) ∧ ∃ A, cls = .ref A ∧ PySem.W.kitOne K (.ref A) (.type t) = some true ∧ Q (.bl true) H
def rHis (K : PySem.W.Frag) (i : Nat) (a : Addr) (cls : Value) (d : Option Addr) : List Hi → TA
  | [] => tNil
  | h :: r => tCons (rHi K i a cls d h) (rHis K i a cls d r)
/-- the base's name in the text -/
def baseOk (x : Str) (t : String) : Bool := (decide (x = "ValueError") && t == "ValueError") || (decide (x = "LookupError") && t == "LookupError")
def chkHi (N : List Str) (sc : Scope) (i : Nat) (n : Str) : Hi → Expr → Bool
  | .cst (.str x), .Constant (.str y) _ _ => decide (x = y)
  | .field f, .Attribute (.Name m _) g _ => decide (m = n) && decide (f = g)
  | .isa t, .Call (.Name c _) [.Name m _, .Name b _] [] _ => decide (c = "isinstance") && decide (m = n) && glob sc c && glob sc b && baseOk b t
  | _, _ => false
def chkHis (N : List Str) (sc : Scope) (i : Nat) (n : Str) : List Hi → List Expr → Bool
  | [], [] => true
  | h :: r, e :: es => chkHi N sc i n h e && noStar e && chkHis N sc i n r es
  | _, _ => false
section
variable {T : Tab} {c : Cn} {xc : Xc} {C : Calls} {lv : Nat} {N : List Str} {W : WX} {X : Cx} {sc : Scope} {st : Str → Bool}
variable {a : Addr} {oe : Obj} {cls : Value} {d : Option Addr} {pn : List (Addr × Obj)} {i : Nat} {n : Str}
theorem pe_hfld {f : Str} {p pos : Pos} (hz : Zc cls d oe) (hf : ∃ vs, oe.data = .fields vs) (pv : PE (X.suite a ((a, oe) :: pn)) (.Name n p) (tVar i)) : PE (X.suite a ((a, oe) :: pn)) (.Attribute (.Name n p) f pos) (rHi X.K i a cls d (.field f)) := by
  refine ⟨fun pins s σ H Q I ⟨hs, A, dd, v, ec, ed, hx, G, q⟩ => ?_⟩
  subst ec
  subst ed
  refine attr_of rfl (thn (pv.run pins s σ H (fun x H1 => x = .ref a ∧ H1 = H) I ⟨_, hs, rfl, rfl⟩) fun u s1 ⟨x, H1, I1, rx, e1, e2⟩ => ?_)
  subst e1
  subst e2
  obtain rfl : u = Value.ref a := rx
  obtain ⟨here, _⟩ := I1.pin (a, oe) (List.mem_append_left _ List.mem_cons_self)
  obtain ⟨vs, isF⟩ := hf
  obtain ⟨mA, ns, rel⟩ : ObjOk X.prog X.w H1 s1.heap dd (.xd [(f, v)]) := I1.hok dd _ hx
  obtain ⟨od, at_, look⟩ := lookIn_ns ns
  obtain ⟨u, eu, ru⟩ := RelO.some_of (v := v) (o := mA f) (by
    have := rel f
    rwa [show List.lookup f [(f, v)] = some v by simp [List.lookup]] at this)
  have inst : PySem.W.InstAt s1.heap a oe A (some od) := ⟨here, hz.1, by unfold PySem.W.notCls; rw [isF] <;> rfl, by rw [hz.2]; exact at_⟩
  exact HandSPX.exc_get I1.kIn inst G.ga G.gg G.ex (PySem.W.findObj_own G.hd G.no rfl ((look f).trans (congrArg some eu))) (handed_of ru) ⟨v, H1, I1.tok _, ru, q⟩
/-- isinstance(e, T) -/
def rIsB (K : PySem.W.Frag) (a : Addr) (cls : Value) (t : String) : List V → Hp → VK → Prop := fun xs H Q => xs = [.ref a, .ty t] ∧ PySem.W.kitOne K cls (.type t) = some true ∧ Q (.bl true) H
theorem call_isB {t : String} (hz : Zc cls d oe) : CallR (X.suite a ((a, oe) :: pn)) (.builtin "isinstance") (rIsB X.K a cls t) := by
  intro pins s σ H xs us Q I r ⟨e1, e2, q⟩
  subst e1
  obtain ⟨u1, u2, rfl, r1, r2⟩ := vals2 r
  obtain rfl : u1 = Value.ref a := r1
  obtain rfl : u2 = Value.type t := r2
  obtain ⟨here, _⟩ := I.pin (a, oe) (List.mem_append.mpr (.inl List.mem_cons_self))
  refine call_isinstance (S := fun _ R s => (X.K.In s.heap ∧ s.heap.get? a = some oe) ∧ ∀ tk, R (.ok (.ret (.bool true))) { s with toks := tk })
    (fun prog w A R s hs => isinstance_outer (ans_base (G := fun h => h.get? a = some oe) (fun M h _ g A' Q' E' t' k q' => wpAny_typeOf_ref (k _ _ g) (hz.1.symm ▸ q')) e2 0 _ prog w A R s hs) (fun z => by cases z)) ⟨⟨I.kIn, here⟩, fun tk => ?_⟩
  exact ⟨.bl true, H, I.kept (t' := tk) fun _ _ z => z, rfl, q⟩
theorem base_ok {x : Str} {t : String} (h : baseOk x t = true) : x ∈ bnames ∧ bootBuiltins x = some (.type t) ∧ x ≠ "__name__" ∧ (x == ("__debug__" : Str)) = false := by
  unfold baseOk at h
  rw [Bool.or_eq_true, Bool.and_eq_true, Bool.and_eq_true] at h
  rcases h with ⟨h1, h2⟩ | ⟨h1, h2⟩
  · obtain rfl := of_decide_eq_true h1
    obtain rfl := eq_of_beq h2
    exact ⟨by decide, rfl, by decide, by decide⟩
  · obtain rfl := of_decide_eq_true h1
    obtain rfl := eq_of_beq h2
    exact ⟨by decide, rfl, by decide, by decide⟩
theorem pe_hi (k : Xk T c xc C lv X N sc st W) (hz : Zc cls d oe) (hf : ∃ vs, oe.data = .fields vs) (pv : ∀ p, PE (X.suite a ((a, oe) :: pn)) (.Name n p) (tVar i)) {h : Hi} {e : Expr} (q : chkHi N sc i n h e = true) : PE (X.suite a ((a, oe) :: pn)) e (rHi X.K i a cls d h) := by
  unfold chkHi at q
  split at q
  · obtain rfl := of_decide_eq_true q
    exact pe_str
  · rw [Bool.and_eq_true] at q
    obtain rfl := of_decide_eq_true q.1
    obtain rfl := of_decide_eq_true q.2
    exact pe_hfld hz hf (pv _)
  · simp only [Bool.and_eq_true] at q
    obtain ⟨⟨⟨⟨q1, q2⟩, q3⟩, q4⟩, q5⟩ := q
    obtain rfl := of_decide_eq_true q1
    obtain rfl := of_decide_eq_true q2
    rename_i tt _ _ _ _ _ _
    obtain ⟨b1, b2, b3, b4⟩ := base_ok q5
    refine PE.imp (pe_callB (X := X.suite a ((a, oe) :: pn)) (call_isB (X := X) (cls := cls) (t := tt) hz) (k.gl q3) (k.kn.blt _ (by decide)) PyProof.Rows.boot_isinstance (pa_cons (pv _) (pa_cons (pe_bltn (X := X.suite a ((a, oe) :: pn)) (v := .ty tt) (k.gl q4) (k.kn.blt _ b1) b2 rfl b3 b4) pa_nil rfl) rfl) (by decide) (by decide) rfl rfl) fun σ H Q z => ?_
    obtain ⟨z1, A, rfl, z2, z3⟩ := z
    exact ⟨_, z1, rfl, z2, z3⟩
  · cases q
theorem pa_his (k : Xk T c xc C lv X N sc st W) (hz : Zc cls d oe) (hf : ∃ vs, oe.data = .fields vs) (pv : ∀ p, PE (X.suite a ((a, oe) :: pn)) (.Name n p) (tVar i)) : ∀ {l : List Hi} {es : List Expr}, chkHis N sc i n l es = true → PA (X.suite a ((a, oe) :: pn)) es (rHis X.K i a cls d l)
  | [], [], _ => pa_nil
  | h :: l, e :: es, q => by
    simp only [chkHis, Bool.and_eq_true] at q
    exact pa_cons (pe_hi k hz hf pv q.1.1) (pa_his k hz hf pv q.2) (star1 q.1.2)
  | [], _ :: _, q => by simp [chkHis] at q
  | _ :: _, [], q => by simp [chkHis] at q
end
/-! ### the clauses -/
/-- what is known of the classes of errors -/
structure Hx (T : Tab) (xc : Xc) (xn : Nat → Option Str) (cs : Clss) (K : PySem.W.Frag) (mg : Str → Option Value) : Prop where
  nam : ∀ i x, T.clss[i]? = some x → ∃ A f, xc i = some (A, f) ∧ mg x = some (.ref A) ∧ (x == ("__debug__" : Str)) = false
  exm : ∀ i j A B f g, xc i = some (A, f) → xc j = some (B, g) → PySem.W.exmOne K (.ref B) (.ref A) = some (decide (i = j))
  isa : ∀ i A f t, xc i = some (A, f) → cs[i]? = some t → PySem.W.kitOne K (.ref A) (.type t) = some true
  get : ∀ i A f, xc i = some (A, some f) → Gets K A f ∧ xn i = some f
def fldOk (xn : Nat → Option Str) (cl : Nat) : Hi → Bool
  | .field f => decide (xn cl = some f)
  | _ => true
/-- the clause's suite -/
def rSu (K : PySem.W.Frag) (i to : Nat) (its : List Hi) : SuiteT := fun a cls d => tAsg (tLst (rHis K i a cls d its)) (gName to)
def clOf (xc : Xc) (K : PySem.W.Frag) (h : Hc) : Clause := (h.as.getD 0, (match xc h.cls with
  | some (A, _) => .ref A
  | none => .none), rSu K (h.as.getD 0) h.to h.its)
section
variable {T : Tab} {c : Cn} {xc : Xc} {xn : Nat → Option Str} {cs : Clss} {W : WX} {K : PySem.W.Frag} {mg : Str → Option Value} {F O : Addr → Prop} {H : Hp} {Dn : Ends} {σ : L2.St} {env : Env}
theorem hi_ok (hx : Hx T xc xn cs K mg) {x : Exn} {i : Nat} {a : Addr} {cls : Value} {d : Option Addr} {τ : L2.St} (hs : τ[i]? = some (some (.ref a))) (ex : ExcAt c xc F H x cls d) : ∀ {its : List Hi} {ds : List D} {Q : List V → Hp → Prop}, its.all (fldOk xn x.cls) = true →
    (∀ f, (∃ h, h ∈ its ∧ h = .cst f) → ∃ y, f = .str y) → hItems cs x its = some ds → (∀ vs, RepL c F H 0 vs ds [] → Q vs H) → rHis K i a cls d its τ H Q
  | [], ds, Q, _, _, e, q => by
    simp only [hItems, Option.some.injEq] at e
    subst e
    exact q [] (.nil _)
  | h :: r, ds, Q, fo, sc, e, q => by
    rw [List.all_cons, Bool.and_eq_true] at fo
    have rest : ∀ {ds' : List D} {v : V} {d0 : D}, Rep c F H 0 v d0 [] → hItems cs x r = some ds' → ds = d0 :: ds' → rHis K i a cls d r τ H fun xs H2 => Q (v :: xs) H2 := fun rv e' ed => by
      subst ed
      exact hi_ok hx hs ex fo.2 (fun f ⟨h, m, z⟩ => sc f ⟨h, List.mem_cons_of_mem _ m, z⟩) e' fun vs rs => q _ (.cons (fp := []) (fq := []) rv rs)
    cases h with
    | cst d0 =>
      obtain ⟨y, rfl⟩ := sc d0 ⟨_, List.mem_cons_self, rfl⟩
      simp only [hItems] at e
      obtain ⟨ds', e1, e2⟩ := Option.map_eq_some_iff.mp e
      exact rest (.str _ _) e1 e2.symm
    | isa t =>
      simp only [hItems] at e
      split at e
      · rename_i t' et
        split at e
        · rename_i eq
          subst eq
          obtain ⟨ds', e1, e2⟩ := Option.map_eq_some_iff.mp e
          obtain ⟨A, fld, ea, ec, _⟩ := ex
          exact ⟨hs, A, ec, hx.isa _ _ _ _ ea et, rest (.bl _ _) e1 e2.symm⟩
        · cases e
      · cases e
    | field f =>
      simp only [hItems] at e
      obtain ⟨A, fld, ea, ec, ⟨n1, _, _⟩ | ⟨d0, f0, dd, v, v1, v2, v3, v4, v5⟩⟩ := id ex
      · rw [n1] at e
        cases e
      · rw [v1] at e
        simp only at e
        obtain ⟨ds', e1, e2⟩ := Option.map_eq_some_iff.mp e
        subst v2
        obtain ⟨gt, en⟩ := hx.get _ _ _ ea
        have ef : xn x.cls = some f := of_decide_eq_true fo.1
        obtain rfl : f0 = f := Option.some.inj (en.symm.trans ef)
        exact ⟨hs, A, dd, v, ec, v3, v4, gt, rest v5 e1 e2.symm⟩
theorem slots_none : ∀ {env : Env} {τ : L2.St}, τ.length = env.length → Slots c F H (env.map fun _ => none) τ []
  | [], [], _ => .nil
  | _ :: env, o :: τ, h => .non o (slots_none (Nat.succ.inj h))
  | [], _ :: _, h => by cases h
  | _ :: _, [], h => by cases h
theorem good_none {τ : L2.St} (h : τ.length = env.length) (dom : ∀ a, F a → H a ≠ none) : Good c F (env.map fun _ => none) τ H NoO :=
  ⟨⟨[], slots_none h, List.nodup_nil, fun a => ⟨fun z => (by cases z), fun z => False.elim z⟩⟩, fun _ z => False.elim z, dom⟩
theorem getS_none {env : Env} {i : Nat} : getS (env.map fun _ => none) i = none := by
  cases h : getS (env.map fun _ => none) i with
  | none => rfl
  | some v =>
    induction env generalizing i with
    | nil => cases i <;> simp [getS] at h
    | cons o env ih =>
      cases i with
      | zero => simp [getS] at h
      | succ i => exact ih (by simpa [getS] using h)
theorem hItems_len {x : Exn} : ∀ {its : List Hi} {ds : List D}, hItems cs x its = some ds → ds.length = its.length
  | [], ds, e => by
    simp only [hItems, Option.some.injEq] at e
    subst e
    rfl
  | h :: r, ds, e => by
    cases h <;> simp only [hItems] at e
    · obtain ⟨d, e1, e2⟩ := Option.map_eq_some_iff.mp e
      rw [← e2, List.length_cons, hItems_len e1, List.length_cons]
    · split at e
      · obtain ⟨d, e1, e2⟩ := Option.map_eq_some_iff.mp e
        rw [← e2, List.length_cons, hItems_len e1, List.length_cons]
      · cases e
    · split at e
      · split at e
        · obtain ⟨d, e1, e2⟩ := Option.map_eq_some_iff.mp e
          rw [← e2, List.length_cons, hItems_len e1, List.length_cons]
        · cases e
      · cases e
/-- the clauses take what the evaluator hands them -/
theorem hand_ok (hx : Hx T xc xn cs K mg) (hg : σ.length = env.length) {x : Exn} : ∀ {l : List Hc}, (∀ h, h ∈ l → ∃ A f, xc h.cls = some (A, f)) → (∀ h, h ∈ l → h.its.all (fldOk xn h.cls) = true) → (∀ h, h ∈ l → ∀ f, (∃ g, g ∈ h.its ∧ g = Hi.cst f) → ∃ y, f = .str y) →
    PostS c xc W [] σ F O H Dn (handle cs env x l) → PostX c xc (wCs K W Dn (l.map (clOf xc K))) σ F O H x
  | [], _, _, _, p => by
    simp only [handle] at p
    exact p
  | h :: r, k1, k2, k3, p => by
    intro F' H' cls dct σ' st dom len ex
    obtain ⟨A, f, eA⟩ := k1 h List.mem_cons_self
    obtain ⟨B, g, eB, ec, _⟩ := id ex
    subst ec
    have eo : clOf xc K h = (h.as.getD 0, .ref A, rSu K (h.as.getD 0) h.to h.its) := by
      unfold clOf
      rw [eA]
    show wAs K (clOf xc K h).2.1 (clOf xc K h).1 (clOf xc K h).2.2 (wCs K W Dn (r.map (clOf xc K))) Dn (.ref B) dct σ' H'
    rw [eo]
    refine ⟨_, hx.exm _ _ _ _ _ _ eA eB, fun yes a na => ?_, fun no => ?_⟩
    · have same := of_decide_eq_true yes
      unfold handle at p
      rw [if_pos same] at p
      split at p
      · rename_i hok
        split at p
        · rename_i ds eds
          unfold asOk at hok
          split at hok
          · rename_i i ei
            simp only [Bool.and_eq_true] at hok
            have h1 := of_decide_eq_true hok.1.1
            have h2 := of_decide_eq_true hok.1.2
            have h3 := of_decide_eq_true hok.2
            rw [ei, Option.getD_some]
            have hs : (σ'.set i (some (.ref a)))[i]? = some (some (.ref a)) := List.getElem?_set_self (by omega)
            show rHis K i a (.ref B) dct h.its (σ'.set i (some (.ref a))) H' _
            refine hi_ok hx hs ex (by rw [← same]; exact k2 h List.mem_cons_self) (k3 h List.mem_cons_self) eds fun vs rs => ⟨?_, fun q hq => ?_⟩
            · rw [rs.length, hItems_len eds]
              exact Nat.le_trans h3 (by decide)
            · have sm := Same.new (o := .lst vs) hq
              have g1 := (good_none (c := c) (F := F') (H := H') (env := env) (τ := σ'.set i (some (.ref a))) (by rw [List.length_set, len, hg]) dom).new (o := .lst vs) hq
              obtain ⟨O2, g2, o2⟩ := g1.store' (i := h.to) (k := 1) (d := .list ds) (v := .ref q) (fp := [q]) ⟨.lown upd_same (rs.same sm), List.nodup_cons.mpr ⟨List.not_mem_nil, List.nodup_nil⟩, fun _ _ z => z, fun b hb z => by
                obtain rfl := List.mem_singleton.mp hb
                exact dom _ z hq⟩
              have g3 := g2.resig (σ' := ((σ'.set i (some (.ref a))).set h.to (some (.ref q))).set i none) (by rw [List.length_set]) fun j => by
                by_cases e : j = i
                · subst e
                  exact .inl ((getS_put_ne h2).trans getS_none)
                · exact .inr (List.getElem?_set_ne (Ne.symm e))
              refine p F' O2 _ _ (Step.same ⟨st.mono, fun b z => ?_, st.frz, st.keep, st.dom⟩ sm) g3 ⟨by simp only [List.length_set]; exact len, fun _ z => by cases z⟩
              rcases o2 b z with z | z
              · exact z.elim
              · obtain rfl := List.mem_singleton.mp z
                exact .inr (st.dom _ hq)
          · cases hok
        · exact p.elim
      · exact p.elim
    · have diff := of_decide_eq_false no
      unfold handle at p
      rw [if_neg diff] at p
      exact hand_ok hx hg (fun h m => k1 h (List.mem_cons_of_mem _ m)) (fun h m => k2 h (List.mem_cons_of_mem _ m)) (fun h m => k3 h (List.mem_cons_of_mem _ m)) p F' H' (.ref B) dct σ' st dom len ex
end
/-! ### the clauses' text -/
def isStr : Hi → Bool
  | .cst (.str _) => true
  | .cst _ => false
  | _ => true
def asHd : ExceptHandler → Option (Str × Str × Str × List Expr)
  | .ExceptHandler (some (.Name x _)) (some n) [.Assign [.Name y _] (.List es _) _] _ => some (x, n, y, es)
  | _ => none
theorem asHd_ok {h : ExceptHandler} {x n y : Str} {es : List Expr} (e : asHd h = some (x, n, y, es)) : ∃ p1 p2 p3 p4 p5, h = .ExceptHandler (some (.Name x p1)) (some n) [.Assign [.Name y p2] (.List es p3) p4] p5 := by
  unfold asHd at e
  split at e
  · cases e
    exact ⟨_, _, _, _, _, rfl⟩
  · cases e
/-- a name of the def's own -/
def ownNm (N : List Str) (sc : Scope) (i : Nat) (x : Str) : Bool := decide (N[i]? = some x) && decide (sc.names.lookup x = some .local)
def chkH (T : Tab) (N : List Str) (sc : Scope) (xn : Nat → Option Str) (h : Hc) (e : ExceptHandler) : Bool := match asHd e with
  | some (x, n, y, es) => decide (T.clss[h.cls]? = some x) && glob sc x && ownNm N sc (h.as.getD 0) n && ownNm N sc h.to y && h.its.all isStr && h.its.all (fldOk xn h.cls) && chkHis N sc (h.as.getD 0) n h.its es
  | none => false
def chkHs (T : Tab) (N : List Str) (sc : Scope) (xn : Nat → Option Str) : List Hc → List ExceptHandler → Bool
  | [], [] => true
  | h :: r, e :: es => chkH T N sc xn h e && chkHs T N sc xn r es
  | _, _ => false
section
variable {T : Tab} {c : Cn} {xc : Xc} {xn : Nat → Option Str} {cs : Clss} {C : Calls} {lv : Nat} {N : List Str} {W : WX} {X : Cx} {sc : Scope} {st : Str → Bool}
theorem own_at (k : Xk T c xc C lv X N sc st W) {i : Nat} {x : Str} (h : ownNm N sc i x = true) : X.N[i]? = some x ∧ X.env.scope.names.lookup x = some .local := by
  unfold ownNm at h
  rw [Bool.and_eq_true] at h
  exact ⟨by rw [k.hN]; exact of_decide_eq_true h.1, by rw [k.hs]; exact of_decide_eq_true h.2⟩
theorem own_pv (k : Xk T c xc C lv X N sc st W) {i : Nat} {x : Str} {a : Addr} {pn : List (Addr × Obj)} {p : Pos} (h : ownNm N sc i x = true) : PE (X.suite a pn) (.Name x p) (tVar i) := by
  obtain ⟨h1, h2⟩ := own_at k h
  have m : x ∈ N := by
    rw [k.hN] at h1
    exact List.mem_of_getElem? h1
  obtain ⟨d1, d2⟩ := k.dbg x m
  exact pe_var (X := X.suite a pn) h1 (.inl h2) d1 d2
theorem nodupN (k : Xk T c xc C lv X N sc st W) : X.N.Nodup := by
  rw [k.hN]
  exact k.nd
theorem hds_ok (hx : Hx T xc xn cs X.K X.mg) (k : Xk T c xc C lv X N sc st W) : ∀ {l : List Hc} {es : List ExceptHandler}, chkHs T N sc xn l es = true → HdsAs X es (l.map (clOf xc X.K))
  | [], [], _ => .nil
  | [], _ :: _, q => by simp [chkHs] at q
  | _ :: _, [], q => by simp [chkHs] at q
  | h :: l, e :: es, q => by
    simp only [chkHs, Bool.and_eq_true] at q
    obtain ⟨q1, q2⟩ := q
    have rest := hds_ok hx k q2
    unfold chkH at q1
    split at q1
    · rename_i x n y its ee
      obtain ⟨p1, p2, p3, p4, p5, rfl⟩ := asHd_ok ee
      simp only [Bool.and_eq_true] at q1
      obtain ⟨⟨⟨⟨⟨⟨a1, a2⟩, a3⟩, a4⟩, a5⟩, a6⟩, a7⟩ := q1
      obtain ⟨A, f, eA, em, ed⟩ := hx.nam _ _ (of_decide_eq_true a1)
      have eo : clOf xc X.K h = (h.as.getD 0, .ref A, rSu X.K (h.as.getD 0) h.to h.its) := by
        unfold clOf
        rw [eA]
      obtain ⟨n1, n2⟩ := own_at k a3
      obtain ⟨t1, t2⟩ := own_at k a4
      rw [List.map_cons, eo]
      have nd := nodupN k
      refine .cons n1 n2 ⟨k.gl a2, ed, .inl em⟩ (fun a oe cls d pn hz hf => ?_) rest
      exact pss_one (ps_asg (X := X.suite a ((a, oe) :: pn)) (pe_lst (pa_his k hz hf (fun p => own_pv k a3) a7)) (pg_name (X := X.suite a ((a, oe) :: pn)) nd t1 (.inl t2) (.inr t2)))
    · cases q1
theorem hds_facts (hx : Hx T xc xn cs X.K X.mg) : ∀ {l : List Hc} {es : List ExceptHandler}, chkHs T N sc xn l es = true → (∀ h, h ∈ l → ∃ A f, xc h.cls = some (A, f)) ∧ (∀ h, h ∈ l → h.its.all (fldOk xn h.cls) = true) ∧ (∀ h, h ∈ l → ∀ f, (∃ g, g ∈ h.its ∧ g = Hi.cst f) → ∃ y, f = .str y)
  | [], _, _ => ⟨fun _ m => (by cases m), fun _ m => (by cases m), fun _ m => (by cases m)⟩
  | _ :: _, [], q => by simp [chkHs] at q
  | h :: l, e :: es, q => by
    simp only [chkHs, Bool.and_eq_true] at q
    obtain ⟨q1, q2⟩ := q
    obtain ⟨r1, r2, r3⟩ := hds_facts hx q2
    unfold chkH at q1
    split at q1
    · simp only [Bool.and_eq_true] at q1
      obtain ⟨⟨⟨⟨⟨⟨a1, a2⟩, a3⟩, a4⟩, a5⟩, a6⟩, a7⟩ := q1
      obtain ⟨A, f, eA, em, ed⟩ := hx.nam _ _ (of_decide_eq_true a1)
      refine ⟨fun g m => ?_, fun g m => ?_, fun g m => ?_⟩
      · rcases List.mem_cons.mp m with rfl | m
        · exact ⟨A, f, eA⟩
        · exact r1 g m
      · rcases List.mem_cons.mp m with rfl | m
        · exact a6
        · exact r2 g m
      · rcases List.mem_cons.mp m with rfl | m
        · rintro d ⟨b, mb, rfl⟩
          have := List.all_eq_true.mp a5 _ mb
          cases d with
          | str y => exact ⟨y, rfl⟩
          | _ => cases this
        · exact r3 g m
    · cases q1
/-- the try, as the evaluator has it -/
theorem try_ok {wf : Nat} {b : Ss} {l : List Hc} {es : List ExceptHandler} {Dn : Ends} {σ : L2.St} {H : Hp} (hx : Hx T xc xn cs X.K X.mg) (q : chkHs T N sc xn l es = true) (h : rS c xc W C cs wf [] (.try b l) Dn σ H) :
    rSs c xc (wCs X.K W Dn (l.map (clOf xc X.K))) C cs wf [] b Dn σ H := by
  obtain ⟨env, F, O, g, p⟩ := h
  unfold evS at p
  refine ⟨env, F, O, g, ?_⟩
  obtain ⟨k1, k2, k3⟩ := hds_facts hx q
  cases e : evSs C cs wf b env with
  | exc env1 x =>
    rw [e] at p
    exact hand_ok hx g.len k1 k2 k3 p
  | nx env1 => rw [e] at p; exact p
  | brk env1 => rw [e] at p; exact p
  | cnt env1 => rw [e] at p; exact p
  | ret env1 k d => rw [e] at p; exact p
  | bad => rw [e] at p; exact p
end
end Pv
end
section
set_option maxRecDepth 100000
set_option maxHeartbeats 8000000
/-! PvChkS: a text's statements against the evaluator's code. -/
namespace Pv
open PySem PySem.Spec PyProof.Rows L2
def noComp : Expr → Bool
  | .ListComp _ _ _ _ => false
  | .SetComp _ _ _ _ => false
  | .DictComp _ _ _ _ _ => false
  | _ => true
theorem sw_no {e : Expr} {t : Option Expr} {l : Nat} {env : PySem.Env} (h : noComp e = true) : swapsWith e t l env = pure false := by
  cases e <;> first | rfl | cases h
def plainTg : Expr → Bool
  | .Name _ _ => false
  | _ => true
theorem sw_tg {e t : Expr} {l : Nat} {env : PySem.Env} (h : plainTg t = true) : swapsWith e (some t) l env = pure false := by
  cases t <;> first | (cases h; done) | (cases e <;> rfl)
theorem sw_line {elt : Expr} {gs : List Comprehension} {scope : Scope} {pos py : Pos} {y : Str} {l : Nat} {env : PySem.Env} (h : (py.line == pos.line) = false) : swapsWith (.ListComp elt gs scope pos) (some (.Name y py)) l env = pure false := by
  unfold swapsWith
  simp only [Expr.pos, h, Bool.and_false, Bool.false_and]
def noTup : Expr → Bool
  | .Tuple _ _ _ => false
  | _ => true
theorem sw_sole {e t : Expr} {l : Nat} {env : PySem.Env} (h : plainTg t = true) : swapsWithSole [t] e l env = pure false := sw_tg h
theorem sws_no {t e : Expr} {env : PySem.Env} (h : noTup e = true) : swappedStores [t] e env = pure none := by
  cases e <;> first | (cases h; done) | (cases t <;> rfl)
theorem sws_sub {a b e : Expr} {p : Pos} {env : PySem.Env} : swappedStores [.Subscript a b p] e env = pure none := by
  cases e <;> rfl
theorem sws_long {ts vs : List Expr} {k k2 : Nat} {p p2 : Pos} {env : PySem.Env} (h : (ts.length == 2 || ts.length == 3) = false) : swappedStores [.Tuple ts k p] (.Tuple vs k2 p2) env = pure none := by
  unfold swappedStores
  simp only [h]
  first | done | rfl
theorem sws_fold {ts vs : List Expr} {k k2 : Nat} {p p2 : Pos} {env : PySem.Env} (h : vs.all (foldedForSure 8) = true) : swappedStores [.Tuple ts k p] (.Tuple vs k2 p2) env = pure none := by
  unfold swappedStores
  simp only [h]
  split
  · rfl
  · split
    · rfl
    · split
      · rfl
      · rfl
/-- a target that is no name of the def's own alone (a cell, say) -/
def cellTg (sc : Scope) (ts : List Expr) : Bool := ts.any fun t => match t with
  | .Name x _ => !(sc.names.lookup x == some .local)
  | _ => true
theorem sws_cell {ts vs : List Expr} {k k2 : Nat} {p p2 : Pos} {env : PySem.Env} (h : cellTg env.scope ts = true) : swappedStores [.Tuple ts k p] (.Tuple vs k2 p2) env = pure none := by
  unfold swappedStores
  simp only []
  split
  · rfl
  · split
    · rfl
    · split
      · rfl
      · rename_i hc
        exfalso
        simp only [Bool.or_eq_true, bne_iff_ne, ne_eq, not_or, Decidable.not_not] at hc
        have all := List.filterMap_length_eq_length.mp hc.1
        obtain ⟨t, ht, hn⟩ := List.any_eq_true.mp h
        have one := all t ht
        cases t with
        | Name x px =>
          have hk : env.kindOf x = env.scope.names.lookup x := rfl
          simp only [hk] at one
          have hn : (env.scope.names.lookup x == some .local) = false := by simpa using hn
          rw [hn] at one
          simp at one
        | _ => simp at one
theorem sws_two {x y : Str} {px py pt p2 : Pos} {k k2 : Nat} {vs : List Expr} {env : PySem.Env} (hk : env.scope.kind = .function) (hx : env.scope.names.lookup x = some .local) (hy : env.scope.names.lookup y = some .local) (hxy : x ≠ y) (hp : (py.line == px.line) = true) (hl : vs.length = 2)
    (hs : vs.all noStar = true) (hf : vs.all (foldedForSure 8) = false) (hc : vs.all (constantsAlone 8) = false) : swappedStores [.Tuple [.Name x px, .Name y py] k pt] (.Tuple vs k2 p2) env = pure (some [x, y]) := by
  have kx : env.kindOf x = some .local := hx
  have ky : env.kindOf y = some .local := hy
  have hb : env.blockKind = .function := by unfold Env.blockKind; rw [hk]; rfl
  have noS : ∀ v, v ∈ vs → noStar v = true := fun v hv => List.all_eq_true.mp hs v hv
  have hne : (x == y) = false := by simpa using hxy
  have ed : [x, y].eraseDups = [x, y] := by
    simp [List.eraseDups_cons, Ne.symm hxy]
  have lf : ([x, y] : List Str).length = 2 := rfl
  have e1 : (px.line == px.line) = true := beq_self_eq_true _
  unfold swappedStores
  simp only [hb, hl, List.length_cons, List.length_nil, Expr.pos, List.filterMap_cons, List.filterMap_nil, List.head?_cons, Option.map_some, Option.getD_some, kx, ky, hp, e1]
  rw [if_neg (by decide), if_neg (by
    rw [List.any_eq_true]
    rintro ⟨v, hv, h⟩
    have := noS v hv
    cases v <;> first | (cases h; done) | (cases this; done))]
  have e2 : (some NameKind.local == some NameKind.local && true) = true := by decide
  simp only [e2, if_true, ed, hf, hc]
  rfl
theorem sws_three {x y z : Str} {px py pz pt p2 : Pos} {k k2 : Nat} {vs : List Expr} {env : PySem.Env} (hk : env.scope.kind = .function) (hx : env.scope.names.lookup x = some .local) (hy : env.scope.names.lookup y = some .local) (hz : env.scope.names.lookup z = some .local) (hxy : x ≠ y) (hxz : x ≠ z) (hyz : y ≠ z)
    (hp : (py.line == px.line) = true) (hp3 : (pz.line == px.line) = true) (hl : vs.length = 3) (hs : vs.all noStar = true) (hf : vs.all (foldedForSure 8) = false) (hc : vs.all (constantsAlone 8) = false) : swappedStores [.Tuple [.Name x px, .Name y py, .Name z pz] k pt] (.Tuple vs k2 p2) env = pure (some [x, y, z]) := by
  have kx : env.kindOf x = some .local := hx
  have ky : env.kindOf y = some .local := hy
  have kz : env.kindOf z = some .local := hz
  have hb : env.blockKind = .function := by unfold Env.blockKind; rw [hk]; rfl
  have noS : ∀ v, v ∈ vs → noStar v = true := fun v hv => List.all_eq_true.mp hs v hv
  have ed : [x, y, z].eraseDups = [x, y, z] := by
    simp [List.eraseDups_cons, Ne.symm hxy, Ne.symm hxz, Ne.symm hyz]
  have e1 : (px.line == px.line) = true := beq_self_eq_true _
  unfold swappedStores
  simp only [hb, hl, List.length_cons, List.length_nil, Expr.pos, List.filterMap_cons, List.filterMap_nil, List.head?_cons, Option.map_some, Option.getD_some, kx, ky, kz, hp, hp3, e1]
  rw [if_neg (by decide), if_neg (by
    rw [List.any_eq_true]
    rintro ⟨v, hv, h⟩
    have := noS v hv
    cases v <;> first | (cases h; done) | (cases this; done))]
  have e2 : (some NameKind.local == some NameKind.local && true) = true := by decide
  simp only [e2, if_true, ed, hf, hc]
  rfl
section
variable {c : Cn} {xc : Xc} {W : WX} {C : Calls} {cs : Clss} {wf : Nat} {pr : List Nat} {σ : L2.St} {H : Hp} {Dn : Ends}
theorem bindP_ok : ∀ (gs : List G) {F O : Addr → Prop} {H : Hp} {env env1 : Env} {σ : L2.St} {l : List (Nat × D)} {vs : List V} {fp : List Addr} {Kk : L2.St → Hp → Prop}, Good c F env σ H O → ArgsT c F O H l vs fp → bindP gs l env = some env1 →
    (∀ σ1 O1, Good c F env1 σ1 H O1 → (∀ a, O1 a → O a ∨ a ∈ fp) → SameOut (namesL gs) σ σ1 → Kk σ1 H) → vs.length = gs.length ∧ gRs c.K gs vs σ H Kk
  | [], F, O, H, env, env1, σ, l, vs, fp, Kk, g, t, h, q => by
    cases l with
    | nil =>
      simp only [bindP, Option.some.injEq] at h
      subst h
      obtain ⟨r, _, _, _⟩ := t
      cases r
      simp only [gRs]
      exact ⟨rfl, rfl, q σ O g (fun a z => .inl z) SameOut.refl⟩
    | cons _ _ => simp [bindP] at h
  | g0 :: gs, F, O, H, env, env1, σ, l, vs, fp, Kk, g, t, h, q => by
    cases l with
    | nil => simp [bindP] at h
    | cons w l =>
      obtain ⟨k, d⟩ := w
      simp only [bindP] at h
      cases hb : bindG g0 k d env with
      | none => rw [hb] at h; cases h
      | some env2 =>
        rw [hb] at h
        obtain ⟨r, nd, nO, nF⟩ := t
        cases r with
        | cons r rs =>
          rename_i v fp1 fq vs'
          obtain ⟨n1, n2, n3⟩ := List.nodup_append.mp nd
          have len : vs'.length = gs.length := by
            have hl := rs.length
            have : ∀ (gs : List G) (l : List (Nat × D)) (e e1 : Env), bindP gs l e = some e1 → l.length = gs.length := by
              intro gs
              induction gs with
              | nil => intro l e e1 h; cases l with | nil => rfl | cons _ _ => simp [bindP] at h
              | cons g gs ih =>
                intro l e e1 h
                cases l with
                | nil => simp [bindP] at h
                | cons w l =>
                  simp only [bindP] at h
                  split at h
                  · exact congrArg (· + 1) (ih _ _ _ h)
                  · cases h
            rw [hl]; exact this _ _ _ _ h
          refine ⟨congrArg (· + 1) len, ?_⟩
          simp only [gRs]
          refine ⟨_, _, rfl, bind_ok g0 g ⟨r, n1, fun a z => nO a (List.mem_append_left _ z), fun a z => nF a (List.mem_append_left _ z)⟩ hb fun σ1 O1 g1 s1 so1 => ?_⟩
          refine (bindP_ok gs g1 ⟨rs, n2, fun a z y => ?_, fun a z => nF a (List.mem_append_right _ z)⟩ h fun σ2 O2 g2 s2 so2 => q σ2 O2 g2 (fun a z => ?_) ?_).2
          · rcases s1 a y with y | y
            · exact nO a (List.mem_append_right _ z) y
            · exact n3 a y a z rfl
          · rcases s2 a z with z | z
            · exact (s1 a z).imp id fun z => List.mem_append_left _ z
            · exact .inr (List.mem_append_right _ z)
          · simp only [namesL]
            exact (so1.mono fun i z => List.mem_append_left _ z).trans (so2.mono fun i z => List.mem_append_right _ z)
/-- a, b, .. = x, y, .. by a tuple -/
theorem parT_ok {gs : List G} {es : Es} (hp : ∀ p, p ∈ pr → p ∉ namesL gs) (hl : esLen es ≤ 1000) (h : rS c xc W C cs wf pr (.asg (.tup gs) (.tup es)) Dn σ H) : tAsg (tTup (rL c xc W C es)) (gR c.K (.tup gs)) Dn σ H := by
  obtain ⟨env, F, O, gd, p⟩ := h
  unfold evS at p
  refine ⟨env, F, O, gd, ?_⟩
  cases e1 : evL C es env with
  | bad => rw [e1] at p; exact p
  | exc env1 y => rw [e1] at p; exact p
  | ok env1 l =>
    rw [e1] at p
    simp only at p
    cases hb : bindP gs l env1 with
    | none => rw [hb] at p; exact p.elim
    | some env2 =>
      rw [hb] at p
      intro F1 O1 H1 vs fp s1 g1 t fr
      refine ⟨by rw [t.rep.length, evL_len e1]; exact Nat.le_trans hl (by decide), fun q hq => ?_⟩
      have g2 := g1.new hq (o := .tup vs)
      have t2 := t.step (Step.new hq (F := F1) (O := O1) (o := .tup vs)) g1
      have key := bindP_ok (c := c) gs g2 t2 hb (Kk := Dn.nx) fun σ2 O2 g3 sub so => p F1 O2 _ σ2 (Step.same ⟨s1.mono, fun a z => (sub a z).elim (s1.own a) (fr a), s1.frz, s1.keep, s1.dom⟩ (Same.new hq)) g3 (Prot.of so hp)
      simp only [gR]
      exact ⟨q, vs, rfl, .inl (.inl upd_same), key.1, key.2⟩
/-- a, b, c = x, y, z -/
theorem par3_ok {i j k : Nat} {es : Es} (hp : ∀ p, p ∈ pr → p ≠ i ∧ p ≠ j ∧ p ≠ k) (h : rS c xc W C cs wf pr (.asg (.tup [.name i, .name j, .name k]) (.tup es)) Dn σ H) : tPar3 i j k (rL c xc W C es) Dn σ H := by
  obtain ⟨env, F, O, gd, p⟩ := h
  unfold evS at p
  refine ⟨env, F, O, gd, ?_⟩
  cases e1 : evL C es env with
  | bad => rw [e1] at p; exact p
  | exc env1 y => rw [e1] at p; exact p
  | ok env1 l =>
    rw [e1] at p
    simp only at p
    cases hb : bindP [.name i, .name j, .name k] l env1 with
    | none => rw [hb] at p; exact p.elim
    | some env2 =>
      rw [hb] at p
      intro F1 O1 H1 vs fp s1 g1 t fr
      have key := bindP_ok (c := c) [.name i, .name j, .name k] g1 t hb (Kk := Dn.nx) fun σ2 O2 g3 sub so => p F1 O2 _ σ2 ⟨s1.mono, fun a z => (sub a z).elim (s1.own a) (fr a), s1.frz, s1.keep, s1.dom⟩ g3 (Prot.of so fun q hq z => by
        obtain ⟨h1, h2, h3⟩ := hp q hq
        simp only [namesL, names, List.append_nil, List.cons_append, List.nil_append, List.mem_cons, List.not_mem_nil, or_false] at z
        rcases z with z | z | z
        · exact h1 z
        · exact h2 z
        · exact h3 z)
      obtain ⟨hl, key⟩ := key
      match vs, hl with
      | [u, v, w], _ =>
        refine ⟨u, v, w, rfl, ?_⟩
        simp only [gRs, gCons, gNil, gR, gName] at key
        obtain ⟨_, _, e, _, _, e', _, _, e'', e3, q⟩ := key
        cases e
        cases e'
        cases e''
        exact q
end
def asAsg : Stmt → Option (Expr × Expr × Pos)
  | .Assign [tg] e pos => some (tg, e, pos)
  | _ => none
theorem asAsg_ok {s : Stmt} {tg e : Expr} {pos : Pos} (h : asAsg s = some (tg, e, pos)) : s = .Assign [tg] e pos := by
  unfold asAsg at h
  split at h
  · cases h; rfl
  · cases h
def asAug : Stmt → Option (Expr × Operator × Expr)
  | .AugAssign t o e _ => some (t, o, e)
  | _ => none
theorem asAug_ok {s : Stmt} {t e : Expr} {o : Operator} (h : asAug s = some (t, o, e)) : ∃ p, s = .AugAssign t o e p := by
  unfold asAug at h
  split at h
  · cases h; exact ⟨_, rfl⟩
  · cases h
def isAddO : Operator → Bool
  | .Add => true
  | _ => false
theorem isAddO_ok {o : Operator} (h : isAddO o = true) : o = .Add := by cases o <;> first | rfl | cases h
theorem augSub {i : Expr} (h : noSlice i = true) : ∀ ov iv new, augStore i ov iv new = (do
      holding [new, ov, iv] (setItem ov iv new)
      release [new, ov, iv] []
      pure .next) := fun ov iv new => by
  cases i <;> first | rfl | cases h
def asRet : Stmt → Option (Option Expr)
  | .Return e _ => some e
  | _ => none
theorem asRet_ok {s : Stmt} {e : Option Expr} (h : asRet s = some e) : ∃ p, s = .Return e p := by
  unfold asRet at h
  split at h
  · cases h; exact ⟨_, rfl⟩
  · cases h
def asIfS : Stmt → Option (Expr × List Stmt × List Stmt)
  | .If c a b _ => some (c, a, b)
  | _ => none
theorem asIfS_ok {s : Stmt} {e : Expr} {a b : List Stmt} (h : asIfS s = some (e, a, b)) : ∃ p, s = .If e a b p := by
  unfold asIfS at h
  split at h
  · cases h; exact ⟨_, rfl⟩
  · cases h
def asWhile : Stmt → Option (Expr × List Stmt)
  | .While c a [] _ => some (c, a)
  | _ => none
theorem asWhile_ok {s : Stmt} {e : Expr} {a : List Stmt} (h : asWhile s = some (e, a)) : ∃ p, s = .While e a [] p := by
  unfold asWhile at h
  split at h
  · cases h; exact ⟨_, rfl⟩
  · cases h
def asFor : Stmt → Option (Expr × Expr × List Stmt)
  | .For tg it b [] _ => some (tg, it, b)
  | _ => none
theorem asFor_ok {s : Stmt} {tg it : Expr} {b : List Stmt} (h : asFor s = some (tg, it, b)) : ∃ p, s = .For tg it b [] p := by
  unfold asFor at h
  split at h
  · cases h; exact ⟨_, rfl⟩
  · cases h
def asExprS : Stmt → Option Expr
  | .Expr e _ => some e
  | _ => none
theorem asExprS_ok {s : Stmt} {e : Expr} (h : asExprS s = some e) : ∃ p, s = .Expr e p := by
  unfold asExprS at h
  split at h
  · cases h; exact ⟨_, rfl⟩
  · cases h
def isPass : Stmt → Bool
  | .Pass _ => true
  | _ => false
def isBrk : Stmt → Bool
  | .Break _ => true
  | _ => false
def isCnt : Stmt → Bool
  | .Continue _ => true
  | _ => false
def isLc : E → Bool
  | .lc _ _ _ _ _ _ => true
  | .lc2 _ _ _ _ _ _ _ _ _ _ _ => true
  | .lcP _ _ _ _ _ _ => true
  | _ => false
def capt (scope : Scope) (y : Str) : Bool := scope.names.any fun (n, k) => n == y && (k == .local || k == .cell)
/-- a store of a comprehension: on one line the name is handed within -/
def nameOk (sc : Scope) (e : E) (x : Str) (p : Pos) : Expr → Bool
  | .ListComp _ _ scope pos => if p.line == pos.line && decide (sc.names.lookup x = some .local) && !capt scope x then isLc e else true
  | e' => noComp e'
def parTwo (N : List Str) (sc : Scope) : List G → List Expr → Bool
  | [.name i, .name j], [.Name x px, .Name y py] => decide (N[i]? = some x) && decide (N[j]? = some y) && decide (i ≠ j) && decide (sc.names.lookup x = some .local) && decide (sc.names.lookup y = some .local) && (py.line == px.line)
  | [.name i, .name j, .name l], [.Name x px, .Name y py, .Name z pz] => decide (N[i]? = some x) && decide (N[j]? = some y) && decide (N[l]? = some z) && decide (i ≠ j) && decide (i ≠ l) && decide (j ≠ l) && decide (sc.names.lookup x = some .local) && decide (sc.names.lookup y = some .local) && decide (sc.names.lookup z = some .local) && (py.line == px.line) && (pz.line == px.line)
  | _, _ => false
def isTupE : E → Bool
  | .tup _ => true
  | _ => false
def chkPar (T : Tab) (N : List Str) (sc : Scope) (st : Str → Bool) (pr : List Nat) (gs : List G) (ts : List Expr) (es : Es) (vs : List Expr) : Bool :=
  chkL T N es sc st vs && vs.all noStar && decide (esLen es ≤ 1000) && pr.all (fun p => !(namesL gs).contains p) &&
    (if (ts.length == 2 || ts.length == 3) && !vs.all (foldedForSure 8) && !cellTg sc ts then parTwo N sc gs ts && !vs.all (constantsAlone 8) && decide (vs.length = ts.length)
    else chkGs N sc st gs ts && ts.all noStar)
def chkAsg (T : Tab) (N : List Str) (sc : Scope) (st : Str → Bool) (pr : List Nat) (g : G) (e : E) (tg e' : Expr) : Bool := match g, tg with
  | .name i, .Name x p => stored N sc st i x && !pr.contains i && nameOk sc e x p e' && chk1 T N sc st e e'
  | .tup gs, .Tuple ts k p => (match e, e' with
    | .tup es, .Tuple vs _ _ => chkPar T N sc st pr gs ts es vs
    | _, _ => !isTupE e && noTup e' && chkG N sc st (.tup gs) (.Tuple ts k p) && pr.all (fun p => !(namesL gs).contains p) && chkE T N e sc st e')
  | _, _ => false
section
variable {T : Tab} {c : Cn} {xc : Xc} {C : Calls} {lv : Nat} {N : List Str} {W : WX} {X : Cx} {sc : Scope} {st : Str → Bool} {cs : Clss} {wf : Nat} {pr : List Nat}
theorem PG.imp {X : Cx} {e : Expr} {t t' : TG} (h : PG X e t) (i : ∀ v σ H Q, t' v σ H Q → t v σ H Q) : PG X e t' := ⟨fun pins s σ H v u Q I r q => h.run pins s σ H v u Q I r (i v σ H Q q)⟩
theorem Xk.locN (k : Xk T c xc C lv X N sc st W) {i : Nat} {x : Str} (h : stored N sc st i x = true) : X.N[i]? = some x ∧ L2.Loc X.env.scope x ∧ (X.fn x = true ∨ X.env.scope.names.lookup x = some .local) := by
  simp only [stored, Bool.and_eq_true] at h
  have h2 := h.2
  refine ⟨by rw [k.hN]; exact of_decide_eq_true h.1, ?_⟩
  unfold L2.Loc
  rw [k.hs]
  split at h2
  · rename_i q; exact ⟨.inl q, .inr q⟩
  · rename_i q; exact ⟨.inr q, .inl (k.fn x h2)⟩
  · cases h2
theorem prot_of {pr ns : List Nat} (h : pr.all (fun p => !ns.contains p) = true) : ∀ p, p ∈ pr → p ∉ ns := fun p hp => by
  have := List.all_eq_true.mp h p hp
  simpa using this
/-- name = [..] on one line -/
theorem setLc_ok (k : Xk T c xc C lv X N sc st W) {i : Nat} {y : Str} {py spos : Pos} {e : E} {e' : Expr} (hp : i ∉ pr) (hi : X.N[i]? = some y) (hy : X.env.scope.names.lookup y = some .local) (hlc : isLc e = true) (h : chkE T N e sc st e' = true)
    (hsw : swapsWith e' (some (.Name y py)) spos.line X.env = pure true) : PS X (.Assign [.Name y py] e' spos) (rS c xc W C cs wf pr (.asg (.name i) e)) := by
  have nd : X.N.Nodup := by rw [k.hN]; exact k.nd
  have fin : ∀ Dn σ H, rS c xc W C cs wf pr (.asg (.name i) e) Dn σ H → tAsg (rE c xc W C e) (gName i) Dn σ H := fun Dn σ H z => by
    have := asg_ok (g := .name i) (fun gs es q => by cases q) (fun p hpp z => by simp only [names, List.mem_singleton] at z; exact hp (z ▸ hpp)) z
    simpa only [gR] using this
  cases e with
  | lc own g sk src ifs elt =>
    simp only [chkE] at h
    split at h
    · rename_i hv
      split at h
      · rename_i hs
        obtain ⟨p, rfl⟩ := asLc_ok hv
        simp only [Bool.and_eq_true] at h
        obtain ⟨⟨⟨⟨⟨⟨⟨h1, h2⟩, h3⟩, h4⟩, h5⟩, h6⟩, h7⟩, h8⟩ := h
        have bo := blkOk_by h1
        have hk := bo.kind
        refine PS.imp (ps_setLc (te := rE c xc WN C elt) k.cc.calm nd hi hy hsw (src_pi k hs (chkL_ok k h4)) (by rw [k.hN, k.hs]; exact bo) (fun s H A cl fp => chkG_ok (c := c) (k.blk hk s H A cl fp).cc.calm k.hN (k.blk hk s H A cl fp).hs k.nd k.cc.hK (k.blk hk s H A cl fp).fn h5)
          (fun s H A cl fp => tIfs_pts (chkL_ok (k.blk hk s H A cl fp) h7) h3 h6) (fun s H A cl fp => (chk_ok (k.blk hk s H A cl fp) h8).re) (folded (srcArgs_noSet hs))) fun Dn σ H z => ?_
        rw [own_snd]
        exact lc_ok (fun i hi => by
          have := List.all_eq_true.mp h2 i hi
          simpa using this) h3 (fin Dn σ H z)
      · cases h
    · cases h
  | lcP own j g sk ifs elt =>
    simp only [chkE] at h
    split at h
    · rename_i hv
      obtain ⟨p, rfl⟩ := asLc_ok hv
      simp only [Bool.and_eq_true] at h
      obtain ⟨⟨⟨⟨⟨⟨⟨h0, h1⟩, h2⟩, h3⟩, h5⟩, h6⟩, h7⟩, h8⟩ := h
      have bo := blkOk_by h1
      have hk := bo.kind
      obtain ⟨hsk, hns, hpi⟩ := srcP_pi k h0
      refine PS.imp (ps_setLc (te := rE c xc WN C elt) k.cc.calm nd hi hy hsw hpi (by rw [k.hN, k.hs]; exact bo) (fun s H A cl fp => chkG_ok (c := c) (k.blk hk s H A cl fp).cc.calm k.hN (k.blk hk s H A cl fp).hs k.nd k.cc.hK (k.blk hk s H A cl fp).fn h5)
        (fun s H A cl fp => tIfs_pts (chkL_ok (k.blk hk s H A cl fp) h7) h3 h6) (fun s H A cl fp => (chk_ok (k.blk hk s H A cl fp) h8).re) (folded hns)) fun Dn σ H z => ?_
      rw [own_snd]
      exact lcP_ok hsk (fun i hi => by
        have := List.all_eq_true.mp h2 i hi
        simpa using this) h3 (fin Dn σ H z)
    · cases h
  | lc2 own own2 g sk src ifs g2 sk2 src2 ifs2 elt =>
    simp only [chkE] at h
    split at h
    · rename_i hv
      split at h
      · rename_i hs hs2
        obtain ⟨p, rfl⟩ := asLc2_ok hv
        simp only [Bool.and_eq_true] at h
        obtain ⟨⟨⟨⟨⟨⟨⟨⟨⟨⟨⟨⟨⟨⟨h1, h2⟩, h3⟩, h4⟩, h5⟩, h6⟩, h7⟩, h8⟩, h9⟩, h10⟩, h11⟩, h12⟩, h13⟩, h14⟩, h15⟩ := h
        have bo := blkOk_by h1
        have hk := bo.kind
        have sub : ∀ {a b : List Nat}, a.all (fun i => b.contains i) = true → ∀ i, i ∈ a → i ∈ b := fun h i hi => by
          have := List.all_eq_true.mp h i hi
          simpa using this
        refine PS.imp (ps_setLc2 (te := rE c xc WN C elt) (vs1 := own2) k.cc.calm nd hi hy hsw (src_pi k hs (chkL_ok k h4)) (by rw [k.hN, k.hs]; exact bo) (by rw [own_snd]; exact sub h8) (fun s H A cl fp => chkG_ok (c := c) (k.blk hk s H A cl fp).cc.calm k.hN (k.blk hk s H A cl fp).hs k.nd k.cc.hK (k.blk hk s H A cl fp).fn h5)
          (fun s H A cl fp => tIfs_pts (chkL_ok (k.blk hk s H A cl fp) h12) h3 h6) (fun s H A cl fp => src_pi (k.blk hk s H A cl fp) hs2 (chkL_ok (k.blk hk s H A cl fp) h14)) (fun s H A cl fp => chkG_ok (c := c) (k.blk hk s H A cl fp).cc.calm k.hN (k.blk hk s H A cl fp).hs k.nd k.cc.hK (k.blk hk s H A cl fp).fn h10)
          (fun s H A cl fp => tIfs_pts (chkL_ok (k.blk hk s H A cl fp) h15) h9 h11) (fun s H A cl fp => (chk_ok (k.blk hk s H A cl fp) h13).re) (folded (srcArgs_noSet hs)) (fun env => folded (srcArgs_noSet hs2))) fun Dn σ H z => ?_
        rw [own_snd]
        exact lc2_ok (sub h2) (sub h7) (sub h8) h3 h9 (fin Dn σ H z)
      · cases h
    · cases h
  | _ => cases hlc
theorem sw_not {elt : Expr} {gs : List Comprehension} {scope : Scope} {pos p : Pos} {x : Str} {l : Nat} {env : PySem.Env} (h : (p.line == pos.line && decide (env.scope.names.lookup x = some .local) && !capt scope x) = false) : swapsWith (.ListComp elt gs scope pos) (some (.Name x p)) l env = pure false := by
  have e : (env.blockKind == .function && env.kindOf x == some .local && p.line == pos.line && !capt scope x) = false := by
    have hk : env.kindOf x = env.scope.names.lookup x := rfl
    rw [hk]
    cases h1 : (p.line == pos.line) with
    | false => simp
    | true =>
      rw [h1] at h
      by_cases h2 : env.scope.names.lookup x = some .local
      · rw [h2] at h ⊢
        simp at h
        simp [h]
      · have : (env.scope.names.lookup x == some .local) = false := by simpa using h2
        rw [this]; simp
  show (pure (env.blockKind == .function && env.kindOf x == some .local && p.line == pos.line && !capt scope x) : Sem Bool) = pure false
  rw [e]
theorem chkAsg_ok (k : Xk T c xc C lv X N sc st W) {g : G} {e : E} {tg e' : Expr} {pos : Pos} (h : chkAsg T N sc st pr g e tg e' = true) : PS X (.Assign [tg] e' pos) (rS c xc W C cs wf pr (.asg g e)) := by
  have nd : X.N.Nodup := by rw [k.hN]; exact k.nd
  unfold chkAsg at h
  split at h
  · rename_i i x p
    simp only [Bool.and_eq_true] at h
    obtain ⟨⟨⟨h1, h2⟩, h3⟩, h4⟩ := h
    have hp : i ∉ pr := by simpa using h2
    obtain ⟨l1, l2, l3⟩ := k.locN h1
    have fin : ∀ Dn σ H, rS c xc W C cs wf pr (.asg (.name i) e) Dn σ H → tAsg (rE c xc W C e) (gName i) Dn σ H := fun Dn σ H z => by
      have := asg_ok (g := .name i) (fun gs es q => by cases q) (fun p hpp z => by simp only [names, List.mem_singleton] at z; exact hp (z ▸ hpp)) z
      simpa only [gR] using this
    have plain : (swapsWith e' (some (.Name x p)) pos.line X.env = pure false) → PS X (.Assign [.Name x p] e' pos) (rS c xc W C cs wf pr (.asg (.name i) e)) := fun sw => PS.imp (ps_set nd l1 l2 (chk1_ok k h4) sw l3) fin
    unfold nameOk at h3
    split at h3
    · rename_i elt gens scope lpos
      split at h3
      · rename_i hl
        have q1 := h3
        simp only [Bool.and_eq_true] at hl
        obtain ⟨⟨hl, q2⟩, q3⟩ := hl
        have hloc : X.env.scope.names.lookup x = some .local := by rw [k.hs]; exact of_decide_eq_true q2
        exact setLc_ok k hp l1 hloc q1 (by cases e <;> first | (cases q1; done) | exact h4) (sw_true (by rw [k.hs]; exact k.kind) hloc hl (by simpa [capt] using q3))
      · rename_i hl
        exact plain (sw_not (by rw [k.hs]; simpa using hl))
    · exact plain (sw_no h3)
  · rename_i gs ts kk p
    split at h
    · rename_i es vs k2 p2
      unfold chkPar at h
      simp only [Bool.and_eq_true] at h
      obtain ⟨⟨⟨⟨h1, h2⟩, h3⟩, h4⟩, h5⟩ := h
      have sl := chkL_ok k h1
      have hl := of_decide_eq_true h3
      have hpr := prot_of h4
      split at h5
      · rename_i hc
        simp only [Bool.and_eq_true] at h5 hc
        obtain ⟨⟨q1, q2⟩, q3⟩ := h5
        have hf : vs.all (foldedForSure 8) = false := by simpa using hc.1.2
        have hca : vs.all (constantsAlone 8) = false := by simpa using q2
        have hlen := of_decide_eq_true q3
        unfold parTwo at q1
        split at q1
        · rename_i i j x px y py
          simp only [Bool.and_eq_true] at q1
          obtain ⟨⟨⟨⟨⟨r1, r2⟩, r3⟩, r4⟩, r5⟩, r6⟩ := q1
          have e1 : X.N[i]? = some x := by rw [k.hN]; exact of_decide_eq_true r1
          have e2 : X.N[j]? = some y := by rw [k.hN]; exact of_decide_eq_true r2
          have hij := of_decide_eq_true r3
          have lx : X.env.scope.names.lookup x = some .local := by rw [k.hs]; exact of_decide_eq_true r4
          have ly : X.env.scope.names.lookup y = some .local := by rw [k.hs]; exact of_decide_eq_true r5
          have hxy : x ≠ y := fun z => hij (nodup_ix nd e1 (z ▸ e2))
          match vs, hlen, sl, h2, hf, hca with
          | [a, b], hlen, sl, h2, hf, hca =>
            refine PS.imp (ps_par k.cc.calm nd e1 e2 hij lx ly (sl.pl h2) (sws_two (by rw [k.hs]; exact k.kind) lx ly hxy r6 hlen h2 hf hca) rfl) fun Dn σ H z => par_ok (fun p hp => ?_) z
            have := hpr p hp
            simp only [namesL, names, List.append_nil, List.cons_append, List.nil_append, List.mem_cons, List.not_mem_nil, or_false, not_or] at this
            exact this
        · rename_i i j l x px y py z pz
          simp only [Bool.and_eq_true] at q1
          obtain ⟨⟨⟨⟨⟨⟨⟨⟨⟨⟨r1, r2⟩, r2'⟩, r3⟩, r3'⟩, r3''⟩, r4⟩, r5⟩, r5'⟩, r6⟩, r7⟩ := q1
          have e1 : X.N[i]? = some x := by rw [k.hN]; exact of_decide_eq_true r1
          have e2 : X.N[j]? = some y := by rw [k.hN]; exact of_decide_eq_true r2
          have e3 : X.N[l]? = some z := by rw [k.hN]; exact of_decide_eq_true r2'
          have hij := of_decide_eq_true r3
          have hil := of_decide_eq_true r3'
          have hjl := of_decide_eq_true r3''
          have lx : X.env.scope.names.lookup x = some .local := by rw [k.hs]; exact of_decide_eq_true r4
          have ly : X.env.scope.names.lookup y = some .local := by rw [k.hs]; exact of_decide_eq_true r5
          have lz : X.env.scope.names.lookup z = some .local := by rw [k.hs]; exact of_decide_eq_true r5'
          match vs, hlen, sl, h2, hf, hca with
          | [a, b, d], hlen, sl, h2, hf, hca =>
            refine PS.imp (ps_par3 k.cc.calm nd e1 e2 e3 hij hil hjl lx ly lz (sl.pl h2) (sws_three (by rw [k.hs]; exact k.kind) lx ly lz (fun z => hij (nodup_ix nd e1 (z ▸ e2))) (fun z => hil (nodup_ix nd e1 (z ▸ e3))) (fun z => hjl (nodup_ix nd e2 (z ▸ e3))) r6 r7 hlen h2 hf hca) rfl) fun Dn σ H z => par3_ok (fun p hp => ?_) z
            have := hpr p hp
            simp only [namesL, names, List.append_nil, List.cons_append, List.nil_append, List.mem_cons, List.not_mem_nil, or_false, not_or] at this
            exact this
        · cases q1
      · rename_i hc
        simp only [Bool.and_eq_true] at h5
        have hsw : swappedStores [.Tuple ts kk p] (.Tuple vs k2 p2) X.env = pure none := by
          by_cases h2 : (ts.length == 2 || ts.length == 3) = true
          · by_cases h3 : cellTg sc ts = true
            · exact sws_cell (by rw [k.hs]; exact h3)
            · exact sws_fold (by simpa [h2, h3] using hc)
          · exact sws_long (by simpa using h2)
        have pg := chkG_ok (c := c) (g := .tup gs) (e := .Tuple ts kk p) k.cc.calm k.hN k.hs k.nd k.cc.hK k.fn (by simp only [chkG, h5.1, h5.2, Bool.and_self])
        exact PS.imp (ps_asg (pe_tup (sl.pl h2)) pg (sw_sole rfl) hsw (asgCons rfl)) fun Dn σ H z => parT_ok hpr hl z
    · simp only [Bool.and_eq_true] at h
      obtain ⟨⟨⟨⟨h1, h2⟩, h3⟩, h4⟩, h5⟩ := h
      have hpr := prot_of h4
      exact PS.imp (ps_asg (chk_ok k h5).re (chkG_ok (c := c) k.cc.calm k.hN k.hs k.nd k.cc.hK k.fn h3) (sw_sole rfl) (sws_no h2) (asgCons rfl)) fun Dn σ H z => asg_ok (fun gs es q z => by
        subst z
        cases h1) (by simpa only [names] using hpr) z
  · cases h
/-! ### raise -/
/-- C(e), its field f -/
def tMk1 (A : Addr) (f : Str) (ta : TE) : L2.St → Hp → XK → Prop := fun σ H Q => ta σ H fun v H1 => ∀ d, H1 d = none → Q (.ref A) (some d) (upd H1 d (.xd [(f, v)]))
/-- the classes of exceptions of the text, as they are made -/
structure Mkx (T : Tab) (xc : Xc) (X : Cx) (sc : Scope) : Prop where
  mk0 : ∀ i x A p pos, T.clss[i]? = some x → xc i = some (A, none) → glob sc x = true → PMk X (.Call (.Name x p) [] [] pos) (fun _ H Q => Q (.ref A) none H)
  mk1 : ∀ i x A f a ta p pos, T.clss[i]? = some x → xc i = some (A, some f) → glob sc x = true → noStar a = true → PE X a ta → PMk X (.Call (.Name x p) [a] [] pos) (tMk1 A f ta)
theorem raise0_ok {i : Nat} {A : Addr} {σ : L2.St} {H : Hp} {Dn : Ends} (hx : xc i = some (A, none)) (h : rS c xc W C cs wf pr (.raise i .nil) Dn σ H) : W (.ref A) none σ H := by
  obtain ⟨env, F, O, g, p⟩ := h
  unfold evS at p
  exact p F H _ _ σ ⟨fun _ z => z, fun _ z => z.elim, fun _ z => .inl z, fun _ _ q _ => q, fun _ q => q⟩ g.dom rfl ⟨A, none, hx, rfl, .inl ⟨rfl, rfl, rfl⟩⟩
theorem raise1_ok {i : Nat} {A : Addr} {f : Str} {e : E} {σ : L2.St} {H : Hp} {Dn : Ends} (hx : xc i = some (A, some f)) (h : rS c xc W C cs wf pr (.raise i (.cons e .nil)) Dn σ H) : tMk1 A f (rE c xc W C e) σ H fun cls d H' => W cls d σ H' := by
  obtain ⟨env, F, O, g, p⟩ := h
  unfold evS at p
  refine ⟨env, F, O, g, ?_⟩
  cases e1 : evE C e env with
  | bad => rw [e1] at p; exact p
  | exc env1 y => rw [e1] at p; exact p
  | ok env1 k d =>
    rw [e1] at p
    intro F1 O1 H1 v fp s1 g1 t fr dd hd
    obtain ⟨g2, t2⟩ := t.freeze g1
    have sm := Same.new (o := .xd [(f, v)]) hd
    have st := Step.same (Step.fz s1 fr) sm
    exact p _ _ _ _ σ ⟨st.mono, fun _ z => z.elim, st.frz, st.keep, st.dom⟩ (Good.same g2 sm).dom rfl ⟨A, some f, hx, rfl, .inr ⟨d, f, dd, v, rfl, rfl, rfl, upd_same, Rep.same t2.rep sm⟩⟩
def asRaise : Stmt → Option (Str × List Expr)
  | .Raise (some (.Call (.Name x _) l [] _)) none _ => some (x, l)
  | _ => none
theorem asRaise_ok {s : Stmt} {x : Str} {l : List Expr} (h : asRaise s = some (x, l)) : ∃ p q r, s = .Raise (some (.Call (.Name x p) l [] q)) none r := by
  unfold asRaise at h
  split at h
  · cases h; exact ⟨_, _, _, rfl⟩
  · cases h
def chkRaise (T : Tab) (N : List Str) (sc : Scope) (st : Str → Bool) (xf : Nat → Option Bool) (i : Nat) (x : Str) : Es → List Expr → Bool
  | .nil, [] => decide (T.clss[i]? = some x) && glob sc x && decide (xf i = some false)
  | .cons e .nil, [a] => decide (T.clss[i]? = some x) && glob sc x && decide (xf i = some true) && noStar a && chkE T N e sc st a
  | _, _ => false
/-- xf i: the class i has a field -/
def Xf (xf : Nat → Option Bool) (xc : Xc) : Prop := ∀ i b, xf i = some b → ∃ A f, xc i = some (A, f) ∧ b = f.isSome
theorem chkRaise_ok (k : Xk T c xc C lv X N sc st W) (mk : Mkx T xc X sc) {xf : Nat → Option Bool} (hf : Xf xf xc) {i : Nat} {x : Str} {es : Es} {l : List Expr} {p q r : Pos} (h : chkRaise T N sc st xf i x es l = true) :
    PS X (.Raise (some (.Call (.Name x p) l [] q)) none r) (rS c xc W C cs wf pr (.raise i es)) := by
  unfold chkRaise at h
  split at h
  · simp only [Bool.and_eq_true] at h
    obtain ⟨⟨h1, h2⟩, h3⟩ := h
    obtain ⟨A, f, hx, hb⟩ := hf i _ (of_decide_eq_true h3)
    cases f with
    | some f => cases hb
    | none => exact PS.imp (ps_raise k.cc.calm k.tk (mk.mk0 i x A p q (of_decide_eq_true h1) hx h2)) fun Dn σ H z => raise0_ok hx z
  · simp only [Bool.and_eq_true] at h
    obtain ⟨⟨⟨⟨h1, h2⟩, h3⟩, h4⟩, h5⟩ := h
    obtain ⟨A, f, hx, hb⟩ := hf i _ (of_decide_eq_true h3)
    cases f with
    | none => cases hb
    | some f => exact PS.imp (ps_raise k.cc.calm k.tk (mk.mk1 i x A f _ _ p q (of_decide_eq_true h1) hx h2 h4 (chk_ok k h5).re)) fun Dn σ H z => raise1_ok hx z
  · cases h
/-! ### try -/
def asTry : Stmt → Option (List Stmt × ExceptHandler × List ExceptHandler)
  | .Try b (h0 :: hr) [] [] _ => some (b, h0, hr)
  | _ => none
theorem asTry_ok {s : Stmt} {b : List Stmt} {h0 : ExceptHandler} {hr : List ExceptHandler} (h : asTry s = some (b, h0, hr)) : ∃ p, s = .Try b (h0 :: hr) [] [] p := by
  unfold asTry at h
  split at h
  · cases h; exact ⟨_, rfl⟩
  · cases h
/-- what a try needs of its place -/
structure TryX (T : Tab) (xc : Xc) (xn : Nat → Option Str) (cs : Clss) (X : Cx) (sc : Scope) : Prop where
  hx : Hx T xc xn cs X.K X.mg
  made : ∀ pn xe, Mkx T xc (X.tr pn xe) sc
  st : X.stack = X.env :: X.outer
  fr : X.env.frame = some X.env.locals
theorem TryX.tr {X : Cx} {sc : Scope} {xn : Nat → Option Str} (t : TryX T xc xn cs X sc) (pn : List (Addr × Obj)) (xe : Value → Shared → Prop) : TryX T xc xn cs (X.tr pn xe) sc := ⟨t.hx, fun pn' xe' => t.made pn' xe', t.st, t.fr⟩
theorem Xk.tr {W' : WX} (k : Xk T c xc C lv X N sc st W) (pn : List (Addr × Obj)) (xe : Value → Shared → Prop) (tk : Takes (X.tr pn xe) W') : Xk T c xc C lv (X.tr pn xe) N sc st W' :=
  ⟨k.kn, ⟨k.cc.hK, k.cc.calm, k.cc.un⟩, k.room, k.hN, k.hs, k.nd, k.dbg, tk, k.fn, k.kind⟩
/-! ### statements -/
mutual
def chkS (T : Tab) (N : List Str) (sc : Scope) (st : Str → Bool) (pr : List Nat) (xf : Nat → Option Bool) (xn : Nat → Option Str) : S → Stmt → Bool
  | .asg g e, s => (match asAsg s with
    | some (tg, e', _) => chkAsg T N sc st pr g e tg e'
    | none => false)
  | .asgTS i ix g e, s => (match asAsg s with
    | some (tg, e', _) => (match asTup tg with
      | some [t1, t2] => (match asSub t1 with
        | some (n, ix') => (match asName n with
          | some x => vis N sc i x && (noSlice ix' && chkE T N ix sc st ix') && chkG N sc st g t2 && noStar t2 && pr.all (fun p => !(names g).contains p) && chkE T N e sc st e' && (noTup e' || (match asTup e' with
            | some vs => !([t1, t2].length == 2 || [t1, t2].length == 3) || vs.all (foldedForSure 8) || true
            | none => false))
          | none => false)
        | none => false)
      | _ => false)
    | none => false)
  | .setIx i .nil ix e, s => (match asAsg s with
    | some (tg, e', _) => (match asSub tg with
      | some (n, ix') => (match asName n with
        | some x => vis N sc i x && (noSlice ix' && chkE T N ix sc st ix') && chkE T N e sc st e'
        | none => false)
      | none => false)
    | none => false)
  | .setIx _ (.cons _ _) _ _, _ => false
  | .setD i ix e, s => (match asAsg s with
    | some (tg, e', _) => (match asSub tg with
      | some (n, ix') => (match asName n with
        | some x => vis N sc i x && chkE T N ix sc st ix' && chkE T N e sc st e'
        | none => false)
      | none => false)
    | none => false)
  | .setF i x e, s => (match asAsg s with
    | some (tg, e', _) => (match asFld tg with
      | some (n, x') => (match asName n with
        | some y => decide (x = x') && T.flds.contains x && vis N sc i y && chkE T N e sc st e'
        | none => false)
      | none => false)
    | none => false)
  | .aug i o2 e, s => (match asAug s with
    | some (t, o, e') => (match asName t with
      | some x => decide (o2 = .add) && isAddO o && stored N sc st i x && !pr.contains i && chkE T N e sc st e'
      | none => false)
    | none => false)
  | .augIx i ix o2 e, s => (match asAug s with
    | some (t, o, e') => (match asSub t with
      | some (n, ix') => (match asName n with
        | some x => decide (o2 = .add) && isAddO o && vis N sc i x && noSlice ix' && chkE T N ix sc st ix' && chkE T N e sc st e'
        | none => false)
      | none => false)
    | none => false)
  | .ife t a b, s => (match asIfS s with
    | some (t', a', b') => tst t' && chkE T N t sc st t' && chkSs T N sc st pr xf xn a a' && chkSs T N sc st pr xf xn b b'
    | none => false)
  | .while t b, s => (match asWhile s with
    | some (t', b') => tst t' && chkE T N t sc st t' && chkSs T N sc st pr xf xn b b'
    | none => false)
  | .for g sk src b, s => (match asFor s with
    | some (tg, it, b') => (match srcArgs sc sk tg it with
      | some l => chkL T N src sc st l && chkG N sc st g tg && pr.all (fun p => !(names g).contains p) && chkSs T N sc st pr xf xn b b'
      | none => false)
    | none => false)
  | .ret e, s => (match asRet s with
    | some (some e') => chkE T N e sc st e'
    | _ => false)
  | .retN, s => (match asRet s with
    | some none => true
    | _ => false)
  | .brk, s => isBrk s
  | .cnt, s => isCnt s
  | .pass, s => isPass s
  | .expr e, s => (match asExprS s with
    | some e' => noComp e' && chkE T N e sc st e'
    | none => false)
  | .raise i es, s => (match asRaise s with
    | some (x, l) => chkRaise T N sc st xf i x es l
    | none => false)
  | .try b hs, s => (match asTry s with
    | some (b', h0, hr) => decide (pr = []) && chkHs T N sc xn hs (h0 :: hr) && chkSs T N sc st pr xf xn b b'
    | none => false)
def chkSs (T : Tab) (N : List Str) (sc : Scope) (st : Str → Bool) (pr : List Nat) (xf : Nat → Option Bool) (xn : Nat → Option Str) : Ss → List Stmt → Bool
  | .nil, [] => true
  | .cons s r, x :: l => chkS T N sc st pr xf xn s x && chkSs T N sc st pr xf xn r l
  | _, _ => false
end
theorem sws_subt {a b t2 e : Expr} {p p2 : Pos} {k : Nat} {env : PySem.Env} : swappedStores [.Tuple [.Subscript a b p, t2] k p2] e env = pure none := by
  cases e with
  | Tuple vs k2 p3 =>
    unfold swappedStores
    simp only [List.filterMap_cons, List.filterMap_nil, List.length_cons, List.length_nil]
    split
    · rfl
    · split
      · rfl
      · refine if_pos ?_
        rw [Bool.or_eq_true]
        left
        split <;> rfl
  | _ => rfl
theorem asgSub {o i : Expr} {pos : Pos} {env : PySem.Env} (h : noSlice i = true) : ∀ v, assign (.Subscript o i pos) env v = (do
      let ov ← holding [v] (eval o env)
      let iv ← holding [v, ov] (eval i env)
      standAt pos
      holding [v, ov, iv] (setItem ov iv v)
      release [v, ov, iv] []) := fun v => by
  cases i <;> first | rfl | cases h
mutual
theorem chkS_ok {xf : Nat → Option Bool} {xn : Nat → Option Str} (hf : Xf xf xc) : ∀ {s : S} {t : Stmt} {X : Cx} {W : WX} (k : Xk T c xc C lv X N sc st W) (mk : Mkx T xc X sc) (ps : PassesOwn (model X.prog X.w) X.A X.env X.xe) (tx : TryX T xc xn cs X sc), chkS T N sc st pr xf xn s t = true → PS X t (rS c xc W C cs wf pr s)
  | .asg g e, t, X, W, k, mk, ps, tx, h => by
    simp only [chkS] at h
    split at h
    · rename_i hv
      obtain rfl := asAsg_ok hv
      exact chkAsg_ok k h
    · cases h
  | .asgTS i ix g e, t, X, W, k, mk, ps, tx, h => by
    simp only [chkS] at h
    split at h
    · rename_i hv
      obtain rfl := asAsg_ok hv
      split at h
      · rename_i h1
        obtain ⟨j, p, rfl⟩ := asTup_ok h1
        split at h
        · rename_i h2
          obtain ⟨p2, rfl⟩ := asSub_ok h2
          split at h
          · rename_i h3
            obtain ⟨p3, rfl⟩ := asName_ok h3
            simp only [Bool.and_eq_true] at h
            obtain ⟨⟨⟨⟨⟨⟨q1, q2⟩, q3⟩, q4⟩, q5⟩, q6⟩, _⟩ := h
            have pg1 := pg_sub (pos := p2) (k.var (pos := p3) q1) (chk_ok k q2.2).pe set_list (asgSub q2.1)
            have pgs := pgs_cons pg1 (pgs_cons (chkG_ok (c := c) k.cc.calm k.hN k.hs k.nd k.cc.hK k.fn q3) pgs_nil (asgCons q4)) (asgCons rfl)
            have pg := pg_tup (k := j) (pos := p) (n := 2) k.cc.calm pgs asgLen (asgStar (by rw [List.all_cons, List.all_cons, q4]; rfl))
            rw [k.cc.hK] at pg
            exact PS.imp (ps_asg (chk_ok k q6).re pg (sw_sole rfl) sws_subt (asgCons rfl)) fun Dn σ H z => asgTS_ok (prot_of q5) z
          · cases h
        · cases h
      · cases h
    · cases h
  | .setIx i .nil ix e, t, X, W, k, mk, ps, tx, h => by
    simp only [chkS] at h
    split at h
    · rename_i hv
      obtain rfl := asAsg_ok hv
      split at h
      · rename_i h2
        obtain ⟨p2, rfl⟩ := asSub_ok h2
        split at h
        · rename_i h3
          obtain ⟨p3, rfl⟩ := asName_ok h3
          simp only [Bool.and_eq_true] at h
          exact PS.imp (ps_asg (chk_ok k h.2).re (pg_sub (k.var h.1.1) (chk_ok k h.1.2.2).pe set_list (asgSub h.1.2.1)) (sw_sole rfl) sws_sub (asgCons rfl)) fun Dn σ H z => setIx_ok (fun _ _ => trivial) z
        · cases h
      · cases h
    · cases h
  | .setIx i (.cons a b) ix e, t, X, W, k, mk, ps, tx, h => by simp only [chkS] at h; cases h
  | .setD i ix e, t, X, W, k, mk, ps, tx, h => by
    simp only [chkS] at h
    split at h
    · rename_i hv
      obtain rfl := asAsg_ok hv
      split at h
      · rename_i h2
        obtain ⟨p2, rfl⟩ := asSub_ok h2
        split at h
        · rename_i h3
          obtain ⟨p3, rfl⟩ := asName_ok h3
          simp only [Bool.and_eq_true] at h
          exact PS.imp (ps_dputX (by have := k.cc.un; omega) (k.var h.1.1) (chk_ok k h.1.2).pe (chk_ok k h.2).re (sw_tg rfl)) fun Dn σ H z => setD_ok z
        · cases h
      · cases h
    · cases h
  | .setF i x e, t, X, W, k, mk, ps, tx, h => by
    simp only [chkS] at h
    split at h
    · rename_i hv
      obtain rfl := asAsg_ok hv
      split at h
      · rename_i h2
        obtain ⟨p2, rfl⟩ := asFld_ok h2
        split at h
        · rename_i h3
          obtain ⟨p3, rfl⟩ := asName_ok h3
          simp only [Bool.and_eq_true] at h
          obtain ⟨⟨⟨q1, q2⟩, q3⟩, q4⟩ := h
          obtain rfl := of_decide_eq_true q1
          exact PS.imp (ps_fld (k.var q3) (chk_ok k q4).re (sw_tg rfl)) fun Dn σ H z => setF_ok (T := T.flds) k.kn.fld_ (by simpa using q2) z
        · cases h
      · cases h
    · cases h
  | .aug i o2 e, t, X, W, k, mk, ps, tx, h => by
    simp only [chkS] at h
    split at h
    · rename_i hv
      obtain ⟨p, rfl⟩ := asAug_ok hv
      split at h
      · rename_i h2
        obtain ⟨p2, rfl⟩ := asName_ok h2
        simp only [Bool.and_eq_true] at h
        obtain ⟨⟨⟨⟨q0, q1⟩, q2⟩, q3⟩, q4⟩ := h
        obtain rfl := of_decide_eq_true q0
        obtain rfl := isAddO_ok q1
        obtain ⟨l1, l2, l3⟩ := k.locN q2
        exact PS.imp (ps_aug (by rw [k.hN]; exact k.nd) l1 l2 (chk_ok k q4).pe ip_add l3) fun Dn σ H z => aug_ok (fun p hp e => by
          subst e
          simp at q3
          exact q3 hp) z
      · cases h
    · cases h
  | .augIx i ix o2 e, t, X, W, k, mk, ps, tx, h => by
    simp only [chkS] at h
    split at h
    · rename_i hv
      obtain ⟨p, rfl⟩ := asAug_ok hv
      split at h
      · rename_i h2
        obtain ⟨p2, rfl⟩ := asSub_ok h2
        split at h
        · rename_i h3
          obtain ⟨p3, rfl⟩ := asName_ok h3
          simp only [Bool.and_eq_true] at h
          obtain ⟨⟨⟨⟨⟨q0, q1⟩, q2⟩, q3⟩, q4⟩, q5⟩ := h
          obtain rfl := of_decide_eq_true q0
          obtain rfl := isAddO_ok q1
          exact PS.imp (ps_augS (k.var q2) (chk_ok k q4).pe pg_listL (chk_ok k q5).pe ip_add set_list (augSub q3)) fun Dn σ H z => by
            rw [k.cc.hK]
            exact augIx_ok z
        · cases h
      · cases h
    · cases h
  | .ife t0 a b, t, X, W, k, mk, ps, tx, h => by
    simp only [chkS] at h
    split at h
    · rename_i hv
      obtain ⟨p, rfl⟩ := asIfS_ok hv
      simp only [Bool.and_eq_true] at h
      exact PS.imp (ps_if ((chk_ok k h.1.1.2).pt h.1.1.1) (chkSs_ok hf k mk ps tx h.1.2) (chkSs_ok hf k mk ps tx h.2)) fun Dn σ H z => ife_ok z
    · cases h
  | .while t0 b, t, X, W, k, mk, ps, tx, h => by
    simp only [chkS] at h
    split at h
    · rename_i hv
      obtain ⟨p, rfl⟩ := asWhile_ok hv
      simp only [Bool.and_eq_true] at h
      exact PS.imp (ps_while ps ((chk_ok k h.1.2).pt h.1.1) (chkSs_ok hf k mk ps tx h.2)) fun Dn σ H z => while_ok z
    · cases h
  | .for g sk src b, t, X, W, k, mk, ps, tx, h => by
    simp only [chkS] at h
    split at h
    · rename_i hv
      obtain ⟨p, rfl⟩ := asFor_ok hv
      split at h
      · rename_i hs
        simp only [Bool.and_eq_true] at h
        exact PS.imp (ps_for ps k.cc.calm (src_pi k hs (chkL_ok k h.1.1.1)) (chkG_ok (c := c) k.cc.calm k.hN k.hs k.nd k.cc.hK k.fn h.1.1.2) (chkSs_ok hf k mk ps tx h.2) (folded (srcArgs_noSet hs))) fun Dn σ H z => for_ok (prot_of h.1.2) z
      · cases h
    · cases h
  | .ret e, t, X, W, k, mk, ps, tx, h => by
    simp only [chkS] at h
    split at h
    · rename_i hv
      obtain ⟨p, rfl⟩ := asRet_ok hv
      exact PS.imp (ps_ret (chk_ok k h).re) fun Dn σ H z => ret_ok z
    · cases h
  | .retN, t, X, W, k, mk, ps, tx, h => by
    simp only [chkS] at h
    split at h
    · rename_i hv
      obtain ⟨p, rfl⟩ := asRet_ok hv
      exact PS.imp ps_retN fun Dn σ H z => retN_ok z
    · cases h
  | .brk, t, X, W, k, mk, ps, tx, h => by
    cases t <;> first | (simp [chkS, isBrk] at h; done) | skip
    exact PS.imp ps_break fun Dn σ H z => brk_ok z
  | .cnt, t, X, W, k, mk, ps, tx, h => by
    cases t <;> first | (simp [chkS, isCnt] at h; done) | skip
    exact PS.imp ps_continue fun Dn σ H z => cnt_ok z
  | .pass, t, X, W, k, mk, ps, tx, h => by
    cases t <;> first | (simp [chkS, isPass] at h; done) | skip
    exact PS.imp ps_pass fun Dn σ H z => pass_ok z
  | .expr e, t, X, W, k, mk, ps, tx, h => by
    simp only [chkS] at h
    split at h
    · rename_i hv
      obtain ⟨p, rfl⟩ := asExprS_ok hv
      simp only [Bool.and_eq_true] at h
      exact PS.imp (ps_expr (chk_ok k h.2).re (sw_no h.1)) fun Dn σ H z => expr_ok z
    · cases h
  | .raise i es, t, X, W, k, mk, ps, tx, h => by
    simp only [chkS] at h
    split at h
    · rename_i hv
      obtain ⟨p, q, r, rfl⟩ := asRaise_ok hv
      exact chkRaise_ok k mk hf h
    · cases h
  | .try b hs, t, X, W, k, mk, ps, tx, h => by
    simp only [chkS] at h
    split at h
    · rename_i b' h0 hr hv
      obtain ⟨p, rfl⟩ := asTry_ok hv
      simp only [Bool.and_eq_true] at h
      obtain ⟨⟨h1, h2⟩, h3⟩ := h
      have hp := of_decide_eq_true h1
      exact PS.imp (ps_tryAs (tb := fun W' => rSs c xc W' C cs wf pr b) tx.st tx.fr (nodupN k) k.tk (fun W' pn xe tk po => chkSs_ok hf (k.tr pn xe tk) (tx.made pn xe) po (tx.tr pn xe) h3) (hds_ok tx.hx k h2)) fun Dn σ H z => by
        subst hp
        exact try_ok tx.hx h2 z
    · cases h
theorem chkSs_ok {xf : Nat → Option Bool} {xn : Nat → Option Str} (hf : Xf xf xc) : ∀ {s : Ss} {t : List Stmt} {X : Cx} {W : WX} (k : Xk T c xc C lv X N sc st W) (mk : Mkx T xc X sc) (ps : PassesOwn (model X.prog X.w) X.A X.env X.xe) (tx : TryX T xc xn cs X sc), chkSs T N sc st pr xf xn s t = true → PSs X t (rSs c xc W C cs wf pr s)
  | .nil, [], X, W, k, mk, ps, tx, h => ⟨fun pins s σ H D I q => pss_nil.run pins s σ H D I (snil_ok q)⟩
  | .nil, _ :: _, X, W, k, mk, ps, tx, h => by simp only [chkSs] at h; cases h
  | .cons _ _, [], X, W, k, mk, ps, tx, h => by simp only [chkSs] at h; cases h
  | .cons s r, x :: l, X, W, k, mk, ps, tx, h => by
    simp only [chkSs, Bool.and_eq_true] at h
    exact ⟨fun pins s0 σ H D I q => (pss_cons (chkS_ok hf k mk ps tx h.1) (chkSs_ok hf k mk ps tx h.2)).run pins s0 σ H D I (scons_ok q)⟩
end
end
end Pv
end
section
set_option maxRecDepth 100000
set_option maxHeartbeats 8000000
/-! PvDef: the defs of a text keep what the evaluator says. -/
namespace Pv
open PySem PySem.Spec PyProof.Rows L2
section
variable {c : Cn} {xc : Xc}
theorem noneS_get : ∀ {n i : Nat}, getS (noneS n) i = none
  | 0, _ => rfl
  | _ + 1, 0 => rfl
  | n + 1, i + 1 => noneS_get (n := n) (i := i)
theorem Slots.more {F : Addr → Prop} {H : Hp} {env : Env} {σ : L2.St} {l : List Addr} (s : Slots c F H env σ l) (m : Nat) : Slots c F H (env ++ noneS m) (σ ++ List.replicate m none) l := by
  induction s with
  | nil =>
    induction m with
    | zero => exact .nil
    | succ m ih => exact .non none ih
  | non o r ih => exact .non o ih
  | som h r ih => exact .som h ih
theorem Good.start {F O : Addr → Prop} {H : Hp} {l : Env} {vs : List V} {N : List Str} (g : Good c F l (vs.map some) H O) : Good c F (startS l N.length) (L2.start N vs) H O := by
  have hl := g.len
  rw [List.length_map] at hl
  obtain ⟨q, s, nd, e⟩ := g.l
  have := s.more (N.length - l.length)
  refine ⟨⟨q, ?_, nd, e⟩, g.disj, g.dom⟩
  unfold startS L2.start
  rw [hl]
  exact this
def prOf : Option Nat → List Nat
  | none => []
  | some p => [p]
/-- from what a def gives to what its body is to reach -/
theorem end_ok {F O : Addr → Prop} {H : Hp} {vs : List V} {N : List Str} {out : Option Nat} {Q : VK} {E : XK} {r : SR} (ho : ∀ p, out = some p → p < vs.length) (h : PostC c xc F O H vs out Q E (endOf out r)) :
    PostS c xc (fun cls d _ H' => E cls d H') (prOf out) (start N vs) F O H { nx := fun _ H' => Q .non H', rt := Q } r := by
  have noO : ∀ {F' O' : Addr → Prop} {H' : Hp}, Step F O H F' O' H' → Step F O H F' NoO H' := fun s => ⟨s.mono, fun _ z => z.elim, s.frz, s.keep, s.dom⟩
  have core : ∀ {env' : Env} {k : Nat} {d : D} {F' O' : Addr → Prop} {H' : Hp} {σ' : L2.St} {v : V} {fp : List Addr}, PostC c xc F O H vs out Q E (endOf out (.ret env' k d)) → Step F O H F' O' H' → Good c F' env' σ' H' O' → Prot (prOf out) (start N vs) σ' → Tmp c F' O' H' k v d fp → (∀ a, a ∈ fp → O a ∨ H a = none) → Q v H' := by
    intro env' k d F' O' H' σ' v fp h s g pt t fr
    cases out with
    | none =>
      simp only [endOf] at h
      exact h F' H' v fp (noO s) g.dom t.rep t.nd t.nF fr
    | some p =>
      simp only [endOf] at h
      cases eg : getS env' p with
      | none => rw [eg] at h; exact h.elim
      | some w =>
        obtain ⟨k2, d2⟩ := w
        rw [eg] at h
        obtain ⟨p', w, e, hw, q⟩ := h
        cases e
        obtain ⟨v', fq, Or, hv, gr, tS, eq⟩ := g.out eg
        have hpl := ho p rfl
        have e1 : (start N vs)[p]? = some (some w) := by
          unfold L2.start
          rw [List.getElem?_append_left (by simpa using hpl)]
          simp [hw]
        have e2 := pt.2 p (by simp [prOf])
        rw [hv, e1] at e2
        cases e2
        have fqO : ∀ a, a ∈ fq → O' a := fun a z => (eq a).mpr (.inl z)
        refine q F' H' v fp fq (noO s) g.dom t.rep tS.rep (List.nodup_append.mpr ⟨t.nd, tS.nd, fun a z b y e => t.nO a z (fqO a (e ▸ y))⟩) (fun a z => (List.mem_append.mp z).elim (t.nF a) fun z => g.disj a (fqO a z)) fun a z => (List.mem_append.mp z).elim (fr a) fun z => s.own a (fqO a z)
  cases r with
  | nx env =>
    intro F' O' H' σ' s g pt
    refine core (env' := env) (k := 9) (d := .none) (v := .non) (fp := []) ?_ s g pt ⟨.non _, List.nodup_nil, (fun a z => by cases z), fun a z => by cases z⟩ fun a z => by cases z
    cases out with
    | none => exact h
    | some p => exact h
  | ret env k d => exact fun F' O' H' σ' v fp s g pt t fr => core h s g pt t fr
  | brk env => exact False.elim h
  | cnt env => exact False.elim h
  | exc env x => exact fun F' H' cls dct σ' s d _ ex => h F' H' cls dct s d ex
  | bad => exact False.elim h
end
/-- a def of the text against its code -/
def scopeOk (N ps : List Str) (sc : Scope) : Bool :=
  decide (sc.kind = .function) && !sc.isCoroutine && !sc.isGenerator && decide N.Nodup && decide (N.take ps.length = ps) && ps.all (fun x => decide (sc.names.lookup x = some .local) || decide (sc.names.lookup x = some .cell)) && sc.names.all fun y => decide (y.2 ≠ .free)
theorem scopeOk_ok {N ps : List Str} {sc : Scope} (h : scopeOk N ps sc = true) : FnScope N ps sc := by
  simp only [scopeOk, Bool.and_eq_true, List.all_eq_true, Bool.or_eq_true, decide_eq_true_eq, Bool.not_eq_true'] at h
  obtain ⟨⟨⟨⟨⟨⟨h1, h2⟩, h3⟩, h4⟩, h5⟩, h6⟩, h7⟩ := h
  exact ⟨h1, h2, h3, h4, h5, h6, h7⟩
def fnOk (T : Tab) (xf : Nat → Option Bool) (xn : Nat → Option Str) (N : List Str) (fn : Fn) (st : Stmt) : Bool := !fn.live || (
  scopeOk N (N.take fn.np) (defScope st) && decide (N.length = fn.slots) && decide (fn.np ≤ N.length) && (prOf fn.out).all (fun p => decide (p < fn.np)) && N.all (fun x => !(x == ("__debug__" : Str)) && !(x == ("__classdict__" : Str))) && chkSs T N (defScope st) (fun _ => true) (prOf fn.out) xf xn fn.body (defBody st))
section
variable {T : Tab} {c : Cn} {xc : Xc} {lv : Nat} {P : Program} {w : World} {K : PySem.W.Frag} {mg : Str → Option Value} {base : Heap} {tb : List Fn} {cs : Clss} {wf n : Nat}
/-- the text's classes can be made, wherever in it -/
def MkAll (T : Tab) (xc : Xc) (P : Program) (w : World) (K : PySem.W.Frag) (mg : Str → Option Value) (base : Heap) : Prop :=
  ∀ (X : Cx) (sc : Scope), X.prog = P → X.w = w → X.K = K → X.mg = mg → X.base = base → X.calm = true → X.env.scope = sc → Room 3 X.A → Mkx T xc X sc
theorem def_ok (hK : K = c.K) (kn : Kn T c xc (callN tb cs wf n) lv P w K mg base) (h3 : 3 ≤ lv) (mk : MkAll T xc P w K mg base) {xf : Nat → Option Bool} {xn : Nat → Option Str} (hf : Xf xf xc) (hx : Hx T xc xn cs K mg) {i : Nat} {fn : Fn} {x : Str} {st : Stmt} {N : List Str} {a : Addr} {fd : FuncData} (htb : tb[i]? = some fn)
    {qn : Str} (F : Fun K x qn st a fd) (hok : fnOk T xf xn N fn st = true) : FnOk P w K mg base (L2.CX P w) (lv + 2) a fd (N.take fn.np) (spC c xc fn.out (callN tb cs wf (n + 1) i)) := by
  cases hlv : fn.live with
  | false =>
    have no : ∀ vs H Q E, ¬ spC c xc fn.out (callN tb cs wf (n + 1) i) vs H Q E := fun vs H Q E ⟨F0, O, l, g, p⟩ => by
      have e : callN tb cs wf (n + 1) i l = .bad := by
        show (match tb[i]? with | some fn => _ | none => _) = _
        rw [htb]
        show (if fn.live && decide (l.length = fn.np) then endOf fn.out (evSs (callN tb cs wf n) cs wf fn.body (startS l fn.slots)) else .bad) = _
        rw [hlv]
        rfl
      rw [e] at p
      exact p
    exact ⟨fun vs H Q E h => (no vs H Q E h).elim, fun A outer s H args us vs Q E _ _ _ _ h => (no _ _ _ _ h).elim⟩
  | true =>
  simp only [fnOk, hlv, Bool.not_true, Bool.false_or, Bool.and_eq_true] at hok
  obtain ⟨⟨⟨⟨⟨o1, o2⟩, o3⟩, o4⟩, o5⟩, o6⟩ := hok
  have o2 := of_decide_eq_true o2
  have o3 := of_decide_eq_true o3
  have e0 : ∀ l, callN tb cs wf (n + 1) i l = if fn.live && decide (l.length = fn.np) then endOf fn.out (evSs (callN tb cs wf n) cs wf fn.body (startS l fn.slots)) else .bad := fun l => by
    show (match tb[i]? with | some fn => _ | none => _) = _
    rw [htb]
  have len : ∀ vs H Q E, spC c xc fn.out (callN tb cs wf (n + 1) i) vs H Q E → vs.length = fn.np := fun vs H Q E ⟨F0, O, l, g, p⟩ => by
    rw [e0] at p
    split at p
    · rename_i hl
      rw [hlv, Bool.true_and] at hl
      have hl := of_decide_eq_true hl
      have := g.len
      rw [List.length_map] at this
      omega
    · exact p.elim
  have S := scopeOk_ok o1
  refine F.okX S (fun vs H Q E h => by rw [len vs H Q E h, List.length_take]; omega) fun cdv A outer s H vs Q E hr h => ?_
  refine ⟨rSs c xc (fun cls d _ H' => E cls d H') (callN tb cs wf n) cs wf (prOf fn.out) fn.body, ?_, ?_⟩
  · refine chkSs_ok hf ⟨kn, ⟨hK, rfl, ?_⟩, hr, rfl, rfl, S.nd, fun x hx => ?_, takes_of rfl rfl rfl rfl, fun _ _ => rfl, S.kind⟩ (mk _ _ rfl rfl rfl rfl rfl rfl rfl (hr.mono (Nat.le_trans h3 (Nat.le_succ _)))) (passes_of rfl) ⟨hx, fun pn xe => mk _ _ rfl rfl rfl rfl rfl rfl rfl (hr.mono (Nat.le_trans h3 (Nat.le_succ _))), rfl, rfl⟩ o6
    · have := hr.un
      show (A.deeper (envOfC qn (defScope st) s.heap.objs.size a cdv)).units + 200 < cLine
      omega
    · have := List.all_eq_true.mp o5 x hx
      simpa using this
  · have hl := len vs H Q E h
    obtain ⟨F0, O, l, g, p⟩ := h
    rw [e0] at p
    split at p
    · have gs := Good.start (N := N) g
      rw [o2] at gs
      refine ⟨_, F0, O, gs, end_ok (fun q hq => ?_) p⟩
      have := List.all_eq_true.mp o4 q (by rw [hq]; simp [prOf])
      have := of_decide_eq_true this
      omega
    · exact p.elim
/-- what a text's def is, at ad i -/
structure DefAt (T : Tab) (K : PySem.W.Frag) (xf : Nat → Option Bool) (xn : Nat → Option Str) (ad : Nat → Addr) (i : Nat) (fn : Fn) : Prop where
  ex : ∃ x qn st N fd, Fun K x qn st (ad i) fd ∧ Binds K fd (N.take fn.np) [] ∧ fnOk T xf xn N fn st = true ∧ (T.out[i]?).getD none = fn.out
/-- where the text's defs and classes stand -/
structure TxtAt (T : Tab) (c : Cn) (K : PySem.W.Frag) (mg : Str → Option Value) (ad : Nat → Addr) (n : Nat) : Prop where
  defs : ∀ i x, T.defs[i]? = some x → i < n ∧ (x == ("__debug__" : Str)) = false ∧ mg x = some (.ref (ad i)) ∧ c.fa i = some (ad i)
  fa : ∀ i a, c.fa i = some a → i < n ∧ a = ad i
  mth : ∀ f i m, (f, i, m) ∈ T.meths → f < n ∧ ∃ Ca, c.cl i = some Ca ∧ L2.Cls K Ca ∧ Meth K Ca m (ad f)
  mk_ : ∀ i x f, T.own[i]? = some x → T.inits[i]? = some f → f < n ∧ (T.out[f]?).getD none = some 0 ∧ ∃ Ca, mg x = some (.ref Ca) ∧ c.cl i = some Ca ∧ (x == ("__debug__" : Str)) = false ∧ Mk K Ca (ad f)
  fld_ : ∀ i Ca, c.cl i = some Ca → L2.Cls K Ca ∧ ∀ x, x ∈ T.flds → NoAttr K Ca x
theorem all_ok {ad : Nat → Addr} (hK : K = c.K) (mk : MkAll T xc P w K mg base) {xf : Nat → Option Bool} {xn : Nat → Option Str} (hf : Xf xf xc) (hx : Hx T xc xn cs K mg) (tx : TxtAt T c K mg ad tb.length) (ht : ∀ i fn, tb[i]? = some fn → DefAt T K xf xn ad i fn)
    (hc : ∀ x d, (x, d) ∈ T.csts → ∃ u v, mg x = some u ∧ RelV v u ∧ (x == ("__debug__" : Str)) = false ∧ ∀ (F' : Addr → Prop) (H' : Hp) (j : Nat), Rep c F' H' j v d []) (hb : ∀ x, x ∈ bnames → mg x = none) :
    ∀ n, Kn T c xc (callN tb cs wf n) (2 * n + 3) P w K mg base := by
  have build : ∀ (C : Calls) (lv : Nat), (∀ i fn x qn st N a fd, tb[i]? = some fn → Fun K x qn st a fd → fnOk T xf xn N fn st = true → FnOk P w K mg base (L2.CX P w) lv a fd (N.take fn.np) (spC c xc fn.out (C i))) → Kn T c xc C lv P w K mg base := by
    intro C lv ok
    have at_ : ∀ i, i < tb.length → ∃ fd ps, PySem.W.keepIn K (.ref (ad i)) = true ∧ Binds K fd ps [] ∧ FnOk P w K mg base (L2.CX P w) lv (ad i) fd ps (spC c xc ((T.out[i]?).getD none) (C i)) := fun i hi => by
      have hfn : tb[i]? = some tb[i] := by simp [hi]
      obtain ⟨x, qn, st, N, fd, h5, h6, h7, h8⟩ := (ht i _ hfn).ex
      rw [h8]
      exact ⟨fd, _, h5.kp, h6, ok i _ x qn st N _ fd hfn h5 h7⟩
    refine ⟨fun x hx => ?_, fun i x hx => ?_, fun i a ha => ?_, hc, hb, fun f i m hm => ?_, fun i x f h1 h2 => ?_, tx.fld_⟩
    · obtain ⟨i, hi, e⟩ := List.getElem_of_mem hx
      exact (tx.defs i x (by rw [← e]; simp [hi])).2.1
    · obtain ⟨h1, h2, h3, h4⟩ := tx.defs i x hx
      obtain ⟨fd, ps, h5, h6, h7⟩ := at_ i h1
      exact ⟨_, fd, ps, h3, h4, h5, h6, h7⟩
    · obtain ⟨h1, rfl⟩ := tx.fa i a ha
      exact at_ i h1
    · obtain ⟨h1, Ca, h2, h3, h4⟩ := tx.mth f i m hm
      obtain ⟨fd, ps, h5, h6, h7⟩ := at_ f h1
      exact ⟨Ca, _, fd, ps, h2, h3, h4, h6, h7⟩
    · obtain ⟨h0, ho, Ca, h3, h4, h5, h6⟩ := tx.mk_ i x f h1 h2
      obtain ⟨fd, ps, h7, h8, h9⟩ := at_ f h0
      rw [ho] at h9
      exact ⟨Ca, _, fd, ps, h3, h4, h5, h6, h8, h9⟩
  intro n
  induction n with
  | zero =>
    refine build _ _ fun i fn x qn st N a fd _ _ _ => ⟨fun vs H Q E ⟨_, _, _, _, p⟩ => p.elim, fun A outer s H args us vs Q E _ _ _ _ ⟨_, _, _, _, p⟩ => p.elim⟩
  | succ n ih => exact build _ _ fun i fn x qn st N a fd h1 h2 h3 => def_ok hK ih (by omega) mk hf hx h1 h2 h3
end
end Pv
end
section
set_option maxRecDepth 100000
set_option maxHeartbeats 4000000
/-! PvFactB: what the classes' facts give. -/
namespace Pv
open PySem PySem.Spec PyProof.Rows L2
def xcOf (K : PySem.W.Frag) (T : Tab) (xn : Nat → Option Str) : Xc := fun i => (T.clss[i]?).map fun x => (He.ga K x, xn i)
def xfOf (T : Tab) (xn : Nat → Option Str) : Nat → Option Bool := fun i => (T.clss[i]?).map fun _ => (xn i).isSome
theorem xf_ok {K : PySem.W.Frag} {T : Tab} {xn : Nat → Option Str} : Xf (xfOf T xn) (xcOf K T xn) := fun i b h => by
  unfold xfOf at h
  cases e : T.clss[i]? with
  | none => rw [e] at h; cases h
  | some x =>
    rw [e] at h
    cases h
    exact ⟨He.ga K x, xn i, by unfold xcOf; rw [e]; rfl, rfl⟩
section
variable {P : Program} {w : World} {K : PySem.W.Frag} {T : Tab} {xn : Nat → Option Str} {cs : Clss} {mg : Str → Option Value} {base : Heap}
theorem exB_at (h : exB P T xn cs K = true) {i : Nat} {x : Str} (e : T.clss[i]? = some x) : (He.Fa.glo x).ok K = true ∧ (x == ("__debug__" : Str)) = false ∧ clB P K x (xn i) = true ∧ PySem.W.kitOne K (.ref (He.ga K x)) (.type ((cs[i]?).getD "")) = some true ∧
    ∀ j y, T.clss[j]? = some y → PySem.W.exmOne K (.ref (He.ga K y)) (.ref (He.ga K x)) = some (decide (i = j)) := by
  have hi := (List.getElem?_eq_some_iff.mp e).1
  have z := List.all_eq_true.mp h i (List.mem_range.mpr hi)
  have en : nmI T i = x := by unfold nmI; rw [e]; rfl
  simp only [Bool.and_eq_true, Bool.not_eq_true', decide_eq_true_eq] at z
  rw [en] at z
  obtain ⟨⟨⟨⟨z1, z2⟩, z3⟩, z4⟩, z5⟩ := z
  refine ⟨z1, z2, z3, z4, fun j y ey => ?_⟩
  have q := List.all_eq_true.mp z5 j (List.mem_range.mpr (List.getElem?_eq_some_iff.mp ey).1)
  have eny : nmI T j = y := by unfold nmI; rw [ey]; rfl
  rw [eny] at q
  exact of_decide_eq_true q
theorem xc_at {i : Nat} {A : Addr} {f : Option Str} (e : xcOf K T xn i = some (A, f)) : ∃ x, T.clss[i]? = some x ∧ A = He.ga K x ∧ f = xn i := by
  unfold xcOf at e
  obtain ⟨x, e1, e2⟩ := Option.map_eq_some_iff.mp e
  cases e2
  exact ⟨x, e1, rfl, rfl⟩
theorem hx_of (h : exB P T xn cs K = true) (X : K.In base) (G : base.Ns mainGlobals mg) : Hx T (xcOf K T xn) xn cs K mg where
  nam := fun i x e => by
    obtain ⟨z1, z2, _⟩ := exB_at h e
    exact ⟨_, _, by unfold xcOf; rw [e]; rfl, He.glo_ok X G z1, z2⟩
  exm := fun i j A B f g e1 e2 => by
    obtain ⟨x, h1, rfl, _⟩ := xc_at e1
    obtain ⟨y, h2, rfl, _⟩ := xc_at e2
    exact (exB_at h h1).2.2.2.2 j y h2
  isa := fun i A f t e1 e2 => by
    obtain ⟨x, h1, rfl, _⟩ := xc_at e1
    have z := (exB_at h h1).2.2.2.1
    rw [e2] at z
    exact z
  get := fun i A f e1 => by
    obtain ⟨x, h1, rfl, h2⟩ := xc_at e1
    have z := (exB_at h h1).2.2.1
    rw [← h2] at z
    simp only [clB, Bool.and_eq_true, decide_eq_true_eq] at z
    have t := twoB_ok z.1.1.1
    exact ⟨⟨z.1.1.2, z.1.2, t.exC, t.hd, z.2⟩, h2.symm⟩
theorem mk_of (h : exB P T xn cs K = true) (X : K.In base) (G : base.Ns mainGlobals mg) (gS : mg "super" = none) : MkAll T (xcOf K T xn) P w K mg base := fun Y sc h1 h2 h3 h4 h5 h6 h7 h8 => by
  subst h1 h3 h4
  have gl : ∀ {x : Str}, glob sc x = true → Gl Y x := fun {x} q => by
    have : Y.env.scope.names.lookup x = some .globalImplicit := by rw [h7]; exact of_decide_eq_true q
    exact this
  refine ⟨fun i x A p pos e1 e2 hg => ?_, fun i x A f a ta p pos e1 e2 hg ns ha => ?_⟩
  · obtain ⟨y, e3, rfl, e4⟩ := xc_at e2
    rw [e1] at e3
    cases e3
    obtain ⟨z1, z2, z3, _⟩ := exB_at h e1
    rw [← e4] at z3
    obtain ⟨k1, k2, k3, k4⟩ := He.exc_ok (show (He.Fa.exc x).ok Y.K = true from z3)
    exact pmk_bare F.excBase_ValueError k1 (He.glo_ok X G z1) k2 (raises_own k3 k4) (gl hg) z2
  · obtain ⟨y, e3, rfl, e4⟩ := xc_at e2
    rw [e1] at e3
    cases e3
    obtain ⟨z1, z2, z3, _⟩ := exB_at h e1
    rw [← e4] at z3
    simp only [clB, Bool.and_eq_true, decide_eq_true_eq] at z3
    exact pmk_two (twoB_ok z3.1.1.1) (He.glo_ok X G z1) gS h8 ha (gl hg) z2 (star1 ns)
end
end Pv
end
section
set_option maxRecDepth 100000
set_option maxHeartbeats 4000000
/-! PvEnd: from the head's facts to the law's end. -/
namespace Pv
open PySem PySem.Spec PyProof.Rows L2
def rwOk (T : Tab) (xn : Nat → Option Str) (r : Rw) : Bool := fnOk T (xfOf T xn) xn r.N r.fn r.st && plainPs (defArgs r.st) (r.N.take r.fn.np) && !(r.x == ("__debug__" : Str))
def adOf (K : PySem.W.Frag) (rws : List Rw) (i : Nat) : Addr := match rws[i]? with
  | some r => He.fAd K (atOf r)
  | none => 0
def cnOf (K : PySem.W.Frag) (T : Tab) : Cn := ⟨K, fun i => (T.defs[i]?).map (He.ga K), fun i => (T.own[i]?).map (He.ga K)⟩
theorem fun_of {K : PySem.W.Frag} {r : Rw} {fd : FuncData} {a : Addr} (F : FunD K r.x (qnOf r) (defArgs r.st) (defBody r.st) (defScope r.st) [] [] a fd) : L2.Fun K r.x (qnOf r) r.st a fd ∧ fd.params = defArgs r.st ∧ fd.defaults = .none := by
  obtain ⟨oc, od, dV, kV, doc, pm, an, cdv, ct, osl, rfl, lk, hcd, hD, hK⟩ := F.ex
  rcases hD with ⟨_, rfl⟩ | ⟨e, _⟩
  · exact ⟨fun_mk lk hcd F.kp, rfl, rfl⟩
  · exact absurd rfl e
section
variable {P : Program} {w : World} {K : PySem.W.Frag} {T : Tab} {xn : Nat → Option Str} {cs : Clss} {mg : Str → Option Value} {base : Heap} {rws : List Rw} {fa : List He.Fa} {wf : Nat}
theorem mown_at {f : Nat} {z m : Str} (h : ownAt rws f z m = true) : f < rws.length ∧ adOf K rws f = He.ma K (He.ga K z) m := by
  unfold ownAt at h
  cases e : rws[f]? with
  | none => rw [e] at h; cases h
  | some r =>
    rw [e] at h
    simp only [Bool.and_eq_true, decide_eq_true_eq] at h
    refine ⟨(List.getElem?_eq_some_iff.mp e).1, ?_⟩
    unfold adOf
    rw [e]
    show He.fAd K (atOf r) = _
    unfold atOf
    rw [h.1, h.2]
    rfl
theorem txt_of (hex : exA P T rws xn cs K = true) (hdef : defB T rws = true) (X : K.In base) (G : base.Ns mainGlobals mg) : TxtAt T (cnOf K T) K mg (adOf K rws) rws.length := by
  simp only [exA, Bool.and_eq_true] at hex
  obtain ⟨⟨⟨⟨⟨h1, h2⟩, h3⟩, h4⟩, h5⟩, h6⟩ := hex
  simp only [clsB, Bool.and_eq_true] at h6
  obtain ⟨⟨c1, c2⟩, c3⟩ := h6
  have cl : ∀ x, x ∈ T.own → (He.Fa.glo x).ok K = true ∧ (x == ("__debug__" : Str)) = false ∧ (He.Fa.cls x).ok K = true ∧ (He.Fa.mkr x).ok K = true ∧ ∀ f, f ∈ T.flds → (He.Fa.noat x f).ok K = true := fun x hx => by
    have z := List.all_eq_true.mp c1 x hx
    simp only [Bool.and_eq_true, Bool.not_eq_true'] at z
    exact ⟨z.1.1.1.1, z.1.1.1.2, z.1.1.2, z.1.2, fun f hf => List.all_eq_true.mp z.2 f hf⟩
  have dfs : ∀ i x, T.defs[i]? = some x → i < rws.length ∧ adOf K rws i = He.ga K x := fun i x e => by
    have hi := (List.getElem?_eq_some_iff.mp e).1
    have z := List.all_eq_true.mp hdef i (List.mem_range.mpr hi)
    rw [e] at z
    cases er : rws[i]? with
    | none => rw [er] at z; cases z
    | some r =>
      rw [er] at z
      simp only [Bool.and_eq_true, decide_eq_true_eq] at z
      refine ⟨(List.getElem?_eq_some_iff.mp er).1, ?_⟩
      unfold adOf
      rw [er]
      show He.fAd K (atOf r) = _
      unfold atOf
      rw [z.1, z.2]
      rfl
  refine ⟨fun i x e => ?_, fun i a e => ?_, fun f i m hm => ?_, fun i x f e1 e2 => ?_, fun i Ca e => ?_⟩
  · obtain ⟨d1, d2⟩ := dfs i x e
    have z := List.all_eq_true.mp h2 x (List.mem_of_getElem? e)
    simp only [Bool.and_eq_true, Bool.not_eq_true'] at z
    refine ⟨d1, z.2, ?_, ?_⟩
    · rw [d2]; exact He.glo_ok X G z.1
    · show (T.defs[i]?).map (He.ga K) = _
      rw [e, d2]; rfl
  · obtain ⟨x, e1, rfl⟩ := Option.map_eq_some_iff.mp (show (T.defs[i]?).map (He.ga K) = some a from e)
    obtain ⟨d1, d2⟩ := dfs i x e1
    exact ⟨d1, d2.symm⟩
  · have z := List.all_eq_true.mp c2 (f, i, m) hm
    cases e : T.own[i]? with
    | none =>
      simp only [e] at z
      cases z
    | some x =>
      simp only [e, Bool.and_eq_true] at z
      obtain ⟨o1, o2⟩ := mown_at (K := K) z.2
      obtain ⟨k1, k2, k3, k4, k5⟩ := cl x (List.mem_of_getElem? e)
      refine ⟨o1, He.ga K x, ?_, He.cls_ok k3, ?_⟩
      · show (T.own[i]?).map (He.ga K) = _
        rw [e]; rfl
      · rw [o2]; exact He.meth_ok z.1
  · have hi := (List.getElem?_eq_some_iff.mp e1).1
    have z := List.all_eq_true.mp c3 i (List.mem_range.mpr hi)
    simp only [e1, e2, Bool.and_eq_true, decide_eq_true_eq] at z
    obtain ⟨o1, o2⟩ := mown_at (K := K) z.1
    obtain ⟨k1, k2, k3, k4, k5⟩ := cl x (List.mem_of_getElem? e1)
    refine ⟨o1, z.2, He.ga K x, He.glo_ok X G k1, ?_, k2, ?_⟩
    · show (T.own[i]?).map (He.ga K) = _
      rw [e1]; rfl
    · rw [o2]; exact He.mkr_ok k4
  · obtain ⟨x, e1, rfl⟩ := Option.map_eq_some_iff.mp (show (T.own[i]?).map (He.ga K) = some Ca from e)
    obtain ⟨k1, k2, k3, k4, k5⟩ := cl x (List.mem_of_getElem? e1)
    exact ⟨He.cls_ok k3, fun f hf => He.noat_ok (k5 f hf)⟩
theorem kn_of (says : He.SaysD fa (rws.map ddOf) K) (hex : exA P T rws xn cs K = true) (X : K.In base) (G : base.Ns mainGlobals mg) (hrw : rws.all (rwOk T xn) = true) (hd : defB T rws = true) (ho : T.out = rws.map (·.fn.out)) :
    (∀ n, Kn T (cnOf K T) (xcOf K T xn) (callN (rws.map (·.fn)) cs wf n) (2 * n + 3) P w K mg base) ∧ MkAll T (xcOf K T xn) P w K mg base ∧ Hx T (xcOf K T xn) xn cs K mg := by
  have tx := txt_of hex hd X G
  simp only [exA, Bool.and_eq_true] at hex
  obtain ⟨⟨⟨⟨⟨h1, h2⟩, h3⟩, h4⟩, h5⟩, h6⟩ := hex
  have mk : MkAll T (xcOf K T xn) P w K mg base := mk_of h1 X G (He.free_ok X G h4)
  have hx : Hx T (xcOf K T xn) xn cs K mg := hx_of h1 X G
  refine ⟨all_ok (ad := adOf K rws) (xf := xfOf T xn) (xn := xn) rfl mk xf_ok hx (by rw [List.length_map]; exact tx) (fun i fn e => ?_) (fun x d e => ?_) (fun x e => He.free_ok X G (List.all_eq_true.mp h3 x e)), mk, hx⟩
  · rw [List.getElem?_map] at e
    obtain ⟨r, er, rfl⟩ := Option.map_eq_some_iff.mp e
    have hr := List.all_eq_true.mp hrw r (List.mem_of_getElem? er)
    simp only [rwOk, Bool.and_eq_true, Bool.not_eq_true'] at hr
    obtain ⟨fd, F⟩ := says.def_ i (d := ddOf r) (by rw [List.getElem?_map, er]; rfl)
    obtain ⟨F1, F2, F3⟩ := fun_of (r := r) F
    have ea : adOf K rws i = He.fAd K (atOf r) := by unfold adOf; rw [er]
    refine ⟨r.x, qnOf r, r.st, r.N, fd, by rw [ea]; exact F1, .all fun us hl => bind_plain (by rw [F2]; exact hr.1.2) F3 hl, hr.1.1, ?_⟩
    rw [ho, List.getElem?_map, er]; rfl
  · have z := List.all_eq_true.mp h5 (x, d) e
    simp only [cstB, Bool.and_eq_true, Bool.not_eq_true'] at z
    obtain ⟨z1, z2⟩ := z
    cases d with
    | int i =>
      obtain ⟨t, et⟩ := He.int_ok X G z2
      exact ⟨_, .int i, et, ⟨t, rfl⟩, z1, fun _ _ _ => .int _ _⟩
    | str i =>
      obtain ⟨t, et⟩ := He.str_ok X G z2
      exact ⟨_, .str i, et, ⟨t, rfl⟩, z1, fun _ _ _ => .str _ _⟩
    | _ => cases z2
theorem ints_rep {c : Cn} (F : Addr → Prop) (H : Hp) : ∀ ns : List Int, RepL c F H 0 (ns.map V.int) (ns.map PyData.int) []
  | [] => .nil _
  | _ :: r => .cons (fp := []) (fq := []) (.int _ _) (ints_rep F H r)
/-- what the law's def promises -/
def spLaw (c : Cn) (xc : Xc) (r : Env → CRes) : Sp := fun vs H Q _ => spC c xc none r vs H Q fun _ _ _ => False
theorem no_exc {k : Nat} {f : Addr} {fd : FuncData} {ps : List Str} {c : Cn} {xc : Xc} {r : Env → CRes} (F : FnOk P w K mg base (L2.CX P w) k f fd ps (spC c xc none r)) : FnOk P w K mg base CX0 k f fd ps (spLaw c xc r) := by
  refine ⟨fun vs H Q E h => F.len vs H Q _ h, fun A outer s H args us vs Q E h1 h2 h3 h4 h5 => codeAny_mono (F.run A outer s H args us vs Q _ h1 h2 h3 h4 h5) fun r s' z => ?_⟩
  cases r with
  | ok f =>
    cases f with
    | ret u => exact z
    | _ => exact z
  | error e =>
    obtain ⟨_, _, _, _, _, _, _, _, _, _, _, _, no⟩ := z
    exact no.elim
/-- THE END: li: where the law's def stands -/
theorem law_end {n li : Nat} {r : Rw} {ps : List Str} (says : He.SaysD fa (rws.map ddOf) K) (hex : exA P T rws xn cs K = true) (X : K.In base) (hrw : rws.all (rwOk T xn) = true) (hd : defB T rws = true) (ho : T.out = rws.map (·.fn.out)) (er : rws[li]? = some r) (hl : r.fn.out = none) (how : r.ow = none)
    (hp : r.N.take r.fn.np = ps) : ∃ fd : FuncData, (∀ (s : Shared) (us : List Value), us.length = ps.length → BindsTo s fd ⟨us, []⟩ (ps.zip us)) ∧ ∀ (mg : Str → Option Value) (base : Heap), K.In base → base.Ns mainGlobals mg → FnOk P w K mg base CX0 (2 * n + 5) (He.ga K r.x) fd ps (spLaw (cnOf K T) (xcOf K T xn) (callN (rws.map (·.fn)) cs wf (n + 1) li)) := by
  have hr := List.all_eq_true.mp hrw r (List.mem_of_getElem? er)
  simp only [rwOk, Bool.and_eq_true, Bool.not_eq_true'] at hr
  obtain ⟨fd, F⟩ := says.def_ li (d := ddOf r) (by rw [List.getElem?_map, er]; rfl)
  obtain ⟨F1, F2, F3⟩ := fun_of (r := r) F
  have ea : He.fAd K (atOf r) = He.ga K r.x := by unfold atOf; rw [how]; rfl
  refine ⟨fd, fun s us hu => .of_eq (bind_plain (by rw [F2, ← hp]; exact hr.1.2) F3 hu), fun mg base X G => ?_⟩
  obtain ⟨kn, mk, hx⟩ := kn_of (w := w) (wf := wf) says hex X G hrw hd ho
  have F1' : L2.Fun K r.x (qnOf r) r.st (He.ga K r.x) fd := by
    have := F1
    rw [show (ddOf r).at_ = atOf r from rfl, ea] at this
    exact this
  have ok := def_ok (i := li) rfl (kn n) (by omega) mk xf_ok hx (by rw [List.getElem?_map, er]; rfl) F1' hr.1.1
  rw [hl, hp] at ok
  exact no_exc ok
/-- .. of a script -/
theorem law_sp (hk : NoLst K) {H : Hp} {a : Addr} {ns : List Int} {f : Env → CRes} {k : Nat} (ho : Only H) (hs : SqL K H a (ns.map V.int)) (e : f [some (0, .list (ns.map PyData.int))] = .ok k (.bool true) none) : spLaw (cnOf K T) (xcOf K T xn) f [.ref a] H (fun v _ => v = .bl true) fun _ _ _ => False := by
  have rep : ∀ (F : Addr → Prop), Rep (cnOf K T) F H 0 (.ref a) (.list (ns.map PyData.int)) [] := fun F => by
    have ri := ints_rep (c := cnOf K T) F H ns
    rcases hs with hs | ⟨o, its, m, lk, hc, hd, hdt, _⟩
    · rcases hs with hs | hs
      · rcases ho a with z | ⟨_, _, z⟩ <;> rw [z] at hs <;> cases hs
      · exact .lcon hs ri
    · have z := hk a o lk
      obtain ⟨oc, od, odt, osl⟩ := o
      dsimp only at hc hd hdt
      subst hc hd hdt
      simp [isLst] at z
  refine ⟨fun _ => False, NoO, _, ⟨⟨_, .som (rep _) .nil, List.nodup_nil, fun b => ⟨fun z => (by cases z), fun z => z.elim⟩⟩, fun _ z => z.elim, fun _ z => z.elim⟩, ?_⟩
  rw [e]
  intro F' H' v fp _ _ rv _ _ _
  cases rv
  rfl
end
end Pv
end
section
set_option maxRecDepth 100000

set_option maxHeartbeats 4000000
namespace K61
open PySem PySem.Spec PyProof.Rows L2 Pv
theorem chk : rws.all (rwOk T xn) = true := by decide +kernel
theorem dfs_ok : defB T rws = true := by decide +kernel
theorem ots_eq : T.out = rws.map (·.fn.out) := by rfl
end K61
end
section
set_option maxRecDepth 100000

set_option maxHeartbeats 0
open PySem PySem.W PySem.Calls PyProof.Rows
theorem PySem.Challenge.cw_primewebs_k61_chains_primes_likenesses_l_holds : PySem.Challenge.rw_primewebs_k61_chains_primes_likenesses_l.Holds := by
  w_on; o_law
  refine HandSHeadRun.head_any (r := OpenLaw.row PySem.Challenge.rw_primewebs_k61_chains_primes_likenesses_l) (q := view (OpenLaw.row PySem.Challenge.rw_primewebs_k61_chains_primes_likenesses_l).prog [138]) (H := K61.hk) (ob := K61.ob) (M := 20000) (loose := K61.loose)
    (d := HandSHeadRun.topDef (OpenLaw.row PySem.Challenge.rw_primewebs_k61_chains_primes_likenesses_l).prog 138) (kwd := []) K61.ob_eq
    (by kernel_rfl) (fun s => by kernel_rfl) K61.run (by kernel_rfl) (by kernel_rfl) (by kernel_rfl) (by rfl) (by first | assumption | decide +kernel) (by decide +kernel) ⟨rfl, rfl, rfl, rfl, rfl, by decide +kernel⟩ ?hw ?hc
  case hw => w_witness2
  case hc =>
    refine L2.walk_ofE (l := PySem.Challenge.rw_primewebs_k61_chains_primes_likenesses_l) (n := 63) (k := 2 * K61.deep + 5) (x := "script") (CX := L2.CX0) rfl (by decide) (by kernel_rfl) ⟨rfl, by decide, by decide⟩ ?F (fun _ _ _ _ z => z)
    intro w mg fa h Y G hmg0
    obtain ⟨K, KX, c1, c2, c3⟩ := Y
    have hmg : mg ("law" : PySem.Str) = some (.ref fa) := by
      have e : (HandSHeadRun.topDef (OpenLaw.row PySem.Challenge.rw_primewebs_k61_chains_primes_likenesses_l).prog 138).name = ("law" : PySem.Str) := by kernel_rfl
      rw [← e]
      exact hmg0
    obtain ⟨fd, hb, hF⟩ := Pv.law_end (P := PySem.Challenge.pw_primewebs_k61_chains_primes_likenesses_l) (w := w) (K := K) (T := K61.T) (xn := K61.xn) (cs := K61.cs) (rws := K61.rws) (fa := []) (wf := K61.wf) (n := K61.deep) (li := 118) (ps := ["script"])
      (r := ⟨"law", K61.top 138, ["script", "tin", "rows_so", "door_so", "goods_so", "due"], K61.f118, none⟩) c1 c2 KX K61.chk K61.dfs_ok K61.ots_eq rfl rfl rfl rfl
    have ga : He.ga K ("law" : PySem.Str) = fa := by
      have z := c2
      simp only [K61.ex, Pv.exA, Bool.and_eq_true] at z
      have z := List.all_eq_true.mp z.1.1.1.1.2 ("law" : PySem.Str) (List.mem_of_getElem? (i := 118) rfl)
      rw [Bool.and_eq_true] at z
      have z := He.glo_ok KX G z.1
      rw [hmg] at z
      cases z
      rfl
    refine ⟨K, fd, Pv.spLaw (Pv.cnOf K K61.T) (Pv.xcOf K K61.T K61.xn) (Pv.callN (K61.rws.map (·.fn)) K61.cs K61.wf (K61.deep + 1) 118), KX, fun s u => hb s [u] rfl, fun H a ns hl ho hs => ?_, fun base X1 G1 => ?_⟩
    rotate_left
    · have := hF mg base X1 G1
      rw [show (⟨"law", K61.top 138, ["script", "tin", "rows_so", "door_so", "goods_so", "due"], K61.f118, none⟩ : Pv.Rw).x = ("law" : PySem.Str) from rfl, ga] at this
      exact this
    · exact Pv.law_sp c3 ho hs (K61.plain ns hl)
end
