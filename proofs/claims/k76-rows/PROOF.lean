import PyProof.Rows.All
import Wide.All
import OpenK.AllK
import Wide.FinOn
import KE.KExcSuper
import KE.KIsAll
import KE.KTryMore
import HandS.ForMost
import HandS.ForExc
import HandS.FStr
import HandS.IsInst
import HandS.TupAny
import HandS.RaiseMore
import HandS.ExcCtx
import HandS.Hot
import HandS.HotCalls
import HandS.SuiteRaise
import HandS.RaiseFrom
import HandS.Iter
import KE.GoesEnum
import KE.GoesMore
import PySem.Challenge.RW_rightstead_k76_rows_of_logs_and_runs
set_option Elab.async false
set_option linter.all false
set_option maxRecDepth 100000
set_option maxHeartbeats 8000000

/-! An own exception over an own exception over ValueError, whose __init__ says super().__init__(f'..{x}..') and self.x = x. -/
namespace PySem
namespace SupX
open PySem.W PySem.Calls PyProof.Rows PySem.HandSPX

/-- the text of __init__: one parameter x, super().__init__(f'pre{x}suf'), self.x = x -/
def iA (x : Str) (p1 p2 : Pos) : Arguments := { posonlyargs := [], args := [{ arg := "self", annotation := none, pos := p1 }, { arg := x, annotation := none, pos := p2 }], vararg := none, kwonlyargs := [], kw_defaults := [], kwarg := none, defaults := [] }
def iS (x : Str) : Scope := { kind := .function, names := [(PySem.Str.ofString "self", .local), (x, .local), (PySem.Str.ofString "__class__", .free), (PySem.Str.ofString "super", .globalImplicit)], isGenerator := false, isCoroutine := false, more := [] }
def iSuf (suf : Option Str) (a4 : Pos) : List Expr := match suf with | some t => [.Constant (.str t) 0 a4] | none => []
/-- the f-string's parts: a text, the parameter, then a text or nothing -/
def iParts (x pre : Str) (suf : Option Str) (a1 a2 a3 a4 : Pos) : List Expr := (.Constant (.str pre) 0 a1) :: (.FormattedValue (.Name x a2) (-1) none a3) :: iSuf suf a4
def iB (x pre : Str) (suf : Option Str) (q : Nat → Pos) : List Stmt := [
  .Expr (.Call (.Attribute (.Call (.Name "super" (q 0)) [] [] (q 1)) "__init__" (q 2)) [.JoinedStr (iParts x pre suf (q 3) (q 4) (q 5) (q 6)) (q 7)] [] (q 8)) (q 9),
  .Assign [.Attribute (.Name "self" (q 10)) x (q 11)] (.Name x (q 12)) (q 13)]

/-- what the written part says of the class at C, of its __init__ at fI -/
structure SupTxt (prog : Program) (K : Frag) (mg : Str → Option Value) (nm x pre : Str) (suf : Option Str) (C fI : Addr) : Prop where
  gC : mg nm = some (.ref C)
  cls : ∃ nm q N bs bm sn sub ab col dd k0 k1 k2 k3 k5, K.lookup C = some (excClassObj nm q C N bs bm true sn sub ab col dd k0 k1 k2 k3 k5 "ValueError.__new__") ∧ refsVE bm = true
  sa : findIn K (.ref C) "__setattr__" = some (some (.builtin "object.__setattr__"))
  ga : findIn K (.ref C) "__getattribute__" = some (some (.builtin "BaseException.__getattribute__"))
  gg : findIn K (.ref C) "__getattr__" = some none
  noN : findIn K (.ref C) x = some none
  iC : findIn K (.ref C) "__init__" = some (some (.ref fI))
  tC : typeIn K (.ref fI) = some (.type "function")
  kC : keepIn K (.ref C) = true
  exC : subIn K (.ref C) (.type "BaseException") = some true
  veC : subIn K (.ref C) (.type "ValueError") = some true
  tyC : typeIn K (.ref C) = some (.type "type")
  hdC : hasDictIn K C = true
  sup : mg "super" = none
  self : mroIn K C (.ref C) = some true
  tp : nsIn K cStatics "thirdparty.any" = some none
  dia : ks_superIn K C C "__init__" = some (some (.builtin "ValueError.__init__"))
  fn : ∃ (oc : Value) (od : Option Addr) (doc pm : Value) (an : Option Addr) (cda : Addr) (ct : Value) (osl : Array (Option Value)) (p1 p2 : Pos) (q : Nat → Pos) (cc : Addr) (qual : Str)
      (ccl : Value) (cdd : Option Addr) (vs : Array Value) (ccs : Array (Option Value)) (tf : Tok) (cl : Value) (cld : Option Addr) (csl : Array (Option Value)),
    K.lookup fI = some ⟨oc, od, .func (ksFn "__init__" qual (iA x p1 p2) (iB x pre suf q) (iS x) .none .none doc pm an (.ref cda) ct cc), osl⟩ ∧ codeIn K (.ref cda) qual = true ∧
    K.lookup cda = some ⟨ccl, cdd, .fields vs, ccs⟩ ∧ vs[2]? = some (.str prog.main.file tf) ∧
    K.lookup cc = some ⟨cl, cld, .cell (some (.ref C)), csl⟩ ∧ ((q 2).endLine == (q 8).line) = true

theorem one_size (v : Value) : [v].length ≤ sizeLine := by
  rw [sizeLine_eq]
  exact (by decide : 1 ≤ 16777216)

/-- what may be told: a text, an int -/
def Fmt (v : Value) (y : Str) : Prop := (∃ t, v = .str y t ∧ y.length ≤ 1000) ∨ ∃ i t, v = .int i t ∧ i.natAbs.log2 < 1920 ∧ y = toString i ∧ y.length ≤ 1000

/-- what __init__ leaves of a fresh exception at x -/
structure InitEnd (h h' : Heap) (e C dx : Addr) (x : Str) (v : Value) : Prop where
  keep : ∀ b o, b ≠ e → h.get? b = some o → h'.get? b = some o
  obj : ∃ t1 : Addr, h'.get? e = some { cls := .ref C, dict := some dx, data := .fields #[.ref t1, .none, .none, .none, .bool false, .none] }
  dbig : h.objs.size ≤ dx
  dne : dx ≠ e
  ns : h'.Ns1 dx (fun y => if y = x then some v else none)
structure OwnMade (h h' : Heap) (e C d : Addr) (x : Str) (v : Value) : Prop where
  keep : ∀ b o, h.get? b = some o → h'.get? b = some o
  new : h.objs.size ≤ e
  obj : ∃ oe vs, h'.get? e = some oe ∧ oe.cls = .ref C ∧ oe.dict = some d ∧ oe.data = .fields vs ∧ vs[1]? = some .none ∧ vs[2]? = some .none ∧ 4 < vs.size
  dbig : h.objs.size ≤ d
  dne : d ≠ e
  ns : h'.Ns1 d (fun y => if y = x then some v else none)

/-- how the two arguments bind -/
def BindX (x pre : Str) (suf : Option Str) : Prop := ∀ (qual : Str) (p1 p2 : Pos) (q : Nat → Pos) (doc pm : Value) (an : Option Addr) (cda : Value) (ct : Value) (cc : Addr) (u v : Value),
  bindArgs (ksFn "__init__" qual (iA x p1 p2) (iB x pre suf q) (iS x) .none .none doc pm an cda ct cc) ⟨[u, v], []⟩ = pure [(PySem.Str.ofString "self", u), (x, v)]
theorem bind_line : BindX "line" "line " (some " is at fault") := by intro _ _ _ _ _ _ _ _ _ _ _ _; first | rfl | with_unfolding_all rfl
theorem bind_part : BindX "part" "the book is refused: " none := by intro _ _ _ _ _ _ _ _ _ _ _ _; first | rfl | with_unfolding_all rfl

section
variable {prog : Program} {w : World} {A : Around} {E : Value → Shared → Prop} {R : Result → Shared → Prop} {s : Shared} {K : Frag} {mg mb : Str → Option Value} {C fI : Addr} {nm x pre : Str} {suf : Option Str}

theorem ldC {M : Model} {s : Shared} {env : Env} {m : Str → Option Value} {x : Str} {pos : Pos} {v : Value} {Q : Value → Shared → Prop} {A : Around} {E : Value → Shared → Prop} (hn : s.heap.Ns env.locals m) (hv : m x = some v) (h : Q v s)
    (hk : env.scope.kind = .function) (hl : env.kindOf x = some .local) (hd : (x == ("__debug__" : Str)) = false) : wpAny M A (eval (.Name x pos) env) Q E s := wpAny_Name (wpAny_loadName_local hk hl hn hv h) hd

/-- the f-string -/
theorem fstr_run {env : Env} {m : Str → Option Value} {q : Nat → Pos} {v : Value} {y : Str} {Q : Value → Shared → Prop} (hpre : pre.length ≤ 1000) (hsuf : ∀ t, suf = some t → t.length ≤ 1000)
    (hv : Fmt v y) (hn : s.heap.Ns env.locals m) (hm : m x = some v) (hk : env.scope.kind = .function) (hl : env.kindOf x = some .local) (hd : (x == ("__debug__" : Str)) = false)
    (h : ∀ (z : Str) (tk tk' : Tok), Q (.str z tk) { s with toks := tk' }) : wpAny (model prog w) A (eval (.JoinedStr (iParts x pre suf (q 3) (q 4) (q 5) (q 6)) (q 7)) env) Q E s := by
  have sz : ∀ (a b : Str), (a ++ b).length = a.length + b.length := fun a b => by
    show (a.cps ++ b.cps).size = a.cps.size + b.cps.size
    exact Array.size_append
  have e0 : Str.empty.length = 0 := rfl
  have yl : y.length ≤ 1000 := by rcases hv with ⟨t, _, h⟩ | ⟨i, t, _, _, _, h⟩ <;> exact h
  have ln : (16777216 : Nat) = sizeLine := sizeLine_eq.symm
  have tl : ∀ acc : Str, acc.length ≤ 2000 → ∀ s' : Shared, (∃ tk, s' = { s with toks := tk }) → Joins (model prog w) A E (evalEach (iSuf suf (q 6)) env) acc
      (fun out s₁ => out.length ≤ sizeLine ∧ Q (.str out s₁.toks) { s₁ with toks := s₁.toks + 1 }) s' := by
    intro acc ha s' ⟨tk, es⟩
    subst es
    cases suf with
    | none => exact ⟨by omega, h _ _ _⟩
    | some t =>
      have ht := hsuf t rfl
      show wpAny _ _ (eval (.Constant (.str t) 0 (q 6)) env) _ _ _
      refine wpAny_Constant_str ?_
      exact ⟨t, _, rfl, by rw [sz]; omega, by rw [sz]; omega, h _ _ _⟩
  refine wpAny_JoinedStr ?_
  show wpAny _ _ (eval (.Constant (.str pre) 0 (q 3)) env) _ _ _
  refine wpAny_Constant_str ?_
  refine ⟨pre, _, rfl, by rw [sz]; omega, ?_⟩
  show wpAny _ _ (eval (.FormattedValue (.Name x (q 4)) (-1) none (q 5)) env) _ _ _
  refine wpAny_FormattedValue_plain (ldC hn hm ?_ hk hl hd)
  rcases hv with ⟨t, rfl, _⟩ | ⟨i, t, rfl, hi, rfl, _⟩
  · exact wpAny_formatField_str ⟨y, _, rfl, by rw [sz, sz]; omega, tl (Str.empty ++ pre ++ y) (by rw [sz, sz]; omega) _ ⟨_, rfl⟩⟩ ⟨y, _, rfl, by rw [sz, sz]; omega, tl (Str.empty ++ pre ++ y) (by rw [sz, sz]; omega) _ ⟨_, rfl⟩⟩ (by omega)
  · exact wpAny_formatField_int hi ⟨_, _, rfl, by rw [sz, sz]; omega, tl (Str.empty ++ pre ++ _) (by rw [sz, sz]; omega) _ ⟨_, rfl⟩⟩

theorem sup_init {nm : Str} (T : SupTxt prog K mg nm x pre suf C fI) {e t0 : Addr} {v : Value} {y : Str} (hpre : pre.length ≤ 1000) (hsuf : ∀ t, suf = some t → t.length ≤ 1000) (hv : Fmt v y) (hbd : BindX x pre suf)
    (xs : (x == ("__debug__" : Str)) = false) (x1 : x ≠ "self") (x2 : x ≠ "__class__") (x3 : x ≠ "super")
    (hg : s.heap.Ns mainGlobals mg) (hb : s.heap.Ns builtinsNs mb) (hbs : mb "super" = some (.type "super")) (htop : (prog.main.scope.names.lookup ("super" : Str)).isSome = false)
    (X : K.In s.heap) (hlim : s.heap.NoLimit) (hx : s.heap.get? e = some (excO C t0)) (hnx : K.lookup e = none) (hroom : A.depth < recursionLimit)
    (hq : ∀ h' tk dx, InitEnd s.heap h' e C dx x v → R (.ok (.ret .none)) { s with heap := h', toks := tk }) :
    codeAny (model prog w) A (.call (.ref fI) ⟨[.ref e, v], []⟩) R s := by
  obtain ⟨oc, od, doc, pm, an, cda, ct, osl, p1, p2, q, cc, qual, ccl, cdd, vs, ccs, tf, cl, cld, csl, ho, hcd, hcode, hvs, hcell, hline⟩ := T.fn
  obtain ⟨nm', q', N, bs, bm, sn, sub, ab, col, dd, k0, k1, k2, k3, k5, hC, hbm⟩ := T.cls
  have hcl : clsIn K C = some { name := nm', bases := bs, mro := .ref C :: bm, ns := N, qualname := q', hasDict := true, slotNames := sn, subclasses := sub, abstract := ab, collection := col, hasDel := false } := by unfold clsIn; rw [hC] <;> rfl
  have b1 : (x == PySem.Str.ofString "self") = false := by simpa using x1
  have b2 : (x == PySem.Str.ofString "__class__") = false := by simpa using x2
  have b3 : (x == PySem.Str.ofString "super") = false := by simpa using x3
  have b4 : (PySem.Str.ofString "super" == x) = false := by simpa using fun z => x3 z.symm
  have b5 : (PySem.Str.ofString "__class__" == x) = false := by simpa using fun z => x2 z.symm
  have b6 : (PySem.Str.ofString "self" == x) = false := by simpa using fun z => x1 z.symm
  have kSelf : (iS x).names.lookup (PySem.Str.ofString "self") = some .local := rfl
  have kX : (iS x).names.lookup x = some .local := by
    show List.lookup x ((PySem.Str.ofString "self", NameKind.local) :: (x, NameKind.local) :: _) = _
    simp only [List.lookup, b1, beq_self_eq_true]
  have kC : (iS x).names.lookup (PySem.Str.ofString "__class__") = some .free := by
    show List.lookup _ ((PySem.Str.ofString "self", NameKind.local) :: (x, NameKind.local) :: (PySem.Str.ofString "__class__", NameKind.free) :: _) = _
    have z : (PySem.Str.ofString "__class__" == PySem.Str.ofString "self") = false := by decide
    simp only [List.lookup, z, b5, beq_self_eq_true]
  have kS : (iS x).names.lookup (PySem.Str.ofString "super") = some .globalImplicit := by
    show List.lookup _ ((PySem.Str.ofString "self", NameKind.local) :: (x, NameKind.local) :: (PySem.Str.ofString "__class__", NameKind.free) :: (PySem.Str.ofString "super", NameKind.globalImplicit) :: _) = _
    have z : (PySem.Str.ofString "super" == PySem.Str.ofString "self") = false := by decide
    have z2 : (PySem.Str.ofString "super" == PySem.Str.ofString "__class__") = false := by decide
    simp only [List.lookup, z, z2, b4, beq_self_eq_true]
  refine ks_codeAny_call_defAt (fd := ksFn "__init__" qual (iA x p1 p2) (iB x pre suf q) (iS x) .none .none doc pm an (.ref cda) ct cc) (body := iB x pre suf q) (binds := [(PySem.Str.ofString "self", .ref e), (x, v)]) hroom (X _ _ ho) rfl hlim (codeRec_of X hcd) rfl ?bind ?cell ?loc (fun h₁ hns k₁ => ?_) rfl rfl rfl
  case bind => exact BindsTo.of_eq (hbd _ _ _ _ _ _ _ _ _ _ _ _)
  case cell => intro y hy; simp [iS] at hy; rcases hy with rfl | rfl | rfl | rfl <;> (intro z; cases z)
  case loc =>
    intro y hy
    simp only [List.mem_cons, List.not_mem_nil, or_false] at hy
    rcases hy with rfl | rfl
    · exact kSelf
    · exact kX
  have X₁ : K.In h₁ := X.keeps k₁
  have hx₁ := k₁ _ _ hx
  have hg₁ : h₁.Ns mainGlobals mg := hg.keeps k₁
  have hb₁ : h₁.Ns builtinsNs mb := hb.keeps k₁
  have X₁ := X₁
  have hD := hC
  have hss : (h₁.objs.size) = h₁.objs.size := rfl
  have hne : e ≠ C := fun z => by rw [z, hC] at hnx; cases hnx
  have hp : ∀ (few : Bool) (o : Expr) (env : Env), methodCallPos few o env (q 2) (q 8) = pure (q 8) := fun few o env => by unfold methodCallPos; simp [hline]
  refine ks_wpAt_execs_cons (ks_wpAt_Expr_any (ks_wpAt_MethodCall (pl := (do return (← importBound (.Call (.Name "super" (q 0)) [] [] (q 1)) (ksEnv qual (iS x) s.heap.objs.size fI (.ref cda) cc)).getD true)) ?_ (by
    show (attributeBase _ _ _ _ >>= fun ov => standAt _ >>= fun _ => methodCall _ _ _ _ _ _ _ _ _) = _
    unfold methodCall
    simp only [hp]
    rfl)) rfl rfl)
  refine ks_wpAt_super_base (env := ksEnv qual (iS x) s.heap.objs.size fI (.ref cda) cc) kS kC rfl rfl (X₁ _ _ ho) rfl rfl rfl (X₁ _ _ hcode) rfl hvs (by simp) htop ?_
  refine ks_loadName_global rfl kS (loadGlobal_builtin hg₁ T.sup hb₁ hbs ⟨rfl, ?_⟩)
  refine wpAny_loadName_free rfl kC (by simp [ksEnv, envX]) ⟨_, X₁ _ _ hcell, rfl⟩ ?_
  refine wpAny_loadName_local rfl kSelf hns (v := .ref e) (by simp [List.lookup, b6]) ?_
  refine ks_wpAny_isType_cls (X₁ _ _ hC) rfl ⟨rfl, ?_⟩
  refine ks_wpAny_call_super (X₁ _ _ hC) rfl hx₁ rfl (fun c z => by cases z) (looks_mroIn X₁ T.self) (fun h₂ e₂ k₂ => ?_)
  have X₂ : K.In h₂ := X₁.keeps k₂
  have hx₂ := k₂ _ _ hx₁
  have dia := T.dia
  unfold ks_superIn at dia
  rw [hcl, Option.bind_some] at dia
  have I₂ : InstAt h₂ e (excO C t0) C none := ⟨hx₂, rfl, rfl, trivial⟩
  have hI : Looks (model prog w) h₂ (isInstance (.ref e) (.type "ValueError")) true := I₂.type.andThen (looks_subIn X₂ T.veC)
  refine kxs_getMethod kxs_ValueError e₂ (looks_opaque X₂ T.tp) (l₀ := .ref C :: bm) (fun A Q E s k q => wpAny_bind ((looks_clsIn X₂ hcl) A _ E s k (wpAny_pure q))) rfl X₂ dia hI hne rfl ?_
  have X₃ : K.In (h₂.push (kxs_mw "ValueError.__init__" e)) := X₂.keeps fun b o z => Heap.get?_push_of_some _ z
  have k₃ : ∀ b o, h₂.get? b = some o → (h₂.push (kxs_mw "ValueError.__init__" e)).get? b = some o := fun b o z => Heap.get?_push_of_some _ z
  have hu₃ : (h₂.push (kxs_mw "ValueError.__init__" e)).get? h₂.objs.size = some (kxs_mw "ValueError.__init__" e) := Heap.get?_push_at rfl rfl
  have kk : ∀ b o, h₁.get? b = some o → (h₂.push (kxs_mw "ValueError.__init__" e)).get? b = some o := fun b o z => k₃ b o (k₂ b o z)
  have hx₃ := kk _ _ hx₁
  have hns₃ := hns.keeps kk
  have lx : List.lookup x [(PySem.Str.ofString "self", Value.ref e), (x, v)].reverse = some v := by simp [List.lookup]
  refine kxs_callWith (i := "ValueError.__init__") (x := e) rfl (evalArgs_plain (spliced_cons ?_))
  refine fstr_run hpre hsuf hv hns₃ lx rfl kX xs fun z tk tk' => ?_
  refine spliced_nil ?_
  refine ⟨hu₃, ?_⟩
  refine wpAny_call (codeAny_of_tree ?_)
  show wpAny _ _ (callAny (.ref h₂.objs.size) ⟨[.str z tk], []⟩) _ _ _
  simp only [callAny]
  refine wpAny_bind (wpAny_load hu₃ ?_)
  simp only [kxs_mw, show (Value.type "method-wrapper" == Value.type "method" || Value.type "method-wrapper" == Value.type "builtin_function_or_method" || Value.type "method-wrapper" == Value.type "method-wrapper") = true by decide, if_true]
  refine KFB.if_so (by decide) ?_
  refine wpAny_bind (check_bound_init F.excBase_ValueError.toExcCallFacts (X₃ _ _ hC) hx₃ rfl ?_)
  refine wpAny_bind (wpAny_pure (wpAny_pure ?_))
  refine ⟨plainId_quiet F.excBase_ValueError.init.plain _, codeAny_builtin F.excBase_ValueError.initEntry ?_⟩
  refine exc_init_tree (cls := .ref C) (t0 := t0) (dv := none) (c2 := .none) (c3 := .none) (b4 := .bool false) hx₃ (one_size _) (fun h₄ k₄ hx₄ _ => ?_)
  show wpAt _ _ _ (execs _ _) _ _ _
  have X₄ : K.In h₄ := fun b o z => k₄ b o (fun ez => by rw [ez, hnx] at z; cases z) (X₃ _ _ z)
  have hlm : s.heap.objs.size ≠ e := Nat.ne_of_gt (Heap.lt_size hx)
  have hns₄ : h₄.Ns s.heap.objs.size (fun y => List.lookup y [(PySem.Str.ofString "self", Value.ref e), (x, v)].reverse) := hns₃.at fun o q => k₄ _ _ hlm q
  refine wpAt_of_wpAny (wpAny_execs_cons (plainObj_wpAny_Assign_Attribute ?_))
  have ls : List.lookup (PySem.Str.ofString "self") [(PySem.Str.ofString "self", Value.ref e), (x, v)].reverse = some (.ref e) := by simp [List.lookup, b6]
  refine ldC hns₄ lx (ldC hns₄ ls ?_ rfl kSelf rfl) rfl kX xs
  refine set_plain X₄ (ox := excRec (.ref C) (h₂.push (kxs_mw "ValueError.__init__" e)).objs.size none .none .none (.bool false)) (od := none) ⟨hx₄, rfl, rfl, trivial⟩ T.sa ?_
  refine exc_osa X₄ hx₄ hcl (show refsVE (.ref C :: bm) = true from hbm) rfl T.noN (fun h₅ tk₅ dx k₅ dn dne hx₅ hn₅ => ?_)
  show wpAny _ _ (execs _ _) _ _ _
  have old : ∀ b o, b ≠ e → s.heap.get? b = some o → h₅.get? b = some o := fun b o hb q => k₅ b o hb (k₄ b o hb (kk b o (k₁ b o q)))
  have d5 : s.heap.objs.size ≤ dx := by
    have z1 : s.heap.objs.size < h₄.objs.size := hns₄.lt
    exact Nat.le_of_lt (Nat.lt_of_lt_of_le z1 dn)
  exact wpAny_execs_nil (hq h₅ tk₅ dx ⟨old, ⟨_, hx₅⟩, d5, dne, hn₅⟩)
theorem sup_made {nm : Str} (T : SupTxt prog K mg nm x pre suf C fI) {v : Value} {y : Str} (hpre : pre.length ≤ 1000) (hsuf : ∀ t, suf = some t → t.length ≤ 1000) (hv : Fmt v y) (hbd : BindX x pre suf)
    (xs : (x == ("__debug__" : Str)) = false) (x1 : x ≠ "self") (x2 : x ≠ "__class__") (x3 : x ≠ "super")
    (hg : s.heap.Ns mainGlobals mg) (hb : s.heap.Ns builtinsNs mb) (hbs : mb "super" = some (.type "super")) (htop : (prog.main.scope.names.lookup ("super" : Str)).isSome = false)
    (X : K.In s.heap) (hlim : s.heap.NoLimit) (hroom : A.depth + 1 < recursionLimit)
    (hq : ∀ h' tk e d, OwnMade s.heap h' e C d x v → R (.ok (.ret (.ref e))) { s with heap := h', toks := tk }) :
    codeAny (model prog w) A (.call (.ref C) ⟨[v], []⟩) R s := by
  obtain ⟨nm', q, N, bs, bm, sn, sub, ab, col, dd, k0, k1, k2, k3, k5, hC, hbm⟩ := T.cls
  obtain ⟨hp, g, dr, tk, os⟩ := s
  have k : ∀ b o, hp.get? b = some o → ((hp.push (kdv_tup [v])).push (excO C hp.objs.size)).get? b = some o := fun b o e => Heap.get?_push_of_some _ (Heap.get?_push_of_some _ e)
  have hget : ((hp.push (kdv_tup [v])).push (excO C hp.objs.size)).get? (hp.objs.size + 1) = some (excO C hp.objs.size) := by heap_get
  have hnx : K.lookup (hp.objs.size + 1) = none := by
    cases e : K.lookup (hp.objs.size + 1) with
    | none => rfl
    | some o =>
      have z : hp.get? (hp.objs.size + 1) = some o := X _ _ e
      exact absurd (Nat.lt_of_succ_lt (Heap.lt_size z)) (Nat.lt_irrefl _)
  refine call_own F.excBase_ValueError (fun X => refsVE_contains X bm hbm) (X _ _ hC) (looks_findIn X T.iC) (fun self => bind_fn X self T.tC) (one_size v) ?_
  refine sup_init (s := ⟨(hp.push (kdv_tup [v])).push (excO C hp.objs.size), g, dr, tk, os⟩) T hpre hsuf hv hbd xs x1 x2 x3 (hg.keeps k) (hb.keeps k) hbs htop (X.keeps k) (hlim.keeps k) hget hnx ?_ fun h' tk' dx ⟨k', ⟨t1, hx⟩, dn, dne, hns⟩ => ?_
  · show A.depth + 1 < recursionLimit
    exact hroom
  · have old : ∀ b o, hp.get? b = some o → h'.get? b = some o := fun b o e => k' b o (Nat.ne_of_lt (Nat.lt_succ_of_lt (Heap.lt_size e))) (k b o e)
    have z : hp.objs.size + 1 + 1 ≤ dx := by
      first
        | (simpa only [Heap.size_push] using dn)
        | exact dn
        | (have q := dn; rw [Heap.size_push, Heap.size_push] at q; exact q)
    exact ⟨rfl, hq h' tk' (hp.objs.size + 1) dx ⟨old, Nat.le_succ _, ⟨_, _, hx, rfl, rfl, rfl, rfl, rfl, (by decide : 4 < 6)⟩, Nat.le_trans (Nat.le_trans (Nat.le_succ _) (Nat.le_succ _)) z, dne, hns⟩⟩
end
end SupX
end PySem

namespace L2
open PySem PySem.Spec PyProof.Rows
theorem relO_one {x : Str} {v : V} {v' : Value} (r : RelV v v') (f : Str) : RelO (List.lookup f [(x, v)]) (if f = x then some v' else none) := by
  by_cases hw : f = x
  · subst hw
    rw [if_pos rfl]
    have q : List.lookup f [(f, v)] = some v := by simp [List.lookup]
    rw [q]
    exact r
  · rw [if_neg hw]
    have qw : (f == x) = false := by simpa using hw
    have q2 : List.lookup f [(x, v)] = none := by simp [List.lookup, qw]
    rw [q2]
    trivial
/-- what an error may be told of -/
def FmtV (v : V) : Prop := (∃ y : Str, v = .str y ∧ y.length ≤ 1000) ∨ ∃ i : Int, v = .int i ∧ i.natAbs.log2 < 1920 ∧ (PySem.Str.ofString (toString i)).length ≤ 1000
theorem FmtV.to {v : V} {u : Value} (h : FmtV v) (r : RelV v u) : ∃ y, PySem.SupX.Fmt u y := by
  rcases h with ⟨y, rfl, hl⟩ | ⟨i, rfl, hi, hl⟩
  · obtain ⟨t, rfl⟩ := r
    exact ⟨y, .inl ⟨t, rfl, hl⟩⟩
  · obtain ⟨t, rfl⟩ := r
    exact ⟨_, .inr ⟨i, t, rfl, hi, rfl, hl⟩⟩
/-- facts of the names -/
structure SupNm (prog : Program) (x pre : Str) (suf : Option Str) : Prop where
  hpre : pre.length ≤ 1000
  hsuf : ∀ t, suf = some t → t.length ≤ 1000
  hbd : PySem.SupX.BindX x pre suf
  xs : (x == ("__debug__" : Str)) = false
  x1 : x ≠ "self"
  x2 : x ≠ "__class__"
  x3 : x ≠ "super"
  htop : (prog.main.scope.names.lookup ("super" : Str)).isSome = false
section
variable {X : Cx} {C fI : Addr} {nm x pre : Str} {suf : Option Str}
/-- X(e) -/
def tMkSup (x : Str) (C : Addr) (ta : TA) : St → Hp → XK → Prop := fun σ H Q => ta σ H fun vs H1 => ∃ v, vs = [v] ∧ FmtV v ∧ ∀ d, H1 d = none → Q (.ref C) (some d) (upd H1 d (.xd [(x, v)]))
theorem pmk_sup {a : Expr} {ta : TA} {p pos : Pos} {k : Nat} (T : PySem.SupX.SupTxt X.prog X.K X.mg nm x pre suf C fI) (S : SupNm X.prog x pre suf) (hr : Room k X.A) (ha : PA X [a] ta) (hg : Gl X nm := by rfl) (hdb : (nm == ("__debug__" : Str)) = false := by decide)
    (he : starEach (a :: []) X.env = (false, eval a X.env) :: starEach [] X.env := by rfl) (hpl : (backTo pos (starEach [] X.env)).any (·.1) = false := by rfl) :
    PMk X (.Call (.Name nm p) [a] [] pos) (tMkSup x C ta) := by
  intro pins s σ H Q I h
  refine wpAny_Call_Name_kw (ld_glob I hg T.gC ?_ hdb)
  refine PySem.W.callWith_K (h₀ := X.base) I.ok.mod.kin T.kC (thn (ha.run pos pins s σ H _ I h) fun us s1 hh => ?_) he hpl
  obtain ⟨vs, H1, I1, r1, v, ev, fv, q1⟩ := hh
  subst ev
  refine ⟨I1.kIn, ?_⟩
  cases r1 with
  | cons rv rn =>
    rename_i v' us'
    cases rn
    show wpAny _ _ (call (.ref C) [v']) _ _ _
    have hlim := I1.nolimit
    have hgl := I1.ok.mod.glob.keeps I1.bk
    obtain ⟨mb, hmb, hbt⟩ := I1.ok.mod.blt
    have hbl := hmb.keeps I1.bk
    obtain ⟨y, fy⟩ := fv.to rv
    obtain ⟨hp, g, dr, tk, os⟩ := s1
    refine wpAny_call (PySem.SupX.sup_made T S.hpre S.hsuf fy S.hbd S.xs S.x1 S.x2 S.x3 hgl hbl ((hbt _ (by decide)).trans (by decide +kernel)) S.htop I1.kIn hlim (by have := hr.dp; omega) fun h' tk' e d M => ?_)
    show MkP X pins σ Q (.ref e) ⟨h', g, dr, tk', os⟩
    obtain ⟨oe, fv, hoe, hc, hd, hdat, h1, _⟩ := M.obj
    have hns := M.ns
    obtain ⟨G', g1, g2⟩ := restrict h' fun b => decide (b ≠ e)
    have gk : ∀ b, b ≠ e → G'.get? b = h'.get? b := fun b hb => g1 b (decide_eq_true hb)
    have ge : G'.get? e = none := g2 e (by simp)
    have old : ∀ b o, hp.get? b = some o → G'.get? b = some o := fun b o q => (gk b (Nat.ne_of_lt (Nat.lt_of_lt_of_le (Heap.lt_size q) M.new))).trans (M.keep b o q)
    have ob : ObjOk X.prog X.w (upd H1 d (.xd [(x, v)])) G' d (.xd [(x, v)]) :=
      ⟨_, hns.at (fun o q => (gk d M.dne).trans q), fun f => relO_one rv f⟩
    have J : Inv X pins σ (upd H1 d (.xd [(x, v)])) ⟨G', g, dr, tk', os⟩ := I1.laid (t' := tk') old M.dbig ob
    refine ⟨e, oe, fv, ⟨G', g, dr, tk', os⟩, _, .ref C, some d, rfl, J, fun b o q => ?_, ge, hoe, ⟨hc, hd⟩, hdat, h1, ?_, rfl, I1.bare, raises_own T.exC T.tyC, q1 d (I1.hok.fresh M.dbig)⟩
    · by_cases hb : b = e
      · have q' : G'.get? b = some o := q
        rw [hb, ge] at q'; cases q'
      · exact (gk b hb).symm.trans q
    · rw [upd_ne (Ne.symm M.dne)]
      exact I1.hok.fresh M.new
/-- raise X(e) -/
def tRaiseSup (x : Str) (C : Addr) (W : WX) (ta : TA) : TS := fun _ σ H => tMkSup x C ta σ H fun cls d H' => W cls d σ H'
theorem ps_raiseSup {a : Expr} {ta : TA} {W : WX} {p pos pos2 : Pos} {k : Nat} (hc : X.calm = true) (T : PySem.SupX.SupTxt X.prog X.K X.mg nm x pre suf C fI) (S : SupNm X.prog x pre suf) (hr : Room k X.A) (tk : Takes X W) (ha : PA X [a] ta) (hg : Gl X nm := by rfl) (hdb : (nm == ("__debug__" : Str)) = false := by decide)
    (he : starEach (a :: []) X.env = (false, eval a X.env) :: starEach [] X.env := by rfl) (hpl : (backTo pos (starEach [] X.env)).any (·.1) = false := by rfl) :
    PS X (.Raise (some (.Call (.Name nm p) [a] [] pos)) none pos2) (tRaiseSup x C W ta) := ps_raise hc tk (pmk_sup T S hr ha hg hdb he hpl)
/-- e.x, e the exception that the suite holds (at a; its class cls, its dict d) -/
def tBySup (x : Str) (C : Addr) (a : Addr) (cls : Value) (d : Option Addr) (te : TE) : TE := fun σ H Q => te σ H fun z H1 => z = .ref a ∧ cls = .ref C ∧ ∃ (dd : Addr) (v : V), d = some dd ∧ H1 dd = some (.xd [(x, v)]) ∧ Q v H1
theorem pe_bySup {a : Addr} {oe : Obj} {cls : Value} {d : Option Addr} {pn : List (Addr × Obj)} {e : Expr} {te : TE} {pos : Pos} (T : PySem.SupX.SupTxt X.prog X.K X.mg nm x pre suf C fI) (hz : Zc cls d oe) (hf : ∃ vs, oe.data = .fields vs) (he : PE (X.suite a ((a, oe) :: pn)) e te)
    (hb : attributeBase e x X.env (eval e X.env) = eval e X.env := by rfl) :
    PE (X.suite a ((a, oe) :: pn)) (.Attribute e x pos) (tBySup x C a cls d te) := by
  refine ⟨fun pins s σ H Q I h => ?_⟩
  refine attr_of hb (thn (he.run pins s σ H _ I h) fun u s1 hh => ?_)
  obtain ⟨z, H1, I1, rx, ex, ec, dd, v, ed, ea, q⟩ := hh
  subst ex
  obtain rfl : u = Value.ref a := rx
  subst ec
  subst ed
  obtain ⟨ha, _⟩ := I1.pin (a, oe) (List.mem_append_left _ List.mem_cons_self)
  obtain ⟨vs, hd⟩ := hf
  have hx : ObjOk X.prog X.w H1 s1.heap dd (.xd [(x, v)]) := I1.hok dd _ ea
  obtain ⟨mA, hns, hr⟩ := hx
  obtain ⟨od, ho, hl⟩ := lookIn_ns hns
  have l : List.lookup x [(x, v)] = some v := by simp [List.lookup]
  obtain ⟨u, hu, ru⟩ := RelO.some_of (v := v) (o := mA x) (by rw [← l]; exact hr x)
  have J : PySem.W.InstAt s1.heap a oe C (some od) := ⟨ha, hz.1, by unfold PySem.W.notCls; rw [hd] <;> rfl, by rw [hz.2]; exact ho⟩
  exact HandSPX.exc_get I1.kIn J T.ga T.gg T.exC (PySem.W.findObj_own T.hdC T.noN rfl (by rw [hl, hu])) (handed_of ru) ⟨v, H1, I1.tok _, ru, q⟩
end
end L2

namespace PySem.SupX
open PySem PySem.W PySem.Spec PySem.Calls PyProof.Rows
section
variable {prog : Program} {w : World} {A : Around} {E : Value → Shared → Prop} {s : Shared} {K : Frag} {x D : Addr} {ox od : Obj}
/-- what the class says so that isinstance asks its instances rightly, an own dict or none -/
structure IsTxt (K : Frag) (D : Addr) : Prop where
  ga : findIn K (.ref D) "__getattribute__" = some (some (.builtin "BaseException.__getattribute__"))
  gt : findIn K (.ref D) "__getattr__" = some none
  sub : subIn K (.ref D) (.type "BaseException") = some true
  hd : hasDictIn K D = true
  ha : findIn K (.ref D) "__class__" = some (some (.builtin "object.__class__"))
  hn : specialIn K (.builtin "object.__class__") "__get__" = some (some (.builtin "getset_descriptor.__get__"))
  ht : takesIn K (.builtin "object.__class__") = some true
  hm : mroIn K D (.type "object") = some true
theorem found_class (T : IsTxt K D) (o : Option Obj) : findObj K D o "__class__" = some (.bind (.builtin "getset_descriptor.__get__") (.builtin "object.__class__")) := by
  obtain ⟨cd, hc, _⟩ := any_some T.hd
  unfold findObj
  rw [hc, Option.bind_some, T.ha, Option.bind_some]
  simp [T.hn, T.ht]
theorem cls_asked {o : Option Obj} {Q : Option Value → Shared → Prop} (T : IsTxt K D) (X : K.In s.heap) (I : InstAt s.heap x ox D o) (h : Q (some (.ref D)) { s with toks := s.toks + 1 }) :
    wpAny (model prog w) A (getAttr? (.ref x) "__class__") Q E s := by
  obtain ⟨hp, g, d, t, os⟩ := s
  have L0 := I.type (M := model prog w)
  have L1 := looks_findIn (M := model prog w) X T.ga
  have L2 := looks_findIn (M := model prog w) X T.gt
  have L3 := looks_find (M := model prog w) X I (found_class T o)
  have isB : Looks (model prog w) hp (isInstance (.ref x) (.type "BaseException")) true := L0.andThen (looks_subIn X T.sub)
  have ne : (Value.builtin "BaseException.__getattribute__" == Value.builtin "object.__getattribute__") = false := by decide +kernel
  have q1 : (onTheHeap (Value.ref D) && Value.builtin "BaseException.__getattribute__" == Value.builtin "object.__getattribute__") = false := by rw [ne]; rfl
  have q0 : (false && onTheHeap (Value.builtin "BaseException.__getattribute__")) = false := rfl
  unfold getAttr? getAttrBy? getAttrBy
  refine wpAny_bind (wpAny_mkText (wpAny_bind (wpAny_attempt (wpAny_holding (wpAny_bind (L0.at (wpAny_bind (L1.at ?_))))))))
  show wpAny _ _ (if (onTheHeap (Value.ref D) && Value.builtin "BaseException.__getattribute__" == Value.builtin "object.__getattribute__") = true then _ else _) _ _ _
  rw [q1, if_neg Bool.false_ne_true]
  unfold getAttrByItsOwn hookBefore
  refine wpAny_bind ?_
  rw [if_pos (show onTheHeap (Value.ref D) = true from rfl)]
  refine L2.at ?_
  refine wpAny_bind (wpAny_attempt (wpAny_holding ?_))
  unfold callGetattribute
  rw [q0, if_neg Bool.false_ne_true]
  unfold boundAndCalled
  rw [PySem.F.excAttr_ValueError.ga.bind (.ref x)]
  refine wpAny_bind (wpAny_pure ?_)
  show wpAny _ _ (call (.builtin "BaseException.__getattribute__") [.ref x, .str "__class__" t]) _ _ _
  refine wpAny_call (codeAny_call_builtin PySem.F.excAttr_ValueError.ga.plain PySem.F.entry_bexc_ga ?_)
  refine @check_slot (model prog w) _ _ ⟨hp, g, d, t + 1, os⟩ "BaseException.__getattribute__" "BaseException" "__getattribute__" (.ref x) [.str "__class__" t] [] _ (by decide +kernel) (by decide +kernel) isB (PySem.F.args_bexc_ga (.ref x) (.str "__class__" t)) ?_
  unfold Builtin.«object.__getattribute__»
  refine wpAny_bind (wpAny_of_eq (a := ((Value.ref x : Value), [Value.str "__class__" t])) (by first | rfl | (simp only [slotArgs]; rfl)) ?_)
  refine wpAny_bind (wpAny_pure (wpAny_bind (L0.at (wpAny_bind (L3.at ?_)))))
  show wpAny _ _ (holding [Value.builtin "object.__class__"] (call (.builtin "getset_descriptor.__get__") [.builtin "object.__class__", .ref x, .ref D]) >>= ret) _ _ _
  refine wpAny_bind (wpAny_holding (wpAny_call (class_get (s := ⟨hp, g, d, t + 1, os⟩) (ox := ox) (od := o) X I T.hm ?_)))
  refine wpAny_pure ?_
  show wpAny _ _ (handedOut (.ref D)) _ _ _
  rw [handedOut_of (v := .ref D) rfl]
  first
    | exact wpAny_pure (wpAny_pure h)
    | exact wpAny_pure h
    | exact wpAny_pure (wpAny_bind (wpAny_pure (wpAny_pure h)))
theorem kit_sup (T : IsTxt K D) : KitX K (.ref x) (.ref D) (fun h => ∃ ox o, InstAt h x ox D o) where
  ty := fun _ _ _ ⟨_, _, I⟩ => I.type
  it := fun _ _ X _ => by
    obtain ⟨cdD, hcD, _⟩ := any_some T.hd
    unfold clsIn at hcD
    split at hcD
    · rename_i c' d' cd' sl' ho
      intro A' Q' E' s' k q
      unfold isType loadHead
      exact wpAny_bind (wpAny_loadPart (k _ _ (X _ _ ho)) (wpAny_pure q))
    · cases hcD
  ne := fun h tp dd its n sl X htp => by
    obtain ⟨cdD, hcD, _⟩ := any_some T.hd
    refine Bool.eq_false_iff.mpr fun q => ?_
    have e : D = tp := Value.ref.inj (beq_iff_eq.mp q)
    subst e
    unfold clsIn at hcD
    split at hcD
    · rename_i c' d' cd' sl' ho
      have z := (X _ _ ho).symm.trans htp
      cases z
    · cases hcD
  ca := fun X ⟨_, _, I⟩ k => cls_asked T X I k
end
end PySem.SupX
namespace L2
open PySem PySem.Spec PyProof.Rows
/-- isinstance(e, c), e the exception that the suite holds, its own dict at dd -/
def rIsSup (K : PySem.W.Frag) (D a dd : Addr) : List V → Hp → VK → Prop := fun xs H Q => ∃ (c : V) (cv : Value) (b : Bool) (fs : List (Str × V)), xs = [.ref a, c] ∧ (∀ u, RelV c u → u = cv) ∧ H dd = some (.xd fs) ∧ PySem.W.kitOne K (.ref D) cv = some b ∧ Q (.bl b) H
theorem call_isSup {X : Cx} {a D dd : Addr} {oe : Obj} {pn : List (Addr × Obj)} (C : PySem.SupX.IsTxt X.K D) (hz : Zc (.ref D) (some dd) oe) (hf : ∃ vs, oe.data = .fields vs) : CallR (X.suite a ((a, oe) :: pn)) (.builtin "isinstance") (rIsSup X.K D a dd) := by
  intro pins s σ H xs us Q I r h
  obtain ⟨c, cv, b, fs, rfl, hcv, hdd, e, q⟩ := h
  cases r with
  | cons rx rr =>
    cases rr with
    | cons rt rr =>
      cases rr
      cases rx
      have ec := hcv _ rt
      subst ec
      obtain ⟨hget, _⟩ := I.pin (a, oe) (List.mem_append.mpr (.inl List.mem_cons_self))
      obtain ⟨vs, hv⟩ := hf
      have hx : ObjOk X.prog X.w H s.heap dd (.xd fs) := I.hok dd _ hdd
      obtain ⟨mA, ⟨od, es, ep, ho, _⟩, _⟩ := hx
      have J : PySem.W.InstAt s.heap a oe D (some od) := by
        obtain ⟨oc, odx, oda, osl⟩ := oe
        obtain ⟨h1, h2⟩ := hz
        dsimp only at h1 h2 hv
        subst h1 h2 hv
        exact ⟨hget, rfl, rfl, ho⟩
      exact PySem.W.kia_one (PySem.SupX.kit_sup C) I.kIn ⟨_, _, J⟩ e (fun z => nomatch z) fun tk => ⟨.bl b, H, I.kept (t' := tk) fun _ _ z => z, rfl, q⟩
end L2

/-! Values as texts: what is written, what is read, and that the two belong together. No program in sight. -/
namespace RS
open PySem PySem.Spec PyProof.Rows TL
open PySem.NumText (AllDigits digitsVal)

/-- a value: a number, a flag, a text, a tuple of values -/
inductive D where
  | int (i : Int)
  | bl (b : Bool)
  | str (s : Str)
  | tup (ds : List D)

def lb : Str := "["
def rb : Str := "]"
def sp : Str := " "
def lets : Str := "abcdefghijklmnopqrstuvwxyz"
def digs : Str := "0123456789"
theorem tl_lb : tl lb = [91] := by decide +kernel
theorem tl_rb : tl rb = [93] := by decide +kernel
theorem tl_sp : tl sp = [32] := by decide +kernel
theorem tl_lets : tl lets = (List.range 26).map (97 + ·) := by decide +kernel
theorem tl_digs : tl digs = (List.range 10).map (48 + ·) := by decide +kernel
theorem mem_lets {c : Nat} : c ∈ tl lets ↔ 97 ≤ c ∧ c ≤ 122 := by
  rw [tl_lets]
  simp only [List.mem_map, List.mem_range]
  constructor
  · rintro ⟨k, hk, rfl⟩; omega
  · intro h; exact ⟨c - 97, by omega, by omega⟩
theorem mem_digs {c : Nat} : c ∈ tl digs ↔ 48 ≤ c ∧ c ≤ 57 := by
  rw [tl_digs]
  simp only [List.mem_map, List.mem_range]
  constructor
  · rintro ⟨k, hk, rfl⟩; omega
  · intro h; exact ⟨c - 48, by omega, by omega⟩

mutual
/-- the tokens of a value -/
def toks : D → List Str
  | .int i => [Str.ofString (toString i)]
  | .bl _ => []
  | .str s => [s]
  | .tup ds => lb :: (toksL ds ++ [rb])
def toksL : List D → List Str
  | [] => []
  | d :: r => toks d ++ toksL r
end
mutual
/-- how deep tuples are nested -/
def dep : D → Nat
  | .int _ => 0
  | .bl _ => 0
  | .str _ => 0
  | .tup ds => 1 + depL ds
def depL : List D → Nat
  | [] => 0
  | d :: r => max (dep d) (depL r)
end
theorem toksL_append : ∀ (a b : List D), toksL (a ++ b) = toksL a ++ toksL b
  | [], _ => rfl
  | d :: r, b => by
    show toks d ++ toksL (r ++ b) = (toks d ++ toksL r) ++ toksL b
    rw [toksL_append r b, List.append_assoc]
theorem toksL_one (d : D) : toksL [d] = toks d := by show toks d ++ [] = _; rw [List.append_nil]
theorem depL_le {n : Nat} : ∀ {ds : List D}, depL ds ≤ n ↔ ∀ d ∈ ds, dep d ≤ n
  | [] => by simp [depL]
  | d :: r => by
    have ih := depL_le (n := n) (ds := r)
    show max (dep d) (depL r) ≤ n ↔ _
    rw [Nat.max_le, ih]
    simp

/-! ### one token -/
def isWord (s : Str) : Bool := (decide (1 ≤ s.length) && decide (s.length ≤ 20)) && (tl s).all fun c => decide (c ∈ tl lets)
/-- a number's token without its minus -/
def body (s : Str) : Str := if (tl s).head? = some 45 then ⟨(tl s).tail.toArray⟩ else s
def isNum (s : Str) : Bool := ((decide (1 ≤ (body s).length) && decide ((body s).length ≤ 60)) && (tl (body s)).all fun c => decide (c ∈ tl digs)) && (!decide ((tl (body s)).head? = some 48) || decide (s = ("0" : Str)))
def numV (s : Str) : Int := if (tl s).head? = some 45 then -((digitsVal (tl s).tail : Nat) : Int) else ((digitsVal (tl s) : Nat) : Int)
def tokIn (s : Str) : Option D := if isWord s = true then some (.str s) else if isNum s = true then some (.int (numV s)) else none

theorem digitsVal_snoc (l : List Nat) (c : Nat) : digitsVal (l ++ [c]) = digitsVal l * 10 + (c - 48) := by
  unfold digitsVal
  rw [List.foldl_append]
  rfl
/-- digits without a leading zero are the signs of their number -/
theorem num_back : ∀ (n : Nat) (ds : List Nat), ds.length = n → AllDigits ds → ds ≠ [] → (ds.head? ≠ some 48 ∨ ds = [48]) → numL (digitsVal ds) = ds
  | 0, ds, hl, _, hne, _ => absurd (List.length_eq_zero_iff.mp hl) hne
  | n + 1, ds, hl, hd, hne, hz => by
    rcases List.eq_nil_or_concat ds with e | ⟨L, c, e⟩
    · exact absurd e hne
    · have e : ds = L ++ [c] := by simpa using e
      subst e
      have hc : 48 ≤ c ∧ c ≤ 57 := hd c (by simp)
      rw [digitsVal_snoc]
      by_cases hL : L = []
      · subst hL
        show numL (0 * 10 + (c - 48)) = [c]
        rw [numL_lt (by omega)]
        have : 48 + (0 * 10 + (c - 48)) = c := by omega
        rw [this]
      · have hz' : L.head? ≠ some 48 := by
          rcases hz with hz | hz
          · cases L with
            | nil => exact absurd rfl hL
            | cons a r => simpa using hz
          · cases L with
            | nil => exact absurd rfl hL
            | cons a r =>
              have := congrArg List.length hz
              simp at this
        have ih := num_back n L (by simpa using hl) (fun d h => hd d (List.mem_append_left _ h)) hL (.inl hz')
        have pos : 1 ≤ digitsVal L := by
          rcases Nat.eq_zero_or_pos (digitsVal L) with e0 | e0
          · rw [e0] at ih
            exfalso
            apply hz'
            rw [← ih, numL_lt (by decide)]
            rfl
          · exact e0
        rw [numL_step (by omega)]
        have e1 : (digitsVal L * 10 + (c - 48)) / 10 = digitsVal L := by omega
        have e2 : 48 + (digitsVal L * 10 + (c - 48)) % 10 = c := by omega
        rw [e1, e2, ih]
theorem numL_head : ∀ n : Nat, 1 ≤ n → (numL n).head? ≠ some 48 := by
  intro n
  induction n using Nat.strongRecOn with
  | _ n ih =>
    intro h
    by_cases hn : n < 10
    · rw [numL_lt hn]
      simp
      omega
    · rw [numL_step (by omega)]
      have := ih (n / 10) (by omega) (by omega)
      have hne := numL_ne (n / 10)
      cases hq : numL (n / 10) with
      | nil => exact absurd hq hne
      | cons a r => rw [hq] at this; simpa using this
theorem all_digs {l : List Nat} (h : (l.all fun c => decide (c ∈ tl digs)) = true) : AllDigits l := fun c hc => mem_digs.mp (of_decide_eq_true (List.all_eq_true.mp h c hc))
theorem digs_all {l : List Nat} (h : AllDigits l) : (l.all fun c => decide (c ∈ tl digs)) = true := List.all_eq_true.mpr fun c hc => decide_eq_true (mem_digs.mpr (h c hc))
theorem tl_zero : tl ("0" : Str) = [48] := by decide +kernel
theorem tl_dash : tl ("-" : Str) = [45] := by decide +kernel

/-- what a token that is a number says -/
theorem num_cases {s : Str} (h : isNum s = true) : ((tl s).head? ≠ some 45 ∧ AllDigits (tl s) ∧ tl s ≠ [] ∧ (tl s).length ≤ 60 ∧ ((tl s).head? ≠ some 48 ∨ tl s = [48])) ∨
    (∃ ds, tl s = 45 :: ds ∧ AllDigits ds ∧ ds ≠ [] ∧ ds.length ≤ 60 ∧ ds.head? ≠ some 48) := by
  unfold isNum at h
  simp only [Bool.and_eq_true, decide_eq_true_eq, Bool.or_eq_true, Bool.not_eq_true', decide_eq_false_iff_not] at h
  obtain ⟨⟨⟨h1, h2⟩, h3⟩, h4⟩ := h
  by_cases hm : (tl s).head? = some 45
  · right
    have eb : body s = ⟨(tl s).tail.toArray⟩ := if_pos hm
    cases hs : tl s with
    | nil => rw [hs] at hm; cases hm
    | cons a r =>
      rw [hs] at hm
      have ea : a = 45 := by simpa using hm
      subst ea
      have er : tl (body s) = r := by rw [eb, tl_mk, hs]; rfl
      rw [er] at h3 h4
      rw [len_tl, er] at h1 h2
      refine ⟨r, rfl, all_digs h3, ?_, h2, ?_⟩
      · intro e; rw [e] at h1; simp at h1
      · rcases h4 with h4 | h4
        · exact h4
        · rw [h4] at hs; rw [tl_zero] at hs; cases hs
  · left
    have eb : body s = s := if_neg hm
    rw [eb] at h1 h2 h3 h4
    rw [len_tl] at h1 h2
    refine ⟨hm, all_digs h3, ?_, h2, ?_⟩
    · intro e; rw [e] at h1; simp at h1
    · rcases h4 with h4 | h4
      · exact .inl h4
      · exact .inr (by rw [h4]; exact tl_zero)
theorem num_text {s : Str} (h : isNum s = true) : intText? s = some (numV s) ∧ s.length ≤ 61 := by
  rcases num_cases h with ⟨h1, h2, h3, h4, _⟩ | ⟨ds, e, h2, h3, h4, _⟩
  · have hl : s.length ≤ 61 := by rw [len_tl]; omega
    have := intText_digits h2 h3 (by omega)
    refine ⟨?_, hl⟩
    unfold numV
    rw [if_neg h1]
    exact this
  · have hl : s.length ≤ 61 := by rw [len_tl, e, List.length_cons]; omega
    have := intText_neg e h2 h3 (by omega)
    refine ⟨?_, hl⟩
    unfold numV
    rw [e]
    exact this
theorem tl_neg {n : Nat} (h : 1 ≤ n) : tl (Str.ofString (toString (-(n : Int)))) = 45 :: numL n := by
  rw [PyProof.Rows.toString_neg (show -(n : Int) < 0 by omega)]
  have e : (0 - -(n : Int)) = ((n : Nat) : Int) := by omega
  rw [e]
  have := tl_num n
  rw [tl_ofString] at this
  rw [tl_ofString, String.toList_append, List.map_append, this]
  rfl
theorem num_write {s : Str} (h : isNum s = true) : Str.ofString (toString (numV s)) = s := by
  apply ext_tl
  rcases num_cases h with ⟨h1, h2, h3, h4, h5⟩ | ⟨ds, e, h2, h3, h4, h5⟩
  · unfold numV
    rw [if_neg h1, tl_num]
    exact num_back _ _ rfl h2 h3 h5
  · have nb := num_back _ _ rfl h2 h3 (.inl h5)
    have pos : 1 ≤ digitsVal ds := by
      rcases Nat.eq_zero_or_pos (digitsVal ds) with e0 | e0
      · rw [e0, numL_lt (by decide)] at nb
        exact absurd (by rw [← nb]; rfl) h5
      · exact e0
    unfold numV
    rw [e, if_pos (by rfl)]
    show tl (Str.ofString (toString (-((digitsVal ds : Nat) : Int)))) = 45 :: ds
    rw [tl_neg pos, nb]
theorem tok_write {s : Str} {d : D} (h : tokIn s = some d) : toks d = [s] ∧ dep d = 0 := by
  unfold tokIn at h
  split at h
  · cases h; exact ⟨rfl, rfl⟩
  · split at h
    · rename_i hn
      cases h
      refine ⟨?_, rfl⟩
      show [Str.ofString (toString (numV s))] = [s]
      rw [num_write hn]
    · cases h

/-! ### what is right -/
mutual
def ok : D → Prop
  | .int i => i.natAbs < 10 ^ 60
  | .bl _ => False
  | .str s => isWord s = true
  | .tup ds => okL ds
def okL : List D → Prop
  | [] => True
  | d :: r => ok d ∧ okL r
end
theorem okL_append : ∀ {a b : List D}, okL (a ++ b) ↔ okL a ∧ okL b
  | [], b => by simp [okL]
  | d :: r, b => by
    have ih := okL_append (a := r) (b := b)
    show ok d ∧ okL (r ++ b) ↔ (ok d ∧ okL r) ∧ okL b
    rw [ih, and_assoc]
theorem word_letters {s : Str} (h : isWord s = true) : (∀ c ∈ tl s, 97 ≤ c ∧ c ≤ 122) ∧ 1 ≤ (tl s).length ∧ (tl s).length ≤ 20 := by
  unfold isWord at h
  simp only [Bool.and_eq_true, decide_eq_true_eq] at h
  obtain ⟨⟨h1, h2⟩, h3⟩ := h
  rw [len_tl] at h1 h2
  exact ⟨fun c hc => mem_lets.mp (of_decide_eq_true (List.all_eq_true.mp h3 c hc)), h1, h2⟩
/-- the signs of a number -/
theorem int_signs (i : Int) : (∃ n : Nat, i = (n : Int) ∧ tl (Str.ofString (toString i)) = numL n) ∨ (∃ n : Nat, 1 ≤ n ∧ i = -(n : Int) ∧ tl (Str.ofString (toString i)) = 45 :: numL n) := by
  by_cases h : 0 ≤ i
  · obtain ⟨n, rfl⟩ := Int.eq_ofNat_of_zero_le h
    exact .inl ⟨n, rfl, tl_num n⟩
  · refine .inr ⟨i.natAbs, by omega, by omega, ?_⟩
    have e : i = -((i.natAbs : Nat) : Int) := by omega
    have := tl_neg (n := i.natAbs) (by omega)
    rw [← e] at this
    exact this
theorem tokIn_int {i : Int} (h : i.natAbs < 10 ^ 60) : tokIn (Str.ofString (toString i)) = some (.int i) := by
  rcases int_signs i with ⟨n, rfl, e⟩ | ⟨n, hn, rfl, e⟩
  · have hl : (numL n).length ≤ 60 := numL_len (by decide) (by simpa using h)
    generalize hs : Str.ofString (toString ((n : Nat) : Int)) = s at e
    have hne := numL_ne n
    have hd := numL_digits n
    have hw : isWord s ≠ true := fun hw => by
      obtain ⟨a, _, _⟩ := word_letters hw
      rw [e] at a
      cases q : numL n with
      | nil => exact hne q
      | cons c r =>
        rw [q] at a hd
        have := a c (List.mem_cons_self ..)
        have := hd.head
        omega
    have hm : (tl s).head? ≠ some 45 := by
      rw [e]
      cases q : numL n with
      | nil => simp
      | cons c r => rw [q] at hd; have := hd.head; simp; omega
    have eb : body s = s := if_neg hm
    have l1 : 1 ≤ (tl s).length := by
      rw [e]
      cases q : numL n with
      | nil => exact absurd q hne
      | cons c r => simp
    have hz : (!decide ((tl s).head? = some 48) || decide (s = ("0" : Str))) = true := by
      rcases Nat.eq_zero_or_pos n with z | z
      · subst z
        have : s = ("0" : Str) := by rw [← hs]; decide +kernel
        rw [decide_eq_true this, Bool.or_true]
      · rw [e, decide_eq_false (numL_head n z)]
        rfl
    have hnum : isNum s = true := by
      unfold isNum
      rw [eb, len_tl, decide_eq_true l1, decide_eq_true (show (tl s).length ≤ 60 by rw [e]; exact hl), e, digs_all hd, ← e, hz]
      rfl
    unfold tokIn
    rw [if_neg hw, if_pos hnum]
    unfold numV
    rw [if_neg hm, e, numL_val]
  · have hl : (numL n).length ≤ 60 := numL_len (by decide) (by omega)
    generalize hs : Str.ofString (toString (-((n : Nat) : Int))) = s at e
    have hne := numL_ne n
    have hd := numL_digits n
    have hw : isWord s ≠ true := fun hw => by
      obtain ⟨a, _, _⟩ := word_letters hw
      rw [e] at a
      have := a 45 (List.mem_cons_self ..)
      omega
    have hm : (tl s).head? = some 45 := by rw [e]; rfl
    have eb : tl (body s) = numL n := by unfold body; rw [if_pos hm, tl_mk, e]; rfl
    have l1 : 1 ≤ (numL n).length := by
      cases q : numL n with
      | nil => exact absurd q hne
      | cons c r => simp
    have hnum : isNum s = true := by
      unfold isNum
      rw [len_tl, eb, decide_eq_true l1, decide_eq_true hl, digs_all hd, decide_eq_false (numL_head n hn)]
      rfl
    unfold tokIn
    rw [if_neg hw, if_pos hnum]
    unfold numV
    rw [if_pos hm, e]
    show some (D.int (-((digitsVal (numL n) : Nat) : Int))) = _
    rw [numL_val]
theorem tokIn_word {s : Str} (h : isWord s = true) : tokIn s = some (.str s) := by
  unfold tokIn
  rw [if_pos h]
theorem word_ne {s : Str} (h : isWord s = true) : s ≠ lb ∧ s ≠ rb := by
  obtain ⟨a, _, _⟩ := word_letters h
  constructor
  · rintro rfl
    rw [tl_lb] at a
    have := a 91 (by simp); omega
  · rintro rfl
    rw [tl_rb] at a
    have := a 93 (by simp); omega
theorem int_free (i : Int) : ∀ c ∈ tl (Str.ofString (toString i)), c = 45 ∨ (48 ≤ c ∧ c ≤ 57) := by
  rcases int_signs i with ⟨n, _, e⟩ | ⟨n, _, _, e⟩
  · rw [e]; exact fun c hc => .inr (numL_digits n c hc)
  · rw [e]
    intro c hc
    rcases List.mem_cons.mp hc with rfl | hc
    · exact .inl rfl
    · exact .inr (numL_digits n c hc)
theorem int_ne (i : Int) : Str.ofString (toString i) ≠ lb ∧ Str.ofString (toString i) ≠ rb := by
  have a := int_free i
  constructor
  · intro e
    rw [e, tl_lb] at a
    have := a 91 (by simp); omega
  · intro e
    rw [e, tl_rb] at a
    have := a 93 (by simp); omega

/-! ### reading: the open rows, the innermost first -/
def step (st : List (List D)) (w : Str) : Option (List (List D)) :=
  if w = lb then (if st.length ≤ 12 then some ([] :: st) else none)
  else if w = rb then (match st with
    | top :: b :: r => some ((b ++ [.tup top]) :: r)
    | _ => none)
  else match tokIn w, st with
    | some d, top :: r => some ((top ++ [d]) :: r)
    | _, _ => none
def rdToks (ws : List Str) : Option (List D) := match ws.foldlM step [[]] with
  | some [x] => some x
  | _ => none
/-- the values of a text -/
def rdVals (text : Str) : Option (List D) := rdToks (Txt.split text sp)
/-- the value of a text -/
def rd (text : Str) : Option D := match rdVals text with
  | some [d] => some d
  | _ => none
/-- the text of a value -/
def wr (d : D) : Str := Txt.join sp (toks d)

/-- what has been read so far -/
def flat : List (List D) → List Str
  | [] => []
  | [x] => toksL x
  | x :: y :: r => flat (y :: r) ++ lb :: toksL x
def okDep : List (List D) → Prop
  | [] => True
  | x :: r => (∀ d ∈ x, dep d + (r.length + 1) ≤ 13) ∧ okDep r
theorem flat_snoc (x : List D) (d : D) : ∀ r, flat ((x ++ [d]) :: r) = flat (x :: r) ++ toks d
  | [] => by show toksL (x ++ [d]) = toksL x ++ toks d; rw [toksL_append, toksL_one]
  | y :: r => by
    show flat (y :: r) ++ lb :: toksL (x ++ [d]) = (flat (y :: r) ++ lb :: toksL x) ++ toks d
    rw [toksL_append, toksL_one]
    simp
theorem step_inv {st st' : List (List D)} {w : Str} (h : step st w = some st') (hne : st ≠ []) (hl : st.length ≤ 13) (hd : okDep st) : flat st' = flat st ++ [w] ∧ st' ≠ [] ∧ st'.length ≤ 13 ∧ okDep st' := by
  unfold step at h
  split at h
  · rename_i e
    split at h
    · rename_i hlt
      cases h
      subst e
      refine ⟨?_, by simp, by simp; omega, ?_, hd⟩
      · cases st with
        | nil => exact absurd rfl hne
        | cons x r => rfl
      · intro d hd'; simp at hd'
    · cases h
  · split at h
    · rename_i e
      split at h
      · rename_i top b r
        cases h
        subst e
        obtain ⟨h1, h2, h3⟩ := hd
        simp only [List.length_cons] at hl
        refine ⟨?_, by simp, by simp only [List.length_cons]; omega, ?_, h3⟩
        · rw [flat_snoc]
          show flat (b :: r) ++ (lb :: (toksL top ++ [rb])) = (flat (b :: r) ++ lb :: toksL top) ++ [rb]
          simp
        · intro d hd'
          rcases List.mem_append.mp hd' with hd' | hd'
          · exact h2 d hd'
          · have : d = .tup top := by simpa using hd'
            subst this
            have : depL top ≤ 13 - (r.length + 2) := depL_le.mpr fun d hd => by
              have := h1 d hd
              simp only [List.length_cons] at this
              omega
            show 1 + depL top + (r.length + 1) ≤ 13
            omega
      · cases h
    · split at h
      · rename_i d' top r hk
        cases h
        obtain ⟨h1, h2⟩ := hd
        obtain ⟨e1, e2⟩ := tok_write hk
        refine ⟨by rw [flat_snoc, e1], by simp, hl, ?_, h2⟩
        intro d hd'
        rcases List.mem_append.mp hd' with hd' | hd'
        · exact h1 d hd'
        · have : d = d' := by simpa using hd'
          subst this
          rw [e2]
          simp only [List.length_cons] at hl
          omega
      · cases h
theorem fold_inv : ∀ (ws : List Str) {st st' : List (List D)}, ws.foldlM step st = some st' → st ≠ [] → st.length ≤ 13 → okDep st → flat st' = flat st ++ ws ∧ st' ≠ [] ∧ st'.length ≤ 13 ∧ okDep st'
  | [], st, st', h, hne, hl, hd => by
    cases h
    exact ⟨by simp, hne, hl, hd⟩
  | w :: ws, st, st', h, hne, hl, hd => by
    rw [List.foldlM_cons] at h
    cases hs : step st w with
    | none => rw [hs] at h; cases h
    | some s1 =>
      rw [hs] at h
      obtain ⟨a1, a2, a3, a4⟩ := step_inv hs hne hl hd
      obtain ⟨b1, b2, b3, b4⟩ := fold_inv ws (st := s1) h a2 a3 a4
      exact ⟨by rw [b1, a1]; simp, b2, b3, b4⟩
theorem rdToks_back {ws : List Str} {ds : List D} (h : rdToks ws = some ds) : toksL ds = ws ∧ ∀ d ∈ ds, dep d ≤ 12 := by
  unfold rdToks at h
  split at h
  · rename_i x e
    cases h
    obtain ⟨a, _, _, b⟩ := fold_inv ws e (by simp) (by simp) ⟨fun d hd => by simp at hd, trivial⟩
    refine ⟨by simpa [flat, toksL] using a, fun d hd => ?_⟩
    have := b.1 d hd
    simp at this
    omega
  · cases h
theorem rdVals_back {text : Str} {ds : List D} (h : rdVals text = some ds) : Txt.join sp (toksL ds) = text ∧ ∀ d ∈ ds, dep d ≤ 12 := by
  obtain ⟨a, b⟩ := rdToks_back h
  refine ⟨?_, b⟩
  rw [a, join_eq]
  exact PySem.StrLaws.join_split text sp
theorem rd_back {text : Str} {d : D} (h : rd text = some d) : wr d = text ∧ dep d ≤ 12 ∧ toks d = Txt.split text sp := by
  unfold rd at h
  split at h
  · rename_i x e
    cases h
    obtain ⟨a, b⟩ := rdVals_back e
    rw [toksL_one] at a
    obtain ⟨c, _⟩ := rdToks_back e
    rw [toksL_one] at c
    exact ⟨a, b _ (by simp), c⟩
  · cases h

/-! ### what is right is read back -/
mutual
theorem fold_d : ∀ (d : D) (top : List D) (r : List (List D)), ok d → dep d + (r.length + 1) ≤ 13 → (toks d).foldlM step (top :: r) = some ((top ++ [d]) :: r)
  | .int i, top, r, h, _ => by
    show [Str.ofString (toString i)].foldlM step (top :: r) = _
    rw [List.foldlM_cons]
    have hs : step (top :: r) (Str.ofString (toString i)) = some ((top ++ [.int i]) :: r) := by
      unfold step
      rw [if_neg (int_ne i).1, if_neg (int_ne i).2, tokIn_int h]
    rw [hs]
    rfl
  | .bl _, _, _, h, _ => h.elim
  | .str s, top, r, h, _ => by
    show [s].foldlM step (top :: r) = _
    rw [List.foldlM_cons]
    have hs : step (top :: r) s = some ((top ++ [.str s]) :: r) := by
      unfold step
      rw [if_neg (word_ne h).1, if_neg (word_ne h).2, tokIn_word h]
    rw [hs]
    rfl
  | .tup ds, top, r, h, hd => by
    have hd' : 1 + depL ds + (r.length + 1) ≤ 13 := hd
    show (lb :: (toksL ds ++ [rb])).foldlM step (top :: r) = _
    rw [List.foldlM_cons]
    have hs : step (top :: r) lb = some ([] :: top :: r) := by
      unfold step
      rw [if_pos rfl, if_pos (by simp only [List.length_cons]; omega)]
    rw [hs]
    show (toksL ds ++ [rb]).foldlM step ([] :: top :: r) = _
    rw [List.foldlM_append, fold_ds ds [] (top :: r) h (by simp only [List.length_cons]; omega)]
    show [rb].foldlM step (([] ++ ds) :: top :: r) = _
    rw [List.foldlM_cons]
    have hs : step (([] ++ ds) :: top :: r) rb = some ((top ++ [.tup ds]) :: r) := by
      unfold step
      rw [if_neg (by decide +kernel), if_pos rfl]
      rfl
    rw [hs]
    rfl
theorem fold_ds : ∀ (ds : List D) (top : List D) (r : List (List D)), okL ds → depL ds + (r.length + 1) ≤ 13 → (toksL ds).foldlM step (top :: r) = some ((top ++ ds) :: r)
  | [], top, r, _, _ => by
    show some (top :: r) = _
    rw [List.append_nil]
  | d :: ds, top, r, h, hd => by
    have hd' : max (dep d) (depL ds) + (r.length + 1) ≤ 13 := hd
    show (toks d ++ toksL ds).foldlM step (top :: r) = _
    rw [List.foldlM_append, fold_d d top r h.1 (by omega)]
    show (toksL ds).foldlM step ((top ++ [d]) :: r) = _
    rw [fold_ds ds (top ++ [d]) r h.2 (by omega), List.append_assoc]
    rfl
end
mutual
theorem toks_free : ∀ d, ok d → ∀ w ∈ toks d, 32 ∉ tl w
  | .int i, _, w, hw => by
    have : w = Str.ofString (toString i) := by simpa [toks] using hw
    subst this
    intro h
    have := int_free i 32 h
    omega
  | .bl _, h, _, _ => h.elim
  | .str s, h, w, hw => by
    have : w = s := by simpa [toks] using hw
    subst this
    intro h'
    have := (word_letters h).1 32 h'
    omega
  | .tup ds, h, w, hw => by
    have hw' : w = lb ∨ w ∈ toksL ds ∨ w = rb := by simpa [toks] using hw
    rcases hw' with rfl | hw | rfl
    · rw [tl_lb]; decide
    · exact toksL_free ds h w hw
    · rw [tl_rb]; decide
theorem toksL_free : ∀ ds, okL ds → ∀ w ∈ toksL ds, 32 ∉ tl w
  | [], _, w, hw => by simp [toksL] at hw
  | d :: r, h, w, hw => by
    have hw' : w ∈ toks d ∨ w ∈ toksL r := by simpa [toksL] using hw
    rcases hw' with hw | hw
    · exact toks_free d h.1 w hw
    · exact toksL_free r h.2 w hw
end
theorem toks_ne {d : D} (h : ok d) : toks d ≠ [] := by
  cases d <;> first | exact h.elim | simp [toks]
theorem sp_ok : sp.cps.all (· < 256) = true := by decide +kernel
theorem split_wr {ws : List Str} (hne : ws ≠ []) (hf : ∀ w ∈ ws, 32 ∉ tl w) : Txt.split (Txt.join sp ws) sp = ws := split_join (s := 32) (S := []) tl_sp sp_ok hne hf
theorem rd_wr {d : D} (h : ok d) (hd : dep d ≤ 12) : rd (wr d) = some d := by
  unfold rd rdVals wr
  rw [split_wr (toks_ne h) (toks_free d h)]
  unfold rdToks
  rw [fold_d d [] [] h (by simp; omega)]
  rfl

/-! ### sizes -/
/-- how long the texts are, with one sign more each -/
def wsum (ws : List Str) : Nat := (ws.map (·.length)).sum + ws.length
theorem wsum_append (a b : List Str) : wsum (a ++ b) = wsum a + wsum b := by
  unfold wsum
  simp
  omega
theorem wsum_cons (a : Str) (b : List Str) : wsum (a :: b) = a.length + 1 + wsum b := by
  unfold wsum
  simp
  omega
theorem wsum_nil : wsum [] = 0 := rfl
theorem sp_len : sp.length = 1 := by decide +kernel
theorem len_append (a b : Str) : (a ++ b).length = a.length + b.length := by
  rw [len_tl, len_tl, len_tl, tl_append, List.length_append]
theorem join_len : ∀ (ws : List Str), ws ≠ [] → (Str.join sp ws).length + 1 = wsum ws
  | [], h => absurd rfl h
  | [x], _ => by
    show x.length + 1 = _
    rw [wsum_cons, wsum_nil]
  | x :: y :: r, _ => by
    have ih := join_len (y :: r) (by simp)
    show (x ++ sp ++ Str.join sp (y :: r)).length + 1 = _
    rw [len_append, len_append, sp_len, wsum_cons, ← ih]
    omega
theorem split_ne (text : Str) : Txt.split text sp ≠ [] := fun h => by
  have := split_spl text sp (by rw [tl_sp]; simp) (kind_ok sp_ok)
  rw [h] at this
  have e : ∀ (S : List Nat) (l acc : List Nat), spl S 0 acc l ≠ [] := by
    intro S l
    induction l with
    | nil => intro acc; rw [spl_nil]; simp
    | cons c r ih =>
      intro acc
      cases hp : pre S (c :: r) with
      | true => rw [spl_hit hp]; simp
      | false => rw [spl_miss hp]; exact ih _
  exact e _ _ _ this.symm
theorem split_sum (text : Str) : wsum (Txt.split text sp) = text.length + 1 := by
  rw [← join_len _ (split_ne text), PySem.StrLaws.join_split]
theorem wr_len {d : D} (h : toks d ≠ []) : (wr d).length + 1 = wsum (toks d) := by
  unfold wr
  rw [join_eq]
  exact join_len _ h

/-! ### the law's own writing: bracket by bracket -/
theorem join_app : ∀ {a b : List Str}, a ≠ [] → b ≠ [] → Str.join sp (a ++ b) = Str.join sp a ++ sp ++ Str.join sp b
  | [], _, h, _ => absurd rfl h
  | [x], b, _, hb => by
    cases b with
    | nil => exact absurd rfl hb
    | cons y r => rfl
  | x :: y :: r, b, _, hb => by
    have ih := join_app (a := y :: r) (b := b) (by simp) hb
    show x ++ sp ++ Str.join sp ((y :: r) ++ b) = (x ++ sp ++ Str.join sp (y :: r)) ++ sp ++ Str.join sp b
    rw [ih]
    simp only [Str.append_assoc]
theorem join_flat : ∀ (L : List (List Str)), (∀ l ∈ L, l ≠ []) → Str.join sp (L.map (Str.join sp)) = Str.join sp L.flatten
  | [], _ => rfl
  | [l], _ => by
    show Str.join sp l = Str.join sp (l ++ [])
    rw [List.append_nil]
  | l :: m :: r, h => by
    have ih := join_flat (m :: r) (fun x hx => h x (List.mem_cons_of_mem _ hx))
    have hm : m ≠ [] := h m (by simp)
    show Str.join sp l ++ sp ++ Str.join sp ((m :: r).map (Str.join sp)) = Str.join sp (l ++ (m :: r).flatten)
    rw [ih, join_app (h l (by simp))]
    show m ++ r.flatten ≠ []
    simp [hm]
theorem toksL_flat : ∀ ds, toksL ds = (ds.map toks).flatten
  | [] => rfl
  | d :: r => by
    show toks d ++ toksL r = toks d ++ (r.map toks).flatten
    rw [toksL_flat r]
theorem wr_tup {ds : List D} (h : okL ds) : Txt.join sp ([lb] ++ ds.map wr ++ [rb]) = wr (.tup ds) := by
  have e : [lb] ++ ds.map wr ++ [rb] = ([[lb]] ++ ds.map toks ++ [[rb]]).map (Str.join sp) := by
    rw [List.map_append, List.map_append, List.map_map]
    congr 2
    apply List.map_congr_left
    intro d _
    show Txt.join sp (toks d) = Str.join sp (toks d)
    exact join_eq _ _
  have hne : ∀ d ∈ ds, toks d ≠ [] := by
    intro d hd
    have : ∀ {l : List D}, okL l → ∀ x ∈ l, ok x := by
      intro l
      induction l with
      | nil => intro _ x hx; simp at hx
      | cons a r ih =>
        intro h x hx
        rcases List.mem_cons.mp hx with rfl | hx
        · exact h.1
        · exact ih h.2 x hx
    exact toks_ne (this h d hd)
  rw [join_eq, e, join_flat]
  · unfold wr
    rw [join_eq]
    congr 1
    show _ = lb :: (toksL ds ++ [rb])
    rw [toksL_flat]
    simp
  · intro l hl
    simp at hl
    rcases hl with rfl | ⟨d, hd, rfl⟩ | rfl
    · simp
    · exact hne d hd
    · simp
theorem wr_int (i : Int) : wr (.int i) = Str.ofString (toString i) := rfl
theorem wr_str (s : Str) : wr (.str s) = s := rfl
end RS

/-! How values lie in the heap; what is kept. Defs that stand, by their promises. -/
namespace RS
open PySem PySem.Spec PyProof.Rows L2 TL

/-- all that was tracked is as it was, but at l -/
def Sv (l : List Addr) (H H' : Hp) : Prop := ∀ b o, b ∉ l → H b = some o → H' b = some o
theorem Sv.refl (l : List Addr) (H : Hp) : Sv l H H := fun _ _ _ h => h
theorem Sv.trans {l : List Addr} {H H1 H2 : Hp} (a : Sv l H H1) (b : Sv l H1 H2) : Sv l H H2 := fun c o n h => b c o n (a c o n h)
theorem Sv.mono {l m : List Addr} {H H' : Hp} (a : Sv l H H') (h : ∀ b ∈ l, b ∈ m) : Sv m H H' := fun b o n e => a b o (fun z => n (h b z)) e
theorem Sv.new {l : List Addr} {H : Hp} {p : Addr} {o : HO} (n : H p = none) : Sv l H (upd H p o) := fun b x _ e => by
  rw [upd_ne (ne_of_none e n)]
  exact e
theorem Sv.set {l : List Addr} {H : Hp} {p : Addr} {o : HO} (h : p ∈ l) : Sv l H (upd H p o) := fun b x n e => by
  rw [upd_ne (fun z => n (by rw [z]; exact h))]
  exact e
theorem Sv.get {l : List Addr} {H H' : Hp} (a : Sv l H H') {b : Addr} {o : HO} (n : b ∉ l) (h : H b = some o) : H' b = some o := a b o n h
/-- what was not there when all this began is not there -/
theorem Sv.free {l : List Addr} {H H' : Hp} (a : Sv l H H') {b : Addr} (h : H' b = none) (n : b ∉ l) : H b = none := by
  cases q : H b with
  | none => rfl
  | some o => rw [a b o n q] at h; cases h
theorem Sv.same {l : List Addr} {H H' : Hp} (a : Same H H') : Sv l H H' := fun b o _ e => a b o e
theorem Sv.nil {H H' : Hp} (a : Sv [] H H') : Same H H' := fun b o e => a b o (by simp) e
/-- a thing that is made and then changed alone: from outside nothing was changed -/
theorem Sv.drop {l : List Addr} {H H' : Hp} {p : Addr} (n : H p = none) (a : Sv (p :: l) H H') : Sv l H H' := fun b o m e =>
  a b o (fun z => by
    rcases List.mem_cons.mp z with rfl | z
    · rw [n] at e; cases e
    · exact m z) e

/-- tuples and locked things are kept -/
def TK (H H' : Hp) : Prop := (∀ a xs, H a = some (.tup xs) → H' a = some (.tup xs)) ∧ ∀ a o u, H a = some (.frz o u) → H' a = some (.frz o u)
theorem TK.refl (H : Hp) : TK H H := ⟨fun _ _ e => e, fun _ _ _ e => e⟩
theorem TK.trans {H H1 H2 : Hp} (a : TK H H1) (b : TK H1 H2) : TK H H2 := ⟨fun c xs e => b.1 c xs (a.1 c xs e), fun c o u e => b.2 c o u (a.2 c o u e)⟩
theorem TK.same {H H' : Hp} (a : Same H H') : TK H H' := ⟨fun c xs e => a c _ e, fun c o u e => a c _ e⟩
/-- is a list -/
def IsL (H : Hp) (l : Addr) : Prop := ∃ xs, H l = some (.lst xs)
theorem Sv.tk {l : List Addr} {H H' : Hp} (a : Sv l H H') (h : ∀ b ∈ l, IsL H b) : TK H H' :=
  ⟨fun c xs e => a c _ (fun z => by obtain ⟨ys, q⟩ := h c z; rw [q] at e; cases e) e, fun c o u e => a c _ (fun z => by obtain ⟨ys, q⟩ := h c z; rw [q] at e; cases e) e⟩
theorem TK.seqT {K : PySem.W.Frag} {H H' : Hp} {a : Addr} {xs : List V} (e : TK H H') (h : SqT K H a xs) : SqT K H' a xs := by
  rcases h with (h | ⟨o, h⟩) | h
  · exact .inl (.inl (e.1 _ _ h))
  · exact .inl (.inr ⟨o, e.2 _ _ _ h⟩)
  · exact .inr h
theorem tk_new {H : Hp} {p : Addr} {o : HO} (n : H p = none) : TK H (upd H p o) := TK.same fun b x e => by
  rw [upd_ne (ne_of_none e n)]
  exact e
theorem tk_set {H : Hp} {p : Addr} {o : HO} (h : IsL H p) : TK H (upd H p o) := Sv.tk (l := [p]) (Sv.set (by simp)) fun b hb => by
  have : b = p := by simpa using hb
  exact this ▸ h

mutual
/-- the value d is what v stands for -/
def Rp (K : PySem.W.Frag) (H : Hp) : D → V → Prop
  | .int i, v => v = .int i
  | .bl b, v => v = .bl b
  | .str s, v => v = .str s
  | .tup ds, v => ∃ a xs, v = .ref a ∧ SqT K H a xs ∧ RpL K H ds xs
def RpL (K : PySem.W.Frag) (H : Hp) : List D → List V → Prop
  | [], xs => xs = []
  | d :: r, xs => ∃ x ys, xs = x :: ys ∧ Rp K H d x ∧ RpL K H r ys
end
section
variable {K : PySem.W.Frag} {H H' : Hp}
mutual
theorem Rp.keep (k : TK H H') : ∀ {d : D} {v : V}, Rp K H d v → Rp K H' d v
  | .int _, _, h => h
  | .bl _, _, h => h
  | .str _, _, h => h
  | .tup ds, _, ⟨a, xs, e, s, r⟩ => ⟨a, xs, e, k.seqT s, RpL.keep k r⟩
theorem RpL.keep (k : TK H H') : ∀ {ds : List D} {xs : List V}, RpL K H ds xs → RpL K H' ds xs
  | [], _, h => h
  | d :: r, _, ⟨x, ys, e, h, t⟩ => ⟨x, ys, e, Rp.keep k h, RpL.keep k t⟩
end
theorem RpL.len : ∀ {ds : List D} {xs : List V}, RpL K H ds xs → xs.length = ds.length
  | [], _, h => by
    have h : _ = [] := h
    rw [h]; rfl
  | d :: r, _, ⟨x, ys, e, _, t⟩ => by rw [e, List.length_cons, RpL.len t, List.length_cons]
theorem RpL.get : ∀ {ds : List D} {xs : List V} {i : Nat} {x : V}, RpL K H ds xs → xs[i]? = some x → ∃ d, ds[i]? = some d ∧ Rp K H d x
  | [], _, i, x, h, e => by
    have h : _ = [] := h
    rw [h] at e; simp at e
  | d :: r, _, 0, x, ⟨y, ys, e, h, t⟩, q => by
    rw [e] at q
    have : y = x := by simpa using q
    exact ⟨d, rfl, this ▸ h⟩
  | d :: r, _, i + 1, x, ⟨y, ys, e, h, t⟩, q => by
    rw [e] at q
    obtain ⟨d', e', h'⟩ := RpL.get (i := i) t (by simpa using q)
    exact ⟨d', by simpa using e', h'⟩
theorem RpL.at : ∀ {ds : List D} {xs : List V} {i : Nat} {d : D}, RpL K H ds xs → ds[i]? = some d → ∃ x, xs[i]? = some x ∧ Rp K H d x
  | [], _, i, d, h, e => by simp at e
  | d :: r, _, 0, d', ⟨y, ys, e, h, t⟩, q => by
    have : d = d' := by simpa using q
    exact ⟨y, by rw [e]; rfl, this ▸ h⟩
  | d :: r, _, i + 1, d', ⟨y, ys, e, h, t⟩, q => by
    obtain ⟨x, e', h'⟩ := RpL.at (i := i) (d := d') t (by simpa using q)
    exact ⟨x, by rw [e]; simpa using e', h'⟩
theorem RpL.snoc : ∀ {ds : List D} {xs : List V} {d : D} {x : V}, RpL K H ds xs → Rp K H d x → RpL K H (ds ++ [d]) (xs ++ [x])
  | [], _, d, x, h, r => by
    have h : _ = [] := h
    rw [h]
    exact ⟨x, [], rfl, r, rfl⟩
  | d0 :: r0, _, d, x, ⟨y, ys, e, h, t⟩, r => by
    rw [e]
    exact ⟨y, ys ++ [x], rfl, h, RpL.snoc t r⟩
theorem RpL.nil : RpL K H [] [] := rfl
theorem RpL.cons {d : D} {x : V} {ds : List D} {xs : List V} (h : Rp K H d x) (t : RpL K H ds xs) : RpL K H (d :: ds) (x :: xs) := ⟨x, xs, rfl, h, t⟩
theorem Rp.tup {a : Addr} {ds : List D} {xs : List V} (s : SqT K H a xs) (r : RpL K H ds xs) : Rp K H (.tup ds) (.ref a) := ⟨a, xs, rfl, s, r⟩
theorem Rp.tupH {a : Addr} {ds : List D} {xs : List V} (s : H a = some (.tup xs)) (r : RpL K H ds xs) : Rp K H (.tup ds) (.ref a) := ⟨a, xs, rfl, .inl (.inl s), r⟩
/-- a new tuple -/
theorem Rp.made {p : Addr} {ds : List D} {xs : List V} (n : H p = none) (r : RpL K H ds xs) : Rp K (upd H p (.tup xs)) (.tup ds) (.ref p) := Rp.tupH upd_same (r.keep (tk_new n))
end

/-! ### defs that stand -/
/-- the def of this name stands behind the top as the text has it -/
def HasDef (K : PySem.W.Frag) (mg : Str → Option Value) (x : Str) (st : Stmt) (ps : List Str) : Prop := ∃ f fd, Fun K x x st f fd ∧ mg x = some (.ref f) ∧ Binds K fd ps []
/-- a def of this name keeps the promise sp -/
def Has (P : Program) (w : World) (K : PySem.W.Frag) (mg : Str → Option Value) (base : Heap) (CX : CXT) (k : Nat) (x : Str) (ps : List Str) (sp : Sp) : Prop :=
  ∃ f fd, FnOk P w K mg base CX k f fd ps sp ∧ mg x = some (.ref f) ∧ PySem.W.keepIn K (.ref f) = true ∧ Binds K fd ps []
section
variable {P : Program} {w : World} {K : PySem.W.Frag} {mg : Str → Option Value} {base : Heap} {CX : CXT} {k : Nat} {x : Str} {st : Stmt} {ps : List Str} {sp : Sp}
theorem HasDef.has (D : HasDef K mg x st ps) (h : ∀ f fd, Fun K x x st f fd → FnOk P w K mg base CX k f fd ps sp) : Has P w K mg base CX k x ps sp := by
  obtain ⟨f, fd, F, g, b⟩ := D
  exact ⟨f, fd, h f fd F, g, F.kp, b⟩
theorem Has.mono {j : Nat} (h : Has P w K mg base CX j x ps sp) (hj : j ≤ k) : Has P w K mg base CX k x ps sp := by
  obtain ⟨f, fd, F, r⟩ := h
  exact ⟨f, fd, F.mono hj, r⟩
theorem Has.imp {sp' : Sp} (h : Has P w K mg base CX k x ps sp) (q : ∀ vs H Q E, sp' vs H Q E → sp vs H Q E) : Has P w K mg base CX k x ps sp' := by
  obtain ⟨f, fd, F, r⟩ := h
  exact ⟨f, fd, F.imp q, r⟩
end
section
variable {X : Cx} {CX : CXT} {k : Nat} {x : Str} {ps : List Str} {sp : Sp} {E : XK} {p pos : Pos} {e : Expr} {es : List Expr} {t : TA}
/-- f(e, ..), f of a kept promise -/
theorem pe_has (h : Has X.prog X.w X.K X.mg X.base CX k x ps sp) (hr : Room k X.A) (hx : Passes CX X E) (ha : PA X (e :: es) t) (hg : Gl X x := by rfl) (hdb : (x == ("__debug__" : Str)) = false := by decide)
    (he : starEach (e :: es) X.env = (false, eval e X.env) :: starEach es X.env := by rfl) (hpl : (backTo pos (starEach es X.env)).any (·.1) = false := by rfl) :
    PE X (.Call (.Name x p) (e :: es) [] pos) (tCall sp [] E t) := by
  obtain ⟨f, fd, F, g, kp, b⟩ := h
  exact pe_call F hr hg g kp b .nil hx ha hdb he hpl
/-- f(e, ..) in a try's body, or in a def that may raise: what is raised is wished for at the slots -/
theorem pe_hasS {W : WX} (h : Has X.prog X.w X.K X.mg X.base (L2.CX X.prog X.w) k x ps sp) (hr : Room k X.A) (tk : Takes X W) (ha : PA X (e :: es) t) (hg : Gl X x := by rfl) (hdb : (x == ("__debug__" : Str)) = false := by decide)
    (he : starEach (e :: es) X.env = (false, eval e X.env) :: starEach es X.env := by rfl) (hpl : (backTo pos (starEach es X.env)).any (·.1) = false := by rfl) :
    PE X (.Call (.Name x p) (e :: es) [] pos) (tCallS sp (WE W) t) := by
  obtain ⟨f, fd, F, g, kp, b⟩ := h
  exact pe_callS F hr hg g kp b (fun σ => passAt tk σ) ha hdb he hpl
end
end RS

/-! More readings: comprehensions over a text, slices. -/
namespace RS
open PySem PySem.Spec PyProof.Rows L2 TL

theorem lc_str {z : Str} {g : TG} {tt : TT} {te : TE} {vs : List Nat} {σ : L2.St} {H1 : Hp} {D : Addr} {Qd : Hp → Prop} (Pv : Nat → Hp → Prop) (h0 : Pv 0 (upd H1 D (.lst [])))
    (hs : ∀ (i c : Nat) H, (tl z)[i]? = some c → Pv i H → g (.str ⟨#[c]⟩) (wipe σ vs) H fun σ2 H2 => wipe σ2 vs = wipe σ vs ∧ tt σ2 H2 fun b H3 =>
      if b = true then te σ2 H3 fun y H4 => ∃ acc, H4 D = some (.lst acc) ∧ acc.length < sizeLine ∧ Pv (i + 1) (upd H4 D (.lst (acc ++ [y]))) else Pv (i + 1) H3) (hd : ∀ H, Pv (tl z).length H → Qd H) :
    ∃ W : Nat → Nat → Hp → Prop, (∃ m, W 0 m (upd H1 D (.lst []))) ∧ ∀ i m H, W i m H →
      ((Its z).stop i H ∧ Qd H) ∨ ((Its z).go i H ∧ ∃ Nx : Hp → Prop, (∀ H', Nx H' → ∃ m', m' < m ∧ W (i + 1) m' H') ∧ ∀ x H', (Its z).yld i H x H' → g x (wipe σ vs) H' fun σ2 H2 => wipe σ2 vs = wipe σ vs ∧ tt σ2 H2 fun b H3 =>
        if b = true then te σ2 H3 fun y H4 => ∃ acc, H4 D = some (.lst acc) ∧ acc.length < sizeLine ∧ Nx (upd H4 D (.lst (acc ++ [y]))) else Nx H3) := by
  have hz : (tl z).length = z.cps.size := Array.length_toList
  refine ⟨fun i m H => m = (tl z).length - i ∧ i ≤ (tl z).length ∧ Pv i H, ⟨(tl z).length, by simp, Nat.zero_le _, h0⟩, ?_⟩
  rintro i m H ⟨rfl, hi, p⟩
  by_cases hlt : i < (tl z).length
  · refine .inr ⟨by show i < z.cps.size; omega, Pv (i + 1), fun H' p' => ⟨(tl z).length - (i + 1), by omega, rfl, hlt, p'⟩, fun x H' y => ?_⟩
    obtain ⟨e, c, hc, ex⟩ := y
    subst e
    subst ex
    exact hs i c _ (by rw [← hc]; exact Array.getElem?_toList) p
  · have e : i = (tl z).length := by omega
    subst e
    exact .inl ⟨by show z.cps.size ≤ _; omega, hd H p⟩

/-- [c in S for c in z], then all(..): the reading's way to the answer -/
theorem take_snoc {α : Type} {l : List α} {i : Nat} {c : α} (h : l[i]? = some c) : l.take (i + 1) = l.take i ++ [c] := by
  rw [List.take_add_one, h]
  rfl

/-! ### slices -/
theorem tl_cut0 (z : Str) (k : Nat) : tl (cutS z none (some (k : Int))) = (tl z).take k := by
  show ((tl z).drop 0).take (HT.sIx z.length z.length (some (k : Int)) - 0) = _
  rw [HT.sIx_nat, List.drop_zero, Nat.sub_zero, len_tl]
  by_cases h : k ≤ (tl z).length
  · rw [Nat.min_eq_left h]
  · rw [Nat.min_eq_right (by omega), List.take_length, List.take_of_length_le (by omega)]
theorem tl_cut1 (z : Str) (k : Nat) : tl (cutS z (some (k : Int)) none) = (tl z).drop k := by
  show ((tl z).drop (HT.sIx z.length 0 (some (k : Int)))).take (z.length - HT.sIx z.length 0 (some (k : Int))) = _
  rw [HT.sIx_nat, len_tl]
  rw [List.take_of_length_le (by rw [List.length_drop]; omega)]
  by_cases h : k ≤ (tl z).length
  · rw [Nat.min_eq_left h]
  · rw [Nat.min_eq_right (by omega), List.drop_length, List.drop_of_length_le (by omega)]
/-- the first sign alone -/
theorem cut_dash (z : Str) : cutS z none (some 1) = ("-" : Str) ↔ (tl z).head? = some 45 := by
  have e := tl_cut0 z 1
  constructor
  · intro h
    have h' : tl (cutS z none (some 1)) = tl ("-" : Str) := by rw [h]
    rw [tl_dash] at h'
    have e' : (tl z).take 1 = [45] := e.symm.trans h'
    cases hz : tl z with
    | nil => rw [hz] at e'; simp at e'
    | cons a r => rw [hz] at e'; simp at e'; simp [e']
  · intro h
    apply ext_tl
    rw [tl_dash]
    refine Eq.trans e ?_
    cases hz : tl z with
    | nil => rw [hz] at h; simp at h
    | cons a r => rw [hz] at h; simp at h; simp [h]
theorem cut_body (z : Str) : (if (tl z).head? = some 45 then cutS z (some 1) none else z) = body z := by
  unfold body
  split
  · apply ext_tl
    refine Eq.trans (tl_cut1 z 1) ?_
    rw [tl_mk, List.drop_one]
  · rfl

/-! ### cuts: a part's answers said once -/
theorem cutE {t : TE} {σ : L2.St} {H : Hp} {Q : VK} (R : V → Hp → Prop) (h : ∀ Q' : VK, (∀ v H', R v H' → Q' v H') → t σ H Q') (q : ∀ v H', R v H' → Q v H') : t σ H Q := h Q q
theorem cutT {t : TT} {σ : L2.St} {H : Hp} {Q : Bool → Hp → Prop} (R : Bool → Hp → Prop) (h : ∀ Q' : Bool → Hp → Prop, (∀ v H', R v H' → Q' v H') → t σ H Q') (q : ∀ v H', R v H' → Q v H') : t σ H Q := h Q q
theorem cutTS {t : TS} {D : Ends} {σ : L2.St} {H : Hp} (R : L2.St → Hp → Prop) (h : ∀ nx : L2.St → Hp → Prop, (∀ σ' H', R σ' H' → nx σ' H') → t { D with nx := nx } σ H) (q : ∀ σ' H', R σ' H' → D.nx σ' H') : t D σ H := h D.nx q
/-- behind the first statement -/
theorem cutSeq {s r : TS} {D : Ends} {σ : L2.St} {H : Hp} (R : L2.St → Hp → Prop) (h : ∀ nx : L2.St → Hp → Prop, (∀ σ' H', R σ' H' → nx σ' H') → s { D with nx := nx } σ H) (q : ∀ σ' H', R σ' H' → r D σ' H') : tSeq s r D σ H := h _ q
/-- an if whose test gives b -/
theorem cutIf {c : TT} {t u : TS} {D : Ends} {σ : L2.St} {H : Hp} (b : Bool) (h : ∀ Q' : Bool → Hp → Prop, Q' b H → c σ H Q') (q : if b = true then t D σ H else u D σ H) : tIfS c t u D σ H := h _ q
theorem cutIfS {c : TT} {t u r : TS} {D : Ends} {σ : L2.St} {H : Hp} (b : Bool) (h : ∀ Q' : Bool → Hp → Prop, Q' b H → c σ H Q') (q : if b = true then t { D with nx := r D } σ H else u { D with nx := r D } σ H) : tSeq (tIfS c t u) r D σ H := h _ q
end RS

/-! A list of lists of values: the rows that are open. -/
namespace RS
open PySem PySem.Spec PyProof.Rows L2 TL

/-! ### values for == -/
mutual
def toPy : D → PyData
  | .int i => .int i
  | .bl b => .bool b
  | .str s => .str s
  | .tup ds => .tuple (toPyL ds)
def toPyL : List D → List PyData
  | [] => []
  | d :: r => toPy d :: toPyL r
end
mutual
/-- its texts are texts -/
def pyok : D → Prop
  | .int _ => True
  | .bl _ => True
  | .str s => PySem.PyData.strOk s = true
  | .tup ds => pyokL ds
def pyokL : List D → Prop
  | [] => True
  | d :: r => pyok d ∧ pyokL r
end
theorem pyokL_snoc : ∀ {a : List D} {d : D}, pyokL a → pyok d → pyokL (a ++ [d])
  | [], _, _, h => ⟨h, trivial⟩
  | _ :: _, _, ⟨h1, h2⟩, h => ⟨h1, pyokL_snoc h2 h⟩
mutual
theorem lay_of : ∀ d, pyok d → PyData.canLay0 (toPy d) = true
  | .int _, _ => by simp [toPy, PyData.canLay0]
  | .bl _, _ => by simp [toPy, PyData.canLay0]
  | .str s, h => by simp only [toPy, PyData.canLay0]; exact h
  | .tup ds, h => by simp only [toPy, PyData.canLay0]; exact lay_ofL ds h
theorem lay_ofL : ∀ ds, pyokL ds → PyData.canLayAll0 (toPyL ds) = true
  | [], _ => by simp [toPyL, PyData.canLayAll0]
  | d :: r, h => by simp only [toPyL, PyData.canLayAll0, lay_of d h.1, lay_ofL r h.2, Bool.and_self]
end
mutual
theorem depth_py : ∀ d, PyData.depth (toPy d) = dep d
  | .int _ => by simp [toPy, PyData.depth, dep]
  | .bl _ => by simp [toPy, PyData.depth, dep]
  | .str _ => by simp [toPy, PyData.depth, dep]
  | .tup ds => by simp only [toPy, PyData.depth, dep, depth_pyL ds]; omega
theorem depth_pyL : ∀ ds, PyData.depthAll (toPyL ds) = depL ds
  | [] => by simp [toPyL, PyData.depthAll, depL]
  | d :: r => by simp only [toPyL, PyData.depthAll, depL, depth_py d, depth_pyL r]
end
section
variable {K : PySem.W.Frag} {H H' : Hp}
mutual
theorem Rp.dp : ∀ {d : D} {v : V}, Rp K H d v → Dp K H v (toPy d)
  | .int i, _, h => by cases (show _ = V.int i from h); exact .int i
  | .bl b, _, h => by cases (show _ = V.bl b from h); exact .bl b
  | .str s, _, h => by cases (show _ = V.str s from h); exact .str s
  | .tup ds, _, ⟨a, xs, e, s, r⟩ => by rw [e]; exact .tup s (RpL.dp r)
theorem RpL.dp : ∀ {ds : List D} {xs : List V}, RpL K H ds xs → DpAll K H xs (toPyL ds)
  | [], _, h => by cases (show _ = ([] : List V) from h); exact .nil
  | d :: r, _, ⟨x, ys, e, h, t⟩ => by rw [e]; exact .cons h.dp (RpL.dp t)
end

/-! ### the open rows -/
/-- the lists at rs hold the rows st -/
def Rows (K : PySem.W.Frag) (H : Hp) : List Addr → List (List D) → Prop
  | [], [] => True
  | r :: rs, ds :: st => (∃ xs, H r = some (.lst xs) ∧ RpL K H ds xs) ∧ Rows K H rs st
  | _, _ => False
/-- the list at l holds the lists at rs, the last one first -/
structure Stk (K : PySem.W.Frag) (H : Hp) (l : Addr) (rs : List Addr) (st : List (List D)) : Prop where
  top : H l = some (.lst (rs.reverse.map V.ref))
  nd : (l :: rs).Nodup
  rows : Rows K H rs st
theorem Rows.len : ∀ {rs : List Addr} {st : List (List D)}, Rows K H rs st → rs.length = st.length
  | [], [], _ => rfl
  | r :: rs, ds :: st, h => by rw [List.length_cons, List.length_cons, Rows.len h.2]
  | [], _ :: _, h => h.elim
  | _ :: _, [], h => h.elim
theorem Rows.keep (k : TK H H') : ∀ {rs : List Addr} {st : List (List D)}, (∀ r ∈ rs, H' r = H r) → Rows K H rs st → Rows K H' rs st
  | [], [], _, _ => trivial
  | r :: rs, ds :: st, e, ⟨⟨xs, h, l⟩, t⟩ => ⟨⟨xs, by rw [e r (by simp)]; exact h, l.keep k⟩, Rows.keep k (fun r h => e r (by simp [h])) t⟩
  | [], _ :: _, _, h => h.elim
  | _ :: _, [], _, h => h.elim
theorem Rows.isL : ∀ {rs : List Addr} {st : List (List D)}, Rows K H rs st → ∀ r ∈ rs, IsL H r
  | [], [], _, r, h => by simp at h
  | r :: rs, ds :: st, ⟨⟨xs, h, _⟩, t⟩, b, hb => by
    rcases List.mem_cons.mp hb with rfl | hb
    · exact ⟨xs, h⟩
    · exact Rows.isL t b hb
  | [], _ :: _, h, _, _ => h.elim
  | _ :: _, [], h, _, _ => h.elim
variable {l : Addr} {rs : List Addr} {st : List (List D)}
theorem Stk.isL (S : Stk K H l rs st) : ∀ b ∈ l :: rs, IsL H b := fun b hb => by
  rcases List.mem_cons.mp hb with rfl | hb
  · exact ⟨_, S.top⟩
  · exact S.rows.isL b hb
theorem Stk.len (S : Stk K H l rs st) : rs.length = st.length := S.rows.len
/-- all that was tracked is kept -/
theorem Stk.same (S : Stk K H l rs st) (s : Same H H') : Stk K H' l rs st :=
  ⟨s _ _ S.top, S.nd, S.rows.keep (TK.same s) fun r hr => by
    obtain ⟨xs, h⟩ := S.rows.isL r hr
    rw [h]
    exact s _ _ h⟩
/-- kept but at other places -/
theorem Stk.sv {m : List Addr} (S : Stk K H l rs st) (s : Sv m H H') (k : TK H H') (n : ∀ b ∈ l :: rs, b ∉ m) : Stk K H' l rs st :=
  ⟨s _ _ (n l (by simp)) S.top, S.nd, S.rows.keep k fun r hr => by
    obtain ⟨xs, h⟩ := S.rows.isL r hr
    rw [h]
    exact s _ _ (n r (by simp [hr])) h⟩
/-- a new empty row -/
theorem Stk.push {p : Addr} (S : Stk K H l rs st) (n : H p = none) : Stk K (upd (upd H p (.lst [])) l (.lst ((p :: rs).reverse.map V.ref))) l (p :: rs) ([] :: st) := by
  have pl : p ≠ l := fun e => by rw [e, S.top] at n; cases n
  have pr : ∀ r ∈ rs, p ≠ r := fun r hr e => by
    obtain ⟨xs, h⟩ := S.rows.isL r hr
    rw [e, h] at n; cases n
  have lr : ∀ r ∈ rs, l ≠ r := fun r hr e => (List.nodup_cons.mp S.nd).1 (by rw [e]; exact hr)
  have nd := List.nodup_cons.mp S.nd
  have k : TK H (upd (upd H p (.lst [])) l (.lst ((p :: rs).reverse.map V.ref))) := (tk_new n).trans (tk_set ⟨_, by rw [upd_ne pl.symm]; exact S.top⟩)
  refine ⟨upd_same, ?_, ⟨[], ?_, rfl⟩, S.rows.keep k fun r hr => ?_⟩
  · rw [List.nodup_cons, List.nodup_cons]
    refine ⟨fun h => ?_, fun h => pr p h rfl, nd.2⟩
    rcases List.mem_cons.mp h with e | h
    · exact pl e.symm
    · exact nd.1 h
  · rw [upd_ne pl, upd_same]
  · rw [upd_ne (lr r hr).symm, upd_ne (pr r hr).symm]
/-- a value more in the innermost row -/
theorem Stk.put {r : Addr} {ds : List D} {d : D} {v : V} {xs : List V} (S : Stk K H l (r :: rs) (ds :: st)) (hr : H r = some (.lst xs)) (hv : Rp K H d v) : Stk K (upd H r (.lst (xs ++ [v]))) l (r :: rs) ((ds ++ [d]) :: st) := by
  have nd := List.nodup_cons.mp S.nd
  have nd2 := List.nodup_cons.mp nd.2
  have k : TK H (upd H r (.lst (xs ++ [v]))) := tk_set ⟨_, hr⟩
  obtain ⟨⟨ys, h1, h2⟩, h3⟩ := S.rows
  rw [hr] at h1
  cases h1
  refine ⟨?_, S.nd, ⟨_, upd_same, (h2.keep k).snoc (hv.keep k)⟩, h3.keep k fun b hb => ?_⟩
  · rw [upd_ne (fun e => nd.1 (by rw [e]; simp))]
    exact S.top
  · rw [upd_ne (fun e => nd2.1 (by rw [← e]; exact hb))]
/-- the innermost row is taken off -/
theorem Stk.pop {r : Addr} {ds : List D} (S : Stk K H l (r :: rs) (ds :: st)) : Stk K (upd H l (.lst (rs.reverse.map V.ref))) l rs st ∧ ∃ xs, H r = some (.lst xs) ∧ RpL K H ds xs ∧ (upd H l (.lst (rs.reverse.map V.ref))) r = some (.lst xs) := by
  have nd := List.nodup_cons.mp S.nd
  have nd2 := List.nodup_cons.mp nd.2
  have k : TK H (upd H l (.lst (rs.reverse.map V.ref))) := tk_set ⟨_, S.top⟩
  obtain ⟨⟨ys, h1, h2⟩, h3⟩ := S.rows
  refine ⟨⟨upd_same, ?_, h3.keep k fun b hb => ?_⟩, ys, h1, h2, ?_⟩
  · rw [List.nodup_cons]
    exact ⟨fun h => nd.1 (by simp [h]), nd2.2⟩
  · rw [upd_ne (fun e => nd.1 (by rw [← e]; simp [hb]))]
  · rw [upd_ne (fun e => nd.1 (by rw [← e]; simp))]
    exact h1
/-- the last item of the list of rows -/
theorem Stk.last {r : Addr} {ds : List D} (S : Stk K H l (r :: rs) (ds :: st)) : atI ((r :: rs).reverse.map V.ref) (-1) = some (.ref r) := by
  rw [List.reverse_cons, List.map_append]
  exact atI_last _ _
theorem popped {r : Addr} {rs : List Addr} : ((r :: rs).reverse.map V.ref).dropLast = rs.reverse.map V.ref ∧ ((r :: rs).reverse.map V.ref)[((r :: rs).reverse.map V.ref).length - 1]? = some (.ref r) := by
  rw [List.reverse_cons, List.map_append]
  constructor
  · exact List.dropLast_concat
  · rw [List.length_append]
    show (rs.reverse.map V.ref ++ [V.ref r])[(rs.reverse.map V.ref).length + 1 - 1]? = _
    rw [Nat.add_sub_cancel, List.getElem?_append_right (Nat.le_refl _), Nat.sub_self]
    rfl
theorem DpAll.append : ∀ {xs ys : List V} {as bs : List PyData}, DpAll K H xs as → DpAll K H ys bs → DpAll K H (xs ++ ys) (as ++ bs)
  | _, _, _, _, .nil, h => h
  | _, _, _, _, .cons a b, h => .cons a (DpAll.append b h)
theorem Rows.dp : ∀ {rs : List Addr} {st : List (List D)}, Rows K H rs st → DpAll K H (rs.reverse.map V.ref) (st.reverse.map fun ds => PyData.list (toPyL ds))
  | [], [], _ => .nil
  | r :: rs, ds :: st, ⟨⟨xs, h, q⟩, t⟩ => by
    rw [List.reverse_cons, List.map_append, List.reverse_cons, List.map_append]
    exact DpAll.append (Rows.dp t) (.cons (.lst (.inl (.inl h)) q.dp) .nil)
  | [], _ :: _, h => h.elim
  | _ :: _, [], h => h.elim
theorem canLay_rows : ∀ {st : List (List D)}, (∀ ds ∈ st, pyokL ds) → PyData.canLayAll0 (st.map fun ds => PyData.list (toPyL ds)) = true
  | [], _ => by simp [PyData.canLayAll0]
  | ds :: st, h => by
    simp only [List.map_cons, PyData.canLayAll0, PyData.canLay0, lay_ofL ds (h ds (by simp)), canLay_rows (st := st) (fun x hx => h x (by simp [hx])), Bool.and_self]
theorem depth_rows : ∀ {st : List (List D)}, (∀ ds ∈ st, depL ds ≤ 60) → PyData.depthAll (st.map fun ds => PyData.list (toPyL ds)) ≤ 61
  | [], _ => by simp [PyData.depthAll]
  | ds :: st, h => by
    simp only [List.map_cons, PyData.depthAll, PyData.depth, depth_pyL]
    have := h ds (by simp)
    have := depth_rows (st := st) (fun x hx => h x (by simp [hx]))
    omega
/-- rows == [] -/
theorem Stk.isNil {X : Cx} {Q : VK} {q : Addr} (S : Stk X.K H l rs st) (hp : ∀ ds ∈ st, pyokL ds) (hd : ∀ ds ∈ st, depL ds ≤ 60) (hq : H q = some (.lst [])) (h : Q (.bl st.isEmpty) H) : rEqD X.K (.ref l) (.ref q) H Q := by
  refine ⟨_, _, .lst (.inl (.inl S.top)) S.rows.dp, .lst (.inl (.inl hq)) .nil, ?_, ?_, ?_⟩
  · unfold SeqAt.shaped
    rw [Bool.and_eq_true]
    constructor
    · simp only [PyData.canLay0]
      have := canLay_rows (st := st.reverse) fun ds h => hp ds (List.mem_reverse.mp h)
      exact this
    · apply decide_eq_true
      have := depth_rows (st := st.reverse) fun ds h => hd ds (List.mem_reverse.mp h)
      simp only [PyData.depth]
      omega
  · decide +kernel
  · have e : PyData.eqv (.list (st.reverse.map fun ds => PyData.list (toPyL ds))) (.list []) = st.isEmpty := by
      cases st with
      | nil => simp [PyData.eqv, PyData.eqvAll]
      | cons a r =>
        have : ∃ x y, ((a :: r).reverse.map fun ds => PyData.list (toPyL ds)) = x :: y := by
          cases h : ((a :: r).reverse.map fun ds => PyData.list (toPyL ds)) with
          | nil => simp at h
          | cons x y => exact ⟨x, y, rfl⟩
        obtain ⟨x, y, e⟩ := this
        rw [e]
        simp [PyData.eqv, PyData.eqvAll]
    rw [e]
    exact h
end

/-! ### what reading leaves -/
theorem tok_py {s : Str} {d : D} (h : tokIn s = some d) : pyok d := by
  unfold tokIn at h
  split at h
  · rename_i hw
    cases h
    show PySem.PyData.strOk s = true
    unfold PySem.PyData.strOk
    rw [← Array.all_toList, List.all_eq_true]
    intro c hc
    have := (word_letters hw).1 c hc
    exact decide_eq_true (by omega)
  · split at h
    · cases h; trivial
    · cases h
theorem step_py {st st' : List (List D)} {w : Str} (h : step st w = some st') (hp : ∀ ds ∈ st, pyokL ds) : ∀ ds ∈ st', pyokL ds := by
  unfold step at h
  split at h
  · split at h
    · cases h
      intro ds hd
      rcases List.mem_cons.mp hd with rfl | hd
      · trivial
      · exact hp ds hd
    · cases h
  · split at h
    · split at h
      · rename_i top b r
        cases h
        intro ds hd
        rcases List.mem_cons.mp hd with rfl | hd
        · exact pyokL_snoc (hp b (by simp)) (hp top (by simp))
        · exact hp ds (by simp [hd])
      · cases h
    · split at h
      · rename_i d top r hk
        cases h
        intro ds hd
        rcases List.mem_cons.mp hd with rfl | hd
        · exact pyokL_snoc (hp top (by simp)) (tok_py hk)
        · exact hp ds (by simp [hd])
      · cases h
end RS

/-! What isinstance and except answer, from what the classes say. -/
namespace RS
open PySem PySem.Spec PyProof.Rows L2
theorem kit_self {K : PySem.W.Frag} {C : Addr} : PySem.W.kitOne K (.ref C) (.ref C) = some true := by
  unfold PySem.W.kitOne
  rw [if_pos (beq_self_eq_true _)]
theorem cls_asks {K : PySem.W.Frag} {D : Addr} {t : Value} (i : PySem.W.isClsIn K D = true) (y : PySem.W.typeIn K (.ref D) = some (.type "type")) : PySem.W.kitCls K t (.ref D) = PySem.W.subIn K t (.ref D) := by
  have i' : (PySem.W.clsIn K D).isSome = true := i
  have e : ((PySem.W.clsIn K D).isSome && PySem.W.typeIn K (.ref D) == some (.type "type")) = true := by rw [i', y] <;> rfl
  show (if ((PySem.W.clsIn K D).isSome && PySem.W.typeIn K (.ref D) == some (.type "type")) = true then PySem.W.subIn K t (.ref D) else none) = _
  rw [if_pos e]
theorem kit_not {K : PySem.W.Frag} {C D : Addr} (i : PySem.W.isClsIn K D = true) (y : PySem.W.typeIn K (.ref D) = some (.type "type")) (s : PySem.W.subIn K (.ref C) (.ref D) = some false) (sC : PySem.W.subIn K (.ref C) (.ref C) = some true) : PySem.W.kitOne K (.ref C) (.ref D) = some false := by
  have ne : ((Value.ref C : Value) == .ref D) = false := by
    refine Bool.eq_false_iff.mpr fun q => ?_
    have e : C = D := Value.ref.inj (beq_iff_eq.mp q)
    subst e
    rw [s] at sC
    cases sC
  unfold PySem.W.kitOne
  rw [ne, if_neg Bool.false_ne_true, cls_asks i y, s]
theorem kit_yes {K : PySem.W.Frag} {C : Addr} {T : String} (hm : PySem.W.kitMeta T = true) (s : PySem.W.subIn K (.ref C) (.type T) = some true) : PySem.W.kitOne K (.ref C) (.type T) = some true := by
  unfold PySem.W.kitOne
  by_cases e : ((Value.ref C : Value) == .type T) = true
  · rw [if_pos e]
  · rw [if_neg e]
    show (if PySem.W.kitMeta T = true then PySem.W.subIn K (.ref C) (.type T) else none) = _
    rw [if_pos hm, s]
theorem exm_asks {K : PySem.W.Frag} {C D : Addr} {b : Bool} (e : PySem.W.subIn K (.ref D) (.type "BaseException") = some true) (i : PySem.W.isClsIn K D = true) (y : PySem.W.typeIn K (.ref D) = some (.type "type")) (s : PySem.W.subIn K (.ref C) (.ref D) = some b) : PySem.W.exmOne K (.ref C) (.ref D) = some b := by
  have e1 : (PySem.W.subIn K (.ref D) (.type "BaseException") == some true) = true := by rw [e] <;> rfl
  unfold PySem.W.exmOne
  rw [if_pos e1, cls_asks i y, s]
end RS

/-! try: .. except X as n: a suite that raises out. -/
namespace RSX
open PySem PySem.Spec PyProof.Rows L2
section
variable {X : Cx} {pins : List (Addr × Obj)} {σ : L2.St} {H : Hp} {s : Shared}
/-- n is gone: the state at the new heap -/
theorem gone_at (I : Inv X pins σ H s) (hN : X.N.Nodup) {i : Nat} {n : Str} (hi : X.N[i]? = some n) : ∃ m, s.heap.Ns X.env.locals m ∧ ∀ (h' : Heap) (v : Option Value) (t' : Nat), h'.Ns X.env.locals (fun x => if x = n then v else m x) → Heap.SameBut X.env.locals s.heap h' →
    Inv X pins (σ.set i none) H { s with heap := h', toks := t' } := by
  obtain ⟨m, hn, hlk⟩ := id I.loc
  refine ⟨m, hn, fun h' v t' hn' hs => ?_⟩
  have neL : ∀ b o, X.s_0.heap.get? b = some o → b ≠ X.env.locals := fun b o e => Nat.ne_of_lt (Nat.lt_of_lt_of_le (Heap.lt_size e) I.ok.above)
  refine ⟨I.ok, I.os, I.bare, ⟨fun b o e n hb hx => ?_, fun b o e n hb hx => ?_, I.base.free, fun b o e hx => ?_, I.base.tups, I.base.frzs, I.base.tbls⟩, ⟨_, hn', fun j y v' e1 e2 e3 => ?_⟩, fun y c e => ?_, I.free, I.freeC, fun p hp => ?_, fun b ob e => ?_, ?_⟩
  · exact (hs.2 b (neL b o e)).trans (I.base.keep b o e n hb hx)
  · obtain ⟨sl, e1⟩ := I.base.slot b o e n hb hx
    exact ⟨sl, (hs.2 b (neL b o e)).trans e1⟩
  · obtain ⟨o', e1⟩ := I.base.there b o e hx
    exact ⟨o', (hs.2 b (neL b o e)).trans e1⟩
  · by_cases hj : j = i
    · subst hj
      by_cases hlt : j < σ.length
      · rw [List.getElem?_set_self hlt] at e2; cases e2
      · rw [List.getElem?_eq_none (by simpa using hlt)] at e2; cases e2
    · rw [List.getElem?_set_ne (Ne.symm hj)] at e2
      obtain ⟨u', r', q⟩ := hlk j y v' e1 e2 e3
      refine ⟨u', r', ?_⟩
      rcases q with ⟨k, e⟩ | ⟨k, c, e, z⟩
      · have ny : y ≠ n := fun e => hj (nodup_ix hN e1 (e ▸ hi))
        exact .inl ⟨k, (if_neg ny).trans e⟩
      · exact .inr ⟨k, c, e, z.sameBut hs (I.cne y c e)⟩
  · obtain ⟨w', z⟩ := I.cell y c e
    exact ⟨w', z.sameBut hs (I.cne y c e)⟩
  · obtain ⟨e, n, ne, nf, d⟩ := I.pin p hp
    exact ⟨(hs.2 p.1 ne).trans e, n, ne, nf, d⟩
  · refine (I.hok b ob e).stay (fun c w' hc q => (hs.2 c ?_).trans q) (fun _ q => q) fun _ _ q => q
    intro z
    subst z
    rcases hc with hc | hc
    · rw [← hc, I.free] at e; cases e
    · rw [I.free] at hc; cases hc
  · simpa using I.len
end
/-- the heap changes at a frame's names alone: what flies, flies on -/
theorem funFrames_but {h h' B : Heap} {L : Addr} (hs : Heap.SameBut L h h') (hL : ∃ o, h'.get? L = some o ∧ ∀ vs, o.data ≠ .fields vs) : ∀ {l : List Env}, h.FunFrames B l → h'.FunFrames B l
  | [], _ => trivial
  | env :: l, h => by
    obtain ⟨hk, ⟨M, o, hf, hn, ho, hd⟩, hr⟩ := h
    refine ⟨hk, ?_, funFrames_but hs hL hr⟩
    by_cases e : M = L
    · obtain ⟨o', ho', hd'⟩ := hL
      exact ⟨M, o', hf, hn, by rw [e]; exact ho', hd'⟩
    · exact ⟨M, o, hf, hn, (hs.2 M e).trans ho, hd⟩
theorem held_but {B h h' : Heap} {l : List Env} {a L F : Addr} {Z : Obj → Prop} (hs : Heap.SameBut L h h') (hL : ∃ o, h'.get? L = some o ∧ ∀ vs, o.data ≠ .fields vs) (hL0 : ∃ o, h.get? L = some o ∧ ∀ vs, o.data ≠ .fields vs) (hB : B.get? L = none)
    (x : HandSPX.HeldZ B l a Z F h) : HandSPX.HeldZ B l a Z F h' := by
  obtain ⟨k1, k2, k3, oe, vs, T, oT, ts, he, hz, hd, h1, hnT, hTe, hT, hdT, h3⟩ := x
  obtain ⟨oL, eL, nL⟩ := hL0
  have ne : ∀ {b : Addr} {o : Obj} {vs : Array Value}, h.get? b = some o → o.data = .fields vs → b ≠ L := fun e d z => by
    rw [z, eL] at e
    cases e
    exact nL _ d
  refine ⟨fun b o e => ?_, k2, funFrames_but hs hL k3, oe, vs, T, oT, ts, (hs.2 a (ne he hd)).trans he, hz, hd, h1, hnT, hTe, (hs.2 T (ne hT hdT)).trans hT, hdT, h3⟩
  have : b ≠ L := fun z => by rw [z, hB] at e; cases e
  exact (hs.2 b this).trans (k1 b o e)

/-- the context of an except suite that may raise, with its own wish -/
abbrev suiteY (X : Cx) (a : Addr) (pn : List (Addr × Obj)) (xe : Value → Shared → Prop) : Cx := { X with A := X.A.mark (some (.ref a)), calm := false, pn := pn, xe := xe }
section
variable {X : Cx} {pins : List (Addr × Obj)} {σ : L2.St} {H : Hp} {s : Shared}
theorem suiteY_of {a : Addr} {pn pn' : List (Addr × Obj)} {xe : Value → Shared → Prop} (I : Inv (X.suite a pn) pn' σ H s) : Inv (suiteY X a pn xe) pn' σ H s := Inv.unwish (X := suiteY X a pn xe) (E := fun _ _ => False) I
theorem unsuiteY {a : Addr} {q : Addr × Obj} {pn' : List (Addr × Obj)} {xe : Value → Shared → Prop} (I : Inv (suiteY X a (q :: (X.pn ++ pins)) xe) pn' σ H s) (ok : X.Ok) : Inv X pins σ H s :=
  Inv.unsuite (X := X) (a := a) (q := q) (pn' := pn') (show Inv (X.suite a (q :: (X.pn ++ pins))) pn' σ H s from I.wish fun _ _ => False) ok
end
section
variable {X : Cx} {x n : Str} {c : Value} {i : Nat} {body suite : List Stmt} {b₀ : Stmt} {np pos pos' : Pos} {tb : WX → TS} {ts : Addr → Value → Option Addr → TS} {Wout : WX}
/-- what the suite raises flies out; its name is gone -/
theorem suite_out {pins : List (Addr × Obj)} {a : Addr} {q : Addr × Obj} {xe E : Value → Shared → Prop} {A : Around} (hA : A.frames = X.A.frames) (ok : X.Ok) (hs : X.stack = X.env :: X.outer) (hf : X.env.frame = some X.env.locals) (hN : X.N.Nodup) (hi : X.N[i]? = some n) (hln : X.env.kindOf n = some .local)
    (tk : L2.Takes X Wout) (hE : ∀ e s', X.xe e s' → E e s') {u : Value} {s : Shared} (x : L2.XE (suiteY X a (q :: (X.pn ++ pins)) xe) (fun cls d σ H => Wout cls d (σ.set i none) H) u s) :
    wpAny (model X.prog X.w) A (noteFrame u X.env) (fun _ s₃' =>
            wpAny (model X.prog X.w) A (do bindName X.env n .none; unbindBehindTheSuite X.env n pos)
              (fun _ s₄ => wpAny (model X.prog X.w) A (passOn "try.except-as" u X.env : Sem Flow) (fun _ _ => False) E s₄)
              (fun y s₄ => wpAny (model X.prog X.w) A (setFlight u none) (fun _ s₅ => E y s₅) E s₄) s₃') E s := by
  obtain ⟨b, B, sI, pn2, σ2, H2, cls, d, rfl, I2, nb, up, sky, na, os, ag, w⟩ := x
  have J2 : Inv X pins σ2 H2 sI := unsuiteY I2 ok
  have hfr : A.frames = some (X.env :: X.outer) := by rw [hA, ok.frames, hs]
  have sky' : Sky B (X.env :: X.outer) b (Zc cls d) X.env.locals s.heap := by rw [← hs]; exact sky
  obtain ⟨m, hm, gone⟩ := gone_at J2 hN hi
  have hcls : (X.env.scope.kind == .class || (X.env.scope.kind == .module && X.env.locals != X.env.globals)) = false := by rw [ok.kind]; rfl
  have fin : ∀ h1, HandSPX.HeldZ B (X.env :: X.outer) b (Zc cls d) X.env.locals h1 → s.heap.UpToSlots h1 →
      wpAny (model X.prog X.w) A (do bindName X.env n .none; unbindBehindTheSuite X.env n pos)
              (fun _ s₄ => wpAny (model X.prog X.w) A (passOn "try.except-as" (.ref b) X.env : Sem Flow) (fun _ _ => False) E s₄)
              (fun y s₄ => wpAny (model X.prog X.w) A (setFlight (.ref b) none) (fun _ s₅ => E y s₅) E s₄) { s with heap := h1 } := by
    intro h1 held up1
    have hm1 : h1.Ns X.env.locals m := (up.trans up1).ns hm
    refine wpAny_nameGoes_keeps hln hm1 hcls fun h2 v hm2 sb => ?_
    obtain ⟨o2, es2, ep2, e2, d2, r2⟩ := id hm2
    obtain ⟨o1, es1, ep1, e1, d1, r1⟩ := id hm1
    have hB : B.get? X.env.locals = none := by
      obtain ⟨_, ⟨M, o, hfM, hnM, _⟩, _⟩ := held.2.2.1
      rw [hf] at hfM
      cases hfM
      exact hnM
    have nf2 : ∃ o, h2.get? X.env.locals = some o ∧ ∀ vs, o.data ≠ .fields vs := ⟨o2, e2, fun vs z => by rw [d2] at z; cases z⟩
    have nf1 : ∃ o, h1.get? X.env.locals = some o ∧ ∀ vs, o.data ≠ .fields vs := ⟨o1, e1, fun vs z => by rw [d1] at z; cases z⟩
    have held2 := held_but sb nf2 nf1 hB held
    -- the state without the exception, its name gone
    obtain ⟨oI, esI, epI, eI, dI, rI⟩ := id hm
    have sbI : Heap.SameBut X.env.locals sI.heap (sI.heap.update X.env.locals fun _ => o2) := ⟨by simp, fun b' hb' => Heap.get?_update_other _ _ (Ne.symm hb')⟩
    have fr2 : o2.isFreed = false := by
      obtain ⟨c2, x2, dt2, l2⟩ := o2
      have z : dt2 = Data.dict es2 ep2 := d2
      subst z
      rfl
    have eI2 : (sI.heap.update X.env.locals fun _ => o2).get? X.env.locals = some o2 := Heap.get?_update_self (fun _ => o2) eI fr2
    have JI := gone (sI.heap.update X.env.locals fun _ => o2) v sI.toks ⟨o2, es2, ep2, eI2, d2, r2⟩ sbI
    have upI : (sI.heap.update X.env.locals fun _ => o2).UpToSlots h2 := fun b' o' e' hn' => by
      by_cases hb : b' = X.env.locals
      · rw [hb, eI2] at e'
        cases e'
        exact ⟨o2.slots, by rw [hb]; exact e2⟩
      · rw [Heap.get?_update_other _ _ (Ne.symm hb)] at e'
        obtain ⟨sl, q⟩ := (up.trans up1) b' o' e' hn'
        exact ⟨sl, (sb.2 b' hb).trans q⟩
    obtain ⟨k1, k2, k3, oe, vs, T, oT, ts', he, hz, hd, h1', hr⟩ := id held2
    unfold PySem.passOn
    refine wpAny_bind (wpAny_field he hd h1' ?_)
    rw [if_neg (show ¬ ((Value.ref T == Value.none) = true) from by simp)]
    have fin2 : wpAny (model X.prog X.w) A (setFlight (.ref b) X.env.frame) (fun _ s4 => wpAny (model X.prog X.w) A (throw (.ref b) : Sem Flow) (fun _ _ => False) E s4) E { s with heap := h2, toks := s.toks + 1 } := by
      rw [hf]
      refine HandSPX.setFlight_onZ held2 fun h4 hh4 up4 => wpAny_throw (hE _ _ (tk _ _ ?_))
      refine ⟨b, B, { sI with heap := sI.heap.update X.env.locals fun _ => o2 }, pins, σ2.set i none, H2, cls, d, rfl, JI, fun b' o' e' hb' => ?_, upI.trans up4, .inr (.inr (by rw [hs]; exact hh4)), na, os, ag, w⟩
      have hbl : b' ≠ X.env.locals := fun z => hb' (List.mem_filterMap.mpr ⟨X.env, by rw [hs]; exact List.mem_cons_self, by rw [hf, z]⟩)
      exact nb b' o' (by rw [← Heap.get?_update_other _ (fun _ => o2) (Ne.symm hbl)]; exact e') hb'
    first
      | exact wpAny_bind (wpAny_pure (wpAny_bind fin2))
      | exact wpAny_bind fin2
  rcases sky' with ⟨hB, hn, hl, oe, vs, he, hz, hd, h1⟩ | fl | hh
  · exact HandSPX.look_newZ Zc.steady hfr hl hf he hB hn hd h1 hz fin
  · exact HandSPX.looks_onZ Zc.steady hfr hf fl fin
  · exact HandSPX.againZ hf hh.2.2.2 (fin s.heap hh (Heap.UpToSlots.refl _))

/-- try: body, except x as n: a suite that may raise out (the body's exceptions have no context) -/
theorem ps_try_asX (hs : X.stack = X.env :: X.outer) (hf : X.env.frame = some X.env.locals) (hN : X.N.Nodup) (hi : X.N[i]? = some n) (hln : X.env.kindOf n = some .local) (hc : Names X x c)
    (hpa : ∀ hd : Option Value, PassesOwnAt (model X.prog X.w) (X.A.mark hd) X.A X.env X.xe) (tk : L2.Takes X Wout)
    (hb : ∀ (W : WX) (pn : List (Addr × Obj)) (xe : Value → Shared → Prop), L2N.Takes (X.tr pn xe) W → PassesOwn (model X.prog X.w) X.A X.env xe → PSs (X.tr pn xe) body (tb W))
    (hsu : ∀ (a : Addr) (oe : Obj) (cls : Value) (d : Option Addr) (pn : List (Addr × Obj)) (xe : Value → Shared → Prop), L2N.Zn cls d oe → (∃ vs, oe.data = .fields vs) →
      L2.Takes (suiteY X a ((a, oe) :: pn) xe) (fun cls d σ H => Wout cls d (σ.set i none) H) → L2H.HotC (suiteY X a ((a, oe) :: pn) xe) → PSs (suiteY X a ((a, oe) :: pn) xe) (b₀ :: suite) (ts a cls d)) :
    PS X (.Try body [.ExceptHandler (some (.Name x np)) (some n) (b₀ :: suite) pos'] [] [] pos) (fun D σ H => tb (wAs X.K c i ts Wout D) D σ H) := by
  refine ⟨fun pins s σ H D I h => ?_⟩
  have hok := I.ok
  have hfr : X.A.frames = some (X.env :: X.outer) := by rw [hok.frames, hs]
  have hloc : Loc X.env.scope n := .inl hln
  refine wpAny_Try_except ?_
  refine wpAny_mono ((hb (wAs X.K c i ts Wout D) (X.pn ++ pins) (fun e s₁ => wpAny (model X.prog X.w) X.A (noteFrame e X.env) (fun _ s₂ => wpAny (model X.prog X.w) X.A (setFlight e none) (fun _ s₃ =>
    wpAny (model X.prog X.w) X.A (handleBy e X.env [.ExceptHandler (some (.Name x np)) (some n) (b₀ :: suite) pos']) (SP X pins D) X.xe s₃) X.xe s₂) X.xe s₁) (fun u s' xx => ?_) PassesOwn.looking).run [] s σ H D (I.toTry _) h) (fun f s1 hsp => ?_) (fun _ _ he => he)
  · obtain ⟨a, B, sI, pins', σ', H', cls, d, rfl, J', nb, up, sky, na, os, ag, b, hb1, hyes, hno⟩ := xx
    have J : Inv X pins σ' H' sI := J'.ofTry hok
    show wpAny (model X.prog X.w) X.A (noteFrame (.ref a) X.env) _ _ _
    refine L2N.Sky.land L2N.Zn.steady hfr hf (by rw [← hs]; exact sky) fun h3 fl3 up3 => ?_
    have J3 : Inv X pins σ' H' { s' with heap := h3 } := J.landed nb fl3.1 (up.trans up3) os ag
    obtain ⟨oe3, vs3, he3, hz3, hd3⟩ := fl3.there
    have aOut : a ∉ frs (X.env :: X.outer) := fun hm => by
      obtain ⟨_, o', e', hnf⟩ := fl3.2.2.1.mem hm
      rw [he3] at e'; cases e'
      exact hnf _ hd3
    have aL : a ≠ X.env.locals := fun z => aOut (List.mem_filterMap.mpr ⟨_, List.mem_cons_self, by rw [hf, z]⟩)
    have aF : a ∉ X.fs := fun hm => by
      obtain ⟨e1, m1, q1⟩ := List.mem_filterMap.mp hm
      exact aOut (List.mem_filterMap.mpr ⟨e1, List.mem_cons_of_mem _ m1, q1⟩)
    have S3 := J3.suite he3 hd3 na aL aF
    refine wpAny_handleBy_cons (codeAny_handlers_test ?_) (by intro q; cases q)
    have LM := PySem.W.exm_one (M := model X.prog X.w) J3.kIn (show PySem.W.Looks (model X.prog X.w) h3 (typeOf (.ref a)) cls from fun _ _ _ _ k q => wpAny_typeOf_ref (k _ _ he3) (by rw [hz3.1]; exact q)) hb1
    have named : ∀ {Q : Value → Shared → Prop} {E : Value → Shared → Prop}, Q c { s' with heap := h3 } → wpAny (model X.prog X.w) (X.A.mark (some (.ref a))) (eval (.Name x np) X.env) Q E { s' with heap := h3 } := fun {Q E} q => by
      rcases hc with ⟨hg, hdb, hm | ⟨hm, hv, hnn⟩⟩
      · exact ld_glob (X := X.suite a ((a, oe3) :: (X.pn ++ pins))) S3 hg hm q hdb
      · exact ld_blt (X := X.suite a ((a, oe3) :: (X.pn ++ pins))) S3 hg hm hv q hnn hdb
    refine named (LM.here ?_)
    cases b with
    | true =>
      refine codeAny_handlers_suite_as ?_
      refine HandSPX.lands_againZ fl3 fun h4 fl4 up4 => ?_
      have J4 : Inv X pins σ' H' { s' with heap := h4 } := J.landed nb fl4.1 ((up.trans up3).trans up4) os ag
      obtain ⟨oe4, vs4, he4, hz4, hd4⟩ := fl4.there
      have S4 := J4.suite he4 hd4 na aL aF
      have hot : ∀ xe, L2H.HotC (suiteY X a ((a, oe4) :: (X.pn ++ pins)) xe) := fun xe => ⟨(a, oe4), ⟨rfl, vs4, hd4, hz4.2.2 vs4 hd4⟩, List.mem_cons_self⟩
      refine store_ok (X := X.suite a ((a, oe4) :: (X.pn ++ pins))) (v := .ref a) S4 hN hi hloc rfl (fun s5 S5 => ?_) (.inr hln)
      refine wpAny_mono ((hsu a oe4 cls d (X.pn ++ pins) _ hz4 ⟨_, hd4⟩ (fun u s6 x6 => suite_out (A := X.A.mark (some (.ref a))) (pos := pos') (E := notedBy (model X.prog X.w) (X.A.mark (some (.ref a))) X.env (cameBackBy (model X.prog X.w) X.A X.env X.xe)) rfl hok hs hf hN hi hln tk (hpa (some (.ref a))) x6) (hot _)).run [] s5 _ H' _ (suiteY_of S5) (hyes rfl a na)) (fun f s6 hsp => ?_) (fun _ _ z => z)
      have goes : ∀ {σ6 : L2.St} {H6 : Hp} {Q : Shared → Prop} {xe : Value → Shared → Prop}, Inv (suiteY X a ((a, oe4) :: (X.pn ++ pins)) xe) [] σ6 H6 s6 → (∀ s7, Inv X pins (σ6.set i none) H6 s7 → Q s7) →
          wpAny (model X.prog X.w) X.A (do bindName X.env n .none; unbindBehindTheSuite X.env n pos') (fun _ s7 => Q s7) X.xe s6 := fun S6 hq => gone_ok (unsuiteY S6 hok) hN hi hln hq
      cases f with
      | next => obtain ⟨_, _, S6, q6⟩ := hsp; exact goes S6 fun _ J7 => ⟨_, _, J7, q6⟩
      | brk => obtain ⟨_, _, S6, q6⟩ := hsp; exact goes S6 fun _ J7 => ⟨_, _, J7, q6⟩
      | cont => obtain ⟨_, _, S6, q6⟩ := hsp; exact goes S6 fun _ J7 => ⟨_, _, J7, q6⟩
      | ret u => obtain ⟨_, _, _, S6, r6, q6⟩ := hsp; exact goes S6 fun _ J7 => ⟨_, _, _, J7, r6, q6⟩
    | false =>
      show wpAny _ X.A (handleBy (.ref a) X.env []) _ _ _
      have fl : HandSPX.FlyingZ B (X.env :: X.outer) a (Zc cls d) h3 := L2H.flyingZ_imp (fun o z => z.zc) fl3
      refine wpAny_handleBy_nil ?_
      obtain ⟨_, _, _, oe, vs, T, oT, ts', he, hz, hd, h1, hr⟩ := id fl
      unfold PySem.passOn
      refine wpAny_bind (wpAny_field he hd h1 ?_)
      rw [if_neg (show ¬ ((Value.ref T == Value.none) = true) from by simp)]
      have on : wpAny (model X.prog X.w) X.A (setFlight (.ref a) X.env.frame) (fun _ s4 => wpAny (model X.prog X.w) X.A (throw (.ref a) : Sem Flow) (SP X pins D) X.xe s4) X.xe { s' with heap := h3 } := by
        rw [hf]
        exact HandSPX.setFlight_upZ fl fun h4 hh4 up4 => wpAny_throw (tk _ _ ⟨a, B, sI, pins, σ', H', cls, d, rfl, J, nb, (up.trans up3).trans up4, .inr (.inr (by rw [hs]; exact hh4)), na, os, ag, hno rfl⟩)
      first
        | exact wpAny_bind (wpAny_pure (wpAny_bind on))
        | exact wpAny_bind on
  · cases f with
    | next => obtain ⟨_, _, J', q⟩ := hsp; exact wpAny_execs_nil ⟨_, _, J'.ofTry hok, q⟩
    | brk => obtain ⟨_, _, J', q⟩ := hsp; exact ⟨_, _, J'.ofTry hok, q⟩
    | cont => obtain ⟨_, _, J', q⟩ := hsp; exact ⟨_, _, J'.ofTry hok, q⟩
    | ret u => obtain ⟨_, _, _, J', r, q⟩ := hsp; exact ⟨_, _, _, J'.ofTry hok, r, q⟩
end
end RSX
namespace L2
open PySem PySem.Spec PyProof.Rows
section
variable {X : Cx} {C fI : Addr} {nm x pre : Str} {suf : Option Str}
/-- X(e): its record has six fields, its context is None -/
theorem pmk_sup5 {a : Expr} {ta : TA} {p pos : Pos} {k : Nat} (T : PySem.SupX.SupTxt X.prog X.K X.mg nm x pre suf C fI) (S : SupNm X.prog x pre suf) (hr : L2H.RoomH k X.A) (ha : PA X [a] ta) (hg : Gl X nm := by rfl) (hdb : (nm == ("__debug__" : Str)) = false := by decide)
    (he : starEach (a :: []) X.env = (false, eval a X.env) :: starEach [] X.env := by rfl) (hpl : (backTo pos (starEach [] X.env)).any (·.1) = false := by rfl) :
    L2H.PMk5 X (.Call (.Name nm p) [a] [] pos) (tMkSup x C ta) := by
  intro pins s σ H Q I h
  refine wpAny_Call_Name_kw (ld_glob I hg T.gC ?_ hdb)
  refine PySem.W.callWith_K (h₀ := X.base) I.ok.mod.kin T.kC (thn (ha.run pos pins s σ H _ I h) fun us s1 hh => ?_) he hpl
  obtain ⟨vs, H1, I1, r1, v, ev, fv, q1⟩ := hh
  subst ev
  refine ⟨I1.kIn, ?_⟩
  cases r1 with
  | cons rv rn =>
    rename_i v' us'
    cases rn
    show wpAny _ _ (call (.ref C) [v']) _ _ _
    have hlim := I1.nolimit
    have hgl := I1.ok.mod.glob.keeps I1.bk
    obtain ⟨mb, hmb, hbt⟩ := I1.ok.mod.blt
    have hbl := hmb.keeps I1.bk
    obtain ⟨y, fy⟩ := fv.to rv
    obtain ⟨hp, g, dr, tk, os⟩ := s1
    refine wpAny_call (PySem.SupX.sup_made T S.hpre S.hsuf fy S.hbd S.xs S.x1 S.x2 S.x3 hgl hbl ((hbt _ (by decide)).trans (by decide +kernel)) S.htop I1.kIn hlim (by have := hr.dp; omega) fun h' tk' e d M => ?_)
    obtain ⟨oe, fv, hoe, hc, hd, hdat, h1, h2, h5⟩ := M.obj
    refine ⟨?_, fun a oe' vs' ea hg' hd' => by
      cases ea
      have z : h'.get? e = some oe' := hg'
      rw [hoe] at z
      cases z
      rw [hdat] at hd'
      cases hd'
      exact h5⟩
    have hns := M.ns
    obtain ⟨G', g1, g2⟩ := restrict h' fun b => decide (b ≠ e)
    have gk : ∀ b, b ≠ e → G'.get? b = h'.get? b := fun b hb => g1 b (decide_eq_true hb)
    have ge : G'.get? e = none := g2 e (by simp)
    have old : ∀ b o, hp.get? b = some o → G'.get? b = some o := fun b o q => (gk b (Nat.ne_of_lt (Nat.lt_of_lt_of_le (Heap.lt_size q) M.new))).trans (M.keep b o q)
    have ob : ObjOk X.prog X.w (upd H1 d (.xd [(x, v)])) G' d (.xd [(x, v)]) :=
      ⟨_, hns.at (fun o q => (gk d M.dne).trans q), fun f => relO_one rv f⟩
    have J : Inv X pins σ (upd H1 d (.xd [(x, v)])) ⟨G', g, dr, tk', os⟩ := I1.laid (t' := tk') old M.dbig ob
    refine ⟨e, oe, fv, ⟨G', g, dr, tk', os⟩, _, .ref C, some d, rfl, J, fun b o q => ?_, ge, hoe, ⟨hc, hd, fun ws z => by rw [hdat] at z; cases z; exact h2⟩, hdat, h1, ?_, rfl, I1.bare, raises_own T.exC T.tyC, q1 d (I1.hok.fresh M.dbig)⟩
    · by_cases hb : b = e
      · have q' : G'.get? b = some o := q
        rw [hb, ge] at q'; cases q'
      · exact (gk b hb).symm.trans q
    · rw [upd_ne (Ne.symm M.dne)]
      exact I1.hok.fresh M.new
/-- raise X(e), where the caller asks for the context too -/
theorem ps_raiseSupN {a : Expr} {ta : TA} {W : WX} {p pos pos2 : Pos} {k : Nat} (hc : X.calm = true) (T : PySem.SupX.SupTxt X.prog X.K X.mg nm x pre suf C fI) (S : SupNm X.prog x pre suf) (hr : Room k X.A) (tk : L2N.Takes X W) (ha : PA X [a] ta) (hg : Gl X nm := by rfl) (hdb : (nm == ("__debug__" : Str)) = false := by decide)
    (he : starEach (a :: []) X.env = (false, eval a X.env) :: starEach [] X.env := by rfl) (hpl : (backTo pos (starEach [] X.env)).any (·.1) = false := by rfl) :
    PS X (.Raise (some (.Call (.Name nm p) [a] [] pos)) none pos2) (tRaiseSup x C W ta) := L2N.ps_raise hc tk (pmk_sup5 T S ⟨hr.dp, hr.un⟩ ha hg hdb he hpl).pmk
end
section
variable {P : Program} {w : World} {K : PySem.W.Frag} {mg : Str → Option Value} {base : Heap}
theorem Fun.okN {x qual : Str} {st : Stmt} {f : Addr} {fd : FuncData} {N ps : List Str} {k : Nat} {sp : Sp} (F : Fun K x qual st f fd) (S : FnScope N ps (defScope st)) (len : ∀ vs H Q E, sp vs H Q E → vs.length = ps.length)
    (hbody : ∀ (cdv : Value) (A : Around) (outer : List Env) (s : Shared) (H : Hp) (vs : List V) (Q : VK) (E : XK), Room k (A.deeper (envOfC qual (defScope st) s.heap.objs.size f cdv)) → sp vs H Q E →
      ∃ t, PSs (cxOf (L2N.CX P w) P w K mg base N qual (defScope st) f cdv A outer s H E) (defBody st) t ∧ t { nx := fun _ H' => Q .non H', rt := Q } (start N vs) H) : FnOk P w K mg base (L2N.CX P w) (k + 1) f fd ps sp := by
  rcases F.ex with ⟨_, _, _, _, _, _, _, _, _, rfl, l, c⟩
  exact fn_of l c S len fun A outer s H vs Q E hr h => hbody _ A outer s H vs Q E hr h
end
end L2

/-! raise X(e) from n, n the exception that the suite holds. -/
namespace RSX
open PySem PySem.Spec PyProof.Rows HotX
/-- the heap behind «from v»: field 3 is v, field 4 is True -/
def caused (h : Heap) (a : Addr) (v : Value) : Heap := (h.update a (Obj.mapFields (·.setIfInBounds 3 v))).update a (Obj.mapFields (·.setIfInBounds 4 (.bool true)))
abbrev causedO (o : Obj) (v : Value) : Obj := (o.mapFields (·.setIfInBounds 3 v)).mapFields (·.setIfInBounds 4 (.bool true))
theorem caused_at {h : Heap} {a : Addr} {oe : Obj} {vs : Array Value} {v : Value} (at0 : h.get? a = some oe) (dt : oe.data = .fields vs) :
    (caused h a v).get? a = some (causedO oe v) ∧ (causedO oe v).data = .fields ((vs.setIfInBounds 3 v).setIfInBounds 4 (.bool true)) := by
  have d3 := Obj.data_mapFields dt (·.setIfInBounds 3 v)
  have d4 := Obj.data_mapFields d3 (·.setIfInBounds 4 (.bool true))
  exact ⟨Heap.get?_update_self _ (Heap.get?_update_self _ at0 (Obj.isFreed_of_fields d3)) (Obj.isFreed_of_fields d4), d4⟩
theorem caused_other {h : Heap} {a b : Addr} {v : Value} (hne : a ≠ b) : (caused h a v).get? b = h.get? b := by
  unfold caused
  rw [Heap.get?_update_other _ _ hne, Heap.get?_update_other _ _ hne]
section
variable {prog : Program} {w : World} {A : Around} {E : Value → Shared → Prop} {env : Env}
theorem notType {s : Shared} {b : Addr} {o : Obj} {vs : Array Value} {Q : Bool → Shared → Prop} (e : s.heap.get? b = some o) (d : o.data = .fields vs) (q : Q false s) : wpAny (model prog w) A (isType (.ref b)) Q E s := by
  simp only [isType, loadHead]
  refine wpAny_bind (wpAny_loadPart e ?_)
  rw [d]
  exact wpAny_pure q
/-- an instance of an exception class is taken as it is -/
theorem excAsIs {s : Shared} {b : Addr} {o : Obj} {vs : Array Value} {cls : Value} {msg : String} {Q : Value → Shared → Prop} (e : s.heap.get? b = some o) (d : o.data = .fields vs) (hc : o.cls = cls) (L : PySem.W.Looks (model prog w) s.heap (isSubtype cls (.type "BaseException")) true) (q : Q (.ref b) s) :
    wpAny (model prog w) A (excFromValue (.ref b) msg) Q E s := by
  have LT : PySem.W.Looks (model prog w) s.heap (typeOf (.ref b)) cls := fun _ _ _ _ k z => wpAny_typeOf_ref (k _ _ e) (by rw [hc]; exact z)
  have LI : PySem.W.Looks (model prog w) s.heap (isInstance (.ref b) (.type "BaseException")) true := LT.andThen L
  unfold excFromValue isExcClass
  refine wpAny_bind (wpAny_bind (notType e d ?_))
  simp only [Bool.false_eq_true, if_false]
  refine wpAny_pure ?_
  simp only [Bool.false_eq_true, if_false]
  refine wpAny_bind (LI.here ?_)
  simp only [if_true]
  exact wpAny_pure q
theorem raise_from {s : Shared} {x c : Sem Value} {Q : Flow → Shared → Prop} {x1 : Addr}
    (h : wpAny (model prog w) A x (fun v s₁ => ∃ a oe vs cls o1 vs1 cls1, v = .ref a ∧ s₁.heap.get? a = some oe ∧ oe.cls = cls ∧ oe.data = .fields vs ∧ vs[1]? = some .none ∧ 4 < vs.size ∧ x1 ≠ a ∧ HotAt A x1 s₁.heap ∧
      s₁.heap.get? x1 = some o1 ∧ o1.data = .fields vs1 ∧ o1.cls = cls1 ∧ (∀ Q', Q' (.ref x1) s₁ → wpAny (model prog w) A c Q' E s₁) ∧ PySem.W.Looks (model prog w) s₁.heap (isSubtype cls1 (.type "BaseException")) true ∧
      PySem.W.Looks (model prog w) s₁.heap (isSubtype cls (.type "BaseException")) true ∧ PySem.W.Looks (model prog w) (caused s₁.heap a (.ref x1)) (typeOf cls) (.type "type") ∧
      E (.ref a) { s₁ with heap := (caused s₁.heap a (.ref x1)).update a (Obj.mapFields (·.setIfInBounds 2 (.ref x1))) }) E s) :
    wpAny (model prog w) A (raiseStmt env (some x) (some c)) Q E s := by
  unfold raiseStmt
  dsimp only
  refine wpAny_bind (wpAny_mono h (fun v s₁ h₁ => ?_) fun _ _ x => x)
  obtain ⟨a, oe, vs, cls, o1, vs1, cls1, rfl, at0, hcl, dt, f1, sz, hne, hot, e1, d1, c1, ev, LB1, LB, LY, out⟩ := h₁
  have d3 := Obj.data_mapFields dt (·.setIfInBounds 3 (.ref x1))
  have at3 := Heap.get?_update_self (Obj.mapFields (·.setIfInBounds 3 (.ref x1))) at0 (Obj.isFreed_of_fields d3)
  obtain ⟨at4, d4⟩ := caused_at (v := .ref x1) at0 dt
  have z3 : 3 < vs.size := by omega
  have z4 : 4 < (vs.setIfInBounds 3 (Value.ref x1)).size := by simp; omega
  have z2 : 2 < ((vs.setIfInBounds 3 (Value.ref x1)).setIfInBounds 4 (Value.bool true)).size := by simp; omega
  have f14 : ((vs.setIfInBounds 3 (Value.ref x1)).setIfInBounds 4 (Value.bool true))[1]? = some Value.none := set_other (by decide) (set_other (by decide) f1)
  have hcl4 : (causedO oe (.ref x1)).cls = cls := by unfold causedO; rw [Obj.cls_mapFields, Obj.cls_mapFields]; exact hcl
  have LT4 : PySem.W.Looks (model prog w) (caused s₁.heap a (.ref x1)) (typeOf (.ref a)) cls := fun _ _ _ _ k z => wpAny_typeOf_ref (k _ _ at4) (by rw [hcl4]; exact z)
  have hot4 : HotAt A x1 (caused s₁.heap a (.ref x1)) := by
    obtain ⟨q1, o, ws, q2, q3, q4⟩ := hot
    exact ⟨q1, o, ws, by rw [caused_other (Ne.symm hne)]; exact q2, q3, q4⟩
  have behind : wpAny (model prog w) A (do
      let b ← isType (.ref a)
      if b = true then do
        let e ← holding [.ref a] (raisedFor (.ref a) (.ref a))
        setFlight e none
        raiseNew e
      else do
        let e ← raisedInstance (.ref a)
        setFlight e none
        raiseNew e : Sem Flow) Q E { s₁ with heap := caused s₁.heap a (.ref x1) } := by
    refine wpAny_bind (notType at4 d4 ?_)
    simp only [Bool.false_eq_true, if_false]
    unfold raisedInstance
    refine wpAny_bind (wpAny_bind (LT4.here (wpAny_bind (LY.here ?_))))
    rw [if_pos (beq_self_eq_true _)]
    refine wpAny_pure ?_
    unfold setFlight
    refine wpAny_bind (wpAny_bind (wpAny_field at4 d4 f14 ?_))
    rw [if_neg (by decide)]
    refine wpAny_pure ?_
    exact raiseNew_hot hot4 hne at4 d4 z2 out
  refine wpAny_bind (wpAny_holding (ev _ (wpAny_bind (wpAny_pure ?_))))
  dsimp only
  refine wpAny_bind (wpAny_holding (excAsIs at0 dt hcl LB ?_))
  rw [if_neg (show ¬ ((Value.ref x1 == Value.none) = true) from by simp)]
  first
  | refine wpAny_bind (wpAny_holding (excAsIs e1 d1 c1 LB1 (wpAny_bind (wpAny_setField at0 dt z3 (wpAny_bind (wpAny_setField at3 d3 z4 ?_))))))
  | refine wpAny_bind (wpAny_holding (excAsIs e1 d1 c1 LB1 (wpAny_bind (wpAny_bind (wpAny_setField at0 dt z3 (wpAny_bind (wpAny_setField at3 d3 z4 ?_)))))))
  | refine wpAny_bind (wpAny_bind (wpAny_holding (excAsIs e1 d1 c1 LB1 (wpAny_bind (wpAny_setField at0 dt z3 (wpAny_setField at3 d3 z4 ?_))))))
  first
  | exact behind
  | (dsimp only; exact behind)
  | (refine wpAny_pure ?_; exact behind)
  | (simp only [bind_pure_comp]; exact behind)
end
end RSX
namespace RSX
open PySem PySem.Spec PyProof.Rows L2 HotX
section
variable {X : Cx} {a : Addr} {oe : Obj} {cls1 : Value} {d1 : Option Addr} {pn : List (Addr × Obj)} {xe : Value → Shared → Prop} {W : WX} {e : Expr} {t : L2.St → Hp → XK → Prop} {i : Nat} {n : Str} {np pos : Pos}
/-- raise X(e) from n, in the suite of «except .. as n» -/
def tRaiseFrom (X : Cx) (i : Nat) (a : Addr) (cls1 : Value) (W : WX) (t : L2.St → Hp → XK → Prop) : TS := fun _ σ H => σ[i]? = some (some (.ref a)) ∧ Raises X cls1 ∧ t σ H fun cls d H' => W cls d σ H'
theorem ps_raiseFrom (hz : L2N.Zn cls1 d1 oe) (hf : ∃ vs, oe.data = .fields vs) (tk : L2.Takes (suiteY X a ((a, oe) :: pn) xe) W) (he : L2H.PMk5 (suiteY X a ((a, oe) :: pn) xe) e t) (hN : X.N[i]? = some n := by rfl) (hv : Vis X.env.scope n := by exact Or.inl rfl)
    (hl : X.env.kindOf n = some .local := by rfl) (hd : (n == ("__debug__" : Str)) = false := by decide) :
    PS (suiteY X a ((a, oe) :: pn) xe) (.Raise (some e) (some (.Name n np)) pos) (tRaiseFrom X i a cls1 W t) := by
  refine ⟨fun pins s σ H D I h => ?_⟩
  obtain ⟨hsl, hr1, ht⟩ := h
  obtain ⟨vs1, dt1⟩ := hf
  show wpAny _ _ (do standAt pos; raiseStmt X.env (some (do let v ← eval e X.env; standAt pos; pure v)) (some (do let v ← eval (.Name n np) X.env; standAt pos; pure v))) _ _ _
  refine wpAny_bind (wpAny_standAt (raise_from (x1 := a) (wpAny_bind (wpAny_mono (he pins s σ H _ I ht) (fun u s1 hu => wpAny_bind (wpAny_standAt (wpAny_pure ?_))) fun _ _ x => x))))
  obtain ⟨⟨b, ob, vs, sI, H', cls, d, rfl, J, k, hne, ha, hzb, hdt, f1, na, os, ag, r, q⟩, h5⟩ := hu
  have sz : 4 < vs.size := h5 b ob vs rfl ha hdt
  have P1 : sI.heap.get? a = some oe := (J.pin (a, oe) (List.mem_append_left _ List.mem_cons_self)).1
  have nab : a ≠ b := fun z => by
    rw [z, hne] at P1
    cases P1
  have kC : ∀ b' u, sI.heap.get? b' = some u → (caused s1.heap b (.ref a)).get? b' = some u := fun b' u z => by
    have nb : b ≠ b' := fun y => by
      rw [← y, hne] at z
      cases z
    rw [caused_other nb]
    exact k b' u z
  obtain ⟨r1, _⟩ := r (model X.prog X.w) s1.heap (J.kIn.keeps k)
  obtain ⟨_, r2⟩ := r (model X.prog X.w) (caused s1.heap b (.ref a)) (J.kIn.keeps kC)
  obtain ⟨r3, _⟩ := hr1 (model X.prog X.w) s1.heap (J.kIn.keeps k)
  obtain ⟨at4, d4⟩ := caused_at (v := .ref a) ha hdt
  have f12 : (((vs.setIfInBounds 3 (Value.ref a)).setIfInBounds 4 (Value.bool true)).setIfInBounds 2 (Value.ref a))[1]? = some Value.none := set_other (by decide) (set_other (by decide) (set_other (by decide) f1))
  have reads : ∀ Q', Q' (.ref a) s1 → wpAny (model X.prog X.w) (X.A.mark (some (.ref a))) (do let v ← eval (.Name n np) X.env; standAt pos; pure v) Q' xe s1 := fun Q' q' => by
    obtain ⟨m, hn, hlk⟩ := J.loc
    obtain ⟨u, ru, lk⟩ := hlk i n (.ref a) hN hsl hv
    have eu : u = .ref a := ru
    subst eu
    refine wpAny_bind ?_
    have fin : wpAny (model X.prog X.w) (X.A.mark (some (.ref a))) (do standAt pos; pure (Value.ref a)) Q' xe s1 := wpAny_bind (wpAny_standAt (wpAny_pure q'))
    rcases lk with ⟨_, hm⟩ | ⟨hk, _⟩
    · exact wpAny_Name (wpAny_loadName_local J.ok.kind hl (hn.keeps k) hm fin) hd
    · rcases hk with hk | hk
      · have := hl.symm.trans hk
        cases this
      · have := hl.symm.trans hk
        cases this
  refine ⟨b, ob, vs, cls, oe, vs1, cls1, rfl, ha, hzb.1, hdt, f1, sz, nab, ⟨rfl, oe, vs1, k _ _ P1, dt1, hz.2.2 vs1 dt1⟩, k _ _ P1, dt1, hz.1, reads, r3, r1, r2, tk _ _ (XE.new J (fun b' u z => ?_) hne (Heap.get?_update_self _ at4 (Obj.isFreed_of_fields (Obj.data_mapFields d4 _)))
    ⟨by rw [Obj.cls_mapFields, Obj.cls_mapFields, Obj.cls_mapFields]; exact hzb.1, by rw [HandSPX.dict_mapFields, HandSPX.dict_mapFields, HandSPX.dict_mapFields]; exact hzb.2.1⟩ (Obj.data_mapFields d4 _) f12 na os ag q)⟩
  have nb : b ≠ b' := fun y => by
    rw [← y, hne] at z
    cases z
  show ((caused s1.heap b (.ref a)).update b (Obj.mapFields (·.setIfInBounds 2 (.ref a)))).get? b' = some u
  rw [Heap.get?_update_other _ _ nb]
  exact kC b' u z
end
end RSX

namespace RS
open PySem PySem.Spec PyProof.Rows L2
theorem room_mark {k : Nat} {A : Around} {x : Option Value} (r : Room k A) : L2H.RoomH k (A.mark x) := ⟨r.dp, r.un⟩
section
variable {X : Cx} {k : Nat} {x : Str} {ps : List Str} {sp : Sp} {p pos : Pos} {e : Expr} {es : List Expr} {t : TA}
/-- f(e, ..), where f's exceptions have no context -/
theorem pe_hasSN {W : WX} (h : Has X.prog X.w X.K X.mg X.base (L2N.CX X.prog X.w) k x ps sp) (hr : Room k X.A) (tk : L2N.Takes X W) (ha : PA X (e :: es) t) (hg : Gl X x := by rfl) (hdb : (x == ("__debug__" : Str)) = false := by decide)
    (he : starEach (e :: es) X.env = (false, eval e X.env) :: starEach es X.env := by rfl) (hpl : (backTo pos (starEach es X.env)).any (·.1) = false := by rfl) :
    PE X (.Call (.Name x p) (e :: es) [] pos) (tCallS sp (WE W) t) := by
  obtain ⟨f, fd, F, g, kp, b⟩ := h
  exact pe_callS F hr hg g kp b (fun σ => L2N.passAt tk σ) ha hdb he hpl
end
end RS

/-! enumerate over a tuple. -/
namespace PySem
namespace EnT
open PySem PySem.W PyProof.Rows
theorem meets_enum1 {v : Value} {o : Obj} {H : Heap → Prop} (B : Begins v o H) :
    Meets (Builtin.«enumerate.__new__» ⟨[.type "enumerate", v], []⟩) (fun _ R s => H s.heap ∧
      R (.ok (.ret (.ref (s.heap.push o).objs.size))) { s with heap := (s.heap.push o).push { cls := .type "enumerate", data := .fields #[.none, .bool false, .ref s.heap.objs.size, rawInt 0, .none, .none] } }) :=
  .of_wp fun prog w A R s h => by
    obtain ⟨hp, g, d, tk, os⟩ := s
    obtain ⟨h1, h⟩ := h
    have hsub := sub_enumerate
    have walk : ∀ {A' : Around} {E : Value → Shared → Prop} {Q : Value → Shared → Prop}, Q (.ref hp.objs.size) ⟨hp.push o, g, d, tk, os⟩ → wpAny (model prog w) A' (pyIter v) Q E ⟨hp, g, d, tk, os⟩ :=
      fun q => B.iter prog w _ _ ⟨hp, g, d, tk, os⟩ _ h1 q
    wp_walk
    refine wpAny_stack_any fun st => wpAny_pure ?_
    split
    · rename_i c _ _ _ _ _
      cases (c == Value.type "enumerate")
      · wp_walk using walk
        exact ⟨_, rfl, h⟩
      · wp_walk using walk
        exact ⟨_, rfl, h⟩
    · wp_walk using walk
      exact ⟨_, rfl, h⟩
section
variable {prog : Program} {w : World} {A : Around} {E : Value → Shared → Prop} {s : Shared}
/-- enumerate(v): its two new cells -/
theorem call_enum1 {v : Value} {o : Obj} {H : Heap → Prop} {Q : Value → Shared → Prop} (B : Begins v o H) (h1 : H s.heap)
    (h : ∀ h', IsEnum h' (s.heap.objs.size + 1) s.heap.objs.size 0 .none → h'.get? s.heap.objs.size = some o →
      (∀ b ob, s.heap.get? b = some ob → h'.get? b = some ob) → Q (.ref (s.heap.objs.size + 1)) { s with heap := h' }) :
    wpAny (model prog w) A (call (.type "enumerate") [v]) Q E s := by
  refine callType_new F.called_enumerate (by decide) (F.typeCall_enumerate_1 _) (F.newCall_enumerate_1 _) (fun obj => F.args_object_init_2 obj _) F.entry_enumerate_new (meets_enum1 B) ⟨h1, ?_⟩
  have z1 : (s.heap.push o).objs.size = s.heap.objs.size + 1 := Heap.size_push ..
  show _ ∧ _
  rw [z1]
  have at1 : IsEnum ((s.heap.push o).push { cls := .type "enumerate", data := .fields #[.none, .bool false, .ref s.heap.objs.size, rawInt 0, .none, .none] }) (s.heap.objs.size + 1) s.heap.objs.size 0 .none := by
    have q := Heap.get?_push_size (s.heap.push o) (o := { cls := .type "enumerate", data := .fields #[.none, .bool false, .ref s.heap.objs.size, rawInt 0, .none, .none] }) rfl
    rw [z1] at q
    exact q
  exact ⟨⟨_, at1, rfl⟩, h _ at1 (Heap.get?_push_of_some _ (Heap.get?_push_size _ B.free)) fun b ob x => Heap.get?_push_of_some _ (Heap.get?_push_of_some _ x)⟩
end
end EnT
end PySem

namespace L2
open PySem PySem.Spec PyProof.Rows
/-- enumerate over the tuple at a: new pairs -/
def ItT (K : PySem.W.Frag) (a : Addr) : It :=
  ⟨fun i H => ∃ (xs : List V) (x : V), SqT K H a xs ∧ xs[i]? = some x, fun i H v H' => ∃ T x, v = .ref T ∧ H T = none ∧ H' = upd H T (.tup [.int (i : Nat), x]) ∧ ∀ xs, SqT K H a xs → xs[i]? = some x, fun i H => ∃ xs : List V, SqT K H a xs ∧ xs.length ≤ i⟩
theorem turn_enumT {P : Program} {w : World} {K : PySem.W.Frag} {elts : List Expr} {kk : Nat} {tpos : Pos} (a e it : Addr) :
    Turn P w K (.Tuple elts kk tpos) (ItT K a) [e, it] e (fun i h => (∃ old, IsEnum h e it ((i : Nat) : Int) old) ∧ h.IsTupleIter it a i ∧ e ≠ it ∧ e ≠ a ∧ it ≠ a) where
  mem := by simp
  obj := fun i h st b hb => by
    obtain ⟨⟨_, q⟩, ⟨o, ho, _, d⟩, _⟩ := st
    rcases (show b = e ∨ b = it by simpa using hb) with z | z
    · rw [z]; exact ⟨_, q, fun v q => nomatch q⟩
    · rw [z]; exact ⟨o, ho, fun v q => by rw [d] at q; cases q⟩
  keep := fun i h h' st k => by
    obtain ⟨⟨old, q⟩, hi, n⟩ := st
    exact ⟨⟨old, k e (by simp) _ q⟩, hi.at fun o q => k it (by simp) o q, n⟩
  item := by
    intro X hP hw hK hc i pins s σ H E I hf st hg
    subst hP hw hK
    obtain ⟨⟨old, he⟩, hit, n1, n2, n3⟩ := st
    obtain ⟨xs, x, hq, hx⟩ := hg
    obtain ⟨its, rv, p, hz⟩ := I.tuple hq
    obtain ⟨u, hu, ru⟩ := rv.get hx
    have le : e < s.heap.objs.size := Heap.lt_size he
    have li : it < s.heap.objs.size := by obtain ⟨_, q, _⟩ := hit; exact Heap.lt_size q
    have hd : X.A.in1.handled = none := I.ok.hd hc
    have D := PySem.Draws.tuple (prog := X.prog) (w := X.w) (A := X.A.in1) hd it a (Ne.symm n3) its.toArray
    have hlt : i < its.toArray.size := by
      have := (List.getElem?_eq_some_iff.mp hu).1
      simpa using this
    refine wpAny_pyNext_enum_itemD D he ⟨hit, p⟩ hlt n1 (by simp [n1, n2]) fun y h' tk hy ho st' hT hsz hk => ?_
    have ey : y = u := by
      rw [List.getElem?_toArray, hu] at hy
      exact (Option.some.inj hy).symm
    subst ey
    refine ⟨_, rfl, wpAny_letOwnedTupleGo_enum (s := { s with heap := h', toks := tk + 1 }) ho fun h'' he' sb => ?_⟩
    have hT2 : h''.get? s.heap.objs.size = some { cls := .type "tuple", data := .seq #[.int i tk, y] } := (sb.2 _ (Nat.ne_of_gt le)).trans hT
    have new : ObjOk X.prog X.w (upd H s.heap.objs.size (.tup [.int (i : Nat), x])) h'' s.heap.objs.size (.tup [.int (i : Nat), x]) :=
      ⟨by show 2 ≤ sizeLine; decide, [.int i tk, y], .cons ⟨_, rfl⟩ (.cons ru .nil), ⟨_, hT2, rfl, _, rfl⟩⟩
    have J : Inv X pins σ (upd H s.heap.objs.size (.tup [.int (i : Nat), x])) { s with heap := h'', toks := tk + 1 } :=
      I.turnedNew (ch := [e, it]) (fun b ob hb q => (sb.2 b (fun z => hb (by simp [z]))).trans (hk b ob (fun z => hb (by simp [z])) (fun z => hb (by simp [z])) q)) hf (Nat.le_refl _) new
    refine ⟨.ref s.heap.objs.size, _, J, rfl, ⟨_, x, rfl, I.hok.fresh (Nat.le_refl _), rfl, fun ys hys => by rw [I.tuple_inj hys hq]; exact hx⟩, ⟨⟨y, ?_⟩, st'.1.at fun o q => (sb.2 it (Ne.symm n1)).trans q, n1, n2, n3⟩, fun b hb => ?_⟩
    · rw [show ((i + 1 : Nat) : Int) = (i : Int) + 1 by omega]
      exact he'
    · have lb : b < s.heap.objs.size := by
        rcases (show b = e ∨ b = it by simpa using hb) with z | z <;> rw [z] <;> assumption
      rw [upd_ne (Nat.ne_of_lt lb)]
      exact (hf b hb).1
  done := by
    intro X hP hw hK hc i pins s σ H E I hf st hg
    subst hP hw hK
    obtain ⟨⟨old, he⟩, hit, n1, n2, n3⟩ := st
    obtain ⟨xs, hq, hx⟩ := hg
    obtain ⟨its, rv, p, hz⟩ := I.tuple hq
    obtain ⟨f0, f1, _, f3, f4, f5⟩ := hf it (by simp)
    have hl := rv.length
    have hd : X.A.in1.handled = none := I.ok.hd hc
    have hTy : s.TypeIs (.ref e) "enumerate" := ⟨_, he, rfl⟩
    unfold pyNext
    refine wpAny_bind (wpAny_attempt (wpAny_callSpecial?_slot (name := Str.ofString "__next__") hTy F.slot_enumerate_next (wpAny_call_entry F.slot_enumerate_next hTy F.entry_enumerate_next ?_ (F.args_enumerate_next_1 _))))
    show wpAny _ _ (field (.ref e) 2 >>= _) _ _ _
    refine wpAny_bind (wpAny_field he rfl (x := .ref it) rfl ?_)
    refine wpAny_bind (PySem.wpAny_nextOf_tuple_end hd hit p (by simp; omega) fun h' y eb hy => ?_)
    obtain ⟨o, ho, hcl⟩ := hy
    refine wpAny_bind (wpAny_isInstance (T := "StopIteration") (b := true) ⟨o, ho, hcl⟩ isSubtype_stop ?_)
    exact wpAny_pure ⟨rfl, I.turned (t' := s.toks) (fun b o hb q => eb b o hb q) f0 f1 f3 f4 f5⟩
  self := fun A i s Q E st h => by
    obtain ⟨⟨_, q⟩, _⟩ := st
    exact wpAny_pyIter_enum q h
def iEnumT (K : PySem.W.Frag) (ta : TA) : TI := fun σ H R => ta σ H fun vs H1 => ∃ a xs, vs = [.ref a] ∧ SqT K H1 a xs ∧ R (ItT K a) H1
/-- for i, x in enumerate(e), e a tuple -/
theorem pi_enumT {X : Cx} {e : Expr} {ta : TA} {p pos tpos : Pos} {elts : List Expr} {kk : Nat} (hg : Gl X "enumerate") (hm : X.mg "enumerate" = none) (ha : PA X [e] ta) (hs : starEach [e] X.env = [(false, eval e X.env)] := by rfl) :
    PI X (.Tuple elts kk tpos) (.Call (.Name "enumerate" p) [e] [] pos) (iEnumT X.K ta) := by
  refine ⟨fun pins s σ H R I h => ?_⟩
  refine Call_ (ld_blt I hg hm boot_enumerate (PyProof.Rows.callWith_type1 (thn (ha.run pos pins s σ H _ I h) fun us s1 ⟨vs, H1, I1, r1, q1⟩ => ?_) hs rfl))
  obtain ⟨a, xs, rfl, hq, q⟩ := q1
  rcases r1 with _ | ⟨r, rr⟩
  cases rr
  cases r
  obtain ⟨its, rv, t, hz⟩ := I1.tuple hq
  have la : a < s1.heap.objs.size := by
    obtain ⟨_, z, _⟩ := t
    exact Heap.lt_size z
  refine PySem.EnT.call_enum1 (begins_tuple a its.toArray) t fun h' he hit hk => wpAny_pyIter_enum he ?_
  refine ⟨s1.heap.objs.size + 1, [s1.heap.objs.size + 1, s1.heap.objs.size], _, _, H1, rfl, I1.kept (t' := s1.toks) hk, turn_enumT a (s1.heap.objs.size + 1) s1.heap.objs.size, ⟨⟨.none, he⟩, ⟨_, hit, rfl, rfl⟩, Nat.succ_ne_self _, Nat.ne_of_gt (Nat.lt_succ_of_lt la), Nat.ne_of_gt la⟩, fun b hb => ?_, q⟩
  have le : s1.heap.objs.size ≤ b := by
    rcases (show b = s1.heap.objs.size + 1 ∨ b = s1.heap.objs.size by simpa using hb) with z | z
    · exact z ▸ Nat.le_succ _
    · exact z ▸ Nat.le_refl _
  exact I1.fpOk le (I1.hok.fresh le)
theorem for_enumT {K : PySem.W.Frag} {a : Addr} {xs : List V} {g : TG} {tb : TS} {D : Ends} {σ : St} {H : Hp} (Pv : Nat → St → Hp → Prop) (h0 : Pv 0 σ H) (hl : ∀ i σ H, i ≤ xs.length → Pv i σ H → SqT K H a xs)
    (hs : ∀ i x σ H T, xs[i]? = some x → Pv i σ H → H T = none → g (.ref T) σ (upd H T (.tup [.int (i : Nat), x])) fun σ2 H2 => tb { D with nx := Pv (i + 1), ct := Pv (i + 1), bk := D.nx } σ2 H2) (hd : ∀ σ H, Pv xs.length σ H → D.nx σ H) :
    ∃ W : Nat → Nat → St → Hp → Prop, (∃ m, W 0 m σ H) ∧ ∀ i m σ H, W i m σ H →
      ((ItT K a).stop i H ∧ D.nx σ H) ∨ ((ItT K a).go i H ∧ ∃ N : St → Hp → Prop, (∀ σ' H', N σ' H' → ∃ m', m' < m ∧ W (i + 1) m' σ' H') ∧ ∀ x H', (ItT K a).yld i H x H' → g x σ H' fun σ2 H2 => tb { D with nx := N, ct := N, bk := D.nx } σ2 H2) := by
  refine ⟨fun i m σ H => m = xs.length - i ∧ i ≤ xs.length ∧ Pv i σ H, ⟨xs.length, by simp, Nat.zero_le _, h0⟩, ?_⟩
  rintro i m σ H ⟨rfl, hi, p⟩
  have q := hl i σ H hi p
  by_cases lt : i < xs.length
  · refine .inr ⟨⟨xs, xs[i], q, by simp [lt]⟩, Pv (i + 1), fun σ' H' p' => ⟨xs.length - (i + 1), by omega, rfl, lt, p'⟩, fun v H' y => ?_⟩
    obtain ⟨T, x, rfl, nT, rfl, hx⟩ := y
    exact hs i x σ _ T (hx xs q) p nT
  · have e : i = xs.length := by omega
    subst e
    exact .inl ⟨⟨xs, q, Nat.le_refl _⟩, hd σ H p⟩
end L2

namespace RS
open PySem PySem.Spec PyProof.Rows L2 TL
def topS (i : Nat) : Stmt := PySem.Challenge.pw_rightstead_k76_rows_of_logs_and_runs.main.body.getD i (.Pass ⟨0, 0, 0, 0⟩)

/-! ### isinstance of values -/
def tyD : D → String
  | .int _ => "int"
  | .bl _ => "bool"
  | .str _ => "str"
  | .tup _ => "tuple"
theorem SqT.ty {K : PySem.W.Frag} {H : Hp} {a : Addr} {xs : List V} (h : SqT K H a xs) : TyX K H (.ref a) (.type "tuple") := by
  rcases h with (h | ⟨o, h⟩) | ⟨o, its, n, h, c, _⟩
  · exact .base (.tup h)
  · exact .fTuple h
  · exact .kTuple h c
theorem Rp.ty {K : PySem.W.Frag} {H : Hp} : ∀ {d : D} {v : V}, Rp K H d v → TyX K H v (.type (tyD d))
  | .int i, _, h => by cases (show _ = V.int i from h); exact .base (.int i)
  | .bl b, _, h => by cases (show _ = V.bl b from h); exact .base (.bl b)
  | .str s, _, h => by cases (show _ = V.str s from h); exact .base (.str s)
  | .tup ds, _, ⟨a, xs, e, s, r⟩ => by rw [e]; exact SqT.ty s
def isIntB : D → Bool
  | .int _ => true
  | .bl _ => true
  | _ => false
def isBl : D → Bool
  | .bl _ => true
  | _ => false
def isStr : D → Bool
  | .str _ => true
  | _ => false
def isTup : D → Bool
  | .tup _ => true
  | _ => false
def isInt : D → Bool
  | .int _ => true
  | _ => false
theorem kb_int : ∀ d : D, kitB (tyD d) "int" = some (isIntB d)
  | .int _ => (by decide +kernel : kitB "int" "int" = some true)
  | .bl _ => (by decide +kernel : kitB "bool" "int" = some true)
  | .str _ => (by decide +kernel : kitB "str" "int" = some false)
  | .tup _ => (by decide +kernel : kitB "tuple" "int" = some false)
theorem kb_bool : ∀ d : D, kitB (tyD d) "bool" = some (isBl d)
  | .int _ => (by decide +kernel : kitB "int" "bool" = some false)
  | .bl _ => (by decide +kernel : kitB "bool" "bool" = some true)
  | .str _ => (by decide +kernel : kitB "str" "bool" = some false)
  | .tup _ => (by decide +kernel : kitB "tuple" "bool" = some false)
theorem kb_str : ∀ d : D, kitB (tyD d) "str" = some (isStr d)
  | .int _ => (by decide +kernel : kitB "int" "str" = some false)
  | .bl _ => (by decide +kernel : kitB "bool" "str" = some false)
  | .str _ => (by decide +kernel : kitB "str" "str" = some true)
  | .tup _ => (by decide +kernel : kitB "tuple" "str" = some false)
theorem kb_tup : ∀ d : D, kitB (tyD d) "tuple" = some (isTup d)
  | .int _ => (by decide +kernel : kitB "int" "tuple" = some false)
  | .bl _ => (by decide +kernel : kitB "bool" "tuple" = some false)
  | .str _ => (by decide +kernel : kitB "str" "tuple" = some false)
  | .tup _ => (by decide +kernel : kitB "tuple" "tuple" = some true)

section
variable {X : Cx}
/-- str(x), x a number or a text -/
theorem call_strD : CallR X (.type "str") (fun xs H Q => (∃ i : Int, xs = [.int i] ∧ i.natAbs.log2 < 1920 ∧ Q (.str (toString i)) H) ∨ ∃ a : Str, xs = [.str a] ∧ Q (.str a) H) := by
  intro pins s σ H xs us Q I r h
  rcases h with h | h
  · exact call_str_int pins s σ H xs us Q I r h
  · exact SkE.call_str_str pins s σ H xs us Q I r h
end
/-! ### what the top has written -/
structure Bl (mg : Str → Option Value) : Prop where
  m_isinstance : mg "isinstance" = none
  m_int : mg "int" = none
  m_bool : mg "bool" = none
  m_tuple : mg "tuple" = none
  m_str : mg "str" = none
  m_len : mg "len" = none
  m_all : mg "all" = none
  m_range : mg "range" = none
  m_max : mg "max" = none
  m_ValueError : mg "ValueError" = none

abbrev s_whole : Stmt := topS 8
theorem sc_whole : FnScope ["x"] ["x"] (defScope s_whole) := ⟨rfl, rfl, rfl, by decide +kernel, rfl, by decide +kernel, by decide +kernel⟩
abbrev s_is_row : Stmt := topS 9
theorem sc_is_row : FnScope ["x"] ["x"] (defScope s_is_row) := ⟨rfl, rfl, rfl, by decide +kernel, rfl, by decide +kernel, by decide +kernel⟩
abbrev s_tokens_of : Stmt := topS 16
theorem sc_tokens_of : FnScope ["value", "tokens", "member"] ["value"] (defScope s_tokens_of) := ⟨rfl, rfl, rfl, by decide +kernel, rfl, by decide +kernel, by decide +kernel⟩
abbrev s_write_value : Stmt := topS 17
theorem sc_write_value : FnScope ["value"] ["value"] (defScope s_write_value) := ⟨rfl, rfl, rfl, by decide +kernel, rfl, by decide +kernel, by decide +kernel⟩

section
variable {P : Program} {w : World} {K : PySem.W.Frag} {mg : Str → Option Value} {base : Heap}

def spWhole (K : PySem.W.Frag) : Sp := fun vs H Q _ => ∃ v d, vs = [v] ∧ Rp K H d v ∧ Q (.bl (isInt d)) H
theorem ok_whole (T : Bl mg) (D : HasDef K mg "whole" s_whole ["x"]) : Has P w K mg base CX0 1 "whole" ["x"] (spWhole K) := by
  refine D.has fun f fd F => F.ok sc_whole (fun vs H Q E h => ?_) (fun cdv A outer s H vs Q E hr h => ?_)
  · obtain ⟨v, d, rfl, _⟩ := h; rfl
  · obtain ⟨v, d, rfl, r, q⟩ := h
    refine ⟨_, (pss_one (ps_ret (pe_and (pe_callB call_isi (by rfl) T.m_isinstance (by decide +kernel) (pa_cons (pv 0) (pa_cons (pe_bltn (v := .ty "int") (u := .type "int") (by rfl) T.m_int (by decide +kernel) rfl) pa_nil))) (pe_one (pe_not (pe_callB call_isi (by rfl) T.m_isinstance (by decide +kernel) (pa_cons (pv 0) (pa_cons (pe_bltn (v := .ty "bool") (u := .type "bool") (by rfl) T.m_bool (by decide +kernel) rfl) pa_nil)))))))), ?_⟩
    refine ⟨v, rfl, _, _, _, _, _, rfl, .ty "int", r.ty, kit_ty (kb_int d), _, rfl, ?_⟩
    cases d with
    | int i => exact iteT ⟨v, rfl, _, _, _, _, _, rfl, .ty "bool", r.ty, kit_ty (kb_bool _), _, rfl, q⟩
    | bl i => exact iteT ⟨v, rfl, _, _, _, _, _, rfl, .ty "bool", r.ty, kit_ty (kb_bool _), _, rfl, q⟩
    | str i => exact iteF q
    | tup i => exact iteF q

def spIsRow (K : PySem.W.Frag) : Sp := fun vs H Q _ => ∃ v d, vs = [v] ∧ Rp K H d v ∧ Q (.bl (isTup d)) H
theorem ok_is_row (T : Bl mg) (D : HasDef K mg "is_row" s_is_row ["x"]) : Has P w K mg base CX0 1 "is_row" ["x"] (spIsRow K) := by
  refine D.has fun f fd F => F.ok sc_is_row (fun vs H Q E h => ?_) (fun cdv A outer s H vs Q E hr h => ?_)
  · obtain ⟨v, d, rfl, _⟩ := h; rfl
  · obtain ⟨v, d, rfl, r, q⟩ := h
    refine ⟨_, (pss_one (ps_ret (pe_callB call_isi (by rfl) T.m_isinstance (by decide +kernel) (pa_cons (pv 0) (pa_cons (pe_bltn (v := .ty "tuple") (u := .type "tuple") (by rfl) T.m_tuple (by decide +kernel) rfl) pa_nil))))), ?_⟩
    exact ⟨v, rfl, _, _, _, _, _, rfl, .ty "tuple", r.ty, kit_ty (kb_tup d), q⟩

/-- numbers are not too long to be written -/
def small : D → Prop
  | .int i => i.natAbs.log2 < 1920
  | _ => True
mutual
def smallD : D → Prop
  | .int i => i.natAbs.log2 < 1920
  | .bl _ => False
  | .str _ => True
  | .tup ds => smallL ds
def smallL : List D → Prop
  | [] => True
  | d :: r => smallD d ∧ smallL r
end
theorem smallL.at : ∀ {ds : List D} {i : Nat} {d : D}, smallL ds → ds[i]? = some d → smallD d
  | [], _, _, _, e => by simp at e
  | d :: r, 0, d', h, e => by
    have : d = d' := by simpa using e
    exact this ▸ h.1
  | d :: r, i + 1, d', h, e => smallL.at (i := i) h.2 (by simpa using e)
theorem toksL_take {ds : List D} {i : Nat} {d : D} (h : ds[i]? = some d) : toksL (ds.take (i + 1)) = toksL (ds.take i) ++ toks d := by
  rw [List.take_add_one, h, toksL_append]
  show _ ++ toksL [d] = _
  rw [toksL_one]
theorem toksL_le {n : Nat} : ∀ (ds : List D), (toksL (ds.take n)).length ≤ (toksL ds).length := fun ds => by
  have := List.take_append_drop n ds
  have e := congrArg (fun l => (toksL l).length) this
  simp only [toksL_append, List.length_append] at e
  omega
theorem toks_at_le {ds : List D} {i : Nat} {d : D} (h : ds[i]? = some d) : (toksL (ds.take i)).length + (toks d).length ≤ (toksL ds).length := by
  have := toksL_le (n := i + 1) ds
  rw [toksL_take h, List.length_append] at this
  exact this
/-- the tokens of values less deep than n -/
def spToks (K : PySem.W.Frag) (n : Nat) : Sp := fun vs H Q _ => ∃ v d, vs = [v] ∧ Rp K H d v ∧ dep d < n ∧ smallD d ∧ (toks d).length ≤ 10000000 ∧ ∀ H' p, Same H H' → H p = none → H' p = some (.lst ((toks d).map V.str)) → Q (.ref p) H'
theorem ok_tokens_of (T : Bl mg) (D : HasDef K mg "tokens_of" s_tokens_of ["value"]) (C_whole : Has P w K mg base CX0 1 "whole" ["x"] (spWhole K)) (C_is_row : Has P w K mg base CX0 1 "is_row" ["x"] (spIsRow K)) :
    ∀ n : Nat, Has P w K mg base CX0 (n + 1) "tokens_of" ["value"] (spToks K n)
  | 0 => D.has fun f fd F => ⟨fun vs H Q E h => by obtain ⟨v, d, _, _, z, _⟩ := h; omega, fun A outer s H args us vs Q E hr he hb hv hs => by obtain ⟨v, d, _, _, z, _⟩ := hs; omega⟩
  | n + 1 => by
    have C_tokens_of := ok_tokens_of T D C_whole C_is_row n
    refine D.has fun f fd F => F.ok sc_tokens_of (fun vs H Q E h => ?_) (fun cdv A outer s H vs Q E hr h => ?_)
    · obtain ⟨v, d, rfl, _⟩ := h; rfl
    · obtain ⟨v, d, rfl, r, hd, hs, hl, q⟩ := h
      refine ⟨_, (pss_cons (ps_if (pt_val (pe_has C_whole (hr.mono (by omega)) pass0 (pa_cons (pv 0) pa_nil)))
  (pss_one (ps_ret (pe_lst (pa_cons (pe_callTy call_strD (by rfl) T.m_str (by decide +kernel) (pa_cons (pv 0) pa_nil)) pa_nil))))
  pss_nil)
  (pss_cons (ps_if (pt_not (pt_val (pe_has C_is_row (hr.mono (by omega)) pass0 (pa_cons (pv 0) pa_nil))))
  (pss_one (ps_ret (pe_lst (pa_cons (pv 0) pa_nil))))
  pss_nil)
  (pss_cons (ps_set (i := 1) sc_tokens_of.nd rfl (Or.inl rfl) (pe_lst (pa_cons pe_str pa_nil)))
  (pss_cons (ps_for PassesOwn.never rfl (pi_tup (pv 0)) (pg_name (i := 2) sc_tokens_of.nd rfl (Or.inl rfl))
  (pss_one (ps_expr (pe_bm PySem.F.plainAttrs_list PySem.F.slot_list_extend PySem.F.type_list_extend mt_extend (pv 1) (pa_cons (pe_has C_tokens_of (hr.mono (by omega)) pass0 (pa_cons (pv 2) pa_nil)) pa_nil)))))
  (pss_cons (ps_expr (pe_bm PySem.F.plainAttrs_list PySem.F.slot_list_append PySem.F.type_list_append mt_append (pv 1) (pa_cons pe_str pa_nil)))
  (pss_one (ps_ret (pv 1)))))))), ?_⟩
      refine ⟨v, rfl, v, d, rfl, r, _, rfl, ?_⟩
      cases d with
      | int i =>
        refine iteT ?_
        cases (show v = V.int i from r)
        exact ⟨_, rfl, .inl ⟨i, rfl, hs, by show 1 ≤ sizeLine; decide, fun p np => q _ p (Sv.nil (Sv.new np)) np upd_same⟩⟩
      | bl i => exact hs.elim
      | str i =>
        refine iteF ⟨v, rfl, v, _, rfl, r, _, rfl, ?_⟩
        refine iteT ?_
        cases (show v = V.str i from r)
        exact ⟨_, rfl, by show 1 ≤ sizeLine; decide, fun p np => q _ p (Sv.nil (Sv.new np)) np upd_same⟩
      | tup ds =>
        refine iteF ⟨v, rfl, v, _, rfl, r, _, rfl, ?_⟩
        refine iteF ?_
        obtain ⟨a, xs, rfl, sq, rl⟩ := r
        refine ⟨by show 1 ≤ sizeLine; decide, fun p np => ?_⟩
        have hl' : (toksL ds).length + 2 ≤ 10000000 := by
          have : (lb :: (toksL ds ++ [rb])).length ≤ 10000000 := hl
          simp at this; omega
        refine ⟨.ref a, rfl, a, rfl, ⟨_, (tk_new np).seqT sq⟩, for_tup (K := K) (a := a) (xs := xs) (fun i σ H' => ∃ y, σ = [some (.ref a), some (.ref p), y] ∧ Sv [p] H H' ∧ H' p = some (.lst ((lb :: toksL (ds.take i)).map V.str)))
          ⟨none, rfl, Sv.new np, by rw [upd_same]; rfl⟩ (fun i σ H' _ ⟨_, _, s1, _⟩ => (Sv.drop np s1 |> Sv.nil |> TK.same).seqT sq) ?_ ?_⟩
        · rintro i x σ H' hi ⟨y, rfl, s1, hp⟩
          obtain ⟨d, hdi, rd⟩ := rl.get hi
          have k1 : TK H H' := (Sv.drop np s1 |> Sv.nil |> TK.same)
          have hle := toks_at_le hdi
          refine ⟨.ref p, rfl, .inl ⟨rfl, _, .inl (.inl hp)⟩, x, rfl, x, d, rfl, rd.keep k1, ?_, smallL.at hs hdi, by omega, fun H2 p2 s2 np2 hp2 => ?_⟩
          · have : dep d ≤ depL ds := depL_le.mp (Nat.le_refl _) d (List.mem_of_getElem? hdi)
            have hd' : 1 + depL ds < n + 1 := hd
            omega
          · refine ⟨p, p2, _, _, rfl, rfl, s2 _ _ hp, hp2, ?_, some x, rfl, ?_, ?_⟩
            · rw [List.length_map, List.length_map, List.length_cons]
              show _ ≤ sizeLine
              rw [sizeLine_eq]; omega
            · exact s1.trans ((Sv.same s2).trans (Sv.set (by simp)))
            · rw [upd_same, ← List.map_append, toksL_take hdi]
              rfl
        · rintro σ H' ⟨y, rfl, s1, hp⟩
          have ef : ds.take xs.length = ds := by rw [rl.len, List.take_length]
          rw [ef] at hp
          refine ⟨.ref p, rfl, .inl ⟨rfl, _, .inl (.inl hp)⟩, p, _, _, rfl, rfl, hp, ?_, .ref p, rfl, ?_⟩
          · rw [List.length_map, List.length_cons]
            show _ < sizeLine
            rw [sizeLine_eq]; omega
          · refine q _ p (Sv.nil (Sv.drop np (s1.trans (Sv.set (by simp))))) np ?_
            rw [upd_same, show toks (.tup ds) = (lb :: toksL ds) ++ [rb] from rfl, List.map_append]
            rfl
/-- the text of a value -/
def spWrite (K : PySem.W.Frag) : Sp := fun vs H Q _ => ∃ v d, vs = [v] ∧ Rp K H d v ∧ dep d < 20 ∧ smallD d ∧ wsum (toks d) ≤ 10000000 ∧ ∀ H', Same H H' → Q (.str (wr d)) H'
theorem len_le_wsum (ws : List Str) : ws.length ≤ wsum ws := by unfold wsum; omega
theorem ok_write_value (T : Bl mg) (D : HasDef K mg "write_value" s_write_value ["value"]) (C_tokens_of : Has P w K mg base CX0 21 "tokens_of" ["value"] (spToks K 20)) :
    Has P w K mg base CX0 22 "write_value" ["value"] (spWrite K) := by
  refine D.has fun f fd F => F.ok sc_write_value (fun vs H Q E h => ?_) (fun cdv A outer s H vs Q E hr h => ?_)
  · obtain ⟨v, d, rfl, _⟩ := h; rfl
  · obtain ⟨v, d, rfl, r, hd, hs, hl, q⟩ := h
    refine ⟨_, (pss_one (ps_ret (pe_join pe_str (pe_has C_tokens_of (hr.mono (by omega)) pass0 (pa_cons (pv 0) pa_nil))))), ?_⟩
    have := len_le_wsum (toks d)
    refine ⟨⟨_, rfl⟩, v, rfl, v, d, rfl, r, hd, hs, by omega, fun H' p s np hp => ?_⟩
    refine ⟨_, p, toks d, rfl, rfl, .inl (.inl (.inl hp)), ?_, q H' s⟩
    have e : (Str.length (" " : Str)) = 1 := sp_len
    rw [e]
    unfold wsum at hl
    omega
end
end RS

namespace RS
open PySem PySem.Spec PyProof.Rows L2 TL

abbrev s_is_word : Stmt := topS 18
theorem sc_is_word : FnScope ["token", "char"] ["token"] (defScope s_is_word) := ⟨rfl, rfl, rfl, by decide +kernel, rfl, by decide +kernel, by decide +kernel⟩
abbrev s_is_number : Stmt := topS 19
theorem sc_is_number : FnScope ["token", "digits", "char"] ["token"] (defScope s_is_number) := ⟨rfl, rfl, rfl, by decide +kernel, rfl, by decide +kernel, by decide +kernel⟩
abbrev s_read_token : Stmt := topS 20
theorem sc_read_token : FnScope ["token"] ["token"] (defScope s_read_token) := ⟨rfl, rfl, rfl, by decide +kernel, rfl, by decide +kernel, by decide +kernel⟩

/-- the constants of tokens.py -/
structure Cn (mg : Str → Option Value) : Prop extends Bl mg where
  c_LETTERS : ∃ t, mg "LETTERS" = some (.str lets t)
  c_DIGITS : ∃ t, mg "DIGITS" = some (.str digs t)
  c_MOST_LETTERS : ∃ t, mg "MOST_LETTERS" = some (.int 20 t)
  c_MOST_DIGITS : ∃ t, mg "MOST_DIGITS" = some (.int 60 t)
  c_MOST_NESTED : ∃ t, mg "MOST_NESTED" = some (.int 12 t)
/-- .. as they stand -/
structure CnT (mg : Str → Option Value) (t1 t2 t3 t4 t5 : Tok) : Prop extends Bl mg where
  c_LETTERS : mg "LETTERS" = some (.str lets t1)
  c_DIGITS : mg "DIGITS" = some (.str digs t2)
  c_MOST_LETTERS : mg "MOST_LETTERS" = some (.int 20 t3)
  c_MOST_DIGITS : mg "MOST_DIGITS" = some (.int 60 t4)
  c_MOST_NESTED : mg "MOST_NESTED" = some (.int 12 t5)

section
variable {P : Program} {w : World} {K : PySem.W.Frag} {mg : Str → Option Value} {base : Heap} {t1 t2 t3 t4 t5 : Tok}

/-- [c in S for c in z] at p, behind i signs -/
def Flags (S : Str) (z : Str) (H : Hp) (p : Addr) (i : Nat) (H' : Hp) : Prop := Sv [p] H H' ∧ H' p = some (.lst (((tl z).take i).map fun c => V.bl (decide (c ∈ tl S))))
theorem all_flags (S z : Str) : (((tl z).map fun c => decide (c ∈ tl S)).all id) = (tl z).all fun c => decide (c ∈ tl S) := by
  rw [List.all_map]
  rfl

def spTest (f : Str → Bool) (n : Nat) : Sp := fun vs H Q _ => ∃ s : Str, vs = [.str s] ∧ s.length ≤ n ∧ ∀ H', Same H H' → Q (.bl (f s)) H'
theorem ok_is_word (T : CnT mg t1 t2 t3 t4 t5) (D : HasDef K mg "is_word" s_is_word ["token"]) : Has P w K mg base CX0 1 "is_word" ["token"] (spTest isWord 10000000) := by
  refine D.has fun f fd F => F.ok sc_is_word (fun vs H Q E h => ?_) (fun cdv A outer s H vs Q E hr h => ?_)
  · obtain ⟨v, rfl, _⟩ := h; rfl
  · obtain ⟨z, rfl, hl, q⟩ := h
    refine ⟨_, (pss_one (ps_ret (pe_and (pe_chain op_le op_le pe_int (pe_callB call_len_str (by rfl) T.m_len (by decide +kernel) (pa_cons (pv 0) pa_nil)) (pe_glob (v := .int 20) (by rfl) T.c_MOST_LETTERS ⟨_, rfl⟩)) (pe_one (pe_callB (cr_all rfl) (by rfl) T.m_all (by decide +kernel) (pa_cons (pe_lc (own := [("char", 1)]) (g := gName 1) (tt := tYes) rfl sc_is_word.nd (pi_str (pv 0)) (blkOk_by (own := [("char", 1)]) (N := ["token", "char"]) (sc := defScope s_is_word) (by decide +kernel)) (fun _ _ _ _ _ => (pg_name (i := 1) sc_is_word.nd rfl (Or.inl rfl))) (fun _ _ _ _ _ => pts_nil) (fun _ _ _ _ _ => (pe_cmpR op_in_sign (pv 1) (pe_glob (v := .str lets) (by rfl) T.c_LETTERS ⟨_, rfl⟩) rfl))) pa_nil)))))), ?_⟩
    have hl' : z.length ≤ sizeLine := by rw [sizeLine_eq]; omega
    refine ⟨.str z, rfl, z, rfl, hl', _, _, rfl, rfl, _, rfl, ?_⟩
    refine ite2 (fun e1 => ?_) (fun e1 => ?_)
    · refine ⟨_, _, rfl, rfl, _, rfl, ?_⟩
      refine ite2 (fun e2 => ?_) (fun e2 => ?_)
      · have h1 : 1 ≤ z.length := by have := of_decide_eq_true e1; omega
        have h2 : z.length ≤ 20 := by have := of_decide_eq_true e2; omega
        refine ⟨.str z, rfl, z, rfl, fun p np => lc_str (Flags lets z H p) ⟨Sv.new np, upd_same⟩ ?_ ?_⟩
        · rintro i c H' hc ⟨s1, hp⟩
          refine ⟨rfl, _, rfl, c, lets, rfl, rfl, _, hp, ?_, s1.trans (Sv.set (by simp)), ?_⟩
          · rw [List.length_map, List.length_take]
            have : (tl z).length = z.length := (len_tl z).symm
            have := sizeLine_eq
            omega
          · rw [upd_same, take_snoc hc, List.map_append]
            rfl
        · rintro H' ⟨s1, hp⟩
          rw [List.take_length] at hp
          refine ⟨p, (tl z).map fun c => decide (c ∈ tl lets), rfl, .inl (.inl (by rw [hp, List.map_map]; rfl)), ?_⟩
          rw [all_flags]
          have e : isWord z = (tl z).all fun c => decide (c ∈ tl lets) := by
            unfold isWord
            rw [decide_eq_true h1, decide_eq_true h2]
            rfl
          rw [← e]
          exact q _ (Sv.nil (Sv.drop np s1))
      · have e : isWord z = false := by
          unfold isWord
          rw [decide_eq_false (show ¬ z.length ≤ 20 by intro h; exact e2 (decide_eq_true (by omega)))]
          simp
        have q' := q H (Same.refl H)
        rw [e] at q'
        exact q'
    · have e : isWord z = false := by
        unfold isWord
        rw [decide_eq_false (show ¬ 1 ≤ z.length by intro h; exact e1 (decide_eq_true (by omega)))]
        simp
      have q' := q H (Same.refl H)
      rw [e] at q'
      exact ⟨_, rfl, iteF q'⟩

theorem len_body (z : Str) : (body z).length ≤ z.length := by
  unfold body
  split
  · rw [len_tl, len_tl, tl_mk, List.length_tail]; omega
  · exact Nat.le_refl _
theorem ok_is_number (T : CnT mg t1 t2 t3 t4 t5) (D : HasDef K mg "is_number" s_is_number ["token"]) : Has P w K mg base CX0 1 "is_number" ["token"] (spTest isNum 10000000) := by
  refine D.has fun f fd F => F.ok sc_is_number (fun vs H Q E h => ?_) (fun cdv A outer s H vs Q E hr h => ?_)
  · obtain ⟨v, rfl, _⟩ := h; rfl
  · obtain ⟨z, rfl, hl, q⟩ := h
    refine ⟨_, (pss_cons (ps_set (i := 1) sc_is_number.nd rfl (Or.inl rfl) (pe_ifExp (pt_cmpR op_eq (pe_slice sl_str (pv 0) po_none (po_some pe_int)) pe_str (nomark _)) (pe_slice sl_str (pv 0) (po_some pe_int) po_none) (pv 0)))
  (pss_cons (ps_if (PW.pt (pw_or (pt_not (pt_chain op_le op_le pe_int (pe_callB call_len_str (by rfl) T.m_len (by decide +kernel) (pa_cons (pv 1) pa_nil)) (pe_glob (v := .int 60) (by rfl) T.c_MOST_DIGITS ⟨_, rfl⟩))) (pw_or1 (pt_not (pt_val (pe_callB (cr_all rfl) (by rfl) T.m_all (by decide +kernel) (pa_cons (pe_lc (own := [("char", 2)]) (g := gName 2) (tt := tYes) rfl sc_is_number.nd (pi_str (pv 1)) (blkOk_by (own := [("char", 2)]) (N := ["token", "digits", "char"]) (sc := defScope s_is_number) (by decide +kernel)) (fun _ _ _ _ _ => (pg_name (i := 2) sc_is_number.nd rfl (Or.inl rfl))) (fun _ _ _ _ _ => pts_nil) (fun _ _ _ _ _ => (pe_cmpR op_in_sign (pv 2) (pe_glob (v := .str digs) (by rfl) T.c_DIGITS ⟨_, rfl⟩) rfl))) pa_nil)))))))
  (pss_one (ps_ret pe_bl))
  pss_nil)
  (pss_one (ps_ret (pe_or (pe_cmpR op_ne (pe_ix ix_str (pv 1) pe_int (fun _ _ => rfl)) pe_str (nomark _)) (pe_one (pe_cmpR op_eq (pv 0) pe_str (nomark _)))))))), ?_⟩
    have hsz := sizeLine_eq
    have hl' : z.length ≤ sizeLine := by omega
    refine cutSeq (fun σ' H' => σ' = [some (.str z), some (.str (body z)), none] ∧ H' = H) (fun nx hn => ?_) ?_
    · refine ⟨.str z, rfl, _, rfl, z, rfl, hl', rfl, _, rfl, ?_⟩
      refine ite2 (fun e => ?_) (fun e => ?_)
      · have hm : (tl z).head? = some 45 := (cut_dash z).mp (V.str.inj (of_decide_eq_true e))
        refine ⟨.str z, rfl, _, rfl, z, rfl, hl', hn _ _ ⟨?_, rfl⟩⟩
        have e := cut_body z
        rw [if_pos hm] at e
        rw [e]
        rfl
      · have hm : ¬ (tl z).head? = some 45 := fun h => e (decide_eq_true (congrArg V.str ((cut_dash z).mpr h)))
        refine ⟨.str z, rfl, hn _ _ ⟨?_, rfl⟩⟩
        have e := cut_body z
        rw [if_neg hm] at e
        rw [← e]
        rfl
    · rintro σ' H0 ⟨rfl, rfl⟩
      have hb := len_body z
      have hbl : (body z).length ≤ sizeLine := by omega
      have no : ∀ H', Same H0 H' → isNum z = false → Q (.bl false) H' := fun H' s e => by
        have := q H' s
        rw [e] at this
        exact this
      refine ⟨.str (body z), rfl, _, rfl, hbl, _, _, rfl, rfl, _, rfl, ?_⟩
      refine ite2 (fun e1 => ?_) (fun e1 => ?_)
      · refine ⟨_, _, rfl, rfl, _, rfl, ?_⟩
        have h1 : 1 ≤ (body z).length := by have := of_decide_eq_true e1; omega
        by_cases h2 : (body z).length ≤ 60
        · have e2 : decide (((body z).length : Int) ≤ 60) = true := decide_eq_true (by omega)
          rw [e2]
          refine ⟨.str (body z), rfl, _, rfl, fun p np => lc_str (Flags digs (body z) H0 p) ⟨Sv.new np, upd_same⟩ ?_ ?_⟩
          · rintro i c H' hc ⟨s1, hp⟩
            refine ⟨rfl, _, rfl, c, digs, rfl, rfl, _, hp, ?_, s1.trans (Sv.set (by simp)), ?_⟩
            · rw [List.length_map, List.length_take]
              have : (tl (body z)).length = (body z).length := (len_tl _).symm
              omega
            · rw [upd_same, take_snoc hc, List.map_append]
              rfl
          · rintro H' ⟨s1, hp⟩
            rw [List.take_length] at hp
            have sm := Sv.nil (Sv.drop np s1)
            refine ⟨p, (tl (body z)).map fun c => decide (c ∈ tl digs), rfl, .inl (.inl (by rw [hp, List.map_map]; rfl)), _, rfl, ?_⟩
            rw [all_flags]
            cases hA : (tl (body z)).all fun c => decide (c ∈ tl digs) with
            | false =>
              refine no _ sm ?_
              unfold isNum
              rw [hA]
              simp
            | true =>
              have l1 : 1 ≤ (tl (body z)).length := by rw [← len_tl]; exact h1
              obtain ⟨c, r, hcr⟩ : ∃ c r, tl (body z) = c :: r := by
                cases hq : tl (body z) with
                | nil => rw [hq] at l1; simp at l1
                | cons c r => exact ⟨c, r, rfl⟩
              refine ⟨.str (body z), rfl, _, 0, c, rfl, rfl, hbl, atI_nat (j := 0) (by show (tl (body z))[0]? = some c; rw [hcr]; rfl), rfl, _, rfl, ?_⟩
              have ez : (V.str ⟨#[c]⟩ = V.str ("0" : Str)) ↔ (tl (body z)).head? = some 48 := by
                rw [hcr]
                constructor
                · intro h
                  have := congrArg tl (V.str.inj h)
                  rw [tl_zero] at this
                  have : [c] = [48] := this
                  simpa using this
                · intro h
                  have : c = 48 := by simpa using h
                  subst this
                  exact congrArg V.str (ext_tl (by rw [tl_zero]))
              by_cases hz : (tl (body z)).head? = some 48
              · rw [decide_eq_true (ez.mpr hz)]
                refine ⟨.str z, rfl, rfl, ?_⟩
                have e : isNum z = decide (V.str z = V.str ("0" : Str)) := by
                  unfold isNum
                  rw [hA, decide_eq_true h1, decide_eq_true h2, decide_eq_true hz]
                  have : decide (V.str z = V.str ("0" : Str)) = decide (z = ("0" : Str)) := by
                    by_cases h : z = ("0" : Str)
                    · rw [decide_eq_true h, decide_eq_true (congrArg V.str h)]
                    · rw [decide_eq_false h, decide_eq_false (fun z => h (V.str.inj z))]
                  rw [this]
                  simp
                rw [← e]
                exact q _ sm
              · rw [decide_eq_false (fun h => hz (ez.mp h))]
                have e : isNum z = true := by
                  unfold isNum
                  rw [hA, decide_eq_true h1, decide_eq_true h2, decide_eq_false hz]
                  rfl
                have := q _ sm
                rw [e] at this
                exact this
        · have e2 : decide (((body z).length : Int) ≤ 60) = false := decide_eq_false (by omega)
          rw [e2]
          refine no _ (Same.refl _) ?_
          unfold isNum
          rw [decide_eq_false h2]
          simp
      · refine ⟨_, rfl, no _ (Same.refl _) ?_⟩
        unfold isNum
        rw [decide_eq_false (show ¬ 1 ≤ (body z).length by intro h; exact e1 (decide_eq_true (by omega)))]
        simp

/-- the error's class, as the text has it: WordError at C -/
structure Ex (P : Program) (K : PySem.W.Frag) (mg : Str → Option Value) (C fI : Addr) : Prop where
  WordError_ : PySem.SupX.SupTxt P K mg "WordError" "line" "line " (some " is at fault") C fI
  WordError_nm : SupNm P "line" "line " (some " is at fault")
/-- an error of the line n -/
def Err (C : Addr) (n : Int) (H : Hp) (E : XK) : Prop := ∀ H' dd, Same H H' → H' dd = some (.xd [("line", .int n)]) → H dd = none → E (.ref C) (some dd) H'
theorem one_fmt : FmtV (.int 1) := .inr ⟨1, rfl, by decide, by decide +kernel⟩
theorem Err.now {C : Addr} {n : Int} {H H1 : Hp} {E : XK} (e : Err C n H E) (s : Same H H1) : ∀ d, H1 d = none → E (.ref C) (some d) (upd H1 d (.xd [("line", .int n)])) := fun d hd =>
  e _ d (s.trans (Sv.nil (Sv.new hd))) upd_same (s.free hd)
theorem Err.on {C : Addr} {n : Int} {H H1 : Hp} {E : XK} (e : Err C n H E) (s : Same H H1) : Err C n H1 E := fun H' dd s' h hn => e H' dd (s.trans s') h (s.free hn)
def spToken (K : PySem.W.Frag) (C : Addr) : Sp := fun vs H Q E => ∃ s : Str, vs = [.str s] ∧ s.length ≤ 10000000 ∧ (∀ d, tokIn s = some d → ∀ H' v, Same H H' → Rp K H' d v → Q v H') ∧ (tokIn s = none → Err C 1 H E)
theorem ok_read_token {C fI : Addr} (T : CnT mg t1 t2 t3 t4 t5) (Z : Ex P K mg C fI) (D : HasDef K mg "read_token" s_read_token ["token"]) (C_is_word : Has P w K mg base CX0 1 "is_word" ["token"] (spTest isWord 10000000)) (C_is_number : Has P w K mg base CX0 1 "is_number" ["token"] (spTest isNum 10000000)) :
    Has P w K mg base (L2N.CX P w) 3 "read_token" ["token"] (spToken K C) := by
  refine D.has fun f fd F => F.okN sc_read_token (fun vs H Q E h => ?_) (fun cdv A outer s H vs Q E hr h => ?_)
  · obtain ⟨v, rfl, _⟩ := h; rfl
  · obtain ⟨z, rfl, hl, q, e⟩ := h
    refine ⟨_, (pss_cons (ps_if (pt_val (pe_has C_is_word (hr.mono (by omega)) pass0 (pa_cons (pv 0) pa_nil)))
  (pss_one (ps_ret (pv 0)))
  pss_nil)
  (pss_cons (ps_if (pt_val (pe_has C_is_number (hr.mono (by omega)) pass0 (pa_cons (pv 0) pa_nil)))
  (pss_one (ps_ret (pe_callTy call_int_str (by rfl) T.m_int (by decide +kernel) (pa_cons (pv 0) pa_nil))))
  pss_nil)
  (pss_one (ps_raiseSupN rfl Z.WordError_ Z.WordError_nm hr (L2N.takes_of rfl rfl rfl rfl) (by exact (pa_cons pe_int pa_nil)))))), ?_⟩
    refine ⟨.str z, rfl, z, rfl, hl, fun H1 s1 => ⟨_, rfl, ?_⟩⟩
    refine ite2 (fun e1 => ?_) (fun e1 => ?_)
    · exact ⟨.str z, rfl, q (.str z) (by unfold tokIn; rw [if_pos e1]) _ _ s1 rfl⟩
    · refine ⟨.str z, rfl, z, rfl, hl, fun H2 s2 => ⟨_, rfl, ?_⟩⟩
      refine ite2 (fun e2 => ?_) (fun e2 => ?_)
      · obtain ⟨hn, h61⟩ := num_text e2
        exact ⟨.str z, rfl, z, numV z, rfl, hn, by omega, q (.int (numV z)) (by unfold tokIn; rw [if_neg e1, if_pos e2]) _ _ (s1.trans s2) rfl⟩
      · have hnone : tokIn z = none := by unfold tokIn; rw [if_neg e1, if_neg e2]
        exact ⟨_, rfl, one_fmt, (e hnone).now (s1.trans s2)⟩
end
end RS

namespace RS
open PySem PySem.Spec PyProof.Rows L2 TL

abbrev s_read_values : Stmt := topS 21
theorem sc_read_values : FnScope ["text", "levels", "token", "row"] ["text"] (defScope s_read_values) := ⟨rfl, rfl, rfl, by decide +kernel, rfl, by decide +kernel, by decide +kernel⟩

theorem sput {H0 H : Hp} {a : Addr} {o : HO} (s : Same H0 H) (n : H0 a = none) : Same H0 (upd H a o) := fun b x e => by
  rw [upd_ne (ne_of_none e n)]
  exact s b x e
theorem fold_none {ws : List Str} {i : Nat} {st : List (List D)} {w : Str} (h : (ws.take i).foldlM step [[]] = some st) (hw : ws[i]? = some w) (hn : step st w = none) : ws.foldlM step [[]] = none := by
  have e : ws = ws.take i ++ w :: ws.drop (i + 1) := by
    obtain ⟨hi, e⟩ := List.getElem?_eq_some_iff.mp hw
    rw [← e, ← List.drop_eq_getElem_cons hi, List.take_append_drop]
  rw [e, List.foldlM_append, h]
  show (w :: ws.drop (i + 1)).foldlM step st = none
  rw [List.foldlM_cons, hn]
  rfl
theorem fold_some {ws : List Str} {i : Nat} {st st' : List (List D)} {w : Str} (h : (ws.take i).foldlM step [[]] = some st) (hw : ws[i]? = some w) (hn : step st w = some st') : (ws.take (i + 1)).foldlM step [[]] = some st' := by
  rw [take_snoc hw, List.foldlM_append, h]
  show [w].foldlM step st = some st'
  rw [List.foldlM_cons, hn]
  rfl
theorem fold_py : ∀ (ws : List Str) {st st' : List (List D)}, ws.foldlM step st = some st' → (∀ ds ∈ st, pyokL ds) → ∀ ds ∈ st', pyokL ds
  | [], st, st', h, hp => by cases h; exact hp
  | w :: ws, st, st', h, hp => by
    rw [List.foldlM_cons] at h
    cases hs : step st w with
    | none => rw [hs] at h; cases h
    | some s1 =>
      rw [hs] at h
      exact fold_py ws (st := s1) h (step_py hs hp)
theorem okDep_le : ∀ {st : List (List D)}, okDep st → ∀ ds ∈ st, depL ds ≤ 60
  | [], _, ds, h => by simp at h
  | x :: r, ⟨h1, h2⟩, ds, h => by
    rcases List.mem_cons.mp h with rfl | h
    · exact depL_le.mpr fun d hd => by have := h1 d hd; omega
    · exact okDep_le h2 ds h
theorem step_rows {st st' : List (List D)} {w : Str} {n : Nat} (h : step st w = some st') (hp : ∀ ds ∈ st, ds.length ≤ n) : ∀ ds ∈ st', ds.length ≤ n + 1 := by
  have up : ∀ ds ∈ st, ds.length ≤ n + 1 := fun ds hd => Nat.le_succ_of_le (hp ds hd)
  unfold step at h
  split at h
  · split at h
    · cases h
      intro ds hd
      rcases List.mem_cons.mp hd with rfl | hd
      · exact Nat.zero_le _
      · exact up ds hd
    · cases h
  · split at h
    · split at h
      · rename_i top b r
        cases h
        intro ds hd
        rcases List.mem_cons.mp hd with rfl | hd
        · rw [List.length_append]
          have := hp b (by simp)
          exact Nat.succ_le_succ this
        · exact up ds (by simp [hd])
      · cases h
    · split at h
      · rename_i d top r hk
        cases h
        intro ds hd
        rcases List.mem_cons.mp hd with rfl | hd
        · rw [List.length_append]
          have := hp top (by simp)
          exact Nat.succ_le_succ this
        · exact up ds (by simp [hd])
      · cases h
theorem fold_rows : ∀ (ws : List Str) {st st' : List (List D)} {n : Nat}, ws.foldlM step st = some st' → (∀ ds ∈ st, ds.length ≤ n) → ∀ ds ∈ st', ds.length ≤ n + ws.length
  | [], st, st', n, h, hp => by cases h; exact hp
  | w :: ws, st, st', n, h, hp => by
    rw [List.foldlM_cons] at h
    cases hs : step st w with
    | none => rw [hs] at h; cases h
    | some s1 =>
      rw [hs] at h
      have := fold_rows ws (st := s1) h (step_rows hs hp)
      intro ds hd
      have := this ds hd
      rw [List.length_cons]
      omega
theorem split_len (s : Str) : (Txt.split s sp).length ≤ s.length + 1 := by
  rw [← split_sum s]
  exact len_le_wsum _

section
variable {P : Program} {w : World} {K : PySem.W.Frag} {mg : Str → Option Value} {base : Heap} {t1 t2 t3 t4 t5 : Tok} {C fI : Addr}

def spValues (K : PySem.W.Frag) (C : Addr) : Sp := fun vs H Q E => ∃ s : Str, vs = [.str s] ∧ s.length ≤ 9000000 ∧ (∀ ds, rdVals s = some ds → ∀ H' v, Same H H' → Rp K H' (.tup ds) v → Q v H') ∧ (rdVals s = none → Err C 1 H E)
theorem ok_read_values (T : CnT mg t1 t2 t3 t4 t5) (Z : Ex P K mg C fI) (D : HasDef K mg "read_values" s_read_values ["text"]) (C_read_token : Has P w K mg base (L2N.CX P w) 3 "read_token" ["token"] (spToken K C)) :
    Has P w K mg base (L2N.CX P w) 4 "read_values" ["text"] (spValues K C) := by
  refine D.has fun f fd F => F.okN sc_read_values (fun vs H Q E h => ?_) (fun cdv A outer s H vs Q E hr h => ?_)
  · obtain ⟨v, rfl, _⟩ := h; rfl
  · obtain ⟨z, rfl, hl, q, e⟩ := h
    refine ⟨_, (pss_cons (ps_set (i := 1) sc_read_values.nd rfl (Or.inl rfl) (pe_lst (pa_cons (pe_lst pa_nil) pa_nil)))
  (pss_cons (ps_for (passes_of rfl) rfl (pi_list (pe_split (pv 0) pe_str)) (pg_name (i := 2) sc_read_values.nd rfl (Or.inl rfl))
  (pss_cons (ps_if (pt_cmpR op_eq (pv 2) pe_str (nomark _))
  (pss_one (ps_expr (pe_bm PySem.F.plainAttrs_list PySem.F.slot_list_append PySem.F.type_list_append mt_append (pv 1) (pa_cons (pe_lst pa_nil) pa_nil))))
  (pss_one (ps_if (pt_cmpR op_eq (pv 2) pe_str (nomark _))
  (pss_cons (ps_set (i := 3) sc_read_values.nd rfl (Or.inl rfl) (pe_callTy call_tuple_of (by rfl) T.m_tuple (by decide +kernel) (pa_cons (pe_bm0 PySem.F.plainAttrs_list PySem.F.slot_list_pop PySem.F.type_list_pop mt_pop (pv 1)) pa_nil)))
  (pss_cons (ps_if (pt_cmpR (op_eqD hr.units) (pv 1) (pe_lst pa_nil) (nomark _))
  (pss_one (ps_raiseSupN rfl Z.WordError_ Z.WordError_nm hr (L2N.takes_of rfl rfl rfl rfl) (by exact (pa_cons pe_int pa_nil))))
  pss_nil)
  (pss_one (ps_expr (pe_bm PySem.F.plainAttrs_list PySem.F.slot_list_append PySem.F.type_list_append mt_append (pe_ix ix_list (pv 1) (pe_un un_neg pe_int) (fun _ _ => rfl)) (pa_cons (pv 3) pa_nil))))))
  (pss_one (ps_expr (pe_bm PySem.F.plainAttrs_list PySem.F.slot_list_append PySem.F.type_list_append mt_append (pe_ix ix_list (pv 1) (pe_un un_neg pe_int) (fun _ _ => rfl)) (pa_cons (pe_hasSN C_read_token (hr.mono (by omega)) (L2N.takes_of rfl rfl rfl rfl) (by exact (pa_cons (pv 2) pa_nil))) pa_nil)))))))
  (pss_one (ps_if (pt_cmpR op_gt (pe_callB call_len_seq (by rfl) T.m_len (by decide +kernel) (pa_cons (pv 1) pa_nil)) (pe_op op_add (pe_glob (v := .int 12) (by rfl) T.c_MOST_NESTED ⟨_, rfl⟩) pe_int) (nomark _))
  (pss_one (ps_raiseSupN rfl Z.WordError_ Z.WordError_nm hr (L2N.takes_of rfl rfl rfl rfl) (by exact (pa_cons pe_int pa_nil))))
  pss_nil))))
  (pss_cons (ps_if (pt_cmpR op_ne (pe_callB call_len_seq (by rfl) T.m_len (by decide +kernel) (pa_cons (pv 1) pa_nil)) pe_int (nomark _))
  (pss_one (ps_raiseSupN rfl Z.WordError_ Z.WordError_nm hr (L2N.takes_of rfl rfl rfl rfl) (by exact (pa_cons pe_int pa_nil))))
  pss_nil)
  (pss_one (ps_ret (pe_callTy call_tuple_of (by rfl) T.m_tuple (by decide +kernel) (pa_cons (pe_ix ix_list (pv 1) pe_int (fun _ _ => rfl)) pa_nil))))))), ?_⟩
    have hsz := sizeLine_eq
    -- levels = [[]]
    refine ⟨Nat.zero_le _, fun r0 nr0 => ⟨by show 1 ≤ sizeLine; omega, fun l nl => ?_⟩⟩
    have s1 : Same H (upd (upd H r0 (.lst [])) l (.lst [.ref r0])) := (Sv.nil (Sv.new nr0)).trans (Sv.nil (Sv.new nl))
    have r0l : r0 ≠ l := fun e => by rw [e, upd_same] at nl; cases nl
    have S1 : Stk K (upd (upd H r0 (.lst [])) l (.lst [.ref r0])) l [r0] [[]] := by
      refine ⟨upd_same, ?_, ⟨[], ?_, rfl⟩, trivial⟩
      · simp [r0l.symm]
      · rw [upd_ne r0l, upd_same]
    have nl' : H l = none := (Sv.nil (Sv.new nr0)).free nl
    -- text.split(" ")
    refine ⟨.str z, rfl, ⟨z, rfl⟩, z, sp, rfl, rfl, by decide +kernel, by omega, fun a na => ?_⟩
    have na' : H a = none := s1.free na
    have al : a ≠ l := fun e => by rw [e, upd_same] at na; cases na
    have ar : a ≠ r0 := fun e => by rw [e, upd_ne r0l, upd_same] at na; cases na
    have s2 := s1.trans (Sv.nil (Sv.new (o := .lst ((Txt.split z sp).map V.str)) na))
    have S2 := S1.same (Sv.nil (Sv.new (o := .lst ((Txt.split z sp).map V.str)) na))
    have no : ∀ {H1 : Hp}, rdVals z = none → Same H H1 → ∃ v, [V.int 1] = [v] ∧ FmtV v ∧ ∀ d, H1 d = none → E (.ref C) (some d) (upd H1 d (.xd [("line", v)])) := fun hn s => ⟨_, rfl, one_fmt, (e hn).now s⟩
    have hlen := split_len z
    refine ⟨a, rfl, ⟨_, .inl (.inl upd_same)⟩, for_list (K := K) (a := a) (xs := (Txt.split z sp).map V.str) (fun i σ H' => ∃ y2 y3 rs st, σ = [some (.str z), some (.ref l), y2, y3] ∧ Same H H' ∧ (∀ b ∈ l :: rs, H b = none ∧ b ≠ a) ∧
        H' a = some (.lst ((Txt.split z sp).map V.str)) ∧ ((Txt.split z sp).take i).foldlM step [[]] = some st ∧ Stk K H' l rs st) ?_ (fun i σ H' _ ⟨_, _, _, _, _, _, _, ha, _⟩ => .inl (.inl ha)) ?_ ?_⟩
    · refine ⟨none, none, [r0], [[]], rfl, s2, ?_, upd_same, rfl, S2⟩
      intro b hb
      rcases List.mem_cons.mp hb with rfl | hb
      · exact ⟨nl', al.symm⟩
      · have : b = r0 := by simpa using hb
        rw [this]
        exact ⟨nr0, ar.symm⟩
    · rintro i x σ H' hi ⟨y2, y3, rs, st, rfl, sm, fr, ha, hf, S⟩
      obtain ⟨w, hw, rfl⟩ : ∃ w, (Txt.split z sp)[i]? = some w ∧ x = V.str w := by
        rw [List.getElem?_map] at hi
        cases hq : (Txt.split z sp)[i]? with
        | none => rw [hq] at hi; cases hi
        | some w => rw [hq] at hi; exact ⟨w, rfl, (Option.some.inj hi).symm⟩
      obtain ⟨_, hne, hl13, hod⟩ := fold_inv _ hf (by simp) (by simp) ⟨fun d hd => by simp at hd, trivial⟩
      have hpy := fold_py _ hf (fun ds hd => by
        have : ds = [] := by simpa using hd
        rw [this]; trivial)
      have hrow : ∀ ds ∈ st, ds.length ≤ 9000001 := fun ds hd => by
        have := fold_rows _ (n := 0) hf (fun ds hd => by
          have : ds = [] := by simpa using hd
          rw [this]; exact Nat.le_refl _) ds hd
        rw [List.length_take] at this
        omega
      have hbad : step st w = none → rdVals z = none := fun hn => by
        unfold rdVals rdToks
        rw [fold_none hf hw hn]
      obtain ⟨ds, st, rfl⟩ : ∃ ds st', st = ds :: st' := by
        cases st with
        | nil => exact absurd rfl hne
        | cons a b => exact ⟨a, b, rfl⟩
      obtain ⟨r, rs, rfl⟩ : ∃ r rs', rs = r :: rs' := by
        have := S.len
        cases rs with
        | nil => simp at this
        | cons a b => exact ⟨a, b, rfl⟩
      have hwl : w.length ≤ z.length := by
        have := split_sum z
        have h2 : w.length + 1 ≤ wsum (Txt.split z sp) := by
          have hm := List.mem_of_getElem? hw
          obtain ⟨A, B, e⟩ := List.append_of_mem hm
          rw [e, wsum_append, wsum_cons]
          omega
        omega
      refine ⟨.str w, rfl, rfl, _, rfl, ?_⟩
      refine ite2 (fun e1 => ?_) (fun e1 => ?_)
      · -- levels.append([])
        have e1 : w = lb := V.str.inj (of_decide_eq_true e1)
        refine ⟨.ref l, rfl, .inl ⟨rfl, _, .inl (.inl S.top)⟩, Nat.zero_le _, fun p np => ?_⟩
        have np' : H p = none := sm.free np
        have pl : l ≠ p := fun e => by rw [e] at S; rw [S.top] at np; cases np
        have hrl := S.len
        refine ⟨l, _, _, rfl, rfl, by rw [upd_ne pl]; exact S.top, ?_, ?_⟩
        · rw [List.length_map, List.length_reverse, hrl]; omega
        have S' := S.push np
        have pa : p ≠ a := fun e => by rw [e, ha] at np; cases np
        have eq : (r :: rs).reverse.map V.ref ++ [V.ref p] = (p :: r :: rs).reverse.map V.ref := by
          rw [List.reverse_cons (a := p), List.map_append]; rfl
        rw [eq]
        have sm' := sput (o := .lst ((p :: r :: rs).reverse.map V.ref)) (sput (o := .lst []) sm np') nl'
        refine ⟨.ref l, rfl, l, _, rfl, .inl (.inl (.inl upd_same)), _, _, rfl, rfl, _, _, rfl, rfl, _, rfl, ?_⟩
        refine ite2 (fun e2 => ?_) (fun e2 => ?_)
        · refine no (hbad ?_) sm'
          have := of_decide_eq_true e2
          rw [List.length_map, List.length_reverse, List.length_cons, hrl] at this
          unfold step
          rw [if_pos e1, if_neg (by omega)]
        · have h12 : (ds :: st).length ≤ 12 := by
            have : ¬ _ := fun z => e2 (decide_eq_true z)
            rw [List.length_map, List.length_reverse, List.length_cons, hrl] at this
            omega
          refine ⟨_, _, p :: r :: rs, _, rfl, sm', ?_, ?_, fold_some hf hw (by unfold step; rw [if_pos e1, if_pos h12]), S'⟩
          · intro b hb
            rcases List.mem_cons.mp hb with rfl | hb
            · exact ⟨nl', al.symm⟩
            · rcases List.mem_cons.mp hb with rfl | hb
              · exact ⟨np', pa⟩
              · exact fr b (by simp [List.mem_cons.mp hb])
          · rw [upd_ne al, upd_ne pa.symm]
            exact ha
      · have e1 : w ≠ lb := fun e => e1 (decide_eq_true (congrArg V.str e))
        refine ⟨.str w, rfl, rfl, _, rfl, ?_⟩
        refine ite2 (fun e2 => ?_) (fun e2 => ?_)
        · -- row = tuple(levels.pop())
          have e2 : w = rb := V.str.inj (of_decide_eq_true e2)
          refine ⟨.ref l, rfl, .inl ⟨rfl, _, .inl (.inl S.top)⟩, l, _, .ref r, rfl, rfl, S.top, popped.2, ?_⟩
          rw [popped.1]
          obtain ⟨Sp, xs, hx, rx, hx'⟩ := S.pop
          have smp := sput (o := .lst (rs.reverse.map V.ref)) sm nl'
          have hpy' : ∀ x ∈ st, pyokL x := fun x hx => hpy x (by simp [hx])
          have hdp' : ∀ x ∈ st, depL x ≤ 60 := fun x hx => okDep_le hod x (by simp [hx])
          have hap : (upd H' l (.lst (rs.reverse.map V.ref))) a = some (.lst ((Txt.split z sp).map V.str)) := by rw [upd_ne al]; exact ha
          refine ⟨r, xs, rfl, .inl ⟨.inl (.inl hx'), fun t nt => ?_⟩⟩
          have nt0 : H t = none := smp.free nt
          have St := Sp.same (Sv.nil (Sv.new (o := .tup xs) nt))
          have smt := smp.trans (Sv.nil (Sv.new (o := .tup xs) nt))
          have ta : a ≠ t := fun e => by rw [e] at hap; rw [hap] at nt; cases nt
          have rt : Rp K (upd (upd H' l (.lst (rs.reverse.map V.ref))) t (.tup xs)) (.tup ds) (.ref t) := Rp.made nt (rx.keep (tk_set ⟨_, S.top⟩))
          -- levels == []
          refine ⟨.ref l, rfl, Nat.zero_le _, fun n0 nn0 => ?_⟩
          have Sn := St.same (Sv.nil (Sv.new (o := .lst []) nn0))
          have smn := smt.trans (Sv.nil (Sv.new (o := .lst []) nn0))
          have hat : (upd (upd H' l (.lst (rs.reverse.map V.ref))) t (.tup xs)) a = some (.lst ((Txt.split z sp).map V.str)) := by rw [upd_ne ta]; exact hap
          have n0a : a ≠ n0 := fun e => by rw [e] at hat; rw [hat] at nn0; cases nn0
          refine Sn.isNil (q := n0) hpy' hdp' upd_same ⟨_, rfl, ?_⟩
          cases st with
          | nil =>
            refine iteT (no (hbad ?_) smn)
            unfold step
            rw [if_neg e1, if_pos e2]
          | cons ds2 st =>
            refine iteF ?_
            obtain ⟨r2, rs, rfl⟩ : ∃ r rs', rs = r :: rs' := by
              have := Sn.len
              cases rs with
              | nil => simp at this
              | cons a b => exact ⟨a, b, rfl⟩
            have ht' := Rp.keep (tk_new (o := .lst []) nn0) rt
            obtain ⟨⟨xs2, hx2, rx2⟩, _⟩ := Sn.rows
            have nr2 : H r2 = none := (fr r2 (by simp)).1
            have S2 := Sn.put hx2 ht'
            have sm2 := sput (o := .lst (xs2 ++ [.ref t])) smn nr2
            have hrl := Sn.len
            refine ⟨.ref l, rfl, 1, rfl, l, _, _, .ref r2, rfl, rfl, .inl (.inl Sn.top), Sn.last, .inl ⟨rfl, _, .inl (.inl hx2)⟩, .ref t, rfl, r2, xs2, _, rfl, rfl, hx2, ?_, ?_⟩
            · have := hrow ds2 (by simp)
              have := rx2.len
              omega
            have hstep : step (ds :: ds2 :: st) w = some ((ds2 ++ [.tup ds]) :: st) := by
              unfold step
              rw [if_neg e1, if_pos e2]
            refine ⟨.ref l, rfl, l, _, rfl, .inl (.inl (.inl S2.top)), _, _, rfl, rfl, _, _, rfl, rfl, _, rfl, ?_⟩
            refine ite2 (fun e3 => ?_) (fun e3 => ?_)
            · exfalso
              have := of_decide_eq_true e3
              rw [List.length_map, List.length_reverse, hrl] at this
              simp only [List.length_cons] at hl13 this
              omega
            · refine ⟨_, _, r2 :: rs, _, rfl, sm2, fun b hb => ?_, ?_, fold_some hf hw hstep, S2⟩
              · rcases List.mem_cons.mp hb with rfl | hb
                · exact ⟨nl', al.symm⟩
                · exact fr b (by simp [List.mem_cons.mp hb])
              · rw [upd_ne (fr r2 (by simp)).2.symm, upd_ne n0a]
                exact hat
        · have e2 : w ≠ rb := fun e => e2 (decide_eq_true (congrArg V.str e))
          obtain ⟨⟨xs, hx, rx⟩, _⟩ := id S.rows
          have nr : H r = none := (fr r (by simp)).1
          have hrl := S.len
          refine ⟨.ref l, rfl, 1, rfl, l, _, _, .ref r, rfl, rfl, .inl (.inl S.top), S.last, .inl ⟨rfl, _, .inl (.inl hx)⟩, .str w, rfl, w, rfl, by omega, fun d hd H1 v s1 rv => ?_, fun hn => ?_⟩
          · have hstep : step (ds :: st) w = some ((ds ++ [d]) :: st) := by
              unfold step
              rw [if_neg e1, if_neg e2, hd]
            have S1 := S.same s1
            have hx1 := s1 _ _ hx
            have S2 := S1.put hx1 rv
            have sm2 := sput (o := .lst (xs ++ [v])) (sm.trans s1) nr
            refine ⟨r, xs, _, rfl, rfl, hx1, ?_, ?_⟩
            · have := hrow ds (by simp)
              have := rx.len
              omega
            refine ⟨.ref l, rfl, l, _, rfl, .inl (.inl (.inl S2.top)), _, _, rfl, rfl, _, _, rfl, rfl, _, rfl, ?_⟩
            refine ite2 (fun e3 => ?_) (fun e3 => ?_)
            · exfalso
              have := of_decide_eq_true e3
              rw [List.length_map, List.length_reverse, hrl] at this
              omega
            · refine ⟨_, _, r :: rs, _, rfl, sm2, fr, ?_, fold_some hf hw hstep, S2⟩
              rw [upd_ne (fr r (by simp)).2.symm]
              exact s1 _ _ ha
          · refine (e (hbad ?_)).on sm
            unfold step
            rw [if_neg e1, if_neg e2, hn]
    · rintro σ H' ⟨y2, y3, rs, st, rfl, sm, fr, ha, hf, S⟩
      rw [List.length_map, List.take_length] at hf
      have hrl := S.len
      refine ⟨.ref l, rfl, l, _, rfl, .inl (.inl (.inl S.top)), rfl, _, rfl, ?_⟩
      refine ite2 (fun e1 => ?_) (fun e1 => ?_)
      · refine no ?_ sm
        have : ¬ st.length = 1 := fun z => by
          have e2 : (!decide (V.int ((rs.reverse.map V.ref).length : Int) = V.int 1)) = true := e1
          rw [List.length_map, List.length_reverse, hrl, z] at e2
          simp at e2
        unfold rdVals rdToks
        rw [hf]
        match st, this with
        | [], _ => rfl
        | [x], h => exact absurd rfl h
        | _ :: _ :: _, _ => rfl
      · have h1 : st.length = 1 := by
          have e2 : ¬ (!decide (V.int ((rs.reverse.map V.ref).length : Int) = V.int 1)) = true := e1
          rw [List.length_map, List.length_reverse, hrl] at e2
          by_cases z : st.length = 1
          · exact z
          · exfalso
            apply e2
            rw [decide_eq_false (fun y => z (by have := V.int.inj y; omega))]
            rfl
        obtain ⟨ds, rfl⟩ : ∃ ds, st = [ds] := by
          match st, h1 with
          | [x], _ => exact ⟨x, rfl⟩
        obtain ⟨r, rfl⟩ : ∃ r, rs = [r] := by
          match rs, hrl with
          | [x], _ => exact ⟨x, rfl⟩
        obtain ⟨⟨xs, hx, rx⟩, _⟩ := S.rows
        have hv : rdVals z = some ds := by unfold rdVals rdToks; rw [hf]
        refine ⟨.ref l, rfl, l, _, 0, .ref r, rfl, rfl, .inl (.inl S.top), atI_nat (j := 0) rfl, r, xs, rfl, .inl ⟨.inl (.inl hx), fun t nt => ?_⟩⟩
        exact q ds hv _ _ (sm.trans (Sv.nil (Sv.new nt))) (Rp.made nt rx)
end
end RS

namespace RS
open PySem PySem.Spec PyProof.Rows L2 TL

abbrev s_law_pool : Stmt := topS 37
theorem sc_law_pool : FnScope ["script", "at", "cell", "great"] ["script", "at"] (defScope s_law_pool) := ⟨rfl, rfl, rfl, by decide +kernel, rfl, by decide +kernel, by decide +kernel⟩
abbrev s_law_draw : Stmt := topS 38
theorem sc_law_draw : FnScope ["pool", "many", "got", "one"] ["pool", "many"] (defScope s_law_draw) := ⟨rfl, rfl, rfl, by decide +kernel, rfl, by decide +kernel, by decide +kernel⟩

section
variable {P : Program} {w : World} {K : PySem.W.Frag} {mg : Str → Option Value} {base : Heap} {t1 t2 t3 t4 t5 : Tok} {C fI : Addr}

/-- a pool of draws -/
def Pool (H : Hp) (p : Addr) : Prop := ∃ a b c : Int, H p = some (.lst [.int a, .int b, .int c])
theorem Pool.isL {H : Hp} {p : Addr} (h : Pool H p) : IsL H p := by obtain ⟨a, b, c, e⟩ := h; exact ⟨_, e⟩
theorem Pool.same {H H' : Hp} {p : Addr} (h : Pool H p) (s : Same H H') : Pool H' p := by obtain ⟨a, b, c, e⟩ := h; exact ⟨a, b, c, s _ _ e⟩
def spPool (K : PySem.W.Frag) : Sp := fun vs H Q _ => ∃ (a : Addr) (ns : List Int) (i : Nat), vs = [.ref a, .int (i : Int)] ∧ SqL K H a (ns.map V.int) ∧ i ≤ 100 ∧ ∀ H' p, Same H H' → H p = none → Pool H' p → Q (.ref p) H'
theorem ok_law_pool (T : CnT mg t1 t2 t3 t4 t5) (D : HasDef K mg "_law_pool" s_law_pool ["script", "at"]) : Has P w K mg base CX0 1 "_law_pool" ["script", "at"] (spPool K) := by
  refine D.has fun f fd F => F.ok sc_law_pool (fun vs H Q E h => ?_) (fun cdv A outer s H vs Q E hr h => ?_)
  · obtain ⟨a, ns, i, rfl, _⟩ := h; rfl
  · obtain ⟨a, ns, i, rfl, hS, hi, q⟩ := h
    refine ⟨_, (pss_cons (ps_set (i := 2) sc_law_pool.nd rfl (Or.inl rfl) pe_int)
  (pss_cons (ps_if (pt_cmpR op_lt (pv 1) (pe_callB call_len_seq (by rfl) T.m_len (by decide +kernel) (pa_cons (pv 0) pa_nil)) (nomark _))
  (pss_one (ps_set (i := 2) sc_law_pool.nd rfl (Or.inl rfl) (pe_ix ix_list (pv 0) (pv 1) (fun _ _ => rfl))))
  pss_nil)
  (pss_cons (ps_if (pt_cmpR op_lt (pv 2) pe_int (nomark _))
  (pss_one (ps_set (i := 2) sc_law_pool.nd rfl (Or.inl rfl) (pe_op op_sub pe_int (pv 2))))
  pss_nil)
  (pss_cons (ps_set (i := 3) sc_law_pool.nd rfl (Or.inl rfl) pe_int)
  (pss_cons (ps_if (pt_cmpR op_ge (pv 2) (pe_op op_pow pe_int pe_int) (nomark _))
  (pss_one (ps_set (i := 3) sc_law_pool.nd rfl (Or.inl rfl) (pv 2)))
  pss_nil)
  (pss_one (ps_ret (pe_lst (pa_cons (pe_op op_add (pe_op op_modN (pe_callTy call_int1 (by rfl) T.m_int (by decide +kernel) (pa_cons (pv 2) pa_nil)) pe_int) (pe_op op_mul pe_int (pv 1))) (pa_cons (pv 3) (pa_cons pe_int pa_nil))))))))))), ?_⟩
    -- cell = 0; if at < len(script): cell = script[at]
    refine cutSeq (fun σ' H' => ∃ c : Int, σ' = [some (.ref a), some (.int (i : Int)), some (.int c), none] ∧ H = H') (fun nx hn => ?_) ?_
    · exact hn _ _ ⟨0, rfl, rfl⟩
    rintro _ _ ⟨c, rfl, rfl⟩
    refine cutSeq (fun σ' H' => ∃ c : Int, σ' = [some (.ref a), some (.int (i : Int)), some (.int c), none] ∧ H = H') (fun nx hn => ?_) ?_
    · refine ⟨_, rfl, .ref a, rfl, a, _, rfl, .inl hS, _, _, rfl, rfl, _, rfl, ?_⟩
      refine ite2 (fun e => ?_) (fun e => hn _ _ ⟨c, rfl, rfl⟩)
      have hlt : i < ns.length := by
        have := of_decide_eq_true e
        rw [List.length_map] at this
        omega
      exact ⟨.ref a, rfl, _, rfl, a, _, _, .int ns[i], rfl, rfl, hS, atI_nat (j := i) (by simp [hlt]), hn _ _ ⟨_, rfl, rfl⟩⟩
    rintro _ _ ⟨c, rfl, rfl⟩
    refine cutSeq (fun σ' H' => ∃ c : Int, σ' = [some (.ref a), some (.int (i : Int)), some (.int c), none] ∧ H = H') (fun nx hn => ?_) ?_
    · refine ⟨_, rfl, _, _, rfl, rfl, _, rfl, ?_⟩
      refine ite2 (fun e => ?_) (fun e => hn _ _ ⟨c, rfl, rfl⟩)
      exact ⟨_, rfl, _, _, rfl, rfl, hn _ _ ⟨_, rfl, rfl⟩⟩
    rintro _ _ ⟨c, rfl, rfl⟩
    refine cutSeq (fun σ' H' => ∃ g : Int, σ' = [some (.ref a), some (.int (i : Int)), some (.int c), some (.int g)] ∧ H = H') (fun nx hn => ?_) ?_
    · exact hn _ _ ⟨0, rfl, rfl⟩
    rintro _ _ ⟨g, rfl, rfl⟩
    refine cutSeq (fun σ' H' => ∃ g : Int, σ' = [some (.ref a), some (.int (i : Int)), some (.int c), some (.int g)] ∧ H = H') (fun nx hn => ?_) ?_
    · refine ⟨_, rfl, _, _, rfl, rfl, ⟨by decide, by decide, by decide⟩, _, _, rfl, rfl, _, rfl, ?_⟩
      refine ite2 (fun e => ?_) (fun e => hn _ _ ⟨g, rfl, rfl⟩)
      exact ⟨_, rfl, hn _ _ ⟨_, rfl, rfl⟩⟩
    rintro _ _ ⟨g, rfl, rfl⟩
    refine ⟨_, rfl, .inl ⟨_, rfl, _, _, rfl, rfl, (by show (2147483647 : Int) ≠ 0; decide), _, rfl, _, _, rfl, rfl, .inl ⟨by decide, by decide⟩, _, _, rfl, rfl, _, rfl, ?_, fun p np => ?_⟩⟩
    · show 3 ≤ sizeLine
      rw [sizeLine_eq]; decide
    · exact q _ p (Sv.nil (Sv.new np)) np ⟨_, _, _, upd_same⟩

def spDraw : Sp := fun vs H Q _ => ∃ (p : Addr) (m : Int), vs = [.ref p, .int m] ∧ Pool H p ∧ 0 < m ∧ m < 1073741824 ∧ ∀ H' (n : Int), Sv [p] H H' → Pool H' p → 0 ≤ n → n < m → Q (.int n) H'
theorem ok_law_draw (T : CnT mg t1 t2 t3 t4 t5) (D : HasDef K mg "_law_draw" s_law_draw ["pool", "many"]) : Has P w K mg base CX0 1 "_law_draw" ["pool", "many"] spDraw := by
  refine D.has fun f fd F => F.ok sc_law_draw (fun vs H Q E h => ?_) (fun cdv A outer s H vs Q E hr h => ?_)
  · obtain ⟨p, m, rfl, _⟩ := h; rfl
  · obtain ⟨p, m, rfl, ⟨a, b, c, hp⟩, h0, h1, q⟩ := h
    refine ⟨_, (pss_cons (ps_asg (pe_op op_add (pe_ix ix_list (pv 0) pe_int (fun _ _ => rfl)) pe_int) (pg_sub (pv 0) pe_int set_list))
  (pss_cons (ps_if (pt_cmpR op_gt (pe_ix ix_list (pv 0) pe_int (fun _ _ => rfl)) pe_int (nomark _))
  (pss_cons (ps_set (i := 2) sc_law_draw.nd rfl (Or.inl rfl) (pe_op op_modN (pe_callTy call_int1 (by rfl) T.m_int (by decide +kernel) (pa_cons (pe_ix ix_list (pv 0) pe_int (fun _ _ => rfl)) pa_nil)) (pv 1)))
  (pss_cons (ps_asg (pe_op op_fdivN (pe_ix ix_list (pv 0) pe_int (fun _ _ => rfl)) (pv 1)) (pg_sub (pv 0) pe_int set_list))
  (pss_one (ps_ret (pv 2)))))
  pss_nil)
  (pss_cons (ps_set (i := 3) sc_law_draw.nd rfl (Or.inl rfl) (pe_op op_modN (pe_callTy call_int1 (by rfl) T.m_int (by decide +kernel) (pa_cons (pe_op op_add (pe_op op_add (pe_op op_mul (pe_op op_add (pe_ix ix_list (pv 0) pe_int (fun _ _ => rfl)) pe_int) pe_int) (pe_op op_mul (pe_ix ix_list (pv 0) pe_int (fun _ _ => rfl)) pe_int)) pe_int) pa_nil)) pe_int))
  (pss_cons (ps_set (i := 3) sc_law_draw.nd rfl (Or.inl rfl) (pe_op op_modN (pe_callTy call_int1 (by rfl) T.m_int (by decide +kernel) (pa_cons (pe_op op_add (pe_op op_mul (pv 3) (pv 3)) (pe_ix ix_list (pv 0) pe_int (fun _ _ => rfl))) pa_nil)) pe_int))
  (pss_cons (ps_set (i := 3) sc_law_draw.nd rfl (Or.inl rfl) (pe_op op_modN (pe_callTy call_int1 (by rfl) T.m_int (by decide +kernel) (pa_cons (pe_op op_add (pe_op op_mul (pv 3) (pv 3)) (pe_ix ix_list (pv 0) pe_int (fun _ _ => rfl))) pa_nil)) pe_int))
  (pss_one (ps_ret (pe_op op_modN (pe_callTy call_int1 (by rfl) T.m_int (by decide +kernel) (pa_cons (pe_op op_fdivN (pv 3) pe_int) pa_nil)) (pv 1))))))))), ?_⟩
    have L : ∀ {H' : Hp} {xs : List V}, H' p = some (.lst xs) → SqL K H' p xs := fun h => .inl (.inl h)
    refine ⟨.ref p, rfl, p, _, _, .int c, rfl, rfl, L hp, atI_nat (j := 2) rfl, _, _, rfl, rfl, .ref p, rfl, p, _, _, 2, rfl, rfl, hp, rfl, ?_⟩
    show tSeq _ _ _ _ (upd H p (.lst [.int a, .int b, .int (c + 1)]))
    have sv : ∀ o, Sv [p] H (upd H p o) := fun o => Sv.set (by simp)
    generalize hH1 : upd H p (.lst [.int a, .int b, .int (c + 1)]) = H1
    have hp1 : H1 p = some (.lst [.int a, .int b, .int (c + 1)]) := by rw [← hH1]; exact upd_same
    have sv1 : Sv [p] H H1 := by rw [← hH1]; exact sv _
    have fm : ∀ x y : Int, 0 < y → 0 ≤ x.fmod y ∧ x.fmod y < y := fun x y hy => by
      rw [Int.fmod_eq_emod_of_nonneg x (by omega)]
      exact ⟨Int.emod_nonneg _ (by omega), Int.emod_lt_of_pos _ hy⟩
    refine ⟨.ref p, rfl, p, _, _, .int b, rfl, rfl, L hp1, atI_nat (j := 1) rfl, _, _, rfl, rfl, _, rfl, ?_⟩
    refine ite2 (fun e => ?_) (fun e => ?_)
    · refine ⟨.ref p, rfl, p, _, _, .int b, rfl, rfl, L hp1, atI_nat (j := 1) rfl, .inl ⟨_, rfl, .int m, rfl, _, _, rfl, rfl, by omega, ?_⟩⟩
      refine ⟨.ref p, rfl, p, _, _, .int b, rfl, rfl, L hp1, atI_nat (j := 1) rfl, .int m, rfl, _, _, rfl, rfl, ⟨by omega, by omega⟩, .ref p, rfl, p, _, _, 1, rfl, rfl, hp1, rfl, ?_⟩
      refine ⟨_, rfl, q _ _ (sv1.trans (Sv.set (by simp))) ⟨_, _, _, upd_same⟩ (fm b m h0).1 (fm b m h0).2⟩
    · -- one = int((pool[0] + 1) * 48271 + pool[2] * 69621 + 11) % 2147483647
      refine ⟨.ref p, rfl, p, _, _, .int a, rfl, rfl, L hp1, atI_nat (j := 0) rfl, _, _, rfl, rfl, _, _, rfl, rfl, .inr ⟨by decide, by decide⟩, .ref p, rfl, p, _, _, .int (c + 1), rfl, rfl, L hp1, atI_nat (j := 2) rfl,
        _, _, rfl, rfl, .inr ⟨by decide, by decide⟩, _, _, rfl, rfl, _, _, rfl, rfl, .inl ⟨_, rfl, _, _, rfl, rfl, (by show (2147483647 : Int) ≠ 0; decide), ?_⟩⟩
      obtain ⟨f0, f1⟩ := fm ((a + 1) * 48271 + (c + 1) * 69621 + 11) 2147483647 (by decide)
      -- one = int(one * one + pool[2]) % 2147483629
      refine ⟨_, rfl, _, rfl, _, _, rfl, rfl, .inl ⟨by omega, by omega⟩, .ref p, rfl, p, _, _, .int (c + 1), rfl, rfl, L hp1, atI_nat (j := 2) rfl, _, _, rfl, rfl, .inl ⟨_, rfl, _, _, rfl, rfl, (by show (2147483629 : Int) ≠ 0; decide), ?_⟩⟩
      obtain ⟨f2, f3⟩ := fm (Int.fmod ((a + 1) * 48271 + (c + 1) * 69621 + 11) 2147483647 * Int.fmod ((a + 1) * 48271 + (c + 1) * 69621 + 11) 2147483647 + (c + 1)) 2147483629 (by decide)
      refine ⟨_, rfl, _, rfl, _, _, rfl, rfl, .inl ⟨by omega, by omega⟩, .ref p, rfl, p, _, _, .int a, rfl, rfl, L hp1, atI_nat (j := 0) rfl, _, _, rfl, rfl, .inl ⟨_, rfl, _, _, rfl, rfl, (by show (2147483587 : Int) ≠ 0; decide), ?_⟩⟩
      exact ⟨_, rfl, _, _, rfl, rfl, ⟨(by decide), (by decide)⟩, .inl ⟨_, rfl, .int m, rfl, _, _, rfl, rfl, by omega, q _ _ sv1 ⟨_, _, _, hp1⟩ (fm _ m h0).1 (fm _ m h0).2⟩⟩
end
end RS

namespace RS
open PySem PySem.Spec PyProof.Rows L2 TL

abbrev s_law_same : Stmt := topS 39
theorem sc_law_same : FnScope ["got", "due", "k"] ["got", "due"] (defScope s_law_same) := ⟨rfl, rfl, rfl, by decide +kernel, rfl, by decide +kernel, by decide +kernel⟩

/-- by the answer of a test that is known -/
theorem ifT {c : Bool} {A B : Prop} (e : c = true) (h : A) : if c = true then A else B := by rw [if_pos e]; exact h
theorem ifF {c : Bool} {A B : Prop} (e : c = false) (h : B) : if c = true then A else B := by rw [e]; exact iteF h

section
variable {P : Program} {w : World} {K : PySem.W.Frag} {mg : Str → Option Value} {base : Heap} {t1 t2 t3 t4 t5 : Tok} {C fI : Addr}

mutual
/-- rows are not too long -/
def wide : D → Prop
  | .int _ => True
  | .bl _ => True
  | .str _ => True
  | .tup ds => ds.length ≤ 10000000 ∧ wideL ds
def wideL : List D → Prop
  | [] => True
  | d :: r => wide d ∧ wideL r
end
theorem wideL.at : ∀ {ds : List D} {i : Nat} {d : D}, wideL ds → ds[i]? = some d → wide d
  | [], _, _, _, e => by simp at e
  | d :: r, 0, d', h, e => by
    have : d = d' := by simpa using e
    exact this ▸ h.1
  | d :: r, i + 1, d', h, e => wideL.at (i := i) h.2 (by simpa using e)
/-- the same value twice -/
def spSame (K : PySem.W.Frag) (n : Nat) : Sp := fun vs H Q _ => ∃ v1 v2 d, vs = [v1, v2] ∧ Rp K H d v1 ∧ Rp K H d v2 ∧ dep d < n ∧ wide d ∧ Q (.bl true) H
theorem ok_law_same (T : CnT mg t1 t2 t3 t4 t5) (D : HasDef K mg "_law_same" s_law_same ["got", "due"]) : ∀ n : Nat, Has P w K mg base CX0 (n + 1) "_law_same" ["got", "due"] (spSame K n)
  | 0 => D.has fun f fd F => ⟨fun vs H Q E h => by obtain ⟨v, v2, d, _, _, _, z, _⟩ := h; omega, fun A outer s H args us vs Q E hr he hb hv hs => by obtain ⟨v, v2, d, _, _, _, z, _⟩ := hs; omega⟩
  | n + 1 => by
    have C_law_same := ok_law_same T D n
    refine D.has fun f fd F => F.ok sc_law_same (fun vs H Q E h => ?_) (fun cdv A outer s H vs Q E hr h => ?_)
    · obtain ⟨v, v2, d, rfl, _⟩ := h; rfl
    · obtain ⟨v1, v2, d, rfl, r1, r2, hd, hw, q⟩ := h
      refine ⟨_, (pss_cons (ps_if (pt_val (pe_callB call_isi (by rfl) T.m_isinstance (by decide +kernel) (pa_cons (pv 1) (pa_cons (pe_bltn (v := .ty "tuple") (u := .type "tuple") (by rfl) T.m_tuple (by decide +kernel) rfl) pa_nil))))
  (pss_cons (ps_if (PW.pt (pw_or (pt_not (pt_val (pe_callB call_isi (by rfl) T.m_isinstance (by decide +kernel) (pa_cons (pv 0) (pa_cons (pe_bltn (v := .ty "tuple") (u := .type "tuple") (by rfl) T.m_tuple (by decide +kernel) rfl) pa_nil))))) (pw_or1 (pt_cmpR op_ne (pe_callB call_len_seq (by rfl) T.m_len (by decide +kernel) (pa_cons (pv 0) pa_nil)) (pe_callB call_len_seq (by rfl) T.m_len (by decide +kernel) (pa_cons (pv 1) pa_nil)) (nomark _)))))
  (pss_one (ps_ret pe_bl))
  pss_nil)
  (pss_cons (ps_for PassesOwn.never rfl (pi_range1 (by rfl) T.m_range (pa_cons (pe_callB call_len_seq (by rfl) T.m_len (by decide +kernel) (pa_cons (pv 1) pa_nil)) pa_nil)) (pg_name (i := 2) sc_law_same.nd rfl (Or.inl rfl))
  (pss_one (ps_if (pt_not (pt_val (pe_has C_law_same (hr.mono (by omega)) pass0 (pa_cons (pe_ix (show IxR _ (rIxT K) from ix_tup) (pv 0) (pv 2) (fun _ _ => rfl)) (pa_cons (pe_ix (show IxR _ (rIxT K) from ix_tup) (pv 1) (pv 2) (fun _ _ => rfl)) pa_nil)))))
  (pss_one (ps_ret pe_bl))
  pss_nil)))
  (pss_one (ps_ret pe_bl))))
  pss_nil)
  (pss_cons (ps_if (pt_val (pe_callB call_isi (by rfl) T.m_isinstance (by decide +kernel) (pa_cons (pv 1) (pa_cons (pe_bltn (v := .ty "str") (u := .type "str") (by rfl) T.m_str (by decide +kernel) rfl) pa_nil))))
  (pss_one (ps_ret (pe_and (pe_callB call_isi (by rfl) T.m_isinstance (by decide +kernel) (pa_cons (pv 0) (pa_cons (pe_bltn (v := .ty "str") (u := .type "str") (by rfl) T.m_str (by decide +kernel) rfl) pa_nil))) (pe_one (pe_cmpR op_eq (pv 0) (pv 1) (nomark _))))))
  pss_nil)
  (pss_cons (ps_if (pt_val (pe_callB call_isi (by rfl) T.m_isinstance (by decide +kernel) (pa_cons (pv 1) (pa_cons (pe_bltn (v := .ty "bool") (u := .type "bool") (by rfl) T.m_bool (by decide +kernel) rfl) pa_nil))))
  (pss_one (ps_ret (pe_and (pe_callB call_isi (by rfl) T.m_isinstance (by decide +kernel) (pa_cons (pv 0) (pa_cons (pe_bltn (v := .ty "bool") (u := .type "bool") (by rfl) T.m_bool (by decide +kernel) rfl) pa_nil))) (pe_one (pe_cmpR op_eq (pv 0) (pv 1) (nomark _))))))
  pss_nil)
  (pss_one (ps_ret (pe_and (pe_callB call_isi (by rfl) T.m_isinstance (by decide +kernel) (pa_cons (pv 0) (pa_cons (pe_bltn (v := .ty "int") (u := .type "int") (by rfl) T.m_int (by decide +kernel) rfl) pa_nil))) (pe_and (pe_not (pe_callB call_isi (by rfl) T.m_isinstance (by decide +kernel) (pa_cons (pv 0) (pa_cons (pe_bltn (v := .ty "bool") (u := .type "bool") (by rfl) T.m_bool (by decide +kernel) rfl) pa_nil)))) (pe_one (pe_cmpR op_eq (pv 0) (pv 1) (nomark _)))))))))), ?_⟩
      refine ⟨v2, rfl, _, _, _, _, _, rfl, .ty "tuple", r2.ty, kit_ty (kb_tup d), _, rfl, ?_⟩
      cases d with
      | tup ds =>
        refine iteT ?_
        obtain ⟨a1, xs1, rfl, sq1, rl1⟩ := id r1
        obtain ⟨a2, xs2, rfl, sq2, rl2⟩ := id r2
        refine ⟨.ref a1, rfl, _, _, _, _, _, rfl, .ty "tuple", r1.ty, kit_ty (kb_tup (.tup ds)), _, rfl, ?_⟩
        refine iteF ?_
        refine ⟨.ref a1, rfl, a1, xs1, rfl, .inr sq1, .ref a2, rfl, a2, xs2, rfl, .inr sq2, rfl, _, rfl, ?_⟩
        refine ifF (by rw [rl1.len, rl2.len]; simp) ?_
        obtain ⟨hz, hws⟩ := hw
        refine ⟨.ref a2, rfl, a2, xs2, rfl, .inr sq2, _, rfl, by omega, by rw [rl2.len]; omega, for_range (lo := 0) (n := ((xs2.length : Int)).toNat) (fun i σ H' => (∃ y, σ = [some (.ref a1), some (.ref a2), y]) ∧ H' = H) ⟨⟨none, rfl⟩, rfl⟩ ?_ ?_⟩
        · rintro i σ H' hi ⟨⟨y, rfl⟩, rfl⟩
          have hi2 : i < ds.length := by rw [rl2.len] at hi; omega
          obtain ⟨x1, e1, q1⟩ := rl1.at (List.getElem?_eq_getElem hi2)
          obtain ⟨x2, e2, q2⟩ := rl2.at (List.getElem?_eq_getElem hi2)
          have z : (0 : Int) + (i : Int) = ((i : Nat) : Int) := by omega
          refine ⟨.ref a1, rfl, _, rfl, a1, xs1, _, x1, rfl, rfl, sq1, by rw [z]; exact atI_nat e1, .ref a2, rfl, _, rfl, a2, xs2, _, x2, rfl, rfl, sq2, by rw [z]; exact atI_nat e2, x1, x2, _, rfl, q1, q2, ?_, ?_, _, rfl, ?_⟩
          · have : dep ds[i] ≤ depL ds := depL_le.mp (Nat.le_refl _) _ (List.getElem_mem hi2)
            have hd' : 1 + depL ds < n + 1 := hd
            omega
          · exact hws.at (List.getElem?_eq_getElem hi2)
          · exact iteF ⟨⟨_, rfl⟩, rfl⟩
        · rintro σ H' ⟨⟨y, rfl⟩, rfl⟩
          exact q
      | str z =>
        refine iteF ?_
        cases (show v1 = V.str z from r1)
        cases (show v2 = V.str z from r2)
        refine ⟨_, rfl, _, _, _, _, _, rfl, .ty "str", r2.ty, kit_ty (kb_str (.str z)), _, rfl, ?_⟩
        refine iteT ?_
        refine ⟨_, rfl, _, _, _, _, _, rfl, .ty "str", r1.ty, kit_ty (kb_str (.str z)), _, rfl, ?_⟩
        refine iteT ⟨_, rfl, _, rfl, rfl, ?_⟩
        rw [decide_eq_true rfl]
        exact q
      | bl b =>
        refine iteF ?_
        cases (show v1 = V.bl b from r1)
        cases (show v2 = V.bl b from r2)
        refine ⟨_, rfl, _, _, _, _, _, rfl, .ty "str", r2.ty, kit_ty (kb_str (.bl b)), _, rfl, ?_⟩
        refine iteF ?_
        refine ⟨_, rfl, _, _, _, _, _, rfl, .ty "bool", r2.ty, kit_ty (kb_bool (.bl b)), _, rfl, ?_⟩
        refine iteT ?_
        refine ⟨_, rfl, _, _, _, _, _, rfl, .ty "bool", r1.ty, kit_ty (kb_bool (.bl b)), _, rfl, ?_⟩
        refine iteT ⟨_, rfl, _, rfl, rfl, ?_⟩
        rw [decide_eq_true rfl]
        exact q
      | int b =>
        refine iteF ?_
        cases (show v1 = V.int b from r1)
        cases (show v2 = V.int b from r2)
        refine ⟨_, rfl, _, _, _, _, _, rfl, .ty "str", r2.ty, kit_ty (kb_str (.int b)), _, rfl, ?_⟩
        refine iteF ?_
        refine ⟨_, rfl, _, _, _, _, _, rfl, .ty "bool", r2.ty, kit_ty (kb_bool (.int b)), _, rfl, ?_⟩
        refine iteF ?_
        refine ⟨_, rfl, _, _, _, _, _, rfl, .ty "int", r1.ty, kit_ty (kb_int (.int b)), _, rfl, ?_⟩
        refine iteT ⟨_, rfl, _, _, _, _, _, rfl, .ty "bool", r1.ty, kit_ty (kb_bool (.int b)), _, rfl, _, rfl, ?_⟩
        refine iteT ⟨_, rfl, _, rfl, rfl, ?_⟩
        rw [decide_eq_true rfl]
        exact q
end
end RS

namespace RS
open PySem PySem.Spec PyProof.Rows L2 TL

theorem toks_ne2 {d : D} (h : smallD d) : toks d ≠ [] := by
  cases d <;> first | exact h.elim | simp [toks]
theorem wsum_wr : ∀ {ds : List D}, smallL ds → wsum (ds.map wr) = wsum (toksL ds)
  | [], _ => rfl
  | d :: r, h => by
    show wsum (wr d :: r.map wr) = wsum (toks d ++ toksL r)
    rw [wsum_cons, wsum_append, wsum_wr h.2, wr_len (toks_ne2 h.1)]
theorem len_toksL : ∀ {ds : List D}, smallL ds → ds.length ≤ (toksL ds).length
  | [], _ => Nat.le_refl _
  | d :: r, h => by
    show r.length + 1 ≤ (toks d ++ toksL r).length
    rw [List.length_append]
    have := len_toksL h.2
    have := toks_ne2 h.1
    cases hq : toks d with
    | nil => exact absurd hq this
    | cons a b => simp; omega
theorem smallL_mem : ∀ {ds : List D}, smallL ds → ∀ d ∈ ds, smallD d
  | [], _, d, h => by simp at h
  | a :: r, h, d, hd => by
    rcases List.mem_cons.mp hd with rfl | hd
    · exact h.1
    · exact smallL_mem h.2 d hd
theorem wr_tup2 {ds : List D} (h : smallL ds) : Txt.join sp ([lb] ++ ds.map wr ++ [rb]) = wr (.tup ds) := by
  have e : [lb] ++ ds.map wr ++ [rb] = ([[lb]] ++ ds.map toks ++ [[rb]]).map (Str.join sp) := by
    rw [List.map_append, List.map_append, List.map_map]
    congr 2
    apply List.map_congr_left
    intro d _
    show Txt.join sp (toks d) = Str.join sp (toks d)
    exact join_eq _ _
  rw [join_eq, e, join_flat]
  · unfold wr
    rw [join_eq]
    congr 1
    show _ = lb :: (toksL ds ++ [rb])
    rw [toksL_flat]
    simp
  · intro l hl
    simp at hl
    rcases hl with rfl | ⟨d, hd, rfl⟩ | rfl
    · simp
    · exact toks_ne2 (smallL_mem h d hd)
    · simp
theorem wsum_at {ds : List D} {i : Nat} {d : D} (h : ds[i]? = some d) : wsum (toks d) ≤ wsum (toksL ds) := by
  have e : ds = ds.take i ++ d :: ds.drop (i + 1) := by
    obtain ⟨hi, e⟩ := List.getElem?_eq_some_iff.mp h
    rw [← e, ← List.drop_eq_getElem_cons hi, List.take_append_drop]
  rw [e, toksL_append, wsum_append]
  show _ ≤ _ + wsum (toks d ++ toksL (ds.drop (i + 1)))
  rw [wsum_append]
  omega

abbrev s_law_write : Stmt := topS 40
theorem sc_law_write : FnScope ["x", "y"] ["x"] (defScope s_law_write) := ⟨rfl, rfl, rfl, by decide +kernel, rfl, by decide +kernel, by decide +kernel⟩
abbrev s_law_word_in : Stmt := topS 41
theorem sc_law_word_in : FnScope ["word", "body", "c"] ["word"] (defScope s_law_word_in) := ⟨rfl, rfl, rfl, by decide +kernel, rfl, by decide +kernel, by decide +kernel⟩

section
variable {P : Program} {w : World} {K : PySem.W.Frag} {mg : Str → Option Value} {base : Heap} {t1 t2 t3 t4 t5 : Tok} {C fI : Addr}

def spLWrite (K : PySem.W.Frag) (n : Nat) : Sp := fun vs H Q _ => ∃ v d, vs = [v] ∧ Rp K H d v ∧ dep d < n ∧ smallD d ∧ wsum (toks d) ≤ 10000000 ∧ ∀ H', Same H H' → Q (.str (wr d)) H'
theorem ok_law_write (T : CnT mg t1 t2 t3 t4 t5) (D : HasDef K mg "_law_write" s_law_write ["x"]) : ∀ n : Nat, Has P w K mg base CX0 (n + 1) "_law_write" ["x"] (spLWrite K n)
  | 0 => D.has fun f fd F => ⟨fun vs H Q E h => by obtain ⟨v, d, _, _, z, _⟩ := h; omega, fun A outer s H args us vs Q E hr he hb hv hs => by obtain ⟨v, d, _, _, z, _⟩ := hs; omega⟩
  | n + 1 => by
    have C_law_write := ok_law_write T D n
    refine D.has fun f fd F => F.ok sc_law_write (fun vs H Q E h => ?_) (fun cdv A outer s H vs Q E hr h => ?_)
    · obtain ⟨v, d, rfl, _⟩ := h; rfl
    · obtain ⟨v, d, rfl, r, hd, hs, hl, q⟩ := h
      refine ⟨_, (pss_cons (ps_if (pt_val (pe_callB call_isi (by rfl) T.m_isinstance (by decide +kernel) (pa_cons (pv 0) (pa_cons (pe_bltn (v := .ty "tuple") (u := .type "tuple") (by rfl) T.m_tuple (by decide +kernel) rfl) pa_nil))))
  (pss_one (ps_ret (pe_join pe_str (pe_op op_cat (pe_op op_cat (pe_lst (pa_cons pe_str pa_nil)) (pe_lc (own := [("y", 1)]) (g := gName 1) (tt := tYes) rfl sc_law_write.nd (pi_tup (pv 0)) (blkOk_by (own := [("y", 1)]) (N := ["x", "y"]) (sc := defScope s_law_write) (by decide +kernel)) (fun _ _ _ _ _ => (pg_name (i := 1) sc_law_write.nd rfl (Or.inl rfl))) (fun _ _ _ _ _ => pts_nil) (fun _ _ _ _ _ => (pe_has C_law_write (hr.mono (by omega)) pass0 (pa_cons (pv 1) pa_nil))))) (pe_lst (pa_cons pe_str pa_nil))))))
  pss_nil)
  (pss_one (ps_ret (pe_callTy call_strD (by rfl) T.m_str (by decide +kernel) (pa_cons (pv 0) pa_nil))))), ?_⟩
      have hsz := sizeLine_eq
      refine ⟨v, rfl, _, _, _, _, _, rfl, .ty "tuple", r.ty, kit_ty (kb_tup d), _, rfl, ?_⟩
      cases d with
      | int i =>
        refine iteF ?_
        cases (show v = V.int i from r)
        exact ⟨_, rfl, .inl ⟨i, rfl, hs, q H (Same.refl H)⟩⟩
      | bl i => exact hs.elim
      | str z =>
        refine iteF ?_
        cases (show v = V.str z from r)
        exact ⟨_, rfl, .inr ⟨z, rfl, q H (Same.refl H)⟩⟩
      | tup ds =>
        refine iteT ?_
        obtain ⟨a, xs, rfl, sq, rl⟩ := id r
        have hw : wsum (toks (.tup ds)) = wsum (toksL ds) + 4 := by
          show wsum (lb :: (toksL ds ++ [rb])) = _
          rw [wsum_cons, wsum_append, wsum_cons, wsum_nil, show lb.length = 1 by decide +kernel, show rb.length = 1 by decide +kernel]
          omega
        have hlen := len_toksL hs
        have hlw := len_le_wsum (toksL ds)
        refine ⟨⟨_, rfl⟩, by show 1 ≤ sizeLine; omega, fun p np => ?_⟩
        have s1 : Same H (upd H p (.lst [.str lb])) := Sv.nil (Sv.new np)
        refine ⟨.ref a, rfl, a, rfl, ⟨_, (TK.same s1).seqT sq⟩, fun D nD => lc_tup (K := K) (a := a) (xs := xs) (fun i H' => Sv [D] (upd H p (.lst [.str lb])) H' ∧ H' D = some (.lst (((ds.take i).map wr).map V.str)))
          ⟨Sv.new nD, upd_same⟩ (fun i H' _ ⟨s2, _⟩ => (TK.same (Sv.nil (Sv.drop nD s2))).seqT ((TK.same s1).seqT sq)) ?_ ?_⟩
        · rintro i x H' hi ⟨s2, hD⟩
          obtain ⟨d, hdi, rd⟩ := rl.get hi
          have sm := s1.trans (Sv.nil (Sv.drop nD s2))
          refine ⟨rfl, x, rfl, x, d, rfl, rd.keep (TK.same sm), ?_, smallL.at hs hdi, ?_, fun H2 s3 => ⟨_, s3 _ _ hD, ?_, ?_, ?_⟩⟩
          · have : dep d ≤ depL ds := depL_le.mp (Nat.le_refl _) d (List.mem_of_getElem? hdi)
            have hd' : 1 + depL ds < n + 1 := hd
            omega
          · have := wsum_at hdi
            omega
          · rw [List.length_map, List.length_map, List.length_take]
            omega
          · exact s2.trans ((Sv.same s3).trans (Sv.set (by simp)))
          · rw [upd_same, take_snoc hdi, List.map_append, List.map_append]
            rfl
        · rintro H' ⟨s2, hD⟩
          have ef : ds.take xs.length = ds := by rw [rl.len, List.take_length]
          rw [ef] at hD
          have hp : H' p = some (.lst [.str lb]) := s2 p _ (fun z => by
            have : p = D := by simpa using z
            rw [this] at nD
            rw [upd_same] at nD; cases nD) upd_same
          have sm := s1.trans (Sv.nil (Sv.drop nD s2))
          refine ⟨p, D, _, _, rfl, rfl, hp, hD, by show 1 + _ ≤ _; rw [List.length_map, List.length_map]; omega, fun p2 np2 => ⟨by show 1 ≤ sizeLine; omega, fun p3 np3 => ?_⟩⟩
          have p23 : p2 ≠ p3 := fun e => by rw [e, upd_same] at np3; cases np3
          refine ⟨p2, p3, _, _, rfl, rfl, by rw [upd_ne p23]; exact upd_same, upd_same, ?_, fun p4 np4 => ?_⟩
          · rw [List.length_append, List.length_map, List.length_map]
            show 1 + _ + 1 ≤ _
            omega
          · refine ⟨sp, p4, [lb] ++ ds.map wr ++ [rb], rfl, rfl, .inl (.inl (.inl (by rw [upd_same, List.map_append, List.map_append]; rfl))), ?_, ?_⟩
            · have hw2 : wsum ([lb] ++ ds.map wr ++ [rb]) = wsum (toksL ds) + 4 := by
                rw [wsum_append, wsum_append, wsum_wr hs, show wsum [lb] = 2 by decide +kernel, show wsum [rb] = 2 by decide +kernel]
                omega
              unfold wsum at hw2
              rw [sp_len]
              unfold wsum at hw hl
              omega
            · rw [wr_tup2 hs]
              exact q _ (((sm.trans (Sv.nil (Sv.new np2))).trans (Sv.nil (Sv.new np3))).trans (Sv.nil (Sv.new np4)))

/-! ### the law's own reading of a token -/
theorem filter_nil {α : Type} {l : List α} {p : α → Bool} : (l.filter fun c => !p c).length = 0 ↔ l.all p = true := by
  rw [List.length_eq_zero_iff, List.filter_eq_nil_iff, List.all_eq_true]
  constructor
  · intro h c hc
    have := h c hc
    simpa using this
  · intro h c hc
    have := h c hc
    simpa using this
/-- what the law takes a token for -/
def wordIn (s : Str) : List D := match tokIn s with
  | some d => [d]
  | none => []
theorem wordIn_none {s : Str} (h1 : isWord s = false) (h2 : isNum s = false) : wordIn s = [] := by
  unfold wordIn tokIn
  rw [h1, h2]
  rfl
theorem wordIn_word {s : Str} (h1 : isWord s = true) : wordIn s = [.str s] := by
  unfold wordIn
  rw [tokIn_word h1]
theorem wordIn_num {s : Str} (h1 : isWord s = false) (h2 : isNum s = true) : wordIn s = [.int (numV s)] := by
  unfold wordIn tokIn
  rw [h1, h2]
  rfl
theorem letters_nonum {s : Str} (h : (tl s).all (fun c => decide (c ∈ tl lets)) = true) (h1 : 1 ≤ s.length) : isNum s = false := by
  cases e : isNum s with
  | false => rfl
  | true =>
    exfalso
    have hl : ∀ c ∈ tl s, 97 ≤ c ∧ c ≤ 122 := fun c hc => mem_lets.mp (of_decide_eq_true (List.all_eq_true.mp h c hc))
    rcases num_cases e with ⟨_, h2, h3, _⟩ | ⟨ds, e2, _⟩
    · cases q : tl s with
      | nil => exact h3 q
      | cons a r =>
        rw [q] at hl h2
        have := hl a (by simp)
        have := h2.head
        omega
    · rw [e2] at hl
      have := hl 45 (by simp)
      omega
theorem isNum_empty {s : Str} (h : s.length = 0) : isNum s = false := by
  cases e : isNum s with
  | false => rfl
  | true =>
    exfalso
    rw [len_tl] at h
    rcases num_cases e with ⟨_, h2, h3, _⟩ | ⟨ds, e2, _⟩
    · exact h3 (List.length_eq_zero_iff.mp h)
    · rw [e2] at h; simp at h
def spWordIn (K : PySem.W.Frag) : Sp := fun vs H Q _ => ∃ s : Str, vs = [.str s] ∧ s.length ≤ 10000000 ∧ ∀ H' v, Same H H' → Rp K H' (.tup (wordIn s)) v → Q v H'
/-- [c for c in z if c not in S] at p, behind i signs -/
def Odd (S : Str) (z : Str) (H : Hp) (p : Addr) (i : Nat) (H' : Hp) : Prop := Sv [p] H H' ∧ H' p = some (.lst ((((tl z).take i).filter fun c => !decide (c ∈ tl S)).map fun c => V.str ⟨#[c]⟩))
theorem ok_law_word_in (T : CnT mg t1 t2 t3 t4 t5) (D : HasDef K mg "_law_word_in" s_law_word_in ["word"]) : Has P w K mg base CX0 1 "_law_word_in" ["word"] (spWordIn K) := by
  refine D.has fun f fd F => F.ok sc_law_word_in (fun vs H Q E h => ?_) (fun cdv A outer s H vs Q E hr h => ?_)
  · obtain ⟨v, rfl, _⟩ := h; rfl
  · obtain ⟨z, rfl, hl, q⟩ := h
    refine ⟨_, (pss_cons (ps_if (pt_cmpR op_eq (pe_callB call_len_str (by rfl) T.m_len (by decide +kernel) (pa_cons (pv 0) pa_nil)) pe_int (nomark _))
  (pss_one (ps_ret (pe_tup pa_nil)))
  pss_nil)
  (pss_cons (ps_if (pt_cmpR op_eq (pe_callB call_len_seq (by rfl) T.m_len (by decide +kernel) (pa_cons (pe_lc (own := [("c", 2)]) (g := gName 2) rfl sc_law_word_in.nd (pi_str (pv 0)) (blkOk_by (own := [("c", 2)]) (N := ["word", "body", "c"]) (sc := defScope s_law_word_in) (by decide +kernel)) (fun _ _ _ _ _ => (pg_name (i := 2) sc_law_word_in.nd rfl (Or.inl rfl))) (fun _ _ _ _ _ => (pts_one (pt_cmpR op_notIn_sign (pv 2) pe_str rfl))) (fun _ _ _ _ _ => (pv 2))) pa_nil)) pe_int (nomark _))
  (pss_one (ps_ret (pe_ifExp (pt_cmpR op_le (pe_callB call_len_str (by rfl) T.m_len (by decide +kernel) (pa_cons (pv 0) pa_nil)) pe_int (nomark _)) (pe_tup (pa_cons (pv 0) pa_nil)) (pe_tup pa_nil))))
  pss_nil)
  (pss_cons (ps_set (i := 1) sc_law_word_in.nd rfl (Or.inl rfl) (pe_ifExp (pt_cmpR op_eq (pe_ix ix_str (pv 0) pe_int (fun _ _ => rfl)) pe_str (nomark _)) (pe_slice sl_str (pv 0) (po_some pe_int) po_none) (pv 0)))
  (pss_cons (ps_if (PW.pt (pw_or (pt_cmpR op_eq (pe_callB call_len_str (by rfl) T.m_len (by decide +kernel) (pa_cons (pv 1) pa_nil)) pe_int (nomark _)) (pw_or (pt_cmpR op_gt (pe_callB call_len_str (by rfl) T.m_len (by decide +kernel) (pa_cons (pv 1) pa_nil)) pe_int (nomark _)) (pw_or1 (pt_cmpR op_gt (pe_callB call_len_seq (by rfl) T.m_len (by decide +kernel) (pa_cons (pe_lc (own := [("c", 2)]) (g := gName 2) rfl sc_law_word_in.nd (pi_str (pv 1)) (blkOk_by (own := [("c", 2)]) (N := ["word", "body", "c"]) (sc := defScope s_law_word_in) (by decide +kernel)) (fun _ _ _ _ _ => (pg_name (i := 2) sc_law_word_in.nd rfl (Or.inl rfl))) (fun _ _ _ _ _ => (pts_one (pt_cmpR op_notIn_sign (pv 2) pe_str rfl))) (fun _ _ _ _ _ => (pv 2))) pa_nil)) pe_int (nomark _))))))
  (pss_one (ps_ret (pe_tup pa_nil)))
  pss_nil)
  (pss_cons (ps_if (PW.pt (pw_and (pt_cmpR op_eq (pe_ix ix_str (pv 1) pe_int (fun _ _ => rfl)) pe_str (nomark _)) (pw_and1 (PW.pt (pw_or (pt_cmpR op_gt (pe_callB call_len_str (by rfl) T.m_len (by decide +kernel) (pa_cons (pv 1) pa_nil)) pe_int (nomark _)) (pw_or1 (pt_cmpR op_eq (pe_ix ix_str (pv 0) pe_int (fun _ _ => rfl)) pe_str (nomark _))))))))
  (pss_one (ps_ret (pe_tup pa_nil)))
  pss_nil)
  (pss_one (ps_ret (pe_tup (pa_cons (pe_callTy call_int_str (by rfl) T.m_int (by decide +kernel) (pa_cons (pv 0) pa_nil)) pa_nil))))))))), ?_⟩
    have hsz := sizeLine_eq
    have hl' : z.length ≤ sizeLine := by omega
    have no : ∀ {H'}, Same H H' → wordIn z = [] → ([] : List V).length ≤ sizeLine ∧ ∀ p, H' p = none → Q (.ref p) (upd H' p (.tup [])) := fun s e => ⟨Nat.zero_le _, fun p np => q _ _ (s.trans (Sv.nil (Sv.new np))) (by rw [e]; exact Rp.made np rfl)⟩
    refine ⟨.str z, rfl, z, rfl, hl', rfl, _, rfl, ?_⟩
    refine ite2 (fun e0 => ?_) (fun e0 => ?_)
    · have h0 : z.length = 0 := by have := V.int.inj (of_decide_eq_true e0); omega
      refine no (Same.refl H) (wordIn_none ?_ (isNum_empty h0))
      unfold isWord
      rw [decide_eq_false (by omega)]
      rfl
    have h1 : 1 ≤ z.length := by
      by_cases h : z.length = 0
      · exact absurd (decide_eq_true (by rw [h]; rfl)) e0
      · omega
    refine ⟨.str z, rfl, _, rfl, fun p np => lc_str (Odd lets z H p) ⟨Sv.new np, upd_same⟩ ?_ ?_⟩
    · rintro i c H' hc ⟨s1, hp⟩
      refine ⟨rfl, _, rfl, c, lets, rfl, rfl, _, rfl, ?_⟩
      have e : (((tl z).take (i + 1)).filter fun c => !decide (c ∈ tl lets)) = (((tl z).take i).filter fun c => !decide (c ∈ tl lets)) ++ (if (!decide (c ∈ tl lets)) = true then [c] else []) := by
        rw [take_snoc hc, List.filter_append]
        congr 1
        simp only [List.filter_cons, List.filter_nil]
      refine ite2 (fun e1 => ?_) (fun e1 => ?_)
      · refine ⟨_, rfl, _, hp, ?_, s1.trans (Sv.set (by simp)), ?_⟩
        · rw [List.length_map]
          have h2 := List.length_filter_le (fun c => !decide (c ∈ tl lets)) ((tl z).take i)
          rw [List.length_take] at h2
          have : (tl z).length = z.length := (len_tl z).symm
          omega
        · rw [upd_same, e, if_pos e1, List.map_append]
          rfl
      · refine ⟨s1, ?_⟩
        rw [hp, e, if_neg e1, List.append_nil]
    rintro H1 ⟨sv1, hp⟩
    rw [List.take_length] at hp
    have s1 := Sv.nil (Sv.drop np sv1)
    refine ⟨p, _, rfl, .inl (.inl (.inl hp)), rfl, _, rfl, ?_⟩
    rw [List.length_map]
    refine ite2 (fun e1 => ?_) (fun e1 => ?_)
    · have hA : (tl z).all (fun c => decide (c ∈ tl lets)) = true := filter_nil.mp (by have := V.int.inj (of_decide_eq_true e1); omega)
      refine ⟨.str z, rfl, z, rfl, hl', _, _, rfl, rfl, _, rfl, ?_⟩
      refine ite2 (fun e2 => ?_) (fun e2 => ?_)
      · have h20 : z.length ≤ 20 := by have := of_decide_eq_true e2; omega
        refine ⟨.str z, rfl, by show 1 ≤ sizeLine; omega, fun p2 np2 => q _ _ (s1.trans (Sv.nil (Sv.new np2))) ?_⟩
        rw [wordIn_word (by unfold isWord; rw [decide_eq_true h1, decide_eq_true h20, hA]; rfl)]
        exact Rp.made np2 ⟨_, _, rfl, rfl, rfl⟩
      · have h20 : ¬ z.length ≤ 20 := fun h => e2 (decide_eq_true (by omega))
        refine no s1 (wordIn_none ?_ (letters_nonum hA h1))
        unfold isWord
        rw [decide_eq_false h20]
        simp
    have hW : isWord z = false := by
      cases hA : (tl z).all fun c => decide (c ∈ tl lets) with
      | true =>
        exfalso
        apply e1
        have := filter_nil.mpr hA
        rw [this]
        rfl
      | false =>
        unfold isWord
        rw [hA]
        simp
    obtain ⟨c0, r0, hcr⟩ : ∃ c r, tl z = c :: r := by
      cases hq : tl z with
      | nil => rw [len_tl, hq] at h1; simp at h1
      | cons c r => exact ⟨c, r, rfl⟩
    have z0 : atI z.cps.toList 0 = some c0 := atI_nat (j := 0) (by show (tl z)[0]? = _; rw [hcr]; rfl)
    have dash : (V.str ⟨#[c0]⟩ = V.str ("-" : Str)) ↔ (tl z).head? = some 45 := by
      rw [hcr]
      constructor
      · intro h
        have := congrArg tl (V.str.inj h)
        rw [tl_dash] at this
        have : [c0] = [45] := this
        simpa using this
      · intro h
        have : c0 = 45 := by simpa using h
        subst this
        exact congrArg V.str (ext_tl (by rw [tl_dash]))
    dsimp only [tNext]
    refine cutSeq (fun σ' H' => σ' = [some (.str z), some (.str (body z)), none] ∧ H1 = H') (fun nx hn => ?_) ?_
    · refine ⟨.str z, rfl, _, 0, c0, rfl, rfl, hl', z0, rfl, _, rfl, ?_⟩
      refine ite2 (fun e => ?_) (fun e => ?_)
      · have hm := dash.mp (of_decide_eq_true e)
        refine ⟨.str z, rfl, _, rfl, z, rfl, hl', hn _ _ ⟨?_, rfl⟩⟩
        have e := cut_body z
        rw [if_pos hm] at e
        rw [e]
        rfl
      · have hm : ¬ (tl z).head? = some 45 := fun h => e (decide_eq_true (dash.mpr h))
        refine ⟨.str z, rfl, hn _ _ ⟨?_, rfl⟩⟩
        have e := cut_body z
        rw [if_neg hm] at e
        rw [← e]
        rfl
    rintro _ _ ⟨rfl, rfl⟩
    have hb := len_body z
    have hbl : (body z).length ≤ sizeLine := by omega
    refine ⟨.str (body z), rfl, _, rfl, hbl, rfl, _, rfl, ?_⟩
    refine ite2 (fun e2 => ?_) (fun e2 => ?_)
    · have h0 : (body z).length = 0 := by have := V.int.inj (of_decide_eq_true e2); omega
      refine no s1 (wordIn_none hW ?_)
      unfold isNum
      rw [decide_eq_false (show ¬ 1 ≤ (body z).length by omega)]
      simp
    have hb1 : 1 ≤ (body z).length := by
      by_cases h : (body z).length = 0
      · exact absurd (decide_eq_true (by rw [h]; rfl)) e2
      · omega
    refine ⟨.str (body z), rfl, _, rfl, hbl, _, _, rfl, rfl, _, rfl, ?_⟩
    refine ite2 (fun e3 => ?_) (fun e3 => ?_)
    · have h60 : ¬ (body z).length ≤ 60 := by have := of_decide_eq_true e3; omega
      refine no s1 (wordIn_none hW ?_)
      unfold isNum
      rw [decide_eq_false h60]
      simp
    have hb60 : (body z).length ≤ 60 := by
      by_cases h : (body z).length ≤ 60
      · exact h
      · exact absurd (decide_eq_true (by omega)) e3
    refine ⟨.str (body z), rfl, _, rfl, fun p2 np2 => lc_str (Odd digs (body z) H1 p2) ⟨Sv.new np2, upd_same⟩ ?_ ?_⟩
    · rintro i c H' hc ⟨sv2, hp2⟩
      refine ⟨rfl, _, rfl, c, digs, rfl, rfl, _, rfl, ?_⟩
      have e : (((tl (body z)).take (i + 1)).filter fun c => !decide (c ∈ tl digs)) = (((tl (body z)).take i).filter fun c => !decide (c ∈ tl digs)) ++ (if (!decide (c ∈ tl digs)) = true then [c] else []) := by
        rw [take_snoc hc, List.filter_append]
        congr 1
        simp only [List.filter_cons, List.filter_nil]
      refine ite2 (fun e1 => ?_) (fun e1 => ?_)
      · refine ⟨_, rfl, _, hp2, ?_, sv2.trans (Sv.set (by simp)), ?_⟩
        · rw [List.length_map]
          have h2 := List.length_filter_le (fun c => !decide (c ∈ tl digs)) ((tl (body z)).take i)
          rw [List.length_take] at h2
          have : (tl (body z)).length = (body z).length := (len_tl _).symm
          omega
        · rw [upd_same, e, if_pos e1, List.map_append]
          rfl
      · refine ⟨sv2, ?_⟩
        rw [hp2, e, if_neg e1, List.append_nil]
    rintro H2 ⟨sv2, hp2⟩
    rw [List.take_length] at hp2
    have s2 := s1.trans (Sv.nil (Sv.drop np2 sv2))
    refine ⟨p2, _, rfl, .inl (.inl (.inl hp2)), _, _, rfl, rfl, _, rfl, ?_⟩
    rw [List.length_map]
    refine ite2 (fun e4 => ?_) (fun e4 => ?_)
    · refine no s2 (wordIn_none hW ?_)
      cases hA : (tl (body z)).all fun c => decide (c ∈ tl digs) with
      | true =>
        exfalso
        have := of_decide_eq_true e4
        rw [filter_nil.mpr hA] at this
        simp at this
      | false =>
        unfold isNum
        rw [hA]
        simp
    have hA : (tl (body z)).all (fun c => decide (c ∈ tl digs)) = true := filter_nil.mp (by
      have : ¬ _ := fun h => e4 (decide_eq_true h)
      omega)
    obtain ⟨b0, q0, hbr⟩ : ∃ c r, tl (body z) = c :: r := by
      cases hq : tl (body z) with
      | nil => rw [len_tl, hq] at hb1; simp at hb1
      | cons c r => exact ⟨c, r, rfl⟩
    have zb0 : atI (body z).cps.toList 0 = some b0 := atI_nat (j := 0) (by show (tl (body z))[0]? = _; rw [hbr]; rfl)
    have zero : (V.str ⟨#[b0]⟩ = V.str ("0" : Str)) ↔ (tl (body z)).head? = some 48 := by
      rw [hbr]
      constructor
      · intro h
        have := congrArg tl (V.str.inj h)
        rw [tl_zero] at this
        have : [b0] = [48] := this
        simpa using this
      · intro h
        have : b0 = 48 := by simpa using h
        subst this
        exact congrArg V.str (ext_tl (by rw [tl_zero]))
    have yes : isNum z = true → [V.int (numV z)].length ≤ sizeLine ∧ ∀ p, H2 p = none → Q (.ref p) (upd H2 p (.tup [V.int (numV z)])) := fun e =>
      ⟨by show 1 ≤ sizeLine; omega, fun p np => q _ _ (s2.trans (Sv.nil (Sv.new np))) (by rw [wordIn_num hW e]; exact Rp.made np ⟨_, _, rfl, rfl, rfl⟩)⟩
    have isN : ((tl (body z)).head? = some 48 → z = ("0" : Str)) → isNum z = true := fun h => by
      unfold isNum
      rw [hA, decide_eq_true hb1, decide_eq_true hb60]
      by_cases h48 : (tl (body z)).head? = some 48
      · rw [decide_eq_true (h h48), Bool.or_true]; rfl
      · rw [decide_eq_false h48]; rfl
    refine ⟨.str (body z), rfl, _, 0, b0, rfl, rfl, hbl, zb0, rfl, _, rfl, ?_⟩
    refine ite2 (fun e5 => ?_) (fun e5 => ?_)
    · have h48 := zero.mp (of_decide_eq_true e5)
      refine ⟨.str (body z), rfl, _, rfl, hbl, _, _, rfl, rfl, _, rfl, ?_⟩
      refine ite2 (fun e6 => ?_) (fun e6 => ?_)
      · have h2 : 1 < (body z).length := by have := of_decide_eq_true e6; omega
        refine no s2 (wordIn_none hW ?_)
        have hz : z ≠ ("0" : Str) := fun e => by
          have := len_body z
          rw [e] at h2 hb
          have e0 : ("0" : Str).length = 1 := by decide +kernel
          omega
        unfold isNum
        rw [decide_eq_true h48, decide_eq_false hz]
        simp
      refine ⟨.str z, rfl, _, 0, c0, rfl, rfl, hl', z0, rfl, _, rfl, ?_⟩
      refine ite2 (fun e7 => ?_) (fun e7 => ?_)
      · have hm := dash.mp (of_decide_eq_true e7)
        refine no s2 (wordIn_none hW ?_)
        have hz : z ≠ ("0" : Str) := fun e => by
          rw [e, tl_zero] at hm
          simp at hm
        unfold isNum
        rw [decide_eq_true h48, decide_eq_false hz]
        simp
      · have hm : ¬ (tl z).head? = some 45 := fun h => e7 (decide_eq_true (dash.mpr h))
        have eb : body z = z := if_neg hm
        have hn : isNum z = true := isN fun _ => by
          apply ext_tl
          rw [tl_zero, ← eb]
          have l1 : (body z).length = 1 := by
            have : ¬ _ := fun h => e6 (decide_eq_true h)
            omega
          rw [hbr] at h48
          rw [len_tl, hbr] at l1
          rw [hbr]
          have : q0 = [] := List.length_eq_zero_iff.mp (by simpa using l1)
          rw [this]
          simpa using h48
        obtain ⟨hn', h61⟩ := num_text hn
        exact ⟨.str z, rfl, z, numV z, rfl, hn', by omega, yes hn⟩
    · have hn : isNum z = true := isN fun h => absurd (decide_eq_true (zero.mpr h)) e5
      obtain ⟨hn', h61⟩ := num_text hn
      exact ⟨.str z, rfl, z, numV z, rfl, hn', by omega, yes hn⟩
end
end RS

namespace RS
open PySem PySem.Spec PyProof.Rows L2 TL

abbrev s_law_read : Stmt := topS 42
theorem sc_law_read : FnScope ["text", "rows", "word", "got", "back"] ["text"] (defScope s_law_read) := ⟨rfl, rfl, rfl, by decide +kernel, rfl, by decide +kernel, by decide +kernel⟩
abbrev s_law_run : Stmt := topS 44
theorem sc_law_run : FnScope ["pool", "signs", "size", "k"] ["pool", "signs", "size"] (defScope s_law_run) := ⟨rfl, rfl, rfl, by decide +kernel, rfl, by decide +kernel, by decide +kernel⟩
abbrev s_law_number : Stmt := topS 45
theorem sc_law_number : FnScope ["pool", "size", "number", "k"] ["pool"] (defScope s_law_number) := ⟨rfl, rfl, rfl, by decide +kernel, rfl, by decide +kernel, by decide +kernel⟩
abbrev s_law_letters : Stmt := topS 46
theorem sc_law_letters : FnScope ["pool", "size"] ["pool"] (defScope s_law_letters) := ⟨rfl, rfl, rfl, by decide +kernel, rfl, by decide +kernel, by decide +kernel⟩

section
variable {P : Program} {w : World} {K : PySem.W.Frag} {mg : Str → Option Value} {base : Heap} {t1 t2 t3 t4 t5 : Tok} {C fI : Addr}

def faultD : D := .tup [.str "fault"]
def spLRead (K : PySem.W.Frag) : Sp := fun vs H Q _ => ∃ s : Str, vs = [.str s] ∧ s.length ≤ 9000000 ∧ (∀ ds, rdVals s = some ds → ∀ H' p xs, Same H H' → H' p = some (.lst xs) → RpL K H' ds xs → Q (.ref p) H') ∧
  (rdVals s = none → ∀ H' v, Same H H' → Rp K H' faultD v → Q v H')
theorem ok_law_read (T : CnT mg t1 t2 t3 t4 t5) (D : HasDef K mg "_law_read" s_law_read ["text"]) (C_law_word_in : Has P w K mg base CX0 1 "_law_word_in" ["word"] (spWordIn K)) :
    Has P w K mg base CX0 2 "_law_read" ["text"] (spLRead K) := by
  refine D.has fun f fd F => F.ok sc_law_read (fun vs H Q E h => ?_) (fun cdv A outer s H vs Q E hr h => ?_)
  · obtain ⟨v, rfl, _⟩ := h; rfl
  · obtain ⟨z, rfl, hl, q, e⟩ := h
    refine ⟨_, (pss_cons (ps_set (i := 1) sc_law_read.nd rfl (Or.inl rfl) (pe_lst (pa_cons (pe_lst pa_nil) pa_nil)))
  (pss_cons (ps_for PassesOwn.never rfl (pi_list (pe_split (pv 0) pe_str)) (pg_name (i := 2) sc_law_read.nd rfl (Or.inl rfl))
  (pss_cons (ps_set (i := 3) sc_law_read.nd rfl (Or.inl rfl) (pe_has C_law_word_in (hr.mono (by omega)) pass0 (pa_cons (pv 2) pa_nil)))
  (pss_one (ps_if (pt_cmpR op_eq (pv 2) pe_str (nomark _))
  (pss_cons (ps_if (pt_cmpR op_gt (pe_callB call_len_seq (by rfl) T.m_len (by decide +kernel) (pa_cons (pv 1) pa_nil)) pe_int (nomark _))
  (pss_one (ps_ret (pe_tup (pa_cons pe_str pa_nil))))
  pss_nil)
  (pss_one (ps_expr (pe_bm PySem.F.plainAttrs_list PySem.F.slot_list_append PySem.F.type_list_append mt_append (pv 1) (pa_cons (pe_lst pa_nil) pa_nil)))))
  (pss_one (ps_if (pt_cmpR op_eq (pv 2) pe_str (nomark _))
  (pss_cons (ps_if (pt_cmpR op_lt (pe_callB call_len_seq (by rfl) T.m_len (by decide +kernel) (pa_cons (pv 1) pa_nil)) pe_int (nomark _))
  (pss_one (ps_ret (pe_tup (pa_cons pe_str pa_nil))))
  pss_nil)
  (pss_cons (ps_set (i := 4) sc_law_read.nd rfl (Or.inl rfl) (pe_callTy call_tuple_of (by rfl) T.m_tuple (by decide +kernel) (pa_cons (pe_bm0 PySem.F.plainAttrs_list PySem.F.slot_list_pop PySem.F.type_list_pop mt_pop (pv 1)) pa_nil)))
  (pss_one (ps_expr (pe_bm PySem.F.plainAttrs_list PySem.F.slot_list_append PySem.F.type_list_append mt_append (pe_ix ix_list (pv 1) (pe_un un_neg pe_int) (fun _ _ => rfl)) (pa_cons (pv 4) pa_nil))))))
  (pss_one (ps_if (pt_cmpR op_eq (pe_callB call_len_seq (by rfl) T.m_len (by decide +kernel) (pa_cons (pv 3) pa_nil)) pe_int (nomark _))
  (pss_one (ps_ret (pe_tup (pa_cons pe_str pa_nil))))
  (pss_one (ps_expr (pe_bm PySem.F.plainAttrs_list PySem.F.slot_list_append PySem.F.type_list_append mt_append (pe_ix ix_list (pv 1) (pe_un un_neg pe_int) (fun _ _ => rfl)) (pa_cons (pe_ix (show IxR _ (rIxT K) from ix_tup) (pv 3) pe_int (fun _ _ => rfl)) pa_nil))))))))))))
  (pss_cons (ps_if (pt_cmpR op_gt (pe_callB call_len_seq (by rfl) T.m_len (by decide +kernel) (pa_cons (pv 1) pa_nil)) pe_int (nomark _))
  (pss_one (ps_ret (pe_tup (pa_cons pe_str pa_nil))))
  pss_nil)
  (pss_one (ps_ret (pe_ix ix_list (pv 1) pe_int (fun _ _ => rfl))))))), ?_⟩
    have hsz := sizeLine_eq
    -- rows = [[]]
    refine ⟨Nat.zero_le _, fun r0 nr0 => ⟨by show 1 ≤ sizeLine; omega, fun l nl => ?_⟩⟩
    have s1 : Same H (upd (upd H r0 (.lst [])) l (.lst [.ref r0])) := (Sv.nil (Sv.new nr0)).trans (Sv.nil (Sv.new nl))
    have r0l : r0 ≠ l := fun e => by rw [e, upd_same] at nl; cases nl
    have S1 : Stk K (upd (upd H r0 (.lst [])) l (.lst [.ref r0])) l [r0] [[]] := by
      refine ⟨upd_same, ?_, ⟨[], ?_, rfl⟩, trivial⟩
      · simp [r0l.symm]
      · rw [upd_ne r0l, upd_same]
    have nl' : H l = none := (Sv.nil (Sv.new nr0)).free nl
    -- text.split(" ")
    refine ⟨.str z, rfl, ⟨z, rfl⟩, z, sp, rfl, rfl, by decide +kernel, by omega, fun a na => ?_⟩
    have na' : H a = none := s1.free na
    have al : a ≠ l := fun e => by rw [e, upd_same] at na; cases na
    have ar : a ≠ r0 := fun e => by rw [e, upd_ne r0l, upd_same] at na; cases na
    have s2 := s1.trans (Sv.nil (Sv.new (o := .lst ((Txt.split z sp).map V.str)) na))
    have S2 := S1.same (Sv.nil (Sv.new (o := .lst ((Txt.split z sp).map V.str)) na))
    have no : ∀ {H1 : Hp}, rdVals z = none → Same H H1 → [V.str "fault"].length ≤ sizeLine ∧ ∀ p, H1 p = none → Q (.ref p) (upd H1 p (.tup [V.str "fault"])) := fun hn s =>
      ⟨by show 1 ≤ sizeLine; omega, fun p np => e hn _ _ (s.trans (Sv.nil (Sv.new np))) (Rp.made np ⟨_, _, rfl, rfl, rfl⟩)⟩
    have hlen := split_len z
    refine ⟨a, rfl, ⟨_, .inl (.inl upd_same)⟩, for_list (K := K) (a := a) (xs := (Txt.split z sp).map V.str) (fun i σ H' => ∃ y2 y3 y4 rs st, σ = [some (.str z), some (.ref l), y2, y3, y4] ∧ Same H H' ∧ (∀ b ∈ l :: rs, H b = none ∧ b ≠ a) ∧
        H' a = some (.lst ((Txt.split z sp).map V.str)) ∧ ((Txt.split z sp).take i).foldlM step [[]] = some st ∧ Stk K H' l rs st) ?_ (fun i σ H' _ ⟨_, _, _, _, _, _, _, _, ha, _⟩ => .inl (.inl ha)) ?_ ?_⟩
    · refine ⟨none, none, none, [r0], [[]], rfl, s2, ?_, upd_same, rfl, S2⟩
      intro b hb
      rcases List.mem_cons.mp hb with rfl | hb
      · exact ⟨nl', al.symm⟩
      · have : b = r0 := by simpa using hb
        rw [this]
        exact ⟨nr0, ar.symm⟩
    · rintro i x σ H0 hi ⟨y2, y3, y4, rs, st, rfl, sm, fr, ha, hf, S⟩
      obtain ⟨w, hw, rfl⟩ : ∃ w, (Txt.split z sp)[i]? = some w ∧ x = V.str w := by
        rw [List.getElem?_map] at hi
        cases hq : (Txt.split z sp)[i]? with
        | none => rw [hq] at hi; cases hi
        | some w => rw [hq] at hi; exact ⟨w, rfl, (Option.some.inj hi).symm⟩
      obtain ⟨_, hne, hl13, hod⟩ := fold_inv _ hf (by simp) (by simp) ⟨fun d hd => by simp at hd, trivial⟩
      have hrow : ∀ ds ∈ st, ds.length ≤ 9000001 := fun ds hd => by
        have := fold_rows _ (n := 0) hf (fun ds hd => by
          have : ds = [] := by simpa using hd
          rw [this]; exact Nat.le_refl _) ds hd
        rw [List.length_take] at this
        omega
      have hbad : step st w = none → rdVals z = none := fun hn => by
        unfold rdVals rdToks
        rw [fold_none hf hw hn]
      obtain ⟨ds, st, rfl⟩ : ∃ ds st', st = ds :: st' := by
        cases st with
        | nil => exact absurd rfl hne
        | cons a b => exact ⟨a, b, rfl⟩
      obtain ⟨r, rs, rfl⟩ : ∃ r rs', rs = r :: rs' := by
        have := S.len
        cases rs with
        | nil => simp at this
        | cons a b => exact ⟨a, b, rfl⟩
      have hwl : w.length ≤ z.length := by
        have := split_sum z
        have h2 : w.length + 1 ≤ wsum (Txt.split z sp) := by
          have hm := List.mem_of_getElem? hw
          obtain ⟨A, B, e⟩ := List.append_of_mem hm
          rw [e, wsum_append, wsum_cons]
          omega
        omega
      -- got = _law_word_in(word)
      refine ⟨.str w, rfl, w, rfl, by omega, fun H' g s3 rg => ?_⟩
      have S := S.same s3
      have sm := sm.trans s3
      have ha := s3 _ _ ha
      have hrl := S.len
      obtain ⟨ga, gx, rfl, gsq, gl⟩ := rg
      refine ⟨.str w, rfl, rfl, _, rfl, ?_⟩
      refine ite2 (fun e1 => ?_) (fun e1 => ?_)
      · have e1 : w = lb := V.str.inj (of_decide_eq_true e1)
        refine ⟨.ref l, rfl, l, _, rfl, .inl (.inl (.inl S.top)), _, _, rfl, rfl, _, rfl, ?_⟩
        refine ite2 (fun e2 => ?_) (fun e2 => ?_)
        · refine no (hbad ?_) sm
          have := of_decide_eq_true e2
          rw [List.length_map, List.length_reverse, hrl] at this
          unfold step
          rw [if_pos e1, if_neg (by omega)]
        have h12 : (ds :: st).length ≤ 12 := by
          have : ¬ _ := fun z => e2 (decide_eq_true z)
          rw [List.length_map, List.length_reverse, hrl] at this
          omega
        refine ⟨.ref l, rfl, .inl ⟨rfl, _, .inl (.inl S.top)⟩, Nat.zero_le _, fun p np => ?_⟩
        have np' : H p = none := sm.free np
        have pl : l ≠ p := fun e => by rw [e] at S; rw [S.top] at np; cases np
        refine ⟨l, _, _, rfl, rfl, by rw [upd_ne pl]; exact S.top, ?_, ?_⟩
        · rw [List.length_map, List.length_reverse, hrl]; omega
        have S' := S.push np
        have pa : p ≠ a := fun e => by rw [e, ha] at np; cases np
        have eq : (r :: rs).reverse.map V.ref ++ [V.ref p] = (p :: r :: rs).reverse.map V.ref := by
          rw [List.reverse_cons (a := p), List.map_append]; rfl
        rw [eq]
        have sm' := sput (o := .lst ((p :: r :: rs).reverse.map V.ref)) (sput (o := .lst []) sm np') nl'
        refine ⟨_, _, _, p :: r :: rs, _, rfl, sm', ?_, ?_, fold_some hf hw (by unfold step; rw [if_pos e1, if_pos h12]), S'⟩
        · intro b hb
          rcases List.mem_cons.mp hb with rfl | hb
          · exact ⟨nl', al.symm⟩
          · rcases List.mem_cons.mp hb with rfl | hb
            · exact ⟨np', pa⟩
            · exact fr b (by simp [List.mem_cons.mp hb])
        · rw [upd_ne al, upd_ne pa.symm]
          exact ha
      · have e1 : w ≠ lb := fun e => e1 (decide_eq_true (congrArg V.str e))
        refine ⟨.str w, rfl, rfl, _, rfl, ?_⟩
        refine ite2 (fun e2 => ?_) (fun e2 => ?_)
        · have e2 : w = rb := V.str.inj (of_decide_eq_true e2)
          refine ⟨.ref l, rfl, l, _, rfl, .inl (.inl (.inl S.top)), _, _, rfl, rfl, _, rfl, ?_⟩
          refine ite2 (fun e3 => ?_) (fun e3 => ?_)
          · refine no (hbad ?_) sm
            have := of_decide_eq_true e3
            rw [List.length_map, List.length_reverse, hrl] at this
            unfold step
            rw [if_neg e1, if_pos e2]
            match st, this with
            | [], _ => rfl
            | x :: y, h => simp at h; omega
          have h2 : 2 ≤ (ds :: st).length := by
            have : ¬ _ := fun z => e3 (decide_eq_true z)
            rw [List.length_map, List.length_reverse, hrl] at this
            omega
          obtain ⟨ds2, st, rfl⟩ : ∃ ds st', st = ds :: st' := by
            cases st with
            | nil => simp at h2
            | cons a b => exact ⟨a, b, rfl⟩
          obtain ⟨r2, rs, rfl⟩ : ∃ r rs', rs = r :: rs' := by
            cases rs with
            | nil => simp at hrl
            | cons a b => exact ⟨a, b, rfl⟩
          refine ⟨.ref l, rfl, .inl ⟨rfl, _, .inl (.inl S.top)⟩, l, _, .ref r, rfl, rfl, S.top, popped.2, ?_⟩
          rw [popped.1]
          obtain ⟨Sp, xs, hx, rx, hx'⟩ := S.pop
          have smp := sput (o := .lst ((r2 :: rs).reverse.map V.ref)) sm nl'
          have hap : (upd H' l (.lst ((r2 :: rs).reverse.map V.ref))) a = some (.lst ((Txt.split z sp).map V.str)) := by rw [upd_ne al]; exact ha
          refine ⟨r, xs, rfl, .inl ⟨.inl (.inl hx'), fun t nt => ?_⟩⟩
          have nt0 : H t = none := smp.free nt
          have Sn := Sp.same (Sv.nil (Sv.new (o := .tup xs) nt))
          have smn := smp.trans (Sv.nil (Sv.new (o := .tup xs) nt))
          have ta : a ≠ t := fun e => by rw [e] at hap; rw [hap] at nt; cases nt
          have rt : Rp K (upd (upd H' l (.lst ((r2 :: rs).reverse.map V.ref))) t (.tup xs)) (.tup ds) (.ref t) := Rp.made nt (rx.keep (tk_set ⟨_, S.top⟩))
          have hat : (upd (upd H' l (.lst ((r2 :: rs).reverse.map V.ref))) t (.tup xs)) a = some (.lst ((Txt.split z sp).map V.str)) := by rw [upd_ne ta]; exact hap
          obtain ⟨⟨xs2, hx2, rx2⟩, _⟩ := Sn.rows
          have nr2 : H r2 = none := (fr r2 (by simp)).1
          have S2 := Sn.put hx2 rt
          have sm2 := sput (o := .lst (xs2 ++ [.ref t])) smn nr2
          refine ⟨.ref l, rfl, 1, rfl, l, _, _, .ref r2, rfl, rfl, .inl (.inl Sn.top), Sn.last, .inl ⟨rfl, _, .inl (.inl hx2)⟩, .ref t, rfl, r2, xs2, _, rfl, rfl, hx2, ?_, ?_⟩
          · have := hrow ds2 (by simp)
            have := rx2.len
            omega
          have hstep : step (ds :: ds2 :: st) w = some ((ds2 ++ [.tup ds]) :: st) := by
            unfold step
            rw [if_neg e1, if_pos e2]
          refine ⟨_, _, _, r2 :: rs, _, rfl, sm2, fun b hb => ?_, ?_, fold_some hf hw hstep, S2⟩
          · rcases List.mem_cons.mp hb with rfl | hb
            · exact ⟨nl', al.symm⟩
            · exact fr b (by simp [List.mem_cons.mp hb])
          · rw [upd_ne (fr r2 (by simp)).2.symm]
            exact hat
        · have e2 : w ≠ rb := fun e => e2 (decide_eq_true (congrArg V.str e))
          refine ⟨.ref ga, rfl, ga, gx, rfl, .inr gsq, rfl, _, rfl, ?_⟩
          cases htok : tokIn w with
          | none =>
            have hg : wordIn w = [] := by unfold wordIn; rw [htok]
            rw [hg] at gl
            cases (show gx = [] from gl)
            refine ifT (by decide) (no (hbad ?_) sm)
            unfold step
            rw [if_neg e1, if_neg e2, htok]
          | some d =>
            have hg : wordIn w = [d] := by unfold wordIn; rw [htok]
            rw [hg] at gl
            obtain ⟨g0, gr, rfl, rg0, rgr⟩ := gl
            cases (show gr = [] from rgr)
            refine ifF (show decide (V.int ((1 : Nat) : Int) = V.int 0) = false by decide) ?_
            obtain ⟨⟨xs, hx, rx⟩, _⟩ := id S.rows
            have nr : H r = none := (fr r (by simp)).1
            have hstep : step (ds :: st) w = some ((ds ++ [d]) :: st) := by
              unfold step
              rw [if_neg e1, if_neg e2, htok]
            have S2 := S.put hx rg0
            have sm2 := sput (o := .lst (xs ++ [g0])) sm nr
            refine ⟨.ref l, rfl, 1, rfl, l, _, _, .ref r, rfl, rfl, .inl (.inl S.top), S.last, .inl ⟨rfl, _, .inl (.inl hx)⟩, .ref ga, rfl, ga, _, 0, g0, rfl, rfl, gsq, atI_nat (j := 0) rfl, r, xs, _, rfl, rfl, hx, ?_, ?_⟩
            · have := hrow ds (by simp)
              have := rx.len
              omega
            refine ⟨_, _, _, r :: rs, _, rfl, sm2, fr, ?_, fold_some hf hw hstep, S2⟩
            rw [upd_ne (fr r (by simp)).2.symm]
            exact ha
    · rintro σ H' ⟨y2, y3, y4, rs, st, rfl, sm, fr, ha, hf, S⟩
      rw [List.length_map, List.take_length] at hf
      have hrl := S.len
      obtain ⟨_, hne, _⟩ := fold_inv _ hf (by simp) (by simp) ⟨fun d hd => by simp at hd, trivial⟩
      refine ⟨.ref l, rfl, l, _, rfl, .inl (.inl (.inl S.top)), _, _, rfl, rfl, _, rfl, ?_⟩
      refine ite2 (fun e1 => ?_) (fun e1 => ?_)
      · refine no ?_ sm
        have := of_decide_eq_true e1
        rw [List.length_map, List.length_reverse, hrl] at this
        unfold rdVals rdToks
        rw [hf]
        match st, this with
        | [], _ => rfl
        | [x], h => simp at h
        | _ :: _ :: _, _ => rfl
      · have h1 : st.length = 1 := by
          have : ¬ _ := fun z => e1 (decide_eq_true z)
          rw [List.length_map, List.length_reverse, hrl] at this
          cases st with
          | nil => exact absurd rfl hne
          | cons a b =>
            have h2 : ¬ (1 : Int) < ((a :: b).length : Nat) := this
            have h3 : (a :: b).length = b.length + 1 := rfl
            omega
        obtain ⟨ds, rfl⟩ : ∃ ds, st = [ds] := by
          match st, h1 with
          | [x], _ => exact ⟨x, rfl⟩
        obtain ⟨r, rfl⟩ : ∃ r, rs = [r] := by
          match rs, hrl with
          | [x], _ => exact ⟨x, rfl⟩
        obtain ⟨⟨xs, hx, rx⟩, _⟩ := S.rows
        have hv : rdVals z = some ds := by unfold rdVals rdToks; rw [hf]
        exact ⟨.ref l, rfl, l, _, 0, .ref r, rfl, rfl, .inl (.inl S.top), atI_nat (j := 0) rfl, q ds hv _ _ _ sm hx rx⟩

/-- a run of drawn signs -/
def spRun : Sp := fun vs H Q _ => ∃ (p : Addr) (S : Str) (n : Nat), vs = [.ref p, .str S, .int (n : Int)] ∧ Pool H p ∧ 0 < S.length ∧ S.length ≤ 1000 ∧ n ≤ 1000 ∧
  ∀ H' z, Sv [p] H H' → Pool H' p → z.length = n → (∀ c ∈ tl z, c ∈ tl S) → Q (.str z) H'
theorem join_empty : ∀ (cs : List Nat), tl (Txt.join ("" : Str) (cs.map fun c => ⟨#[c]⟩)) = cs := fun cs => by
  rw [join_eq, tl_join]
  have e : tl ("" : Str) = [] := by decide +kernel
  rw [e, List.map_map]
  induction cs with
  | nil => rfl
  | cons a r ih =>
    cases r with
    | nil => rfl
    | cons b q =>
      show [a] ++ ([] ++ joinL [] ((b :: q).map _)) = _
      rw [ih]
      rfl
theorem ok_law_run (T : CnT mg t1 t2 t3 t4 t5) (D : HasDef K mg "_law_run" s_law_run ["pool", "signs", "size"]) (C_law_draw : Has P w K mg base CX0 1 "_law_draw" ["pool", "many"] spDraw) :
    Has P w K mg base CX0 2 "_law_run" ["pool", "signs", "size"] spRun := by
  refine D.has fun f fd F => F.ok sc_law_run (fun vs H Q E h => ?_) (fun cdv A outer s H vs Q E hr h => ?_)
  · obtain ⟨p, S, n, rfl, _⟩ := h; rfl
  · obtain ⟨p, S, n, rfl, hP, h0, h1, hn, q⟩ := h
    refine ⟨_, (pss_one (ps_ret (pe_join pe_str (pe_lc (own := [("k", 3)]) (g := gName 3) (tt := tYes) rfl sc_law_run.nd (pi_range1 (by rfl) T.m_range (pa_cons (pv 2) pa_nil)) (blkOk_by (own := [("k", 3)]) (N := ["pool", "signs", "size", "k"]) (sc := defScope s_law_run) (by decide +kernel)) (fun _ _ _ _ _ => (pg_name (i := 3) sc_law_run.nd rfl (Or.inl rfl))) (fun _ _ _ _ _ => pts_nil) (fun _ _ _ _ _ => (pe_ix ix_str (pv 1) (pe_has C_law_draw (hr.mono (by omega)) pass0 (pa_cons (pv 0) (pa_cons (pe_callB call_len_str (by rfl) T.m_len (by decide +kernel) (pa_cons (pv 1) pa_nil)) pa_nil))) (fun _ _ => rfl))))))), ?_⟩
    have hsz := sizeLine_eq
    refine ⟨⟨_, rfl⟩, _, rfl, (n : Int), rfl, by omega, by omega, fun D nD => lc_range (lo := 0) (n := ((n : Int)).toNat) (fun i H' => Sv [p, D] H H' ∧ Pool H' p ∧ ∃ cs : List Nat, cs.length = i ∧ (∀ c ∈ cs, c ∈ tl S) ∧ H' D = some (.lst ((cs.map fun c => (⟨#[c]⟩ : Str)).map V.str))) ?_ ?_ ?_⟩
    · exact ⟨Sv.new nD, hP.same (Sv.nil (Sv.new nD)), [], rfl, by simp, upd_same⟩
    · rintro i H' hi ⟨sv, hP', cs, hl, hc, hD⟩
      refine ⟨rfl, .str S, rfl, .ref p, rfl, .str S, rfl, S, rfl, by omega, p, _, rfl, hP', by omega, by omega, fun H2 k sv2 hP2 k0 k1 => ?_⟩
      have pD : D ≠ p := fun e => by
        obtain ⟨a, b, c, e2⟩ := hP
        rw [e, e2] at nD; cases nD
      have hD2 : H2 D = some (.lst ((cs.map fun c => (⟨#[c]⟩ : Str)).map V.str)) := sv2 D _ (by simpa using pD) hD
      obtain ⟨j, rfl⟩ := Int.eq_ofNat_of_zero_le k0
      have hj : j < (tl S).length := by rw [← len_tl]; omega
      refine ⟨S, (j : Int), (tl S)[j], rfl, rfl, by omega, atI_nat (j := j) (by show (tl S)[j]? = _; exact List.getElem?_eq_getElem hj), _, hD2, ?_, ?_, ?_⟩
      · rw [List.length_map, List.length_map]
        omega
      · exact sv.trans ((sv2.mono (by simp)).trans (Sv.set (by simp)))
      · refine ⟨?_, cs ++ [(tl S)[j]], by rw [List.length_append, hl]; rfl, ?_, by rw [upd_same, List.map_append, List.map_append]; rfl⟩
        · obtain ⟨a, b, c, e2⟩ := hP2
          exact ⟨a, b, c, by rw [upd_ne pD.symm]; exact e2⟩
        · intro c hc2
          rcases List.mem_append.mp hc2 with h | h
          · exact hc c h
          · have : c = (tl S)[j] := by simpa using h
            rw [this]
            exact List.getElem_mem hj
    · rintro H' ⟨sv, hP', cs, hl, hc, hD⟩
      have hl' : cs.length = n := by omega
      refine ⟨("" : Str), D, cs.map fun c => (⟨#[c]⟩ : Str), rfl, rfl, .inl (.inl (.inl hD)), ?_, ?_⟩
      · have e0 : ("" : Str).length = 0 := by decide +kernel
        have e1 : ((cs.map fun c => (⟨#[c]⟩ : Str)).map (·.length)).sum = cs.length := by
          clear hl hc hD hl'
          induction cs with
          | nil => rfl
          | cons a r ih =>
            show 1 + ((r.map fun c => (⟨#[c]⟩ : Str)).map (·.length)).sum = r.length + 1
            rw [ih]; omega
        rw [e0, e1]
        omega
      · refine q _ _ (Sv.drop nD (sv.mono (by simp))) hP' ?_ ?_
        · rw [len_tl, join_empty]; exact hl'
        · rw [join_empty]; exact hc
end
end RS

namespace RS
open PySem PySem.Spec PyProof.Rows L2 TL

section
variable {P : Program} {w : World} {K : PySem.W.Frag} {mg : Str → Option Value} {base : Heap} {t1 t2 t3 t4 t5 : Tok} {C fI : Addr}

theorem pick_num {k : Int} (h0 : 0 ≤ k) (h1 : k < 4) : ∃ s : Nat, atI [V.int 1, V.int 1, V.int 2, V.int 60] k = some (.int (s : Int)) ∧ 1 ≤ s ∧ s ≤ 60 := by
  have : k = 0 ∨ k = 1 ∨ k = 2 ∨ k = 3 := by omega
  rcases this with rfl | rfl | rfl | rfl
  · exact ⟨1, atI_nat (j := 0) rfl, by decide, by decide⟩
  · exact ⟨1, atI_nat (j := 1) rfl, by decide, by decide⟩
  · exact ⟨2, atI_nat (j := 2) rfl, by decide, by decide⟩
  · exact ⟨60, atI_nat (j := 3) rfl, by decide, by decide⟩
theorem pick_len {k : Int} (h0 : 0 ≤ k) (h1 : k < 4) : ∃ s : Nat, atI [V.int 1, V.int 2, V.int 4, V.int 20] k = some (.int (s : Int)) ∧ 1 ≤ s ∧ s ≤ 20 := by
  have : k = 0 ∨ k = 1 ∨ k = 2 ∨ k = 3 := by omega
  rcases this with rfl | rfl | rfl | rfl
  · exact ⟨1, atI_nat (j := 0) rfl, by decide, by decide⟩
  · exact ⟨2, atI_nat (j := 1) rfl, by decide, by decide⟩
  · exact ⟨4, atI_nat (j := 2) rfl, by decide, by decide⟩
  · exact ⟨20, atI_nat (j := 3) rfl, by decide, by decide⟩
/-- a draw -/
theorem Pool.new {H : Hp} {p t : Addr} {o : HO} (h : Pool H p) (n : H t = none) : Pool (upd H t o) p := h.same (Sv.nil (Sv.new n))
def spNumber : Sp := fun vs H Q _ => ∃ p : Addr, vs = [.ref p] ∧ Pool H p ∧ ∀ H' (n : Int), Sv [p] H H' → Pool H' p → n.natAbs < 10 ^ 60 → Q (.int n) H'
theorem ok_law_number (T : CnT mg t1 t2 t3 t4 t5) (D : HasDef K mg "_law_number" s_law_number ["pool"]) (C_law_draw : Has P w K mg base CX0 1 "_law_draw" ["pool", "many"] spDraw) :
    Has P w K mg base CX0 2 "_law_number" ["pool"] spNumber := by
  refine D.has fun f fd F => F.ok sc_law_number (fun vs H Q E h => ?_) (fun cdv A outer s H vs Q E hr h => ?_)
  · obtain ⟨p, rfl, _⟩ := h; rfl
  · obtain ⟨p, rfl, hP, q⟩ := h
    refine ⟨_, (pss_cons (ps_set (i := 1) sc_law_number.nd rfl (Or.inl rfl) (pe_ix (show IxR _ (rIxT K) from ix_tup) (pe_tup (pa_cons pe_int (pa_cons pe_int (pa_cons pe_int (pa_cons pe_int pa_nil))))) (pe_has C_law_draw (hr.mono (by omega)) pass0 (pa_cons (pv 0) (pa_cons pe_int pa_nil))) (fun _ _ => rfl)))
  (pss_cons (ps_if (pt_cmpR op_eq (pe_has C_law_draw (hr.mono (by omega)) pass0 (pa_cons (pv 0) (pa_cons pe_int pa_nil))) pe_int (nomark _))
  (pss_one (ps_set (i := 1) sc_law_number.nd rfl (Or.inl rfl) (pe_op op_add pe_int (pe_has C_law_draw (hr.mono (by omega)) pass0 (pa_cons (pv 0) (pa_cons pe_int pa_nil))))))
  pss_nil)
  (pss_cons (ps_set (i := 2) sc_law_number.nd rfl (Or.inl rfl) (pe_has C_law_draw (hr.mono (by omega)) pass0 (pa_cons (pv 0) (pa_cons pe_int pa_nil))))
  (pss_cons (ps_if (pt_cmpR op_gt (pv 1) pe_int (nomark _))
  (pss_one (ps_set (i := 2) sc_law_number.nd rfl (Or.inl rfl) (pe_callB (call_max2 rfl) (by rfl) T.m_max (by decide +kernel) (pa_cons (pv 2) (pa_cons pe_int pa_nil)))))
  pss_nil)
  (pss_cons (ps_for PassesOwn.never rfl (pi_range1 (by rfl) T.m_range (pa_cons (pe_op op_sub (pv 1) pe_int) pa_nil)) (pg_name (i := 3) sc_law_number.nd rfl (Or.inl rfl))
  (pss_one (ps_set (i := 2) sc_law_number.nd rfl (Or.inl rfl) (pe_op op_add (pe_op op_mul pe_int (pv 2)) (pe_has C_law_draw (hr.mono (by omega)) pass0 (pa_cons (pv 0) (pa_cons pe_int pa_nil)))))))
  (pss_cons (ps_if (pt_cmpR op_eq (pe_has C_law_draw (hr.mono (by omega)) pass0 (pa_cons (pv 0) (pa_cons pe_int pa_nil))) pe_int (nomark _))
  (pss_one (ps_ret (pe_op op_sub pe_int (pv 2))))
  pss_nil)
  (pss_one (ps_ret (pv 2))))))))), ?_⟩
    have hsz := sizeLine_eq
    refine cutSeq (fun σ' H' => ∃ s : Nat, σ' = [some (.ref p), some (.int (s : Int)), none, none] ∧ 1 ≤ s ∧ s ≤ 60 ∧ Sv [p] H H' ∧ Pool H' p) (fun nx hn => ?_) ?_
    · refine ⟨by show 4 ≤ sizeLine; omega, fun t nt => ⟨.ref p, rfl, p, _, rfl, hP.new nt, by decide, by decide, fun H1 k sv hP1 k0 k1 => ?_⟩⟩
      have pt : p ≠ t := fun e => by obtain ⟨a, b, c, e2⟩ := hP; rw [e] at e2; rw [e2] at nt; cases nt
      have ht : H1 t = some (.tup [.int 1, .int 1, .int 2, .int 60]) := sv t _ (by simpa using pt.symm) upd_same
      obtain ⟨s, e, s1, s2⟩ := pick_num k0 k1
      exact ⟨t, _, k, _, rfl, rfl, .inl (.inl ht), e, hn _ _ ⟨s, rfl, s1, s2, (Sv.new nt).trans sv, hP1⟩⟩
    rintro _ H1 ⟨s, rfl, l1, l2, sv1, hP1⟩
    refine cutSeq (fun σ' H' => ∃ s : Nat, σ' = [some (.ref p), some (.int (s : Int)), none, none] ∧ 1 ≤ s ∧ s ≤ 60 ∧ Sv [p] H H' ∧ Pool H' p) (fun nx hn => ?_) ?_
    · refine ⟨.ref p, rfl, p, _, rfl, hP1, by decide, by decide, fun H2 k sv2 hP2 k0 k1 => ⟨rfl, _, rfl, ?_⟩⟩
      refine ite2 (fun e => ?_) (fun e => hn _ _ ⟨s, rfl, l1, l2, sv1.trans sv2, hP2⟩)
      refine ⟨.ref p, rfl, p, _, rfl, hP2, by decide, by decide, fun H3 k sv3 hP3 k0 k1 => ⟨_, _, rfl, rfl, ?_⟩⟩
      obtain ⟨j, rfl⟩ := Int.eq_ofNat_of_zero_le k0
      exact hn _ _ ⟨1 + j, by rw [show ((1 + j : Nat) : Int) = 1 + (j : Int) by omega]; rfl, by omega, by omega, (sv1.trans sv2).trans sv3, hP3⟩
    rintro _ H1 ⟨s, rfl, l1, l2, sv1, hP1⟩
    refine cutSeq (fun σ' H' => ∃ n : Nat, σ' = [some (.ref p), some (.int (s : Int)), some (.int (n : Int)), none] ∧ n < 10 ∧ Sv [p] H H' ∧ Pool H' p) (fun nx hn => ?_) ?_
    · refine ⟨.ref p, rfl, p, _, rfl, hP1, by decide, by decide, fun H3 k sv3 hP3 k0 k1 => ?_⟩
      obtain ⟨j, rfl⟩ := Int.eq_ofNat_of_zero_le k0
      exact hn _ _ ⟨j, rfl, by omega, sv1.trans sv3, hP3⟩
    rintro _ H1 ⟨n, rfl, n9, sv1, hP1⟩
    refine cutSeq (fun σ' H' => ∃ n : Nat, σ' = [some (.ref p), some (.int (s : Int)), some (.int (n : Int)), none] ∧ n < 10 ∧ Sv [p] H H' ∧ Pool H' p) (fun nx hn => ?_) ?_
    · refine ⟨_, rfl, _, _, rfl, rfl, _, rfl, ?_⟩
      refine ite2 (fun e => ?_) (fun e => hn _ _ ⟨n, rfl, n9, sv1, hP1⟩)
      refine ⟨_, rfl, _, _, rfl, ?_⟩
      by_cases h : (1 : Int) > (n : Int)
      · exact hn _ _ ⟨1, by rw [if_pos h]; rfl, by decide, sv1, hP1⟩
      · exact hn _ _ ⟨n, by rw [if_neg h]; rfl, n9, sv1, hP1⟩
    rintro _ H1 ⟨n, rfl, n9, sv1, hP1⟩
    refine cutSeq (fun σ' H' => ∃ (n : Nat) (y : Option V), σ' = [some (.ref p), some (.int (s : Int)), some (.int (n : Int)), y] ∧ n < 10 ^ 60 ∧ Sv [p] H H' ∧ Pool H' p) (fun nx hn => ?_) ?_
    · refine ⟨_, rfl, _, _, rfl, rfl, _, rfl, by omega, by omega, for_range (lo := 0) (n := ((s : Int) - 1).toNat) (fun i σ H' => ∃ (n : Nat) (y : Option V), σ = [some (.ref p), some (.int (s : Int)), some (.int (n : Int)), y] ∧ n < 10 ^ (i + 1) ∧ Sv [p] H H' ∧ Pool H' p) ⟨n, none, rfl, by simpa using n9, sv1, hP1⟩ ?_ ?_⟩
      · rintro i σ H' hi ⟨n, y, rfl, hb, sv, hP'⟩
        refine ⟨_, rfl, _, _, rfl, rfl, .inl ⟨by decide, by decide⟩, .ref p, rfl, p, _, rfl, hP', by decide, by decide, fun H3 k sv3 hP3 k0 k1 => ⟨_, _, rfl, rfl, ?_⟩⟩
        obtain ⟨j, rfl⟩ := Int.eq_ofNat_of_zero_le k0
        refine ⟨10 * n + j, some (.int (0 + (i : Int))), by rw [show ((10 * n + j : Nat) : Int) = 10 * (n : Int) + (j : Int) by omega]; rfl, ?_, sv.trans sv3, hP3⟩
        rw [Nat.pow_succ]
        omega
      · rintro σ H' ⟨n, y, rfl, hb, sv, hP'⟩
        refine hn _ _ ⟨n, y, rfl, ?_, sv, hP'⟩
        exact Nat.lt_of_lt_of_le hb (Nat.pow_le_pow_right (by decide) (by omega))
    rintro _ H1 ⟨n, y, rfl, hb, sv1, hP1⟩
    refine ⟨.ref p, rfl, p, _, rfl, hP1, by decide, by decide, fun H2 k sv2 hP2 k0 k1 => ⟨rfl, _, rfl, ?_⟩⟩
    refine ite2 (fun e => ?_) (fun e => ?_)
    · exact ⟨_, rfl, _, _, rfl, rfl, q _ _ (sv1.trans sv2) hP2 (by omega)⟩
    · exact ⟨_, rfl, q _ _ (sv1.trans sv2) hP2 (by omega)⟩

def spLetters : Sp := fun vs H Q _ => ∃ p : Addr, vs = [.ref p] ∧ Pool H p ∧ ∀ H' z, Sv [p] H H' → Pool H' p → isWord z = true → Q (.str z) H'
theorem word_of {z : Str} (h1 : 1 ≤ z.length) (h2 : z.length ≤ 20) (h : ∀ c ∈ tl z, c ∈ tl lets) : isWord z = true := by
  unfold isWord
  rw [decide_eq_true h1, decide_eq_true h2, List.all_eq_true.mpr fun c hc => decide_eq_true (h c hc)]
  rfl
theorem ok_law_letters (T : CnT mg t1 t2 t3 t4 t5) (D : HasDef K mg "_law_letters" s_law_letters ["pool"]) (C_law_draw : Has P w K mg base CX0 1 "_law_draw" ["pool", "many"] spDraw) (C_law_run : Has P w K mg base CX0 2 "_law_run" ["pool", "signs", "size"] spRun) :
    Has P w K mg base CX0 3 "_law_letters" ["pool"] spLetters := by
  refine D.has fun f fd F => F.ok sc_law_letters (fun vs H Q E h => ?_) (fun cdv A outer s H vs Q E hr h => ?_)
  · obtain ⟨p, rfl, _⟩ := h; rfl
  · obtain ⟨p, rfl, hP, q⟩ := h
    refine ⟨_, (pss_cons (ps_set (i := 1) sc_law_letters.nd rfl (Or.inl rfl) (pe_ix (show IxR _ (rIxT K) from ix_tup) (pe_tup (pa_cons pe_int (pa_cons pe_int (pa_cons pe_int (pa_cons pe_int pa_nil))))) (pe_has C_law_draw (hr.mono (by omega)) pass0 (pa_cons (pv 0) (pa_cons pe_int pa_nil))) (fun _ _ => rfl)))
  (pss_cons (ps_if (pt_cmpR op_eq (pe_has C_law_draw (hr.mono (by omega)) pass0 (pa_cons (pv 0) (pa_cons pe_int pa_nil))) pe_int (nomark _))
  (pss_one (ps_set (i := 1) sc_law_letters.nd rfl (Or.inl rfl) (pe_op op_add pe_int (pe_has C_law_draw (hr.mono (by omega)) pass0 (pa_cons (pv 0) (pa_cons pe_int pa_nil))))))
  pss_nil)
  (pss_one (ps_ret (pe_has C_law_run (hr.mono (by omega)) pass0 (pa_cons (pv 0) (pa_cons pe_str (pa_cons (pv 1) pa_nil)))))))), ?_⟩
    have hsz := sizeLine_eq
    refine cutSeq (fun σ' H' => ∃ s : Nat, σ' = [some (.ref p), some (.int (s : Int))] ∧ 1 ≤ s ∧ s ≤ 20 ∧ Sv [p] H H' ∧ Pool H' p) (fun nx hn => ?_) ?_
    · refine ⟨by show 4 ≤ sizeLine; omega, fun t nt => ⟨.ref p, rfl, p, _, rfl, hP.new nt, by decide, by decide, fun H1 k sv hP1 k0 k1 => ?_⟩⟩
      have pt : p ≠ t := fun e => by obtain ⟨a, b, c, e2⟩ := hP; rw [e] at e2; rw [e2] at nt; cases nt
      have ht : H1 t = some (.tup [.int 1, .int 2, .int 4, .int 20]) := sv t _ (by simpa using pt.symm) upd_same
      obtain ⟨s, e, s1, s2⟩ := pick_len k0 k1
      exact ⟨t, _, k, _, rfl, rfl, .inl (.inl ht), e, hn _ _ ⟨s, rfl, s1, s2, (Sv.new nt).trans sv, hP1⟩⟩
    rintro _ H1 ⟨s, rfl, l1, l2, sv1, hP1⟩
    refine cutSeq (fun σ' H' => ∃ s : Nat, σ' = [some (.ref p), some (.int (s : Int))] ∧ 1 ≤ s ∧ s ≤ 20 ∧ Sv [p] H H' ∧ Pool H' p) (fun nx hn => ?_) ?_
    · refine ⟨.ref p, rfl, p, _, rfl, hP1, by decide, by decide, fun H2 k sv2 hP2 k0 k1 => ⟨rfl, _, rfl, ?_⟩⟩
      refine ite2 (fun e => ?_) (fun e => hn _ _ ⟨s, rfl, l1, l2, sv1.trans sv2, hP2⟩)
      refine ⟨.ref p, rfl, p, _, rfl, hP2, by decide, by decide, fun H3 k sv3 hP3 k0 k1 => ⟨_, _, rfl, rfl, ?_⟩⟩
      obtain ⟨j, rfl⟩ := Int.eq_ofNat_of_zero_le k0
      exact hn _ _ ⟨1 + j, by rw [show ((1 + j : Nat) : Int) = 1 + (j : Int) by omega]; rfl, by omega, by omega, (sv1.trans sv2).trans sv3, hP3⟩
    rintro _ H1 ⟨s, rfl, l1, l2, sv1, hP1⟩
    refine ⟨.ref p, rfl, _, rfl, p, lets, s, rfl, hP1, by decide +kernel, by decide +kernel, by omega, fun H2 z sv2 hP2 hz hc => ?_⟩
    exact q _ _ (sv1.trans sv2) hP2 (word_of (by omega) (by omega) hc)
end
end RS

namespace RS
open PySem PySem.Spec PyProof.Rows L2 TL

abbrev s_law_parts : Stmt := topS 47
theorem sc_law_parts : FnScope ["pool", "many", "rows", "k", "way", "back"] ["pool", "many"] (defScope s_law_parts) := ⟨rfl, rfl, rfl, by decide +kernel, rfl, by decide +kernel, by decide +kernel⟩

/-! ### what is drawn -/
theorem int_len {i : Int} (h : i.natAbs < 10 ^ 60) : (Str.ofString (toString i)).length ≤ 61 := by
  rcases int_signs i with ⟨n, rfl, e⟩ | ⟨n, hn, rfl, e⟩
  · rw [len_tl, e]
    have := numL_len (n := n) (k := 60) (by decide) (by simpa using h)
    omega
  · rw [len_tl, e, List.length_cons]
    have := numL_len (n := n) (k := 60) (by decide) (by omega)
    omega
theorem wsum_one (a : Str) : wsum [a] = a.length + 1 := by rw [wsum_cons, wsum_nil]
/-- the rows are not too deep: n rows at most may be open -/
def okD (n : Nat) : List (List D) → Prop
  | [] => True
  | x :: r => (∀ d ∈ x, dep d + (r.length + 1) ≤ n) ∧ okD n r
/-- all that is in the rows is right -/
def okR : List (List D) → Prop
  | [] => True
  | x :: r => okL x ∧ okR r
def wt : List (List D) → Nat
  | [] => 0
  | x :: r => wsum (toksL x) + 4 + wt r
theorem wsum_tup (ds : List D) : wsum (toks (.tup ds)) = wsum (toksL ds) + 4 := by
  show wsum (lb :: (toksL ds ++ [rb])) = _
  rw [wsum_cons, wsum_append, wsum_one, show lb.length = 1 by decide +kernel, show rb.length = 1 by decide +kernel]
  omega
theorem wt_put {x : List D} {d : D} {r : List (List D)} : wt ((x ++ [d]) :: r) = wt (x :: r) + wsum (toks d) := by
  show wsum (toksL (x ++ [d])) + 4 + wt r = wsum (toksL x) + 4 + wt r + wsum (toks d)
  rw [toksL_append, wsum_append, toksL_one]
  omega
theorem wt_pop {x y : List D} {r : List (List D)} : wt ((y ++ [.tup x]) :: r) = wt (x :: y :: r) := by
  rw [wt_put, wsum_tup]
  show wsum (toksL y) + 4 + wt r + _ = wsum (toksL x) + 4 + (wsum (toksL y) + 4 + wt r)
  omega
theorem okL_one {d : D} (h : ok d) : okL [d] := ⟨h, trivial⟩
theorem ok_toks {d : D} (h : ok d) : 1 ≤ (toks d).length := by
  have := toks_ne h
  cases hq : toks d with
  | nil => exact absurd hq this
  | cons a b => simp
theorem okL_len : ∀ {ds : List D}, okL ds → ds.length ≤ (toksL ds).length
  | [], _ => Nat.le_refl _
  | d :: r, h => by
    show r.length + 1 ≤ (toks d ++ toksL r).length
    rw [List.length_append]
    have := okL_len h.2
    have := ok_toks h.1
    omega
theorem wt_row {x : List D} {r : List (List D)} (h : okL x) : x.length ≤ wt (x :: r) := by
  have := okL_len h
  have := len_le_wsum (toksL x)
  show _ ≤ wsum (toksL x) + 4 + wt r
  omega
theorem okD_put {n : Nat} {x : List D} {d : D} {r : List (List D)} (h : okD n (x :: r)) (hd : dep d + (r.length + 1) ≤ n) : okD n ((x ++ [d]) :: r) := by
  refine ⟨fun e he => ?_, h.2⟩
  rcases List.mem_append.mp he with he | he
  · exact h.1 e he
  · have : e = d := by simpa using he
    rw [this]; exact hd
theorem okD_pop {n : Nat} {x y : List D} {r : List (List D)} (h : okD n (x :: y :: r)) (hn : r.length + 2 ≤ n) : okD n ((y ++ [.tup x]) :: r) := by
  refine okD_put h.2 ?_
  have : depL x ≤ n - (r.length + 2) := depL_le.mpr fun d hd => by
    have := h.1 d hd
    simp only [List.length_cons] at this
    omega
  show 1 + depL x + (r.length + 1) ≤ n
  omega
theorem okD_push {n : Nat} {st : List (List D)} (h : okD n st) : okD n ([] :: st) := ⟨fun d hd => by simp at hd, h⟩
theorem svput {m : List Addr} {H0 H : Hp} {a : Addr} {o : HO} (s : Sv m H0 H) (n : H0 a = none) : Sv m H0 (upd H a o) := fun b x hb e => by
  rw [upd_ne (ne_of_none e n)]
  exact s b x hb e

section
variable {P : Program} {w : World} {K : PySem.W.Frag} {mg : Str → Option Value} {base : Heap} {t1 t2 t3 t4 t5 : Tok} {C fI : Addr}

theorem Pool.upd {H : Hp} {p a : Addr} {o : HO} (h : Pool H p) (n : a ≠ p) : Pool (upd H a o) p := by
  obtain ⟨x, y, z, e⟩ := h
  exact ⟨x, y, z, by rw [upd_ne n.symm]; exact e⟩
theorem Pool.ne {H : Hp} {p a : Addr} (h : Pool H p) (n : H a = none) : a ≠ p := fun e => by
  obtain ⟨x, y, z, q⟩ := h
  rw [e, q] at n; cases n
/-- behind a draw the rows stand -/
theorem Stk.drawn {H H' : Hp} {p l : Addr} {rs : List Addr} {st : List (List D)} (S : Stk K H l rs st) (s : Sv [p] H H') (hP : Pool H p) (n : ∀ b ∈ l :: rs, b ≠ p) : Stk K H' l rs st :=
  S.sv s (s.tk fun b hb => by
    have : b = p := by simpa using hb
    exact this ▸ hP.isL) fun b hb hc => n b hb (by simpa using hc)

structure PartsAt (K : PySem.W.Frag) (n : Nat) (p l : Addr) (H H' : Hp) (rs : List Addr) (st : List (List D)) (c : Nat) : Prop where
  sv : Sv [p] H H'
  pool : Pool H' p
  fr : ∀ b ∈ l :: rs, H b = none
  stk : Stk K H' l rs st
  len : st.length ≤ n
  one : 1 ≤ st.length
  deep : okD n st
  right : okR st
  small : wt st ≤ 4 + 62 * c
section
variable {n : Nat} {p l : Addr} {H H' : Hp} {rs : List Addr} {st : List (List D)} {c : Nat}
theorem PartsAt.ne (A : PartsAt K n p l H H' rs st c) (hP : Pool H p) : ∀ b ∈ l :: rs, b ≠ p := fun b hb => hP.ne (A.fr b hb)
theorem PartsAt.drawn {H2 : Hp} (A : PartsAt K n p l H H' rs st c) (hP : Pool H p) (s : Sv [p] H' H2) (h2 : Pool H2 p) : PartsAt K n p l H H2 rs st c :=
  { A with sv := A.sv.trans s, pool := h2, stk := A.stk.drawn s A.pool (A.ne hP) }
theorem PartsAt.more {d : Nat} (A : PartsAt K n p l H H' rs st c) (h : c ≤ d) : PartsAt K n p l H H' rs st d := { A with small := by have := A.small; omega }
/-- rows.append([]) -/
theorem PartsAt.push {q : Addr} (A : PartsAt K n p l H H' rs st c) (hP : Pool H p) (h : st.length < n) (nq : H' q = none) : PartsAt K n p l H (upd (upd H' q (.lst [])) l (.lst ((q :: rs).reverse.map V.ref))) (q :: rs) ([] :: st) (c + 1) where
  sv := svput (svput A.sv (A.sv.free nq (by simpa using A.pool.ne nq))) (A.fr l (by simp))
  pool := (A.pool.new nq).upd (A.ne hP l (by simp))
  fr := fun b hb => by
    have nq' : H q = none := A.sv.free nq (by simpa using A.pool.ne nq)
    rcases List.mem_cons.mp hb with rfl | hb
    · exact A.fr _ (by simp)
    · rcases List.mem_cons.mp hb with rfl | hb
      · exact nq'
      · exact A.fr b (by simp [hb])
  stk := A.stk.push nq
  len := by simp only [List.length_cons]; omega
  one := by simp
  deep := okD_push A.deep
  right := ⟨trivial, A.right⟩
  small := by
    show wsum (toksL []) + 4 + wt st ≤ _
    have := A.small
    have e : wsum (toksL []) = 0 := rfl
    rw [e]
    omega
/-- rows[-1].append(d) -/
theorem PartsAt.put {r : Addr} {ds : List D} {d : D} {v : V} {xs : List V} (A : PartsAt K n p l H H' (r :: rs) (ds :: st) c) (hP : Pool H p) (hr : H' r = some (.lst xs)) (hv : Rp K H' d v) (hd : ok d) (h0 : dep d = 0) (hw : wsum (toks d) ≤ 62) :
    PartsAt K n p l H (upd H' r (.lst (xs ++ [v]))) (r :: rs) ((ds ++ [d]) :: st) (c + 1) where
  sv := svput A.sv (A.fr r (by simp))
  pool := A.pool.upd (A.ne hP r (by simp))
  fr := A.fr
  stk := A.stk.put hr hv
  len := A.len
  one := by simp
  deep := okD_put A.deep (by
    have := A.len
    simp only [List.length_cons] at this
    omega)
  right := ⟨okL_append.mpr ⟨A.right.1, okL_one hd⟩, A.right.2⟩
  small := by rw [wt_put]; have := A.small; omega
/-- back = tuple(rows.pop()); rows[-1].append(back) -/
theorem PartsAt.pop {r r2 t : Addr} {ds ds2 : List D} {xs xs2 : List V} (A : PartsAt K n p l H H' (r :: r2 :: rs) (ds :: ds2 :: st) c) (hP : Pool H p) (hx : H' r = some (.lst xs)) (rx : RpL K H' ds xs) (hx2 : H' r2 = some (.lst xs2))
    (nt : (upd H' l (.lst ((r2 :: rs).reverse.map V.ref))) t = none) :
    PartsAt K n p l H (upd (upd (upd H' l (.lst ((r2 :: rs).reverse.map V.ref))) t (.tup xs)) r2 (.lst (xs2 ++ [.ref t]))) (r2 :: rs) ((ds2 ++ [.tup ds]) :: st) c := by
  obtain ⟨Sp, ys, hy, ry, hy'⟩ := A.stk.pop
  have Sn := Sp.same (Sv.nil (Sv.new (o := .tup xs) nt))
  have rt : Rp K (upd (upd H' l (.lst ((r2 :: rs).reverse.map V.ref))) t (.tup xs)) (.tup ds) (.ref t) := Rp.made nt (rx.keep (tk_set ⟨_, A.stk.top⟩))
  have fl := A.fr l (by simp)
  have fr2 := A.fr r2 (by simp)
  have svl : Sv [p] H (upd H' l (.lst ((r2 :: rs).reverse.map V.ref))) := svput A.sv fl
  have pl := A.pool.upd (o := .lst ((r2 :: rs).reverse.map V.ref)) (A.ne hP l (by simp))
  have nt' : H t = none := svl.free nt (by simpa using pl.ne nt)
  have nd := List.nodup_cons.mp A.stk.nd
  have rl : r2 ≠ l := fun e => nd.1 (by rw [e]; simp)
  have hx2' : (upd (upd H' l (.lst ((r2 :: rs).reverse.map V.ref))) t (.tup xs)) r2 = some (.lst xs2) := by
    have : (upd H' l (.lst ((r2 :: rs).reverse.map V.ref))) r2 = some (.lst xs2) := by rw [upd_ne rl]; exact hx2
    rw [upd_ne (ne_of_none this nt)]
    exact this
  have hlen := A.len
  simp only [List.length_cons] at hlen
  exact {
    sv := svput (svput svl nt') fr2
    pool := (pl.new nt).upd (A.ne hP r2 (by simp))
    fr := fun b hb => A.fr b (by
      rcases List.mem_cons.mp hb with rfl | hb
      · simp
      · simp [List.mem_cons.mp hb])
    stk := Sn.put hx2' rt
    len := by simp only [List.length_cons]; omega
    one := by simp
    deep := okD_pop A.deep (by omega)
    right := ⟨okL_append.mpr ⟨A.right.2.1, okL_one A.right.1⟩, A.right.2.2⟩
    small := by rw [wt_pop]; exact A.small }
end

def spParts (K : PySem.W.Frag) (n : Nat) : Sp := fun vs H Q _ => ∃ (p : Addr) (m : Nat), vs = [.ref p, .int (m : Int)] ∧ Pool H p ∧ m ≤ 400 ∧
  ∀ H' v ds, Sv [p] H H' → Pool H' p → Rp K H' (.tup ds) v → okL ds → depL ds ≤ n → wsum (toksL ds) ≤ 62 * m → Q v H'
theorem ok_law_parts (T : CnT mg t1 t2 t3 t4 t5) (D : HasDef K mg "_law_parts" s_law_parts ["pool", "many"]) (C_law_draw : Has P w K mg base CX0 1 "_law_draw" ["pool", "many"] spDraw)
    (C_law_letters : Has P w K mg base CX0 3 "_law_letters" ["pool"] spLetters) (C_law_number : Has P w K mg base CX0 2 "_law_number" ["pool"] spNumber) :
    Has P w K mg base CX0 4 "_law_parts" ["pool", "many"] (spParts K 12) := by
  refine D.has fun f fd F => F.ok sc_law_parts (fun vs H Q E h => ?_) (fun cdv A outer s H vs Q E hr h => ?_)
  · obtain ⟨p, m, rfl, _⟩ := h; rfl
  · obtain ⟨p, m, rfl, hP, hm, q⟩ := h
    refine ⟨_, (pss_cons (ps_set (i := 2) sc_law_parts.nd rfl (Or.inl rfl) (pe_lst (pa_cons (pe_lst pa_nil) pa_nil)))
  (pss_cons (ps_for PassesOwn.never rfl (pi_range1 (by rfl) T.m_range (pa_cons (pv 1) pa_nil)) (pg_name (i := 3) sc_law_parts.nd rfl (Or.inl rfl))
  (pss_cons (ps_set (i := 4) sc_law_parts.nd rfl (Or.inl rfl) (pe_has C_law_draw (hr.mono (by omega)) pass0 (pa_cons (pv 0) (pa_cons pe_int pa_nil))))
  (pss_one (ps_if (PW.pt (pw_and (pt_cmpR op_lt (pv 4) pe_int (nomark _)) (pw_and1 (pt_cmpR op_lt (pe_callB call_len_seq (by rfl) T.m_len (by decide +kernel) (pa_cons (pv 2) pa_nil)) pe_int (nomark _)))))
  (pss_one (ps_expr (pe_bm PySem.F.plainAttrs_list PySem.F.slot_list_append PySem.F.type_list_append mt_append (pv 2) (pa_cons (pe_lst pa_nil) pa_nil))))
  (pss_one (ps_if (PW.pt (pw_and (pt_cmpR op_eq (pv 4) pe_int (nomark _)) (pw_and1 (pt_cmpR op_gt (pe_callB call_len_seq (by rfl) T.m_len (by decide +kernel) (pa_cons (pv 2) pa_nil)) pe_int (nomark _)))))
  (pss_cons (ps_set (i := 5) sc_law_parts.nd rfl (Or.inl rfl) (pe_callTy call_tuple_of (by rfl) T.m_tuple (by decide +kernel) (pa_cons (pe_bm0 PySem.F.plainAttrs_list PySem.F.slot_list_pop PySem.F.type_list_pop mt_pop (pv 2)) pa_nil)))
  (pss_one (ps_expr (pe_bm PySem.F.plainAttrs_list PySem.F.slot_list_append PySem.F.type_list_append mt_append (pe_ix ix_list (pv 2) (pe_un un_neg pe_int) (fun _ _ => rfl)) (pa_cons (pv 5) pa_nil)))))
  (pss_one (ps_if (pt_cmpR op_eq (pv 4) pe_int (nomark _))
  (pss_one (ps_expr (pe_bm PySem.F.plainAttrs_list PySem.F.slot_list_append PySem.F.type_list_append mt_append (pe_ix ix_list (pv 2) (pe_un un_neg pe_int) (fun _ _ => rfl)) (pa_cons (pe_has C_law_letters (hr.mono (by omega)) pass0 (pa_cons (pv 0) pa_nil)) pa_nil))))
  (pss_one (ps_expr (pe_bm PySem.F.plainAttrs_list PySem.F.slot_list_append PySem.F.type_list_append mt_append (pe_ix ix_list (pv 2) (pe_un un_neg pe_int) (fun _ _ => rfl)) (pa_cons (pe_has C_law_number (hr.mono (by omega)) pass0 (pa_cons (pv 0) pa_nil)) pa_nil))))))))))))
  (pss_cons (ps_for PassesOwn.never rfl (pi_range1 (by rfl) T.m_range (pa_cons (pe_op op_sub (pe_callB call_len_seq (by rfl) T.m_len (by decide +kernel) (pa_cons (pv 2) pa_nil)) pe_int) pa_nil)) (pg_name (i := 3) sc_law_parts.nd rfl (Or.inl rfl))
  (pss_cons (ps_set (i := 5) sc_law_parts.nd rfl (Or.inl rfl) (pe_callTy call_tuple_of (by rfl) T.m_tuple (by decide +kernel) (pa_cons (pe_bm0 PySem.F.plainAttrs_list PySem.F.slot_list_pop PySem.F.type_list_pop mt_pop (pv 2)) pa_nil)))
  (pss_one (ps_expr (pe_bm PySem.F.plainAttrs_list PySem.F.slot_list_append PySem.F.type_list_append mt_append (pe_ix ix_list (pv 2) (pe_un un_neg pe_int) (fun _ _ => rfl)) (pa_cons (pv 5) pa_nil))))))
  (pss_one (ps_ret (pe_callTy call_tuple_of (by rfl) T.m_tuple (by decide +kernel) (pa_cons (pe_ix ix_list (pv 2) pe_int (fun _ _ => rfl)) pa_nil))))))), ?_⟩
    have hsz := sizeLine_eq
    refine cutSeq (fun σ' H' => ∃ l r0, σ' = [some (.ref p), some (.int (m : Int)), some (.ref l), none, none, none] ∧ PartsAt K 13 p l H H' [r0] [[]] 0) (fun nx hn => ?_) ?_
    · refine ⟨Nat.zero_le _, fun r0 nr0 => ⟨by show 1 ≤ sizeLine; omega, fun l nl => ?_⟩⟩
      have nl' : H l = none := (Sv.nil (Sv.new nr0)).free nl
      have r0l : r0 ≠ l := fun e => by rw [e, upd_same] at nl; cases nl
      have A0 : PartsAt K 13 p l H (upd (upd H r0 (.lst [])) l (.lst [.ref r0])) [r0] [[]] 0 := {
        sv := svput (svput (Sv.refl _ _) nr0) nl'
        pool := (hP.new nr0).new nl
        fr := fun b hb => by
          rcases List.mem_cons.mp hb with rfl | hb
          · exact nl'
          · have : b = r0 := by simpa using hb
            rw [this]; exact nr0
        stk := by
          refine ⟨upd_same, ?_, ⟨[], ?_, rfl⟩, trivial⟩
          · simp [r0l.symm]
          · rw [upd_ne r0l, upd_same]
        len := by simp
        one := by simp
        deep := ⟨fun d hd => by simp at hd, trivial⟩
        right := ⟨trivial, trivial⟩
        small := by decide }
      exact hn _ _ ⟨l, r0, rfl, A0⟩
    rintro _ H9 ⟨l, r0, rfl, A0⟩
    refine cutSeq (fun σ' H' => ∃ y3 y4 y5 rs st, σ' = [some (.ref p), some (.int (m : Int)), some (.ref l), y3, y4, y5] ∧ PartsAt K 13 p l H H' rs st m) (fun nx hn => ?_) ?_
    · refine ⟨_, rfl, _, rfl, by omega, by omega, for_range (lo := 0) (n := ((m : Int)).toNat) (fun i σ' H' => ∃ y3 y4 y5 rs st, σ' = [some (.ref p), some (.int (m : Int)), some (.ref l), y3, y4, y5] ∧ PartsAt K 13 p l H H' rs st i) ⟨none, none, none, [r0], [[]], rfl, A0⟩ ?_ ?_⟩
      · rintro i σ H0 hi ⟨y3, y4, y5, rs, st, rfl, A⟩
        have him : i < m := by omega
        -- way = _law_draw(pool, 6)
        refine cutSeq (fun σ' H' => ∃ k : Int, σ' = [some (.ref p), some (.int (m : Int)), some (.ref l), some (.int (0 + (i : Int))), some (.int k), y5] ∧ PartsAt K 13 p l H H' rs st i) (fun nx hn => ?_) ?_
        · refine ⟨.ref p, rfl, p, _, rfl, A.pool, by decide, by decide, fun H1 k sv1 hP1 k0 k1 => ?_⟩
          exact hn _ _ ⟨k, rfl, A.drawn hP sv1 hP1⟩
        rintro _ H1 ⟨k, rfl, A⟩
        have one := A.one
        have hlen := A.len
        obtain ⟨ds, st, rfl⟩ : ∃ ds st', st = ds :: st' := by
          cases st with
          | nil => simp at one
          | cons a b => exact ⟨a, b, rfl⟩
        obtain ⟨r, rs, rfl⟩ : ∃ r rs', rs = r :: rs' := by
          have := A.stk.len
          cases rs with
          | nil => simp at this
          | cons a b => exact ⟨a, b, rfl⟩
        have hrl := A.stk.len
        have small := A.small
        obtain ⟨⟨xs, hx, rx⟩, hrest⟩ := A.stk.rows
        have hxl : xs.length < sizeLine := by
          have := rx.len
          have := wt_row (r := st) A.right.1
          omega
        have hlr : (((r :: rs).reverse.map V.ref).length : Int) = ((ds :: st).length : Nat) := by rw [List.length_map, List.length_reverse, hrl]
        have late : ∀ (H2 : Hp) (v : V) (d : RS.D), Sv [p] H1 H2 → Pool H2 p → Rp K H2 d v → ok d → dep d = 0 → wsum (toks d) ≤ 62 → ∃ xs : List V, H2 r = some (.lst xs) ∧ xs.length < sizeLine ∧ PartsAt K 13 p l H (upd H2 r (.lst (xs ++ [v]))) (r :: rs) ((ds ++ [d]) :: st) (i + 1) := fun H2 v d sv hP2 rv od d0 dw => by
          have A2 := A.drawn hP sv hP2
          obtain ⟨⟨ys, hy, ry⟩, _⟩ := A2.stk.rows
          refine ⟨ys, hy, ?_, A2.put hP hy rv od d0 dw⟩
          have := ry.len
          have := wt_row (r := st) A.right.1
          omega
        refine cutIf (decide (k < 2 ∧ (ds :: st).length < 13)) (fun Q' h' => ?_) ?_
        · refine ⟨_, rfl, _, _, rfl, rfl, _, rfl, ?_⟩
          refine ite2 (fun e1 => ?_) (fun e1 => ?_)
          · refine ⟨.ref l, rfl, l, _, rfl, .inl (.inl (.inl A.stk.top)), _, _, rfl, rfl, _, rfl, ?_⟩
            rw [hlr]
            have e : decide (((ds :: st).length : Nat) < (13 : Int)) = decide (k < 2 ∧ (ds :: st).length < 13) := by
              have := of_decide_eq_true e1
              by_cases h : (ds :: st).length < 13
              · rw [decide_eq_true (show k < 2 ∧ _ from ⟨this, h⟩), decide_eq_true (by omega)]
              · rw [decide_eq_false (show ¬ (k < 2 ∧ _) from fun z => h z.2), decide_eq_false (by omega)]
            rw [e]
            exact h'
          · have e : decide (k < 2 ∧ (ds :: st).length < 13) = false := decide_eq_false fun z => e1 (decide_eq_true z.1)
            rw [e] at h'
            exact h'
        refine ite2 (fun e1 => ?_) (fun e1 => ?_)
        · -- rows.append([])
          have h12 := (of_decide_eq_true e1).2
          refine ⟨.ref l, rfl, .inl ⟨rfl, _, .inl (.inl A.stk.top)⟩, Nat.zero_le _, fun a na => ?_⟩
          have la : l ≠ a := fun e => by have := A.stk.top; rw [e, na] at this; cases this
          refine ⟨l, _, _, rfl, rfl, by rw [upd_ne la]; exact A.stk.top, ?_, ?_⟩
          · rw [List.length_map, List.length_reverse, hrl]; omega
          have eq : (r :: rs).reverse.map V.ref ++ [V.ref a] = (a :: r :: rs).reverse.map V.ref := by
            rw [List.reverse_cons (a := a), List.map_append]; rfl
          rw [eq]
          exact ⟨_, _, _, _, _, rfl, A.push hP h12 na⟩
        refine cutIf (decide (k = 2 ∧ 1 < (ds :: st).length)) (fun Q' h' => ?_) ?_
        · refine ⟨_, rfl, rfl, _, rfl, ?_⟩
          refine ite2 (fun e2 => ?_) (fun e2 => ?_)
          · refine ⟨.ref l, rfl, l, _, rfl, .inl (.inl (.inl A.stk.top)), _, _, rfl, rfl, _, rfl, ?_⟩
            rw [hlr]
            have e : decide ((1 : Int) < ((ds :: st).length : Nat)) = decide (k = 2 ∧ 1 < (ds :: st).length) := by
              have := V.int.inj (of_decide_eq_true e2)
              by_cases h : 1 < (ds :: st).length
              · rw [decide_eq_true (show k = 2 ∧ _ from ⟨this, h⟩), decide_eq_true (by omega)]
              · rw [decide_eq_false (show ¬ (k = 2 ∧ _) from fun z => h z.2), decide_eq_false (by omega)]
            rw [e]
            exact h'
          · have e : decide (k = 2 ∧ 1 < (ds :: st).length) = false := decide_eq_false fun z => e2 (decide_eq_true (congrArg V.int z.1))
            rw [e] at h'
            exact h'
        refine ite2 (fun e2 => ?_) (fun e2 => ?_)
        · -- back = tuple(rows.pop()); rows[-1].append(back)
          have h2 := (of_decide_eq_true e2).2
          obtain ⟨ds2, st, rfl⟩ : ∃ ds st', st = ds :: st' := by
            cases st with
            | nil => simp at h2
            | cons a b => exact ⟨a, b, rfl⟩
          obtain ⟨r2, rs, rfl⟩ : ∃ r rs', rs = r :: rs' := by
            cases rs with
            | nil => simp at hrl
            | cons a b => exact ⟨a, b, rfl⟩
          obtain ⟨⟨xs2, hx2, rx2⟩, _⟩ := hrest
          refine ⟨.ref l, rfl, .inl ⟨rfl, _, .inl (.inl A.stk.top)⟩, l, _, .ref r, rfl, rfl, A.stk.top, popped.2, ?_⟩
          rw [popped.1]
          obtain ⟨Sp, ys, hy, ry, hy'⟩ := A.stk.pop
          rw [hx] at hy
          cases hy
          refine ⟨r, xs, rfl, .inl ⟨.inl (.inl hy'), fun t nt => ?_⟩⟩
          have A' := A.pop hP hx rx hx2 nt
          have Sn := Sp.same (Sv.nil (Sv.new (o := .tup xs) nt))
          have nd := List.nodup_cons.mp A.stk.nd
          have hx2' : (upd (upd H1 l (.lst ((r2 :: rs).reverse.map V.ref))) t (.tup xs)) r2 = some (.lst xs2) := by
            have : (upd H1 l (.lst ((r2 :: rs).reverse.map V.ref))) r2 = some (.lst xs2) := by rw [upd_ne (fun e => nd.1 (by rw [← e]; simp))]; exact hx2
            rw [upd_ne (ne_of_none this nt)]
            exact this
          refine ⟨.ref l, rfl, 1, rfl, l, _, _, .ref r2, rfl, rfl, .inl (.inl Sn.top), Sn.last, .inl ⟨rfl, _, .inl (.inl hx2')⟩, .ref t, rfl, r2, xs2, _, rfl, rfl, hx2', ?_, ?_⟩
          · have := rx2.len
            have h5 : wt (ds :: ds2 :: st) = wsum (toksL ds) + 4 + wt (ds2 :: st) := rfl
            have := wt_row (r := st) A.right.2.1
            omega
          exact ⟨_, _, _, _, _, rfl, A'.more (Nat.le_succ _)⟩
        refine cutIf (decide (k = 3)) (fun Q' h' => ?_) ?_
        · refine ⟨_, rfl, rfl, _, rfl, ?_⟩
          have e : decide (V.int k = V.int 3) = decide (k = 3) := by
            by_cases h : k = 3
            · rw [decide_eq_true h, decide_eq_true (congrArg V.int h)]
            · rw [decide_eq_false h, decide_eq_false fun z => h (V.int.inj z)]
          rw [e]
          exact h'
        refine ite2 (fun e3 => ?_) (fun e3 => ?_)
        · refine ⟨.ref l, rfl, 1, rfl, l, _, _, .ref r, rfl, rfl, .inl (.inl A.stk.top), A.stk.last, .inl ⟨rfl, _, .inl (.inl hx)⟩, .ref p, rfl, p, rfl, A.pool, fun H2 z sv2 hP2 hz => ?_⟩
          obtain ⟨ys, hy, hyl, A'⟩ := late H2 (.str z) (.str z) sv2 hP2 rfl hz rfl (by
            show wsum [z] ≤ 62
            rw [wsum_one]
            have := (word_letters hz).2.2
            rw [len_tl]
            omega)
          exact ⟨r, ys, _, rfl, rfl, hy, hyl, _, _, _, _, _, rfl, A'⟩
        · refine ⟨.ref l, rfl, 1, rfl, l, _, _, .ref r, rfl, rfl, .inl (.inl A.stk.top), A.stk.last, .inl ⟨rfl, _, .inl (.inl hx)⟩, .ref p, rfl, p, rfl, A.pool, fun H2 z sv2 hP2 hz => ?_⟩
          obtain ⟨ys, hy, hyl, A'⟩ := late H2 (.int z) (.int z) sv2 hP2 rfl hz rfl (by
            show wsum [Str.ofString (toString z)] ≤ 62
            rw [wsum_one]
            have := int_len hz
            omega)
          exact ⟨r, ys, _, rfl, rfl, hy, hyl, _, _, _, _, _, rfl, A'⟩
      · rintro σ H0 ⟨y3, y4, y5, rs, st, rfl, A⟩
        exact hn _ _ ⟨_, _, _, _, _, rfl, A.more (by omega)⟩
    rintro _ H1 ⟨y3, y4, y5, rs0, st0, rfl, A⟩
    have hrl := A.stk.len
    have one := A.one
    refine cutSeq (fun σ' H' => ∃ y3 y4 y5 rs st, σ' = [some (.ref p), some (.int (m : Int)), some (.ref l), y3, y4, y5] ∧ PartsAt K 13 p l H H' rs st m ∧ st.length = 1) (fun nx hn => ?_) ?_
    · have hlen := A.len
      refine ⟨.ref l, rfl, l, _, rfl, .inl (.inl (.inl A.stk.top)), _, _, rfl, rfl, _, rfl, ?_⟩
      rw [List.length_map, List.length_reverse, hrl]
      refine ⟨by omega, by omega, for_range (lo := 0) (n := ((st0.length : Int) - 1).toNat) (fun i σ' H' => ∃ y3 y4 y5 rs st, σ' = [some (.ref p), some (.int (m : Int)), some (.ref l), y3, y4, y5] ∧ PartsAt K 13 p l H H' rs st m ∧ st.length + i = st0.length) ⟨y3, y4, y5, rs0, st0, rfl, A, rfl⟩ ?_ ?_⟩
      · rintro i σ H0 hi ⟨y3, y4, y5, rs, st, rfl, A, hl⟩
        obtain ⟨ds, ds2, st, rfl⟩ : ∃ ds ds2 st', st = ds :: ds2 :: st' := by
          match st, hl with
          | [], h => simp at h; omega
          | [x], h => simp at h; omega
          | x :: y :: z, _ => exact ⟨x, y, z, rfl⟩
        obtain ⟨r, r2, rs, rfl⟩ : ∃ r r2 rs', rs = r :: r2 :: rs' := by
          have := A.stk.len
          match rs, this with
          | [], h => simp at h
          | [x], h => simp at h
          | x :: y :: z, _ => exact ⟨x, y, z, rfl⟩
        obtain ⟨⟨xs, hx, rx⟩, ⟨xs2, hx2, rx2⟩, _⟩ := A.stk.rows
        have small := A.small
        refine ⟨.ref l, rfl, .inl ⟨rfl, _, .inl (.inl A.stk.top)⟩, l, _, .ref r, rfl, rfl, A.stk.top, popped.2, ?_⟩
        rw [popped.1]
        obtain ⟨Sp, ys, hy, ry, hy'⟩ := A.stk.pop
        rw [hx] at hy
        cases hy
        refine ⟨r, xs, rfl, .inl ⟨.inl (.inl hy'), fun t nt => ?_⟩⟩
        have A' := A.pop hP hx rx hx2 nt
        have Sn := Sp.same (Sv.nil (Sv.new (o := .tup xs) nt))
        have nd := List.nodup_cons.mp A.stk.nd
        have hx2' : (upd (upd H0 l (.lst ((r2 :: rs).reverse.map V.ref))) t (.tup xs)) r2 = some (.lst xs2) := by
          have : (upd H0 l (.lst ((r2 :: rs).reverse.map V.ref))) r2 = some (.lst xs2) := by rw [upd_ne (fun e => nd.1 (by rw [← e]; simp))]; exact hx2
          rw [upd_ne (ne_of_none this nt)]
          exact this
        refine ⟨.ref l, rfl, 1, rfl, l, _, _, .ref r2, rfl, rfl, .inl (.inl Sn.top), Sn.last, .inl ⟨rfl, _, .inl (.inl hx2')⟩, .ref t, rfl, r2, xs2, _, rfl, rfl, hx2', ?_, ?_⟩
        · have := rx2.len
          have h5 : wt (ds :: ds2 :: st) = wsum (toksL ds) + 4 + wt (ds2 :: st) := rfl
          have := wt_row (r := st) A.right.2.1
          omega
        · refine ⟨_, _, _, _, _, rfl, A', ?_⟩
          simp only [List.length_cons] at hl ⊢
          omega
      · rintro σ H0 ⟨y3, y4, y5, rs, st, rfl, A, hl⟩
        exact hn _ _ ⟨_, _, _, _, _, rfl, A, by omega⟩
    rintro _ H2 ⟨y3, y4, y5, rs, st, rfl, A, h1⟩
    obtain ⟨ds, rfl⟩ : ∃ ds, st = [ds] := by
      match st, h1 with
      | [x], _ => exact ⟨x, rfl⟩
    obtain ⟨r, rfl⟩ : ∃ r, rs = [r] := by
      have := A.stk.len
      match rs, this with
      | [x], _ => exact ⟨x, rfl⟩
    obtain ⟨⟨xs, hx, rx⟩, _⟩ := A.stk.rows
    refine ⟨.ref l, rfl, l, _, 0, .ref r, rfl, rfl, .inl (.inl A.stk.top), atI_nat (j := 0) rfl, r, xs, rfl, .inl ⟨.inl (.inl hx), fun t nt => ?_⟩⟩
    refine q _ _ ds (A.sv.trans (Sv.new nt)) (A.pool.new nt) (Rp.made nt rx) A.right.1 ?_ ?_
    · refine depL_le.mpr fun d hd => ?_
      have := A.deep.1 d hd
      simp at this
      omega
    · have := A.small
      have e : wt [ds] = wsum (toksL ds) + 4 + 0 := rfl
      omega
end
end RS

namespace RS
open PySem PySem.Spec PyProof.Rows L2 TL

abbrev s_law_sign : Stmt := topS 56
theorem sc_law_sign : FnScope ["pool", "signs"] ["pool"] (defScope s_law_sign) := ⟨rfl, rfl, rfl, by decide +kernel, rfl, by decide +kernel, by decide +kernel⟩
abbrev s_law_token : Stmt := topS 57
theorem sc_law_token : FnScope ["pool", "way", "odd"] ["pool"] (defScope s_law_token) := ⟨rfl, rfl, rfl, by decide +kernel, rfl, by decide +kernel, by decide +kernel⟩
theorem pickS {ss : List Str} {k : Int} (h0 : 0 ≤ k) (h1 : k < ss.length) : ∃ s, s ∈ ss ∧ atI (ss.map V.str) k = some (.str s) := by
  obtain ⟨j, rfl⟩ := Int.eq_ofNat_of_zero_le h0
  have hj : j < ss.length := by omega
  exact ⟨ss[j], List.getElem_mem hj, atI_nat (j := j) (by rw [List.getElem?_map, List.getElem?_eq_getElem hj]; rfl)⟩
theorem pickI {ss : List Int} {k : Int} (h0 : 0 ≤ k) (h1 : k < ss.length) : ∃ s, s ∈ ss ∧ atI (ss.map V.int) k = some (.int s) := by
  obtain ⟨j, rfl⟩ := Int.eq_ofNat_of_zero_le h0
  have hj : j < ss.length := by omega
  exact ⟨ss[j], List.getElem_mem hj, atI_nat (j := j) (by rw [List.getElem?_map, List.getElem?_eq_getElem hj]; rfl)⟩
mutual
theorem wide_of : ∀ {d : D}, ok d → wsum (toks d) ≤ 9000000 → wide d
  | .int _, _, _ => trivial
  | .bl _, _, _ => trivial
  | .str _, _, _ => trivial
  | .tup ds, h, hw => by
    rw [wsum_tup] at hw
    have := okL_len (ds := ds) h
    have := len_le_wsum (toksL ds)
    exact ⟨by omega, wideL_of h (by omega)⟩
theorem wideL_of : ∀ {ds : List D}, okL ds → wsum (toksL ds) ≤ 9000000 → wideL ds
  | [], _, _ => trivial
  | d :: r, h, hw => by
    have e : wsum (toksL (d :: r)) = wsum (toks d) + wsum (toksL r) := wsum_append _ _
    rw [e] at hw
    exact ⟨wide_of h.1 (by omega), wideL_of h.2 (by omega)⟩
end
end RS

namespace RS
open PySem PySem.Spec PyProof.Rows L2 TL

theorem log_small {n : Nat} (h : n < 10 ^ 60) : n.log2 < 1920 := by
  by_cases h0 : n = 0
  · subst h0; decide
  · rw [Nat.log2_lt h0]
    exact Nat.lt_of_lt_of_le h (by decide)
theorem cutS_small {z : Str} {lo hi : Option Int} : (cutS z lo hi).length ≤ z.length := cutS_length z lo hi
/-- a slice of a list of texts -/
theorem cutV_strs (ws : List Str) (lo hi : Option Int) : ∃ us : List Str, cutV (ws.map V.str) lo hi = us.map V.str ∧ wsum us ≤ wsum ws ∧ us.length ≤ ws.length := by
  unfold cutV
  rw [← List.map_drop, ← List.map_take]
  refine ⟨_, rfl, ?_, ?_⟩
  · have tk : ∀ (l : List Str) (n : Nat), wsum (l.take n) ≤ wsum l := fun l n => by
      have e := congrArg wsum (List.take_append_drop n l)
      rw [wsum_append] at e
      omega
    have dr : ∀ (l : List Str) (n : Nat), wsum (l.drop n) ≤ wsum l := fun l n => by
      have e := congrArg wsum (List.take_append_drop n l)
      rw [wsum_append] at e
      omega
    exact Nat.le_trans (tk _ _) (dr _ _)
  · rw [List.length_take, List.length_drop]
    omega
theorem joined_len (ws : List Str) : (Txt.join sp ws).length ≤ wsum ws := by
  rw [join_eq]
  cases ws with
  | nil => exact Nat.zero_le _
  | cons a b =>
    have := join_len (a :: b) (by simp)
    omega
theorem join_fits {ws : List Str} (h : wsum ws ≤ 16000000) : (ws.map (·.length)).sum + ws.length * (" " : Str).length ≤ 16777216 := by
  have e : (" " : Str).length = 1 := sp_len
  rw [e]
  unfold wsum at h
  omega

section
variable {P : Program} {w : World} {K : PySem.W.Frag} {mg : Str → Option Value} {base : Heap} {t1 t2 t3 t4 t5 : Tok} {C fI : Addr}

def spSign : Sp := fun vs H Q _ => ∃ p : Addr, vs = [.ref p] ∧ Pool H p ∧ ∀ H' c, Sv [p] H H' → Pool H' p → Q (.str ⟨#[c]⟩) H'
theorem ok_law_sign (T : CnT mg t1 t2 t3 t4 t5) (Df : HasDef K mg "_law_sign" s_law_sign ["pool"]) (C_law_draw : Has P w K mg base CX0 1 "_law_draw" ["pool", "many"] spDraw) :
    Has P w K mg base CX0 2 "_law_sign" ["pool"] spSign := by
  refine Df.has fun f fd F => F.ok sc_law_sign (fun vs H Q E h => ?_) (fun cdv A outer s H vs Q E hr h => ?_)
  · obtain ⟨p, rfl, _⟩ := h; rfl
  · obtain ⟨p, rfl, hP, q⟩ := h
    refine ⟨_, (pss_cons (ps_set (i := 1) sc_law_sign.nd rfl (Or.inl rfl) pe_str)
  (pss_one (ps_ret (pe_ix ix_str (pv 1) (pe_has C_law_draw (hr.mono (by omega)) pass0 (pa_cons (pv 0) (pa_cons (pe_callB call_len_str (by rfl) T.m_len (by decide +kernel) (pa_cons (pv 1) pa_nil)) pa_nil))) (fun _ _ => rfl))))), ?_⟩
    have hsz := sizeLine_eq
    obtain ⟨S, hS, h0, h1⟩ : ∃ S : Str, S = (" !\"#$&'()*+,-./0123456789:;<=>?@ABCDEFGHIJKLMNOPQRSTUVWXYZ[\\]^_`abcdefghijklmnopqrstuvwxyz{|}~\n\t" : Str) ∧ 0 < S.length ∧ S.length ≤ 1000 := ⟨_, rfl, by decide +kernel, by decide +kernel⟩
    rw [← hS]
    refine ⟨.str S, rfl, .ref p, rfl, .str S, rfl, S, rfl, by omega, p, _, rfl, hP, by omega, by omega, fun H2 k sv2 hP2 k0 k1 => ?_⟩
    obtain ⟨j, rfl⟩ := Int.eq_ofNat_of_zero_le k0
    have hj : j < (tl S).length := by rw [← len_tl]; omega
    exact ⟨S, (j : Int), (tl S)[j], rfl, rfl, by omega, atI_nat (j := j) (by show (tl S)[j]? = _; exact List.getElem?_eq_getElem hj), q _ _ sv2 hP2⟩

def spTok : Sp := fun vs H Q _ => ∃ p : Addr, vs = [.ref p] ∧ Pool H p ∧ ∀ H' z, Sv [p] H H' → Pool H' p → z.length ≤ 100 → Q (.str z) H'
def odd1 : List Str := ["", "0", "-0", "00", "01", "-01", "+1", "-", "--1", "1-", "a1", "1a", "A", "aB", "[]", "[", "]", "[1", "1]", "]["]
def odd2 : List Str := ["1.0", "10", "-10",
  "0x1", "1e1", "-a", "a-b",
  "a.b", "\t", "1\n",
  "\n", "None", "(1)",
  "'a'", "a,", "1,2"]
theorem odd_short : ∀ s ∈ odd1 ++ odd2, s.length ≤ 10 := by
  have : ((odd1 ++ odd2).all fun s => decide (s.length ≤ 10)) = true := by decide +kernel
  intro s hs
  exact of_decide_eq_true (List.all_eq_true.mp this s hs)
theorem ok_law_token (T : CnT mg t1 t2 t3 t4 t5) (Df : HasDef K mg "_law_token" s_law_token ["pool"]) (C_law_draw : Has P w K mg base CX0 1 "_law_draw" ["pool", "many"] spDraw)
    (C_law_run : Has P w K mg base CX0 2 "_law_run" ["pool", "signs", "size"] spRun) (C_law_number : Has P w K mg base CX0 2 "_law_number" ["pool"] spNumber) :
    Has P w K mg base CX0 3 "_law_token" ["pool"] spTok := by
  refine Df.has fun f fd F => F.ok sc_law_token (fun vs H Q E h => ?_) (fun cdv A outer s H vs Q E hr h => ?_)
  · obtain ⟨p, rfl, _⟩ := h; rfl
  · obtain ⟨p, rfl, hP, q⟩ := h
    refine ⟨_, (pss_cons (ps_set (i := 1) sc_law_token.nd rfl (Or.inl rfl) (pe_has C_law_draw (hr.mono (by omega)) pass0 (pa_cons (pv 0) (pa_cons pe_int pa_nil))))
  (pss_cons (ps_if (pt_cmpR op_eq (pv 1) pe_int (nomark _))
  (pss_one (ps_ret (pe_op op_add_str (pe_ix (show IxR _ (rIxT K) from ix_tup) (pe_tup (pa_cons pe_str (pa_cons pe_str pa_nil))) (pe_has C_law_draw (hr.mono (by omega)) pass0 (pa_cons (pv 0) (pa_cons pe_int pa_nil))) (fun _ _ => rfl)) (pe_has C_law_run (hr.mono (by omega)) pass0 (pa_cons (pv 0) (pa_cons pe_str (pa_cons (pe_ix (show IxR _ (rIxT K) from ix_tup) (pe_tup (pa_cons pe_int (pa_cons pe_int (pa_cons pe_int (pa_cons pe_int (pa_cons pe_int (pa_cons pe_int pa_nil))))))) (pe_has C_law_draw (hr.mono (by omega)) pass0 (pa_cons (pv 0) (pa_cons pe_int pa_nil))) (fun _ _ => rfl)) pa_nil)))))))
  pss_nil)
  (pss_cons (ps_if (pt_cmpR op_eq (pv 1) pe_int (nomark _))
  (pss_one (ps_ret (pe_has C_law_run (hr.mono (by omega)) pass0 (pa_cons (pv 0) (pa_cons pe_str (pa_cons (pe_ix (show IxR _ (rIxT K) from ix_tup) (pe_tup (pa_cons pe_int (pa_cons pe_int (pa_cons pe_int (pa_cons pe_int (pa_cons pe_int (pa_cons pe_int pa_nil))))))) (pe_has C_law_draw (hr.mono (by omega)) pass0 (pa_cons (pv 0) (pa_cons pe_int pa_nil))) (fun _ _ => rfl)) pa_nil))))))
  pss_nil)
  (pss_cons (ps_set (i := 2) sc_law_token.nd rfl (Or.inl rfl) (pe_lst (pa_cons pe_str (pa_cons pe_str (pa_cons pe_str (pa_cons pe_str (pa_cons pe_str (pa_cons pe_str (pa_cons pe_str (pa_cons pe_str (pa_cons pe_str (pa_cons pe_str (pa_cons pe_str (pa_cons pe_str (pa_cons pe_str (pa_cons pe_str (pa_cons pe_str (pa_cons pe_str (pa_cons pe_str (pa_cons pe_str (pa_cons pe_str (pa_cons pe_str pa_nil))))))))))))))))))))))
  (pss_cons (ps_set (i := 2) sc_law_token.nd rfl (Or.inl rfl) (pe_op op_cat (pv 2) (pe_lst (pa_cons pe_str (pa_cons pe_str (pa_cons pe_str (pa_cons pe_str (pa_cons pe_str (pa_cons pe_str (pa_cons pe_str (pa_cons pe_str (pa_cons pe_str (pa_cons pe_str (pa_cons pe_str (pa_cons pe_str (pa_cons pe_str (pa_cons pe_str (pa_cons pe_str (pa_cons pe_str pa_nil)))))))))))))))))))
  (pss_cons (ps_if (pt_cmpR op_eq (pv 1) pe_int (nomark _))
  (pss_one (ps_ret (pe_ix ix_list (pv 2) (pe_has C_law_draw (hr.mono (by omega)) pass0 (pa_cons (pv 0) (pa_cons (pe_callB call_len_seq (by rfl) T.m_len (by decide +kernel) (pa_cons (pv 2) pa_nil)) pa_nil))) (fun _ _ => rfl))))
  pss_nil)
  (pss_one (ps_ret (pe_op op_add_str (pe_ix (show IxR _ (rIxT K) from ix_tup) (pe_tup (pa_cons pe_str (pa_cons pe_str (pa_cons pe_str (pa_cons pe_str (pa_cons pe_str (pa_cons pe_str pa_nil))))))) (pe_has C_law_draw (hr.mono (by omega)) pass0 (pa_cons (pv 0) (pa_cons pe_int pa_nil))) (fun _ _ => rfl)) (pe_callTy call_str_int (by rfl) T.m_str (by decide +kernel) (pa_cons (pe_has C_law_number (hr.mono (by omega)) pass0 (pa_cons (pv 0) pa_nil)) pa_nil))))))))))), ?_⟩
    have hsz := sizeLine_eq
    refine cutSeq (fun σ' H' => ∃ k : Int, σ' = [some (.ref p), some (.int k), none] ∧ Sv [p] H H' ∧ Pool H' p) (fun nx hn => ?_) ?_
    · exact ⟨.ref p, rfl, p, _, rfl, hP, by decide, by decide, fun H1 k sv1 hP1 k0 k1 => hn _ _ ⟨k, rfl, sv1, hP1⟩⟩
    rintro _ H1 ⟨k, rfl, sv1, hP1⟩
    refine ⟨_, rfl, rfl, _, rfl, ?_⟩
    refine ite2 (fun e1 => ?_) (fun e1 => ?_)
    · refine ⟨by show 2 ≤ sizeLine; omega, fun t nt => ⟨.ref p, rfl, p, _, rfl, hP1.new nt, by decide, by decide, fun H2 j sv2 hP2 j0 j1 => ?_⟩⟩
      have ht : H2 t = some (.tup [.str "", .str "-"]) := sv2 t _ (by simpa using hP1.ne nt) upd_same
      obtain ⟨a, ha, e⟩ := pickS (ss := ["", "-"]) j0 j1
      have hal : a.length ≤ 10 := by
        have : a = ("" : Str) ∨ a = ("-" : Str) := by simpa using ha
        rcases this with rfl | rfl <;> decide +kernel
      refine ⟨t, _, j, _, rfl, rfl, .inl (.inl ht), e, .ref p, rfl, by show 6 ≤ sizeLine; omega, fun t2 nt2 => ⟨.ref p, rfl, p, _, rfl, hP2.new nt2, by decide, by decide, fun H3 i sv3 hP3 i0 i1 => ?_⟩⟩
      have ht2 : H3 t2 = some (.tup [.int 1, .int 2, .int 59, .int 60, .int 61, .int 62]) := sv3 t2 _ (by simpa using hP2.ne nt2) upd_same
      obtain ⟨n, hn, e2⟩ := pickI (ss := [1, 2, 59, 60, 61, 62]) i0 i1
      have hn' : 1 ≤ n ∧ n ≤ 62 := by
        have : n = 1 ∨ n = 2 ∨ n = 59 ∨ n = 60 ∨ n = 61 ∨ n = 62 := by simpa using hn
        omega
      obtain ⟨m, rfl⟩ := Int.eq_ofNat_of_zero_le (show 0 ≤ n by omega)
      refine ⟨t2, _, i, _, rfl, rfl, .inl (.inl ht2), e2, p, digs, m, rfl, hP3, by decide +kernel, by decide +kernel, by omega, fun H4 z sv4 hP4 hz _ => ⟨a, z, rfl, rfl, by omega, ?_⟩⟩
      exact q _ _ (((((sv1.trans (Sv.new nt)).trans sv2).trans (Sv.new nt2)).trans sv3).trans sv4) hP4 (by rw [len_append]; omega)
    refine ⟨_, rfl, rfl, _, rfl, ?_⟩
    refine ite2 (fun e2 => ?_) (fun e2 => ?_)
    · refine ⟨.ref p, rfl, by show 6 ≤ sizeLine; omega, fun t2 nt2 => ⟨.ref p, rfl, p, _, rfl, hP1.new nt2, by decide, by decide, fun H3 i sv3 hP3 i0 i1 => ?_⟩⟩
      have ht2 : H3 t2 = some (.tup [.int 1, .int 19, .int 20, .int 21, .int 22, .int 40]) := sv3 t2 _ (by simpa using hP1.ne nt2) upd_same
      obtain ⟨n, hn, e2⟩ := pickI (ss := [1, 19, 20, 21, 22, 40]) i0 i1
      have hn' : 1 ≤ n ∧ n ≤ 62 := by
        have : n = 1 ∨ n = 19 ∨ n = 20 ∨ n = 21 ∨ n = 22 ∨ n = 40 := by simpa using hn
        omega
      obtain ⟨m, rfl⟩ := Int.eq_ofNat_of_zero_le (show 0 ≤ n by omega)
      refine ⟨t2, _, i, _, rfl, rfl, .inl (.inl ht2), e2, p, lets, m, rfl, hP3, by decide +kernel, by decide +kernel, by omega, fun H4 z sv4 hP4 hz _ => ?_⟩
      exact q _ _ (((sv1.trans (Sv.new nt2)).trans sv3).trans sv4) hP4 (by omega)
    dsimp only [tNext]
    refine cutSeq (fun σ' H' => ∃ a : Addr, σ' = [some (.ref p), some (.int k), some (.ref a)] ∧ Sv [p] H H' ∧ Pool H' p ∧ H' a = some (.lst (odd1.map V.str))) (fun nx hn => ?_) ?_
    · refine ⟨by show 20 ≤ sizeLine; omega, fun t nt => hn _ _ ⟨t, rfl, sv1.trans (Sv.new nt), hP1.new nt, upd_same⟩⟩
    rintro _ H2 ⟨a, rfl, sv2, hP2, ha⟩
    refine cutSeq (fun σ' H' => ∃ a : Addr, σ' = [some (.ref p), some (.int k), some (.ref a)] ∧ Sv [p] H H' ∧ Pool H' p ∧ H' a = some (.lst ((odd1 ++ odd2).map V.str))) (fun nx hn => ?_) ?_
    · refine ⟨.ref a, rfl, by show 16 ≤ sizeLine; omega, fun t nt => ⟨a, t, _, _, rfl, rfl, by rw [upd_ne (ne_of_none ha nt)]; exact ha, upd_same, by show 36 ≤ sizeLine; omega, fun b nb => ?_⟩⟩
      exact hn _ _ ⟨b, rfl, (sv2.trans (Sv.new nt)).trans (Sv.new nb), (hP2.new nt).new nb, upd_same⟩
    rintro _ H3 ⟨a, rfl, sv3, hP3, ha⟩
    refine ⟨_, rfl, rfl, _, rfl, ?_⟩
    refine ite2 (fun e3 => ?_) (fun e3 => ?_)
    · refine ⟨.ref a, rfl, .ref p, rfl, .ref a, rfl, a, _, rfl, .inl (.inl (.inl ha)), p, _, rfl, hP3, by show (0 : Int) < 36; decide, by show (36 : Int) < _; decide, fun H4 j sv4 hP4 j0 j1 => ?_⟩
      have ha4 : H4 a = some (.lst ((odd1 ++ odd2).map V.str)) := sv4 a _ (fun z => by
        have : a = p := by simpa using z
        obtain ⟨x, y, z, e⟩ := hP3
        rw [this, e] at ha
        have := Option.some.inj ha
        cases this) ha
      obtain ⟨z, hz, e⟩ := pickS (ss := odd1 ++ odd2) j0 j1
      refine ⟨a, _, j, _, rfl, rfl, .inl (.inl ha4), e, q _ _ (sv3.trans sv4) hP4 ?_⟩
      have := odd_short z hz
      omega
    · refine ⟨by show 6 ≤ sizeLine; omega, fun t nt => ⟨.ref p, rfl, p, _, rfl, hP3.new nt, by decide, by decide, fun H4 j sv4 hP4 j0 j1 => ?_⟩⟩
      have ht : H4 t = some (.tup [.str "+", .str "-", .str "0", .str "1_", .str "a", .str "A"]) := sv4 t _ (by simpa using hP3.ne nt) upd_same
      obtain ⟨z, hz, e⟩ := pickS (ss := ["+", "-", "0", "1_", "a", "A"]) j0 j1
      have hzl : z.length ≤ 10 := by
        have : z = ("+" : Str) ∨ z = ("-" : Str) ∨ z = ("0" : Str) ∨ z = ("1_" : Str) ∨ z = ("a" : Str) ∨ z = ("A" : Str) := by simpa using hz
        rcases this with rfl | rfl | rfl | rfl | rfl | rfl <;> decide +kernel
      refine ⟨t, _, j, _, rfl, rfl, .inl (.inl ht), e, .ref p, rfl, p, rfl, hP4, fun H5 n sv5 hP5 hn => ?_⟩
      have hl := int_len hn
      refine ⟨n, rfl, log_small hn, z, _, rfl, rfl, by omega, ?_⟩
      exact q _ _ (((sv3.trans (Sv.new nt)).trans sv4).trans sv5) hP5 (by rw [len_append]; omega)
end
end RS

namespace RS
open PySem PySem.Spec PyProof.Rows L2 TL
open PySem.NumText (AllDigits digitsVal)

theorem digits_fold : ∀ (l : List Nat) (a : Nat), AllDigits l → l.foldl (fun a c => a * 10 + (c - 48)) a + 1 ≤ (a + 1) * 10 ^ l.length
  | [], a, _ => by simp
  | c :: r, a, h => by
    have hc := h c (by simp)
    have ih := digits_fold r (a * 10 + (c - 48)) (fun x hx => h x (by simp [hx]))
    rw [List.foldl_cons, List.length_cons, Nat.pow_succ]
    refine Nat.le_trans ih ?_
    have e : (a + 1) * (10 ^ r.length * 10) = ((a + 1) * 10) * 10 ^ r.length := by
      rw [Nat.mul_comm (10 ^ r.length) 10, Nat.mul_assoc]
    rw [e]
    exact Nat.mul_le_mul_right _ (by omega)
theorem digits_lt {l : List Nat} (h : AllDigits l) (hl : l.length ≤ 60) : digitsVal l < 10 ^ 60 := by
  have := digits_fold l 0 h
  have e : digitsVal l = l.foldl (fun a c => a * 10 + (c - 48)) 0 := rfl
  have p : 10 ^ l.length ≤ 10 ^ 60 := Nat.pow_le_pow_right (by decide) hl
  rw [e]
  omega
theorem tokIn_ok {s : Str} {d : D} (h : tokIn s = some d) : ok d := by
  unfold tokIn at h
  split at h
  · rename_i e; cases h; exact e
  · split at h
    · rename_i e
      cases h
      show (numV s).natAbs < 10 ^ 60
      unfold numV
      rcases num_cases e with ⟨n1, n2, n3, n4, _⟩ | ⟨ds, n1, n2, n3, n4, _⟩
      · rw [if_neg n1]
        have := digits_lt n2 n4
        omega
      · rw [if_pos (by rw [n1]; rfl), n1]
        have := digits_lt n2 n4
        show (-((digitsVal ds : Nat) : Int)).natAbs < _
        omega
    · cases h
theorem step_ok {st st' : List (List D)} {w : Str} (h : step st w = some st') (hp : ∀ ds ∈ st, okL ds) : ∀ ds ∈ st', okL ds := by
  unfold step at h
  split at h
  · split at h
    · cases h
      intro ds hd
      rcases List.mem_cons.mp hd with rfl | hd
      · exact trivial
      · exact hp ds hd
    · cases h
  · split at h
    · split at h
      · rename_i top b r
        cases h
        intro ds hd
        rcases List.mem_cons.mp hd with rfl | hd
        · exact okL_append.mpr ⟨hp b (by simp), hp top (by simp), trivial⟩
        · exact hp ds (by simp [hd])
      · cases h
    · split at h
      · rename_i d top r hk
        cases h
        intro ds hd
        rcases List.mem_cons.mp hd with rfl | hd
        · exact okL_append.mpr ⟨hp top (by simp), tokIn_ok hk, trivial⟩
        · exact hp ds (by simp [hd])
      · cases h
theorem fold_ok : ∀ (ws : List Str) {st st' : List (List D)}, ws.foldlM step st = some st' → (∀ ds ∈ st, okL ds) → ∀ ds ∈ st', okL ds
  | [], st, st', h, hp => by cases h; exact hp
  | w :: ws, st, st', h, hp => by
    rw [List.foldlM_cons] at h
    cases hs : step st w with
    | none => rw [hs] at h; cases h
    | some s1 =>
      rw [hs] at h
      exact fold_ok ws (st := s1) h (step_ok hs hp)
theorem rdVals_ok {text : Str} {ds : List D} (h : rdVals text = some ds) : okL ds := by
  unfold rdVals rdToks at h
  split at h
  · rename_i x e
    cases h
    exact fold_ok _ e (fun ds hd => by
      have : ds = [] := by simpa using hd
      rw [this]; trivial) _ (by simp)
  · cases h
theorem rd_ok {text : Str} {d : D} (h : rd text = some d) : ok d := by
  unfold rd at h
  split at h
  · rename_i x e
    cases h
    exact (rdVals_ok e).1
  · cases h
mutual
theorem small_of : ∀ {d : D}, ok d → smallD d
  | .int i, h => log_small h
  | .bl _, h => h.elim
  | .str _, _ => trivial
  | .tup ds, h => smallL_of (ds := ds) h
theorem smallL_of : ∀ {ds : List D}, okL ds → smallL ds
  | [], _ => trivial
  | d :: r, h => ⟨small_of h.1, smallL_of h.2⟩
end
/-- a value that was read: its sizes -/
theorem rd_sizes {text : Str} {d : D} (h : rd text = some d) : wr d = text ∧ dep d ≤ 12 ∧ ok d ∧ wsum (toks d) = text.length + 1 := by
  obtain ⟨a, b, c⟩ := rd_back h
  exact ⟨a, b, rd_ok h, by rw [c]; exact split_sum text⟩
end RS

namespace RS
open PySem PySem.Spec PyProof.Rows L2 TL

/-- a list of texts -/
def Strs (H : Hp) (a : Addr) (ws : List Str) : Prop := H a = some (.lst (ws.map V.str))
theorem Strs.ne {H : Hp} {a p : Addr} {ws : List Str} (h : Strs H a ws) (hP : Pool H p) : a ≠ p := fun e => by
  obtain ⟨x, y, z, q⟩ := hP
  unfold Strs at h
  rw [e, q] at h
  have h2 : HO.lst [V.int x, V.int y, V.int z] = HO.lst (ws.map V.str) := Option.some.inj h
  injection h2 with h2
  cases ws with
  | nil => cases h2
  | cons b c => cases h2
theorem Strs.drawn {H H' : Hp} {a p : Addr} {ws : List Str} (h : Strs H a ws) (hP : Pool H p) (s : Sv [p] H H') : Strs H' a ws := s a _ (by simpa using h.ne hP) h
theorem Strs.same {H H' : Hp} {a : Addr} {ws : List Str} (h : Strs H a ws) (s : Same H H') : Strs H' a ws := s a _ h
theorem Strs.new {H : Hp} {a t : Addr} {o : HO} {ws : List Str} (h : Strs H a ws) (n : H t = none) : Strs (upd H t o) a ws := h.same (Sv.nil (Sv.new n))
theorem wsum_mem {ws : List Str} {s : Str} (h : s ∈ ws) : s.length + 1 ≤ wsum ws := by
  obtain ⟨A, B, e⟩ := List.append_of_mem h
  rw [e, wsum_append, wsum_cons]
  omega

/-- [z for j in range(n)] at p, behind i turns -/
def Reps (z : Str) (H : Hp) (p : Addr) (i : Nat) (H' : Hp) : Prop := Sv [p] H H' ∧ H' p = some (.lst ((List.replicate i z).map V.str))
theorem wsum_rep (n : Nat) (z : Str) : wsum (List.replicate n z) = n * (z.length + 1) := by
  induction n with
  | zero => simp [wsum]
  | succ n ih => rw [List.replicate_succ, wsum_cons, ih, Nat.succ_mul]; omega
end RS

/-! The plain law of rows. -/
namespace RS
open PySem PySem.Spec PyProof.Rows L2 TL

/-- a line feed -/
def nl : Str := "\n"
theorem tl_nl : tl nl = [10] := by decide +kernel
theorem nl_ok : nl.cps.all (· < 256) = true := by decide +kernel
abbrev eS : Str := ""
/-- a line's members -/
def rowOf (s : Str) : Option (List D) := if s = "" then some [] else rdVals s
/-- a row's line -/
def rowT (ds : List D) : Str := Txt.join sp (ds.map wr)
theorem okL_mem : ∀ {l : List D}, okL l → ∀ x ∈ l, ok x
  | [], _, x, hx => by simp at hx
  | a :: r, h, x, hx => by
    rcases List.mem_cons.mp hx with rfl | hx
    · exact h.1
    · exact okL_mem h.2 x hx
theorem rowT_toks {ds : List D} (h : okL ds) : rowT ds = Txt.join sp (toksL ds) := by
  unfold rowT
  have e : ds.map wr = (ds.map toks).map (Str.join sp) := by
    rw [List.map_map]
    exact List.map_congr_left fun d _ => join_eq _ _
  rw [join_eq, e, join_flat, ← toksL_flat, join_eq]
  intro l hl
  obtain ⟨d, hd, rfl⟩ := List.mem_map.mp hl
  exact toks_ne (okL_mem h d hd)
theorem toksL_ne {ds : List D} (h : okL ds) (hn : ds ≠ []) : toksL ds ≠ [] := by
  cases ds with
  | nil => exact absurd rfl hn
  | cons d r =>
    show toks d ++ toksL r ≠ []
    have := toks_ne h.1
    simp [this]
theorem join_nil : Txt.join sp [] = ("" : Str) := by decide +kernel
theorem tokOf_ne : ∀ d, ok d → ∀ w ∈ toks d, w ≠ ("" : Str) := by
  have e0 : tl ("" : Str) = [] := by decide +kernel
  have : ∀ n : Nat, ∀ d, dep d ≤ n → ok d → ∀ w ∈ toks d, w ≠ ("" : Str) := by
    intro n
    induction n with
    | zero =>
      intro d hd h w hw
      cases d with
      | int i =>
        have e : w = Str.ofString (toString i) := by simpa [toks] using hw
        rw [e]
        intro z
        have t := tokIn_int (i := i) h
        rw [z] at t
        have t0 : tokIn ("" : Str) = none := by decide +kernel
        rw [t0] at t
        cases t
      | bl b => exact h.elim
      | str s =>
        have e : w = s := by simpa [toks] using hw
        rw [e]
        intro z
        have t := tokIn_word (s := s) h
        rw [z] at t
        have t0 : tokIn ("" : Str) = none := by decide +kernel
        rw [t0] at t
        cases t
      | tup ds => have z : 1 + depL ds ≤ 0 := hd; omega
    | succ n ih =>
      intro d hd h w hw
      cases d with
      | int i => exact ih (.int i) (Nat.zero_le _) h w hw
      | bl b => exact h.elim
      | str s => exact ih (.str s) (Nat.zero_le _) h w hw
      | tup ds =>
        have hd' : 1 + depL ds ≤ n + 1 := hd
        have hw' : w = lb ∨ w ∈ toksL ds ∨ w = rb := by simpa [toks] using hw
        rcases hw' with rfl | hw | rfl
        · decide +kernel
        · rw [toksL_flat] at hw
          obtain ⟨l, hl, hwl⟩ := List.mem_flatten.mp hw
          obtain ⟨x, hx, rfl⟩ := List.mem_map.mp hl
          exact ih x (by have := (depL_le (n := n) (ds := ds)).mp (by omega) x hx; exact this) (okL_mem h x hx) w hwl
        · decide +kernel
  intro d h
  exact this _ d (Nat.le_refl _) h
theorem rowT_ne {ds : List D} (h : okL ds) (hn : ds ≠ []) : rowT ds ≠ "" := by
  rw [rowT_toks h, join_eq]
  intro z
  have e := join_len (toksL ds) (toksL_ne h hn)
  rw [z] at e
  have e0 : ("" : Str).length = 0 := rfl
  rw [e0] at e
  cases ds with
  | nil => exact absurd rfl hn
  | cons d r =>
    cases hq : toks d with
    | nil => exact absurd hq (toks_ne h.1)
    | cons w ws =>
      have e2 : toksL (d :: r) = w :: (ws ++ toksL r) := by show toks d ++ toksL r = _; rw [hq]; rfl
      rw [e2, wsum_cons] at e
      have wn := tokOf_ne d h.1 w (by rw [hq]; simp)
      apply wn
      have : w.length = 0 := by omega
      rw [len_tl] at this
      have tw : tl w = [] := List.length_eq_zero_iff.mp this
      have e0' : tl ("" : Str) = [] := by decide +kernel
      exact ext_tl (tw.trans e0'.symm)
theorem row_fwd {ds : List D} (h : okL ds) (hd : depL ds ≤ 12) : rowOf (rowT ds) = some ds := by
  unfold rowOf
  by_cases hn : ds = []
  · subst hn
    rw [if_pos (show rowT [] = "" from join_nil)]
  · rw [if_neg (rowT_ne h hn), rowT_toks h]
    unfold rdVals
    rw [split_wr (toksL_ne h hn) (toksL_free ds h)]
    unfold rdToks
    rw [fold_ds ds [] [] h (by simp; omega)]
    rfl
theorem row_back {s : Str} {ds : List D} (h : rowOf s = some ds) : rowT ds = s ∧ okL ds ∧ depL ds ≤ 12 ∧ wsum (toksL ds) ≤ s.length + 1 := by
  unfold rowOf at h
  split at h
  · rename_i e
    cases h
    exact ⟨by rw [e]; exact join_nil, trivial, Nat.zero_le _, Nat.zero_le _⟩
  · obtain ⟨a, b⟩ := rdVals_back h
    have o := rdVals_ok h
    obtain ⟨c, _⟩ := rdToks_back h
    exact ⟨by rw [rowT_toks o]; exact a, o, depL_le.mpr b, by rw [c]; exact Nat.le_of_eq (split_sum s)⟩

/-- the rows' lines, from line n on -/
def scan : List Str → Nat → Except Nat (List (List D))
  | [], _ => .ok []
  | s :: r, n => match rowOf s with
    | none => .error n
    | some ds => match scan r (n + 1) with
      | .ok x => .ok (ds :: x)
      | .error k => .error k
/-- rows under a head: its first line at fault, or its rows -/
def rdRows (head text : Str) : Except Nat (List (List D)) :=
  let L := Txt.split text nl
  if L.length = 1 ∨ L.head? ≠ some head then .error 1
  else match scan (L.tail.dropLast) 2 with
    | .error k => .error k
    | .ok rows => if L.getLast? = some "" then .ok rows else .error L.length
def catS (ws : List Str) : Str := Txt.join "" ws
/-- their text -/
def wrRows (head : Str) (rows : List (List D)) : Str := catS ((head :: rows.map rowT).map (· ++ nl))
def okRows (rows : List (List D)) : Prop := ∀ r ∈ rows, okL r ∧ depL r ≤ 12
theorem scan_fwd : ∀ (rows : List (List D)) (n : Nat), okRows rows → scan (rows.map rowT) n = .ok rows
  | [], _, _ => rfl
  | r :: rs, n, h => by
    have h1 := h r (by simp)
    show (match rowOf (rowT r) with | none => _ | some ds => _) = _
    rw [row_fwd h1.1 h1.2]
    show (match scan (rs.map rowT) (n + 1) with | .ok x => _ | .error k => _) = _
    rw [scan_fwd rs (n + 1) fun x hx => h x (by simp [hx])]
theorem scan_back : ∀ {L : List Str} {n : Nat} {rows : List (List D)}, scan L n = .ok rows → rows.map rowT = L ∧ okRows rows
  | [], _, _, h => by cases h; exact ⟨rfl, fun r hr => by simp at hr⟩
  | s :: r, n, rows, h => by
    unfold scan at h
    cases hs : rowOf s with
    | none => rw [hs] at h; cases h
    | some ds =>
      rw [hs] at h
      cases hq : scan r (n + 1) with
      | error k => rw [hq] at h; cases h
      | ok x =>
        rw [hq] at h
        cases h
        obtain ⟨a, b⟩ := scan_back hq
        obtain ⟨c, d, e, _⟩ := row_back hs
        refine ⟨by rw [List.map_cons, a, c], fun y hy => ?_⟩
        rcases List.mem_cons.mp hy with rfl | hy
        · exact ⟨d, e⟩
        · exact b y hy
/-- turn by turn: the lines so far -/
def soFar (L : List Str) (i : Nat) (acc : List (List D)) : Prop := i ≤ L.length ∧ acc.length = i ∧ ∀ j, j < i → ∃ s ds, L[j]? = some s ∧ acc[j]? = some ds ∧ rowOf s = some ds
theorem soFar.zero (L : List Str) : soFar L 0 [] := ⟨Nat.zero_le _, rfl, fun j h => absurd h (Nat.not_lt_zero _)⟩
theorem soFar.step {L : List Str} {i : Nat} {acc : List (List D)} {s : Str} {ds : List D} (h : soFar L i acc) (hs : L[i]? = some s) (hd : rowOf s = some ds) : soFar L (i + 1) (acc ++ [ds]) := by
  obtain ⟨h1, h2, h3⟩ := h
  have hi := (List.getElem?_eq_some_iff.mp hs).1
  refine ⟨hi, by rw [List.length_append, h2]; rfl, fun j hj => ?_⟩
  by_cases e : j = i
  · subst e
    exact ⟨s, ds, hs, by rw [List.getElem?_append_right (by omega), h2, Nat.sub_self]; rfl, hd⟩
  · obtain ⟨s', ds', a, b, c⟩ := h3 j (by omega)
    exact ⟨s', ds', a, by rw [List.getElem?_append_left (by omega)]; exact b, c⟩
theorem scan_at : ∀ {L : List Str} {n i : Nat} {acc : List (List D)} {s : Str}, soFar L i acc → L[i]? = some s → rowOf s = none → scan L n = .error (n + i)
  | [], _, i, _, _, _, hs, _ => by simp at hs
  | x :: r, n, 0, _, s, _, hs, hn => by
    have e : x = s := by simpa using hs
    subst e
    unfold scan
    rw [hn]
    rfl
  | x :: r, n, i + 1, acc, s, ⟨h1, h2, h3⟩, hs, hn => by
    obtain ⟨x', ds, a, b, c⟩ := h3 0 (by omega)
    have e : x = x' := by simpa using a
    subst e
    cases acc with
    | nil => simp at h2
    | cons d0 acc' =>
      have sf : soFar r i acc' := ⟨by simpa using h1, by simpa using h2, fun j hj => by
        obtain ⟨y, dy, p1, p2, p3⟩ := h3 (j + 1) (by omega)
        exact ⟨y, dy, by simpa using p1, by simpa using p2, p3⟩⟩
      have ih := scan_at (n := n + 1) sf (by simpa using hs) hn
      unfold scan
      rw [c]
      show (match scan r (n + 1) with | .ok x => _ | .error k => _) = _
      rw [ih]
      show Except.error _ = _
      congr 1
      omega
theorem scan_all : ∀ {L : List Str} {n : Nat} {acc : List (List D)}, soFar L L.length acc → scan L n = .ok acc
  | [], _, acc, ⟨_, h2, _⟩ => by
    have : acc = [] := List.length_eq_zero_iff.mp h2
    subst this
    rfl
  | x :: r, n, acc, ⟨h1, h2, h3⟩ => by
    obtain ⟨x', ds, a, b, c⟩ := h3 0 (by simp)
    have e : x = x' := by simpa using a
    subst e
    cases acc with
    | nil => simp at h2
    | cons d0 acc' =>
      have e0 : d0 = ds := by simpa using b
      subst e0
      have sf : soFar r r.length acc' := ⟨Nat.le_refl _, by simpa using h2, fun j hj => by
        obtain ⟨y, dy, p1, p2, p3⟩ := h3 (j + 1) (by simpa using hj)
        exact ⟨y, dy, by simpa using p1, by simpa using p2, p3⟩⟩
      have ih := scan_all (n := n + 1) sf
      unfold scan
      rw [c]
      show (match scan r (n + 1) with | .ok x => _ | .error k => _) = _
      rw [ih]
/-! ### a text of lines -/
theorem tl_cat (ws : List Str) : tl (catS ws) = (ws.map tl).flatten := by
  unfold catS
  rw [join_eq, tl_join]
  have e : tl ("" : Str) = [] := by decide +kernel
  rw [e]
  induction ws with
  | nil => rfl
  | cons a r ih =>
    cases r with
    | nil => show tl a = tl a ++ []; rw [List.append_nil]
    | cons b r' =>
      show tl a ++ ([] ++ joinL [] ((b :: r').map tl)) = _
      rw [ih]
      rfl
theorem cat_nl (ws : List Str) : catS (ws.map (· ++ nl)) = Txt.join nl (ws ++ [eS]) := by
  refine ext_tl ?_
  rw [tl_cat, join_eq, tl_join, tl_nl]
  have e : tl ("" : Str) = [] := by decide +kernel
  induction ws with
  | nil => show ([] : List Nat) = tl ("" : Str); rw [e]
  | cons a r ih =>
    have h1 : ((a :: r).map (· ++ nl)).map tl = (tl a ++ [10]) :: (r.map (· ++ nl)).map tl := by
      show tl (a ++ nl) :: _ = _
      rw [tl_append, tl_nl]
    rw [h1, List.flatten_cons, ih]
    cases r with
    | nil => show tl a ++ [10] ++ tl ("" : Str) = tl a ++ ([10] ++ tl ("" : Str)); rw [List.append_assoc]
    | cons b r' =>
      show tl a ++ [10] ++ _ = tl a ++ ([10] ++ _)
      rw [List.append_assoc]
      rfl
mutual
theorem toks_free10 : ∀ d, ok d → ∀ w ∈ toks d, 10 ∉ tl w
  | .int i, _, w, hw => by
    have : w = Str.ofString (toString i) := by simpa [toks] using hw
    subst this
    intro h
    have := int_free i 10 h
    omega
  | .bl _, h, _, _ => h.elim
  | .str s, h, w, hw => by
    have : w = s := by simpa [toks] using hw
    subst this
    intro h'
    have := (word_letters h).1 10 h'
    omega
  | .tup ds, h, w, hw => by
    have hw' : w = lb ∨ w ∈ toksL ds ∨ w = rb := by simpa [toks] using hw
    rcases hw' with rfl | hw | rfl
    · rw [tl_lb]; decide
    · exact toksL_free10 ds h w hw
    · rw [tl_rb]; decide
theorem toksL_free10 : ∀ ds, okL ds → ∀ w ∈ toksL ds, 10 ∉ tl w
  | [], _, w, hw => by simp [toksL] at hw
  | d :: r, h, w, hw => by
    have hw' : w ∈ toks d ∨ w ∈ toksL r := by simpa [toksL] using hw
    rcases hw' with hw | hw
    · exact toks_free10 d h.1 w hw
    · exact toksL_free10 r h.2 w hw
end
theorem joinL_mem {S : List Nat} {c : Nat} : ∀ {L : List (List Nat)}, c ∈ joinL S L → c ∈ S ∨ ∃ l ∈ L, c ∈ l
  | [], h => by simp [joinL] at h
  | [x], h => .inr ⟨x, by simp, h⟩
  | x :: y :: r, h => by
    have h' : c ∈ x ++ (S ++ joinL S (y :: r)) := h
    rcases List.mem_append.mp h' with h' | h'
    · exact .inr ⟨x, by simp, h'⟩
    · rcases List.mem_append.mp h' with h' | h'
      · exact .inl h'
      · rcases joinL_mem h' with a | ⟨l, hl, a⟩
        · exact .inl a
        · exact .inr ⟨l, by simp [List.mem_cons.mp hl], a⟩
theorem rowT_free {ds : List D} (h : okL ds) : 10 ∉ tl (rowT ds) := by
  rw [rowT_toks h, join_eq, tl_join, tl_sp]
  intro z
  rcases joinL_mem z with z | ⟨l, hl, z⟩
  · simp at z
  · obtain ⟨w, hw, rfl⟩ := List.mem_map.mp hl
    exact toksL_free10 ds h w hw z
theorem split_nl {ws : List Str} (hne : ws ≠ []) (hf : ∀ w ∈ ws, 10 ∉ tl w) : Txt.split (Txt.join nl ws) nl = ws := split_join (s := 10) (S := []) tl_nl nl_ok hne hf
theorem rows_fwd {head : Str} {rows : List (List D)} (hh : 10 ∉ tl head) (h : okRows rows) : rdRows head (wrRows head rows) = .ok rows := by
  have e : Txt.split (wrRows head rows) nl = head :: (rows.map rowT ++ [eS]) := by
    unfold wrRows
    rw [cat_nl]
    refine split_nl (by simp) fun w hw => ?_
    have hw' : w = head ∨ w ∈ rows.map rowT ∨ w = "" := by simpa using hw
    rcases hw' with rfl | hw | rfl
    · exact hh
    · obtain ⟨r, hr, rfl⟩ := List.mem_map.mp hw
      exact rowT_free (h r hr).1
    · have e0 : tl ("" : Str) = [] := by decide +kernel
      rw [e0]
      simp
  unfold rdRows
  rw [e]
  dsimp only
  rw [if_neg (by simp)]
  have e2 : (head :: (rows.map rowT ++ [eS])).tail.dropLast = rows.map rowT := by
    show (rows.map rowT ++ [eS]).dropLast = _
    exact List.dropLast_concat
  rw [e2, scan_fwd rows 2 h]
  dsimp only
  rw [if_pos]
  show (head :: (rows.map rowT ++ [eS])).getLast? = _
  rw [← List.cons_append, List.getLast?_append]
  rfl
theorem lines_of {L : List Str} {head : Str} (h1 : ¬ (L.length = 1 ∨ L.head? ≠ some head)) (h2 : L.getLast? = some "") : L = head :: (L.tail.dropLast ++ [eS]) := by
  cases L with
  | nil => simp at h2
  | cons x t =>
    have hx : x = head := by
      by_cases z : x = head
      · exact z
      · exact absurd (.inr (by simpa using z)) h1
    subst hx
    cases t with
    | nil => exact absurd (.inl rfl) h1
    | cons y r =>
      show x :: (y :: r) = x :: ((y :: r).dropLast ++ [eS])
      congr 1
      have e : (y :: r).getLast? = some "" := by
        rw [List.getLast?_cons_cons] at h2
        exact h2
      have z := List.dropLast_concat_getLast (show (y :: r) ≠ [] by simp)
      rw [List.getLast?_eq_getLast (show (y :: r) ≠ [] by simp)] at e
      have e' := Option.some.inj e
      rw [e'] at z
      exact z.symm
theorem rows_back {head text : Str} {rows : List (List D)} (h : rdRows head text = .ok rows) : wrRows head rows = text ∧ okRows rows := by
  unfold rdRows at h
  dsimp only at h
  split at h
  · cases h
  · rename_i h1
    split at h
    · cases h
    · rename_i rows' hs
      split at h
      · rename_i h2
        cases h
        obtain ⟨a, b⟩ := scan_back hs
        refine ⟨?_, b⟩
        have e := lines_of h1 h2
        rw [← a] at e
        unfold wrRows
        rw [cat_nl]
        have e2 : head :: rows.map rowT ++ [eS] = Txt.split text nl := by rw [e]; rfl
        rw [e2, join_eq]
        exact PySem.StrLaws.join_split text nl
      · cases h
end RS

namespace RS
open PySem PySem.Spec PyProof.Rows L2 TL

abbrev s_write_rows : Stmt := topS 22
theorem sc_write_rows : FnScope ["head", "rows", "lines", "row", "line", "member"] ["head", "rows"] (defScope s_write_rows) := ⟨rfl, rfl, rfl, by decide +kernel, rfl, by decide +kernel, by decide +kernel⟩
abbrev s_read_row : Stmt := topS 23
theorem sc_read_row : FnScope ["text", "line", "error"] ["text", "line"] (defScope s_read_row) := ⟨rfl, rfl, rfl, by decide +kernel, rfl, by decide +kernel, by decide +kernel⟩
abbrev s_read_rows : Stmt := topS 24
theorem sc_read_rows : FnScope ["head", "text", "lines", "rows", "index"] ["head", "text"] (defScope s_read_rows) := ⟨rfl, rfl, rfl, by decide +kernel, rfl, by decide +kernel, by decide +kernel⟩

theorem RpL.app {K : PySem.W.Frag} {H : Hp} : ∀ {ds es : List D} {xs ys : List V}, RpL K H ds xs → RpL K H es ys → RpL K H (ds ++ es) (xs ++ ys)
  | [], _, _, _, h, g => by cases (show _ = [] from h); exact g
  | d :: r, _, _, _, h, g => by
    obtain ⟨x, zs, rfl, rx, rr⟩ := h
    exact ⟨x, _, rfl, rx, RpL.app rr g⟩
/-- rows as a value -/
def rowsD (rows : List (List D)) : D := .tup (rows.map .tup)
theorem line_fmt {n : Int} (h1 : 1 ≤ n) (h2 : n ≤ 100000000) : FmtV (.int n) := by
  refine .inr ⟨n, rfl, log_small (Nat.lt_of_le_of_lt (show n.natAbs ≤ 100000000 by omega) (by decide)), ?_⟩
  rcases int_signs n with ⟨m, e, t⟩ | ⟨m, hm, e, t⟩
  · rw [len_tl, t]
    have : (numL m).length ≤ 60 := numL_len (by decide) (Nat.lt_of_le_of_lt (show m ≤ 100000000 by omega) (by decide))
    omega
  · omega
theorem len_catnl (ws : List Str) : (catS (ws.map (· ++ nl))).length = wsum ws := by
  rw [len_tl, tl_cat]
  induction ws with
  | nil => rfl
  | cons a r ih =>
    rw [List.map_cons, List.map_cons, List.flatten_cons, List.length_append, ih, tl_append, tl_nl, List.length_append, wsum_cons, len_tl]
    rfl

theorem cat_sum (ws : List Str) : (catS ws).length = (ws.map (·.length)).sum := by
  rw [len_tl, tl_cat]
  induction ws with
  | nil => rfl
  | cons a r ih =>
    rw [List.map_cons, List.flatten_cons, List.length_append, ih, List.map_cons, List.sum_cons, len_tl]
theorem rowT_len {ds : List D} (h : okL ds) : wsum (toksL ds) ≤ (rowT ds).length + 1 ∧ (rowT ds).length ≤ wsum (toksL ds) := by
  by_cases hn : ds = []
  · subst hn
    have e : rowT [] = ("" : Str) := join_nil
    rw [e]
    exact ⟨Nat.zero_le _, Nat.zero_le _⟩
  · have e := join_len (toksL ds) (toksL_ne h hn)
    rw [rowT_toks h, join_eq]
    omega
theorem row_wsum {rows : List (List D)} {i n : Nat} {ds : List D} {head : Str} (hds : rows[i]? = some ds) (hok : okRows rows) (hw : wsum (head :: rows.map rowT) ≤ n) : wsum (toksL ds) ≤ n + 1 := by
  have m := List.mem_of_getElem? hds
  have a := (rowT_len (hok ds m).1).1
  have b := wsum_mem (s := rowT ds) (ws := head :: rows.map rowT) (by simp only [List.mem_cons, List.mem_map]; exact .inr ⟨ds, m, rfl⟩)
  omega

theorem nl_len : nl.length = 1 := by decide +kernel
theorem join_nl_len : ∀ (ws : List Str), ws ≠ [] → (Str.join nl ws).length + 1 = wsum ws
  | [], h => absurd rfl h
  | [x], _ => by
    show x.length + 1 = _
    rw [wsum_cons, wsum_nil]
  | x :: y :: r, _ => by
    have ih := join_nl_len (y :: r) (by simp)
    show (x ++ nl ++ Str.join nl (y :: r)).length + 1 = _
    rw [len_append, len_append, nl_len, wsum_cons, ← ih]
    omega
theorem lines_ne (text : Str) : Txt.split text nl ≠ [] := fun h => by
  have := split_spl text nl (by rw [tl_nl]; simp) (kind_ok nl_ok)
  rw [h] at this
  have e : ∀ (S : List Nat) (l acc : List Nat), spl S 0 acc l ≠ [] := by
    intro S l
    induction l with
    | nil => intro acc; rw [spl_nil]; simp
    | cons c r ih =>
      intro acc
      cases hp : pre S (c :: r) with
      | true => rw [spl_hit hp]; simp
      | false => rw [spl_miss hp]; exact ih _
  exact e _ _ _ this.symm
theorem lines_sum (text : Str) : wsum (Txt.split text nl) = text.length + 1 := by
  rw [← join_nl_len _ (lines_ne text), PySem.StrLaws.join_split]

section
variable {P : Program} {w : World} {K : PySem.W.Frag} {mg : Str → Option Value} {base : Heap} {t1 t2 t3 t4 t5 : Tok} {C fI : Addr}
theorem Ex.g_WordError (Z : Ex P K mg C fI) : mg "WordError" = some (.ref C) := Z.WordError_.gC
def spWriteRows (K : PySem.W.Frag) : Sp := fun vs H Q _ => ∃ head v rows, vs = [.str head, v] ∧ Rp K H (rowsD rows) v ∧ okRows rows ∧ wsum (head :: rows.map rowT) ≤ 9000000 ∧ ∀ H', Same H H' → Q (.str (wrRows head rows)) H'
theorem ok_write_rows (T : CnT mg t1 t2 t3 t4 t5) (Df : HasDef K mg "write_rows" s_write_rows ["head", "rows"]) (C_write_value : Has P w K mg base CX0 22 "write_value" ["value"] (spWrite K)) :
    Has P w K mg base CX0 23 "write_rows" ["head", "rows"] (spWriteRows K) := by
  refine Df.has fun f fd F => F.ok sc_write_rows (fun vs H Q E h => ?_) (fun cdv A outer s H vs Q E hr h => ?_)
  · obtain ⟨_, _, _, rfl, _⟩ := h; rfl
  · obtain ⟨head, v, rows, rfl, rv, hok, hw, q⟩ := h
    refine ⟨_, (pss_cons (ps_set (i := 2) sc_write_rows.nd rfl (Or.inl rfl) (pe_lst (pa_cons (pv 0) pa_nil)))
  (pss_cons (ps_for PassesOwn.never rfl (pi_tup (pv 1)) (pg_name (i := 3) sc_write_rows.nd rfl (Or.inl rfl))
  (pss_one (ps_expr (pe_bm PySem.F.plainAttrs_list PySem.F.slot_list_append PySem.F.type_list_append mt_append (pv 2) (pa_cons (pe_join pe_str (pe_lc (own := [("member", 5)]) (g := gName 5) (tt := tYes) rfl sc_write_rows.nd (pi_tup (pv 3)) (blkOk_by (own := [("member", 5)]) (N := ["head", "rows", "lines", "row", "line", "member"]) (sc := defScope s_write_rows) (by decide +kernel)) (fun _ _ _ _ _ => (pg_name (i := 5) sc_write_rows.nd rfl (Or.inl rfl))) (fun _ _ _ _ _ => pts_nil) (fun _ _ _ _ _ => (pe_has C_write_value (hr.mono (by omega)) pass0 (pa_cons (pv 5) pa_nil))))) pa_nil)))))
  (pss_one (ps_ret (pe_join pe_str (pe_lc (own := [("line", 4)]) (g := gName 4) (tt := tYes) rfl sc_write_rows.nd (pi_list (pv 2)) (blkOk_by (own := [("line", 4)]) (N := ["head", "rows", "lines", "row", "line", "member"]) (sc := defScope s_write_rows) (by decide +kernel)) (fun _ _ _ _ _ => (pg_name (i := 4) sc_write_rows.nd rfl (Or.inl rfl))) (fun _ _ _ _ _ => pts_nil) (fun _ _ _ _ _ => (pe_op op_add_str (pv 4) pe_str)))))))), ?_⟩
    have hsz := sizeLine_eq
    obtain ⟨a, xs, rfl, sq, rl⟩ := rv
    have hll : rows.length + 1 ≤ 9000000 := by
      have := len_le_wsum (head :: rows.map rowT)
      rw [List.length_cons, List.length_map] at this
      omega
    refine ⟨_, rfl, by show 1 ≤ sizeLine; omega, fun p np => ?_⟩
    refine ⟨.ref a, rfl, a, rfl, ⟨_, (tk_new np).seqT sq⟩, for_tup (K := K) (a := a) (xs := xs) (fun i σ H' => ∃ y, σ = [some (.str head), some (.ref a), some (.ref p), y, none, none] ∧ Sv [p] H H' ∧ H' p = some (.lst ((head :: (rows.take i).map rowT).map V.str)))
      ⟨none, rfl, Sv.new np, by rw [upd_same]; rfl⟩ (fun i σ H' _ ⟨_, _, s1, _⟩ => (TK.same (Sv.nil (Sv.drop np s1))).seqT sq) ?_ ?_⟩
    · rintro i x σ H' hi ⟨y, rfl, s1, hp⟩
      obtain ⟨r, hri, rr⟩ := rl.get hi
      have sm := Sv.nil (Sv.drop np s1)
      rw [List.getElem?_map] at hri
      obtain ⟨ds, hds, rfl⟩ : ∃ ds, rows[i]? = some ds ∧ r = .tup ds := by
        cases hq : rows[i]? with
        | none => rw [hq] at hri; cases hri
        | some ds => rw [hq] at hri; exact ⟨ds, rfl, (Option.some.inj hri).symm⟩
      obtain ⟨ok1, dp1⟩ := hok ds (List.mem_of_getElem? hds)
      have wr1 : wsum (toksL ds) ≤ 9000001 := row_wsum hds hok hw
      obtain ⟨b, ys, rfl, sqb, rb⟩ := rr.keep (TK.same sm)
      refine ⟨.ref p, rfl, .inl ⟨rfl, _, .inl (.inl hp)⟩, ⟨_, rfl⟩, .ref b, rfl, b, rfl, ⟨_, sqb⟩, fun l nl => lc_tup (K := K) (a := b) (xs := ys) (fun j H2 => Sv [l] H' H2 ∧ H2 l = some (.lst (((ds.take j).map wr).map V.str)))
        ⟨Sv.new nl, upd_same⟩ (fun j H2 _ ⟨s2, _⟩ => (TK.same (Sv.nil (Sv.drop nl s2))).seqT sqb) ?_ ?_⟩
      · rintro j x H2 hj ⟨s2, hl2⟩
        obtain ⟨d, hdj, rd⟩ := rb.get hj
        have od := okL_mem ok1 d (List.mem_of_getElem? hdj)
        refine ⟨rfl, x, rfl, x, d, rfl, rd.keep (TK.same (Sv.nil (Sv.drop nl s2))), ?_, small_of od, ?_, fun H3 s3 => ⟨_, s3 _ _ hl2, ?_, s2.trans ((Sv.same s3).trans (Sv.set (by simp))), ?_⟩⟩
        · have : dep d ≤ depL ds := depL_le.mp (Nat.le_refl _) d (List.mem_of_getElem? hdj)
          omega
        · have := wsum_at hdj
          omega
        · rw [List.length_map, List.length_map, List.length_take]
          have := okL_len ok1
          have := len_le_wsum (toksL ds)
          omega
        · rw [upd_same, take_snoc hdj, List.map_append, List.map_append]
          rfl
      · rintro H2 ⟨s2, hl2⟩
        have ef : ds.take ys.length = ds := by rw [rb.len, List.take_length]
        rw [ef] at hl2
        have sm2 := Sv.nil (Sv.drop nl s2)
        have hww : wsum (ds.map wr) = wsum (toksL ds) := wsum_wr (smallL_of ok1)
        refine ⟨sp, l, ds.map wr, rfl, rfl, .inl (.inl (.inl hl2)), join_fits (by omega), ?_⟩
        refine ⟨p, _, _, rfl, rfl, sm2 _ _ hp, ?_, ⟨_, rfl, s1.trans ((Sv.same sm2).trans (Sv.set (by simp))), ?_⟩⟩
        · rw [List.length_map, List.length_cons, List.length_map, List.length_take]
          omega
        · rw [upd_same, take_snoc hds, List.map_append, ← List.cons_append, List.map_append]
          rfl
    · rintro σ H' ⟨y, rfl, s1, hp⟩
      have ef : rows.take xs.length = rows := by rw [rl.len, List.length_map, List.take_length]
      rw [ef] at hp
      have sm := Sv.nil (Sv.drop np s1)
      generalize hL : head :: rows.map rowT = L at *
      have hLl : L.length ≤ 9000000 := Nat.le_trans (len_le_wsum L) hw
      refine ⟨⟨_, rfl⟩, .ref p, rfl, p, rfl, ⟨_, .inl (.inl hp)⟩, fun l nl => lc_list (K := K) (a := p) (xs := L.map V.str) (fun j H2 => Sv [l] H' H2 ∧ H2 l = some (.lst (((L.take j).map (· ++ RS.nl)).map V.str)))
        ⟨Sv.new nl, upd_same⟩ (fun j H2 _ ⟨s2, _⟩ => .inl (.inl ((Sv.nil (Sv.drop nl s2)) _ _ hp))) ?_ ?_⟩
      · rintro j x H2 hj ⟨s2, hl2⟩
        rw [List.getElem?_map] at hj
        obtain ⟨w, hwj, rfl⟩ : ∃ w, L[j]? = some w ∧ x = V.str w := by
          cases hq : L[j]? with
          | none => rw [hq] at hj; cases hj
          | some w => rw [hq] at hj; exact ⟨w, rfl, (Option.some.inj hj).symm⟩
        have wl := wsum_mem (List.mem_of_getElem? hwj)
        refine ⟨rfl, _, rfl, _, _, rfl, rfl, ?_, _, hl2, ?_, s2.trans (Sv.set (by simp)), ?_⟩
        · show _ + 1 ≤ _; omega
        · rw [List.length_map, List.length_map, List.length_take]; omega
        · rw [upd_same, take_snoc hwj, List.map_append, List.map_append]
          rfl
      · rintro H2 ⟨s2, hl2⟩
        rw [List.length_map, List.take_length] at hl2
        have e0 : (Str.length ("" : Str)) = 0 := rfl
        have hc := len_catnl L
        refine ⟨"", l, L.map (· ++ RS.nl), rfl, rfl, .inl (.inl (.inl hl2)), ?_, ?_⟩
        · rw [e0, Nat.mul_zero, Nat.add_zero, ← cat_sum, hc]
          omega
        · have := q _ (sm.trans (Sv.nil (Sv.drop nl s2)))
          unfold wrRows at this
          rw [hL] at this
          exact this
def spRow (K : PySem.W.Frag) (C : Addr) : Sp := fun vs H Q E => ∃ (s : Str) (n : Int), vs = [.str s, .int n] ∧ 1 ≤ n ∧ n ≤ 100000000 ∧ s.length ≤ 9000000 ∧ (∀ ds, rowOf s = some ds → ∀ H' v, Same H H' → Rp K H' (.tup ds) v → Q v H') ∧ (rowOf s = none → Err C n H E)
theorem ok_read_row (T : CnT mg t1 t2 t3 t4 t5) (Z : Ex P K mg C fI) (exW : PySem.W.exmOne K (.ref C) (.ref C) = some true) (Df : HasDef K mg "read_row" s_read_row ["text", "line"]) (C_read_values : Has P w K mg base (L2N.CX P w) 4 "read_values" ["text"] (spValues K C)) :
    Has P w K mg base (L2.CX P w) 5 "read_row" ["text", "line"] (spRow K C) := by
  refine Df.has fun f fd F => F.okX sc_read_row (fun vs H Q E h => ?_) (fun cdv A outer s H vs Q E hr h => ?_)
  · obtain ⟨_, _, rfl, _⟩ := h; rfl
  · obtain ⟨z, n, rfl, n1, n2, hl, q, e⟩ := h
    refine ⟨_, (pss_cons (ps_if (pt_cmpR op_eq (pv 0) pe_str (nomark _))
  (pss_one (ps_ret (pe_tup pa_nil)))
  pss_nil)
  (pss_one (RSX.ps_try_asX (i := 2) rfl rfl sc_read_row.nd rfl rfl ⟨rfl, by decide, Or.inl Z.g_WordError⟩ (L2H.passesAt_of rfl) (takes_of rfl rfl rfl rfl) (fun W pn xe tk pas => (pss_one (ps_ret (pe_hasSN C_read_values (hr.mono (by omega)) tk (by exact (pa_cons (pv 0) pa_nil)))))) (fun a oe cls d pn xeS hz hf tkS hot => (pss_one (RSX.ps_raiseFrom (i := 2) hz hf tkS (pmk_sup5 Z.WordError_ Z.WordError_nm (room_mark hr) (by exact (pa_cons (pv 1) pa_nil))))))))), ?_⟩
    refine ⟨_, rfl, rfl, _, rfl, ?_⟩
    refine ite2 (fun e1 => ?_) (fun e1 => ?_)
    · have ez : z = "" := V.str.inj (of_decide_eq_true e1)
      refine ⟨Nat.zero_le _, fun p np => q [] (by unfold rowOf; rw [if_pos ez]) _ _ (Sv.nil (Sv.new np)) ⟨p, [], rfl, .inl (.inl upd_same), rfl⟩⟩
    · have ez : z ≠ "" := fun y => e1 (decide_eq_true (congrArg V.str y))
      have er : rowOf z = rdVals z := by unfold rowOf; rw [if_neg ez]
      refine ⟨.str z, rfl, z, rfl, hl, fun ds hd H1 v s1 rv => q ds (er.trans hd) _ _ s1 rv, fun hn H1 dd s1 hdd hdn => ?_⟩
      refine ⟨true, exW, fun _ a na => ⟨rfl, raises_own Z.WordError_.exC Z.WordError_.tyC, ?_⟩, fun q => nomatch q⟩
      exact ⟨_, rfl, _, rfl, line_fmt n1 n2, (e (er.trans hn)).now s1⟩

def spReadRows (K : PySem.W.Frag) (C : Addr) : Sp := fun vs H Q E => ∃ head text : Str, vs = [.str head, .str text] ∧ text.length ≤ 9000000 ∧ (∀ rows, rdRows head text = .ok rows → ∀ H' v, Same H H' → Rp K H' (rowsD rows) v → Q v H') ∧ (∀ n, rdRows head text = .error n → Err C n H E)
theorem ok_read_rows (T : CnT mg t1 t2 t3 t4 t5) (Z : Ex P K mg C fI) (Df : HasDef K mg "read_rows" s_read_rows ["head", "text"]) (C_read_row : Has P w K mg base (L2.CX P w) 5 "read_row" ["text", "line"] (spRow K C)) :
    Has P w K mg base (L2.CX P w) 6 "read_rows" ["head", "text"] (spReadRows K C) := by
  refine Df.has fun f fd F => F.okX sc_read_rows (fun vs H Q E h => ?_) (fun cdv A outer s H vs Q E hr h => ?_)
  · obtain ⟨_, _, rfl, _⟩ := h; rfl
  · obtain ⟨head, z, rfl, hl, q, e⟩ := h
    refine ⟨_, (pss_cons (ps_set (i := 2) sc_read_rows.nd rfl (Or.inl rfl) (pe_split (pv 1) pe_str))
  (pss_cons (ps_if (PW.pt (pw_or (pt_cmpR op_eq (pe_callB call_len_seq (by rfl) T.m_len (by decide +kernel) (pa_cons (pv 2) pa_nil)) pe_int (nomark _)) (pw_or1 (pt_cmpR op_ne (pe_ix ix_list (pv 2) pe_int (fun _ _ => rfl)) (pv 0) (nomark _)))))
  (pss_one (ps_raiseSup rfl Z.WordError_ Z.WordError_nm hr (takes_of rfl rfl rfl rfl) (by exact (pa_cons pe_int pa_nil))))
  pss_nil)
  (pss_cons (ps_set (i := 3) sc_read_rows.nd rfl (Or.inl rfl) (pe_lst pa_nil))
  (pss_cons (ps_for (passes_of rfl) rfl (pi_range2 (by rfl) T.m_range (pa_cons pe_int (pa_cons (pe_op op_sub (pe_callB call_len_seq (by rfl) T.m_len (by decide +kernel) (pa_cons (pv 2) pa_nil)) pe_int) pa_nil))) (pg_name (i := 4) sc_read_rows.nd rfl (Or.inl rfl))
  (pss_one (ps_expr (pe_bm PySem.F.plainAttrs_list PySem.F.slot_list_append PySem.F.type_list_append mt_append (pv 3) (pa_cons (pe_hasS C_read_row (hr.mono (by omega)) (takes_of rfl rfl rfl rfl) (by exact (pa_cons (pe_ix ix_list (pv 2) (pv 4) (fun _ _ => rfl)) (pa_cons (pe_op op_add (pv 4) pe_int) pa_nil)))) pa_nil)))))
  (pss_cons (ps_if (pt_cmpR op_ne (pe_ix ix_list (pv 2) (pe_un un_neg pe_int) (fun _ _ => rfl)) pe_str (nomark _))
  (pss_one (ps_raiseSup rfl Z.WordError_ Z.WordError_nm hr (takes_of rfl rfl rfl rfl) (by exact (pa_cons (pe_callB call_len_seq (by rfl) T.m_len (by decide +kernel) (pa_cons (pv 2) pa_nil)) pa_nil))))
  pss_nil)
  (pss_one (ps_ret (pe_callTy call_tuple_of (by rfl) T.m_tuple (by decide +kernel) (pa_cons (pv 3) pa_nil))))))))), ?_⟩
    have hsz := sizeLine_eq
    refine cutSeq (fun σ' H' => ∃ a : Addr, σ' = [some (.str head), some (.str z), some (.ref a), none, none] ∧ Same H H' ∧ Strs H' a (Txt.split z RS.nl)) (fun nx hn => ?_) ?_
    · exact ⟨.str z, rfl, ⟨z, rfl⟩, z, RS.nl, rfl, rfl, by decide +kernel, by omega, fun a na => hn _ _ ⟨a, rfl, Sv.nil (Sv.new na), upd_same⟩⟩
    rintro _ H1 ⟨a, rfl, s1, ha⟩
    have hrd : rdRows head z = (if (Txt.split z RS.nl).length = 1 ∨ (Txt.split z RS.nl).head? ≠ some head then .error 1
      else match scan ((Txt.split z RS.nl).tail.dropLast) 2 with
        | .error k => .error k
        | .ok rows => if (Txt.split z RS.nl).getLast? = some eS then .ok rows else .error (Txt.split z RS.nl).length) := rfl
    have hLw := lines_sum z
    have hLn := lines_ne z
    generalize Txt.split z RS.nl = L at *
    have hLl : L.length ≤ 9000001 := by have := len_le_wsum L; omega
    obtain ⟨x0, r0, rfl⟩ : ∃ x r, L = x :: r := by
      cases L with
      | nil => exact absurd rfl hLn
      | cons x r => exact ⟨x, r, rfl⟩
    refine cutIfS (decide ((x0 :: r0).length = 1 ∨ (x0 :: r0).head? ≠ some head)) (fun Q' h' => ?_) ?_
    · refine ⟨.ref a, rfl, a, _, rfl, .inl (.inl (.inl ha)), rfl, _, rfl, ?_⟩
      refine ite2 (fun e1 => ?_) (fun e1 => ?_)
      · have e2 : (x0 :: r0).length = 1 := by
          have := V.int.inj (of_decide_eq_true e1)
          rw [List.length_map] at this
          omega
        have : decide ((x0 :: r0).length = 1 ∨ (x0 :: r0).head? ≠ some head) = true := decide_eq_true (.inl e2)
        rw [this] at h'
        exact h'
      · have e2 : ¬ (x0 :: r0).length = 1 := fun y => e1 (decide_eq_true (congrArg V.int (by rw [List.length_map]; omega)))
        refine ⟨.ref a, rfl, a, _, 0, .str x0, rfl, rfl, .inl (.inl ha), atI_nat (j := 0) rfl, _, rfl, rfl, _, rfl, ?_⟩
        have : (!decide (V.str x0 = V.str head)) = decide ((x0 :: r0).length = 1 ∨ (x0 :: r0).head? ≠ some head) := by
          by_cases hx : x0 = head
          · rw [decide_eq_true (congrArg V.str hx), decide_eq_false (fun y => y.elim e2 (fun w => w (by rw [hx]; rfl)))]
            rfl
          · rw [decide_eq_false (fun y => hx (V.str.inj y)), decide_eq_true (.inr (fun y => hx (Option.some.inj y)))]
            rfl
        rw [this]
        exact h'
    refine ite2 (fun e1 => ?_) (fun e1 => ?_)
    · have hb := of_decide_eq_true e1
      exact ⟨_, rfl, one_fmt, (e 1 (by rw [hrd, if_pos hb])).now s1⟩
    have hb : ¬ ((x0 :: r0).length = 1 ∨ (x0 :: r0).head? ≠ some head) := fun y => e1 (decide_eq_true y)
    rw [if_neg hb] at hrd
    have hr0 : r0 ≠ [] := fun y => hb (.inl (by rw [y]; rfl))
    obtain ⟨mid, last, rfl⟩ : ∃ mid last, r0 = mid ++ [last] := ⟨r0.dropLast, r0.getLast hr0, (List.dropLast_concat_getLast hr0).symm⟩
    have hmid : (x0 :: (mid ++ [last])).tail.dropLast = mid := List.dropLast_concat
    have hlast : (x0 :: (mid ++ [last])).getLast? = some last := by
      rw [← List.cons_append, List.getLast?_append]
      rfl
    have hlen : (x0 :: (mid ++ [last])).length = mid.length + 2 := by simp
    rw [hmid, hlast, hlen] at hrd
    rw [hlen] at hLl
    dsimp only [tNext]
    refine cutSeq (fun σ' H' => ∃ r : Addr, σ' = [some (.str head), some (.str z), some (.ref a), some (.ref r), none] ∧ H1 r = none ∧ H' = upd H1 r (.lst [])) (fun nx hn => ?_) ?_
    · exact ⟨Nat.zero_le _, fun r nr => hn _ _ ⟨r, rfl, nr, rfl⟩⟩
    rintro _ H2 ⟨r, rfl, nr, rfl⟩
    have ra : r ≠ a := fun y => by rw [y] at nr; unfold Strs at ha; rw [ha] at nr; cases nr
    have ha2 : (upd H1 r (.lst [])) a = some (.lst ((x0 :: (mid ++ [last])).map V.str)) := (Sv.nil (Sv.new nr)) _ _ ha
    have at_mid : ∀ {i : Nat} {s : Str}, mid[i]? = some s → atI ((x0 :: (mid ++ [last])).map V.str) (1 + (i : Int)) = some (.str s) := fun {i s} h => by
      have : (1 + (i : Int)) = ((i + 1 : Nat) : Int) := by omega
      rw [this]
      refine atI_nat (j := i + 1) ?_
      rw [List.getElem?_map, List.getElem?_cons_succ, List.getElem?_append_left (List.getElem?_eq_some_iff.mp h).1, h]
      rfl
    refine ⟨.ref a, rfl, a, _, rfl, .inl (.inl (.inl ha2)), _, _, rfl, rfl, 1, _, rfl, ⟨by decide, by decide, ?_, ?_⟩, for_range (lo := 1) (n := _) (fun i σ H' => ∃ y acc xs, σ = [some (.str head), some (.str z), some (.ref a), some (.ref r), y] ∧ Sv [r] H1 H' ∧ H' r = some (.lst xs) ∧ RpL K H' (acc.map .tup) xs ∧ soFar mid i acc) ?_ ?_ ?_⟩
    · rw [List.length_map]; omega
    · rw [List.length_map, hlen]; omega
    · exact ⟨none, [], [], rfl, Sv.new nr, upd_same, rfl, soFar.zero mid⟩
    · rintro i σ H' hi ⟨y, acc, xs, rfl, sv, hr', rl, sf⟩
      rw [List.length_map, hlen] at hi
      have hi' : i < mid.length := by omega
      obtain ⟨s, hs⟩ : ∃ s, mid[i]? = some s := ⟨_, List.getElem?_eq_getElem hi'⟩
      have ha' : H' a = some (.lst ((x0 :: (mid ++ [last])).map V.str)) := sv _ _ (by simpa using ra.symm) ha
      have sl := wsum_mem (s := s) (ws := x0 :: (mid ++ [last])) (by
        have := List.mem_of_getElem? hs
        simp [this])
      have acl : acc.length = i := sf.2.1
      have xl : xs.length = i := by rw [rl.len, List.length_map, acl]
      have smH : Same H H' := s1.trans (Sv.nil (Sv.drop nr sv))
      refine ⟨.ref r, rfl, .inl ⟨rfl, _, .inl (.inl hr')⟩, .ref a, rfl, _, rfl, a, _, _, _, rfl, rfl, .inl (.inl ha'), at_mid hs, _, rfl, _, _, rfl, rfl, s, _, rfl, by omega, by omega, by omega, fun ds hd H3 v s3 rv => ?_, fun hnn => ?_⟩
      · refine ⟨r, _, _, rfl, rfl, s3 _ _ hr', by rw [xl]; omega, ?_⟩
        refine ⟨_, acc ++ [ds], xs ++ [v], rfl, sv.trans ((Sv.same s3).trans (Sv.set (by simp))), upd_same, ?_, sf.step hs hd⟩
        have isl : IsL H3 r := ⟨_, s3 _ _ hr'⟩
        rw [List.map_append]
        exact RpL.app ((rl.keep (TK.same s3)).keep (tk_set isl)) ⟨v, [], rfl, rv.keep (tk_set isl), rfl⟩
      · have es : rdRows head z = .error (2 + i) := by rw [hrd, scan_at sf hs hnn]
        have := (e _ es).on smH
        rw [show ((2 + i : Nat) : Int) = 1 + (i : Int) + 1 by omega] at this
        exact this
    · rintro σ H' ⟨y, acc, xs, rfl, sv, hr', rl, sf⟩
      rw [List.length_map, hlen] at sf
      have e0 : ((((mid.length + 2 : Nat) : Int) - 1) - 1).toNat = mid.length := by omega
      rw [e0] at sf
      have ha' : H' a = some (.lst ((x0 :: (mid ++ [last])).map V.str)) := sv _ _ (by simpa using ra.symm) ha
      have smH : Same H H' := s1.trans (Sv.nil (Sv.drop nr sv))
      rw [scan_all sf] at hrd
      dsimp only at hrd
      have hl2 : atI ((x0 :: (mid ++ [last])).map V.str) (-1) = some (.str last) := by
        rw [← List.cons_append, List.map_append]
        exact atI_last _ _
      refine ⟨.ref a, rfl, _, rfl, a, _, _, _, rfl, rfl, .inl (.inl ha'), hl2, rfl, _, rfl, ?_⟩
      refine ite2 (fun e2 => ?_) (fun e2 => ?_)
      · have hne : last ≠ eS := fun y => by
          rw [y] at e2
          exact absurd e2 (by decide +kernel)
        rw [if_neg (fun y => hne (Option.some.inj y))] at hrd
        refine ⟨.ref a, rfl, a, _, rfl, .inl (.inl (.inl ha')), _, rfl, ?_, ?_⟩
        · exact line_fmt (by rw [List.length_map, hlen]; omega) (by rw [List.length_map, hlen]; omega)
        · have := (e _ hrd).now smH
          rw [List.length_map, hlen]
          exact this
      · have heq : last = eS := by
          by_cases y : last = eS
          · exact y
          · exfalso
            apply e2
            rw [decide_eq_false (fun w => y (V.str.inj w))]
            rfl
        rw [if_pos (congrArg some heq)] at hrd
        refine ⟨.ref r, rfl, r, xs, rfl, .inl ⟨.inl (.inl hr'), fun t nt => ?_⟩⟩
        exact q acc hrd _ _ (smH.trans (Sv.nil (Sv.new nt))) ⟨t, xs, rfl, .inl (.inl upd_same), rl.keep (TK.same (Sv.nil (Sv.new nt)))⟩
end
end RS

namespace RS
open PySem PySem.Spec PyProof.Rows L2 TL

abbrev s_begins_with_word : Stmt := topS 27
theorem sc_begins_with_word : FnScope ["row"] ["row"] (defScope s_begins_with_word) := ⟨rfl, rfl, rfl, by decide +kernel, rfl, by decide +kernel, by decide +kernel⟩
abbrev s_write_log : Stmt := topS 28
theorem sc_write_log : FnScope ["log", "t", "deed"] ["log"] (defScope s_write_log) := ⟨rfl, rfl, rfl, by decide +kernel, rfl, by decide +kernel, by decide +kernel⟩
abbrev s_read_log : Stmt := topS 29
theorem sc_read_log : FnScope ["text", "log", "index", "row"] ["text"] (defScope s_read_log) := ⟨rfl, rfl, rfl, by decide +kernel, rfl, by decide +kernel, by decide +kernel⟩
abbrev s_write_run : Stmt := topS 30
theorem sc_write_run : FnScope ["run"] ["run"] (defScope s_write_run) := ⟨rfl, rfl, rfl, by decide +kernel, rfl, by decide +kernel, by decide +kernel⟩
abbrev s_read_run : Stmt := topS 31
theorem sc_read_run : FnScope ["text", "run", "index", "event"] ["text"] (defScope s_read_run) := ⟨rfl, rfl, rfl, by decide +kernel, rfl, by decide +kernel, by decide +kernel⟩
abbrev s_write_journal : Stmt := topS 32
theorem sc_write_journal : FnScope ["journal"] ["journal"] (defScope s_write_journal) := ⟨rfl, rfl, rfl, by decide +kernel, rfl, by decide +kernel, by decide +kernel⟩
abbrev s_read_journal : Stmt := topS 33
theorem sc_read_journal : FnScope ["text"] ["text"] (defScope s_read_journal) := ⟨rfl, rfl, rfl, by decide +kernel, rfl, by decide +kernel, by decide +kernel⟩
abbrev s_write_paper : Stmt := topS 34
theorem sc_write_paper : FnScope ["paper"] ["paper"] (defScope s_write_paper) := ⟨rfl, rfl, rfl, by decide +kernel, rfl, by decide +kernel, by decide +kernel⟩
abbrev s_read_paper : Stmt := topS 35
theorem sc_read_paper : FnScope ["text", "rows"] ["text"] (defScope s_read_paper) := ⟨rfl, rfl, rfl, by decide +kernel, rfl, by decide +kernel, by decide +kernel⟩

/-! ### the kinds -/
def goodLog : List D → Bool
  | x :: y :: _ => isInt x && isStr y
  | _ => false
def goodRun : List D → Bool
  | x :: _ => isStr x
  | [] => false
def bad (p : List D → Bool) : List (List D) → Nat → Option Nat
  | [], _ => none
  | r :: rs, n => if p r = true then bad p rs (n + 1) else some n
def logE : List D → D
  | x :: r => .tup [x, .tup r]
  | [] => .tup []
def faultK (nth : Nat) (rows : List (List D)) : Option Nat :=
  if nth = 1 then bad goodLog rows 2 else if nth = 2 then bad goodRun rows 2 else if nth = 4 then (match rows with
    | [] => some 2
    | [_] => none
    | _ => some 3) else none
def thing (nth : Nat) (rows : List (List D)) : D :=
  if nth = 1 then .tup (rows.map logE) else if nth = 4 then .tup (rows.headD []) else rowsD rows
def rdK (nth : Nat) (head text : Str) : Except Nat D := match rdRows head text with
  | .error k => .error k
  | .ok rows => match faultK nth rows with
    | some k => .error k
    | none => .ok (thing nth rows)
theorem bad_all {p : List D → Bool} : ∀ {rows : List (List D)} {n : Nat}, (∀ r ∈ rows, p r = true) → bad p rows n = none
  | [], _, _ => rfl
  | r :: rs, n, h => by
    unfold bad
    rw [if_pos (h r (by simp))]
    exact bad_all fun x hx => h x (by simp [hx])
theorem bad_at {p : List D → Bool} : ∀ {rows : List (List D)} {n i : Nat} {r : List D}, (∀ r ∈ rows.take i, p r = true) → rows[i]? = some r → p r = false → bad p rows n = some (n + i)
  | [], _, _, _, _, h, _ => by simp at h
  | x :: rs, n, 0, r, _, h, hp => by
    have e : x = r := by simpa using h
    subst e
    unfold bad
    rw [hp]
    rfl
  | x :: rs, n, i + 1, r, ha, h, hp => by
    unfold bad
    rw [if_pos (ha x (by simp))]
    rw [bad_at (rows := rs) (i := i) (fun y hy => ha y (by simp [hy])) (by simpa using h) hp]
    congr 1
    omega
theorem none_bad {p : List D → Bool} : ∀ {rows : List (List D)} {n : Nat}, bad p rows n = none → ∀ r ∈ rows, p r = true
  | [], _, _, r, hr => by simp at hr
  | x :: rs, n, h, r, hr => by
    unfold bad at h
    split at h
    · rename_i hx
      rcases List.mem_cons.mp hr with rfl | hr
      · exact hx
      · exact none_bad h r hr
    · cases h
theorem good_take {p : List D → Bool} {rows : List (List D)} {i : Nat} {r : List D} (h : ∀ r ∈ rows.take i, p r = true) (hr : rows[i]? = some r) (hp : p r = true) : ∀ r ∈ rows.take (i + 1), p r = true := fun x hx => by
  rw [take_snoc hr] at hx
  rcases List.mem_append.mp hx with hx | hx
  · exact h x hx
  · have : x = r := by simpa using hx
    exact this ▸ hp
theorem RpL.rows {K : PySem.W.Frag} {H : Hp} {rows : List (List D)} {xs : List V} {i : Nat} {x : V} (h : RpL K H (rows.map .tup) xs) (hx : xs[i]? = some x) : ∃ ds, rows[i]? = some ds ∧ Rp K H (.tup ds) x := by
  obtain ⟨d, hd, r⟩ := h.get hx
  rw [List.getElem?_map] at hd
  cases hq : rows[i]? with
  | none => rw [hq] at hd; cases hd
  | some ds =>
    rw [hq] at hd
    cases hd
    exact ⟨ds, rfl, r⟩
theorem cut_tail (x : V) (r : List V) : cutV (x :: r) (some 1) none = r := by
  unfold cutV
  have e1 : HT.sIx (x :: r).length 0 (some 1) = 1 := by
    have := HT.sIx_nat (x :: r).length 0 1
    rw [show ((1 : Nat) : Int) = 1 from rfl] at this
    rw [this, List.length_cons]
    omega
  have e2 : HT.sIx (x :: r).length (x :: r).length none = (x :: r).length := rfl
  rw [e1, e2]
  show r.take ((x :: r).length - 1) = r
  rw [List.length_cons, Nat.add_sub_cancel, List.take_length]
/-- row[1:] -/
theorem sl_tail {K : PySem.W.Frag} {H : Hp} {Q : VK} {a : Addr} {x : V} {r : List V} (sq : SqT K H a (x :: r)) (h : ∀ p, H p = none → Q (.ref p) (upd H p (.tup r))) : rSlA K (.ref a) (some 1) none H Q := by
  refine ⟨a, x :: r, rfl, sq, fun z => ?_, fun _ p np => ?_⟩
  · exfalso
    have := HT.sIx_nat (x :: r).length 0 1
    rw [show ((1 : Nat) : Int) = 1 from rfl] at this
    rw [this, List.length_cons] at z
    omega
  · rw [cut_tail]
    exact h p np
/-- an if whose test gives b and leaves such a heap -/
theorem cutIfSR {c : TT} {t u r : TS} {D : Ends} {σ : L2.St} {H : Hp} (b : Bool) (R : Hp → Prop) (h : ∀ Q' : Bool → Hp → Prop, (∀ H', R H' → Q' b H') → c σ H Q') (q : ∀ H', R H' → if b = true then t { D with nx := r D } σ H' else u { D with nx := r D } σ H') : tSeq (tIfS c t u) r D σ H := h _ q
/-- the constants of texts.py, too -/
structure CnF (mg : Str → Option Value) (t1 t2 t3 t4 t5 t6 : Tok) : Prop extends CnT mg t1 t2 t3 t4 t5 where
  c_FIRST_LINE : mg "FIRST_LINE" = some (.int 2 t6)
  m_enumerate : mg "enumerate" = none
theorem rows_cap {head text : Str} {rows : List (List D)} (h : rdRows head text = .ok rows) (hl : text.length ≤ 9000000) : rows.length ≤ 9000000 := by
  obtain ⟨a, _⟩ := rows_back h
  have e := len_catnl (head :: rows.map rowT)
  have e2 : (wrRows head rows).length = wsum (head :: rows.map rowT) := e
  rw [a] at e2
  have := len_le_wsum (head :: rows.map rowT)
  rw [List.length_cons, List.length_map] at this
  omega

section
variable {P : Program} {w : World} {K : PySem.W.Frag} {mg : Str → Option Value} {base : Heap} {t1 t2 t3 t4 t5 t6 : Tok} {C fI : Addr}
def spBegins (K : PySem.W.Frag) : Sp := fun vs H Q _ => ∃ v ds, vs = [v] ∧ Rp K H (.tup ds) v ∧ ∀ H', Same H H' → Q (.bl (goodRun ds)) H'
theorem ok_begins (T : CnF mg t1 t2 t3 t4 t5 t6) (Df : HasDef K mg "begins_with_word" s_begins_with_word ["row"]) : Has P w K mg base CX0 1 "begins_with_word" ["row"] (spBegins K) := by
  refine Df.has fun f fd F => F.ok sc_begins_with_word (fun vs H Q E h => ?_) (fun cdv A outer s H vs Q E hr h => ?_)
  · obtain ⟨_, _, rfl, _⟩ := h; rfl
  · obtain ⟨v, ds, rfl, rv, q⟩ := h
    refine ⟨_, (pss_one (ps_ret (pe_and (pe_cmpR op_gt (pe_callB call_len_seq (by rfl) T.m_len (by decide +kernel) (pa_cons (pv 0) pa_nil)) pe_int (nomark _)) (pe_one (pe_callB call_isi (by rfl) T.m_isinstance (by decide +kernel) (pa_cons (pe_ix (show IxR _ (rIxT K) from ix_tup) (pv 0) pe_int (fun _ _ => rfl)) (pa_cons (pe_bltn (v := .ty "str") (u := .type "str") (by rfl) T.m_str (by decide +kernel) rfl) pa_nil))))))), ?_⟩
    have q0 := q H (Same.refl H)
    obtain ⟨a, xs, rfl, sq, rl⟩ := rv
    refine ⟨.ref a, rfl, a, xs, rfl, .inr sq, _, _, rfl, rfl, _, rfl, ?_⟩
    cases ds with
    | nil =>
      cases (show xs = [] from rl)
      refine ifF (by decide +kernel) ?_
      exact q0
    | cons d r =>
      obtain ⟨x, ys, rfl, rx, ry⟩ := rl
      refine ifT (decide_eq_true (by rw [List.length_cons]; omega)) ?_
      exact ⟨.ref a, rfl, a, _, 0, x, rfl, rfl, sq, atI_nat (j := 0) rfl, _, _, _, _, _, rfl, .ty "str", rx.ty, kit_ty (kb_str d), q0⟩

/-- write_rows under a written head -/
def spWriteK (K : PySem.W.Frag) (head : Str) : Sp := fun vs H Q _ => ∃ v rows, vs = [v] ∧ Rp K H (rowsD rows) v ∧ okRows rows ∧ wsum (head :: rows.map rowT) ≤ 9000000 ∧ ∀ H', Same H H' → Q (.str (wrRows head rows)) H'
theorem ok_write_run (T : CnF mg t1 t2 t3 t4 t5 t6) (Df : HasDef K mg "write_run" s_write_run ["run"]) (C_write_rows : Has P w K mg base CX0 23 "write_rows" ["head", "rows"] (spWriteRows K)) : Has P w K mg base CX0 24 "write_run" ["run"] (spWriteK K "run") := by
  refine Df.has fun f fd F => F.ok sc_write_run (fun vs H Q E h => ?_) (fun cdv A outer s H vs Q E hr h => ?_)
  · obtain ⟨_, _, rfl, _⟩ := h; rfl
  · obtain ⟨v, rows, rfl, rv, ok1, hw, q⟩ := h
    exact ⟨_, (pss_one (ps_ret (pe_has C_write_rows (hr.mono (by omega)) pass0 (pa_cons pe_str (pa_cons (pv 0) pa_nil))))), v, rfl, "run", v, rows, rfl, rv, ok1, hw, q⟩
theorem ok_write_journal (T : CnF mg t1 t2 t3 t4 t5 t6) (Df : HasDef K mg "write_journal" s_write_journal ["journal"]) (C_write_rows : Has P w K mg base CX0 23 "write_rows" ["head", "rows"] (spWriteRows K)) : Has P w K mg base CX0 24 "write_journal" ["journal"] (spWriteK K "journal") := by
  refine Df.has fun f fd F => F.ok sc_write_journal (fun vs H Q E h => ?_) (fun cdv A outer s H vs Q E hr h => ?_)
  · obtain ⟨_, _, rfl, _⟩ := h; rfl
  · obtain ⟨v, rows, rfl, rv, ok1, hw, q⟩ := h
    exact ⟨_, (pss_one (ps_ret (pe_has C_write_rows (hr.mono (by omega)) pass0 (pa_cons pe_str (pa_cons (pv 0) pa_nil))))), v, rfl, "journal", v, rows, rfl, rv, ok1, hw, q⟩
def spWritePaper (K : PySem.W.Frag) : Sp := fun vs H Q _ => ∃ v r, vs = [v] ∧ Rp K H (.tup r) v ∧ okRows [r] ∧ wsum ("paper" :: [r].map rowT) ≤ 9000000 ∧ ∀ H', Same H H' → Q (.str (wrRows "paper" [r])) H'
theorem ok_write_paper (T : CnF mg t1 t2 t3 t4 t5 t6) (Df : HasDef K mg "write_paper" s_write_paper ["paper"]) (C_write_rows : Has P w K mg base CX0 23 "write_rows" ["head", "rows"] (spWriteRows K)) : Has P w K mg base CX0 24 "write_paper" ["paper"] (spWritePaper K) := by
  refine Df.has fun f fd F => F.ok sc_write_paper (fun vs H Q E h => ?_) (fun cdv A outer s H vs Q E hr h => ?_)
  · obtain ⟨_, _, rfl, _⟩ := h; rfl
  · obtain ⟨v, r, rfl, rv, ok1, hw, q⟩ := h
    refine ⟨_, (pss_one (ps_ret (pe_has C_write_rows (hr.mono (by omega)) pass0 (pa_cons pe_str (pa_cons (pe_tup (pa_cons (pv 0) pa_nil)) pa_nil))))), ?_⟩
    refine ⟨v, rfl, by show 1 ≤ sizeLine; rw [sizeLine_eq]; omega, fun p np => ⟨"paper", .ref p, [r], rfl, ?_, ok1, hw, fun H' s' => q H' ((Sv.nil (Sv.new np)).trans s')⟩⟩
    exact Rp.made np ⟨v, [], rfl, rv, rfl⟩
def spWriteLog (K : PySem.W.Frag) : Sp := fun vs H Q _ => ∃ v rows, vs = [v] ∧ Rp K H (.tup (rows.map logE)) v ∧ (∀ r ∈ rows, goodLog r = true) ∧ okRows rows ∧ wsum ("log" :: rows.map rowT) ≤ 9000000 ∧ ∀ H', Same H H' → Q (.str (wrRows "log" rows)) H'
theorem ok_write_log (T : CnF mg t1 t2 t3 t4 t5 t6) (Df : HasDef K mg "write_log" s_write_log ["log"]) (C_write_rows : Has P w K mg base CX0 23 "write_rows" ["head", "rows"] (spWriteRows K)) : Has P w K mg base CX0 24 "write_log" ["log"] (spWriteLog K) := by
  refine Df.has fun f fd F => F.ok sc_write_log (fun vs H Q E h => ?_) (fun cdv A outer s H vs Q E hr h => ?_)
  · obtain ⟨_, _, rfl, _⟩ := h; rfl
  · obtain ⟨v, rows, rfl, rv, hg, ok1, hw, q⟩ := h
    refine ⟨_, (pss_one (ps_ret (pe_has C_write_rows (hr.mono (by omega)) pass0 (pa_cons pe_str (pa_cons (pe_callTy call_tuple_of (by rfl) T.m_tuple (by decide +kernel) (pa_cons (pe_lc (own := [("t", 1), ("deed", 2)]) (g := (gTup K 2 (gCons (gName 1) (gCons (gName 2) gNil)))) (tt := tYes) rfl sc_write_log.nd (pi_tup (pv 0)) (blkOk_by (own := [("t", 1), ("deed", 2)]) (N := ["log", "t", "deed"]) (sc := defScope s_write_log) (by decide +kernel)) (fun _ _ _ _ _ => (pg_tup rfl (pgs_cons (pg_name (i := 1) sc_write_log.nd rfl (Or.inl rfl)) (pgs_cons (pg_name (i := 2) sc_write_log.nd rfl (Or.inl rfl)) pgs_nil)))) (fun _ _ _ _ _ => pts_nil) (fun _ _ _ _ _ => (pe_op (show OpR _ _ (rCatA K) from op_catA) (pe_tup (pa_cons (pv 1) pa_nil)) (pv 2)))) pa_nil)) pa_nil))))), ?_⟩
    have hsz := sizeLine_eq
    have hll : rows.length + 1 ≤ 9000000 := by
      have := len_le_wsum ("log" :: rows.map rowT)
      rw [List.length_cons, List.length_map] at this
      omega
    obtain ⟨a, xs, rfl, sq, rl⟩ := rv
    refine ⟨.ref a, rfl, a, rfl, ⟨_, sq⟩, fun l nl => lc_tup (K := K) (a := a) (xs := xs) (fun i H' => Sv [l] H H' ∧ ∃ ys, H' l = some (.lst ys) ∧ RpL K H' ((rows.take i).map .tup) ys) ⟨Sv.new nl, [], upd_same, rfl⟩
      (fun i H' _ ⟨s1, _⟩ => (TK.same (Sv.nil (Sv.drop nl s1))).seqT sq) ?_ ?_⟩
    · rintro i x H1 hi ⟨s1, ys, hl, ry⟩
      have sm := Sv.nil (Sv.drop nl s1)
      obtain ⟨d, hd, rd⟩ := rl.get hi
      rw [List.getElem?_map] at hd
      obtain ⟨ds, hds, rfl⟩ : ∃ ds, rows[i]? = some ds ∧ d = logE ds := by
        cases hq : rows[i]? with
        | none => rw [hq] at hd; cases hd
        | some ds => rw [hq] at hd; exact ⟨ds, rfl, (Option.some.inj hd).symm⟩
      have gd := hg ds (List.mem_of_getElem? hds)
      obtain ⟨d0, d1, dr, rfl⟩ : ∃ x y r, ds = x :: y :: r := by
        match ds, gd with
        | x :: y :: r, _ => exact ⟨x, y, r, rfl⟩
      obtain ⟨b, zs, rfl, sqb, z0, zr, rfl, r0, z1, zr', rfl, r1, hz'⟩ := rd.keep (TK.same sm)
      cases (show zr' = [] from hz')
      obtain ⟨c, ws, rfl, sqc, rc⟩ := r1
      have dlen : (dr.length + 2 : Nat) ≤ 9000001 := by
        have w1 := row_wsum hds ok1 hw
        have w2 := okL_len (ok1 _ (List.mem_of_getElem? hds)).1
        have w3 := len_le_wsum (toksL (d0 :: d1 :: dr))
        simp only [List.length_cons] at w2
        omega
      have wl : ws.length = dr.length + 1 := rc.len
      have ylen : ys.length ≤ 9000000 := by
        rw [ry.len, List.length_map, List.length_take]
        omega
      refine ⟨b, _, rfl, sqb, rfl, _, _, rfl, _, _, rfl, rfl, ?_⟩
      refine ⟨rfl, z0, rfl, by show 1 ≤ sizeLine; omega, fun p np => ?_⟩
      have sqc' := (TK.same (Sv.nil (Sv.new (o := .tup [z0]) np))).seqT sqc
      refine ⟨.ref c, rfl, p, c, [z0], ws, rfl, rfl, .inl (.inl upd_same), sqc', by rw [wl]; show 1 + _ ≤ _; omega, fun e => (by cases e), fun _ e => (by rw [e] at wl; cases wl), fun _ _ p2 np2 => ?_⟩
      have k2 : Same H1 (upd (upd H1 p (.tup [z0])) p2 (.tup ([z0] ++ ws))) := (Sv.nil (Sv.new np)).trans (Sv.nil (Sv.new np2))
      refine ⟨ys, k2 _ _ hl, by omega, s1.trans ((Sv.same k2).trans (Sv.set (by simp))), _, upd_same, ?_⟩
      have isl : IsL (upd (upd H1 p (.tup [z0])) p2 (.tup ([z0] ++ ws))) l := ⟨_, k2 _ _ hl⟩
      rw [take_snoc hds, List.map_append]
      refine RpL.app ((ry.keep (TK.same k2)).keep (tk_set isl)) ⟨.ref p2, [], rfl, ?_, rfl⟩
      have rp2 : Rp K (upd (upd H1 p (.tup [z0])) p2 (.tup ([z0] ++ ws))) (.tup (d0 :: d1 :: dr)) (.ref p2) := ⟨p2, _, rfl, .inl (.inl upd_same), z0, ws, rfl, r0.keep (TK.same k2), rc.keep (TK.same k2)⟩
      exact rp2.keep (tk_set isl)
    · rintro H1 ⟨s1, ys, hl, ry⟩
      have ef : rows.take xs.length = rows := by rw [rl.len, List.length_map, List.take_length]
      rw [ef] at ry
      have sm := Sv.nil (Sv.drop nl s1)
      refine ⟨l, ys, rfl, .inl ⟨.inl (.inl hl), fun t nt => ?_⟩⟩
      have k2 : Same H1 (upd H1 t (.tup ys)) := Sv.nil (Sv.new nt)
      exact ⟨"log", .ref t, rows, rfl, Rp.made nt ry, ok1, hw, fun H' s' => q H' (sm.trans (k2.trans s'))⟩

/-- a reader of the kind nth, under the head -/
def spReadK (K : PySem.W.Frag) (C : Addr) (nth : Nat) (head : Str) : Sp := fun vs H Q E => ∃ text : Str, vs = [.str text] ∧ text.length ≤ 9000000 ∧ (∀ d, rdK nth head text = .ok d → ∀ H' v, Same H H' → Rp K H' d v → Q v H') ∧ (∀ n, rdK nth head text = .error n → Err C n H E)
theorem ok_read_journal (T : CnF mg t1 t2 t3 t4 t5 t6) (Df : HasDef K mg "read_journal" s_read_journal ["text"]) (C_read_rows : Has P w K mg base (L2.CX P w) 6 "read_rows" ["head", "text"] (spReadRows K C)) :
    Has P w K mg base (L2.CX P w) 7 "read_journal" ["text"] (spReadK K C 3 "journal") := by
  refine Df.has fun f fd F => F.okX sc_read_journal (fun vs H Q E h => ?_) (fun cdv A outer s H vs Q E hr h => ?_)
  · obtain ⟨_, rfl, _⟩ := h; rfl
  · obtain ⟨z, rfl, hl, q, e⟩ := h
    refine ⟨_, (pss_one (ps_ret (pe_hasS C_read_rows (hr.mono (by omega)) (takes_of rfl rfl rfl rfl) (by exact (pa_cons pe_str (pa_cons (pv 0) pa_nil)))))), ?_⟩
    refine ⟨.str z, rfl, "journal", z, rfl, hl, fun rows hr H1 v s1 rv => ?_, fun n hn => e n (by unfold rdK; rw [hn])⟩
    exact q (rowsD rows) (by unfold rdK; rw [hr]; rfl) _ _ s1 rv
theorem ok_read_paper (T : CnF mg t1 t2 t3 t4 t5 t6) (Z : Ex P K mg C fI) (Df : HasDef K mg "read_paper" s_read_paper ["text"]) (C_read_rows : Has P w K mg base (L2.CX P w) 6 "read_rows" ["head", "text"] (spReadRows K C)) :
    Has P w K mg base (L2.CX P w) 7 "read_paper" ["text"] (spReadK K C 4 "paper") := by
  refine Df.has fun f fd F => F.okX sc_read_paper (fun vs H Q E h => ?_) (fun cdv A outer s H vs Q E hr h => ?_)
  · obtain ⟨_, rfl, _⟩ := h; rfl
  · obtain ⟨z, rfl, hl, q, e⟩ := h
    refine ⟨_, (pss_cons (ps_set (i := 1) sc_read_paper.nd rfl (Or.inl rfl) (pe_hasS C_read_rows (hr.mono (by omega)) (takes_of rfl rfl rfl rfl) (by exact (pa_cons pe_str (pa_cons (pv 0) pa_nil)))))
  (pss_cons (ps_if (pt_cmpR op_eq (pe_callB call_len_seq (by rfl) T.m_len (by decide +kernel) (pa_cons (pv 1) pa_nil)) pe_int (nomark _))
  (pss_one (ps_raiseSup rfl Z.WordError_ Z.WordError_nm hr (takes_of rfl rfl rfl rfl) (by exact (pa_cons (pe_glob (v := .int 2) (by rfl) T.c_FIRST_LINE ⟨_, rfl⟩) pa_nil))))
  pss_nil)
  (pss_cons (ps_if (pt_cmpR op_gt (pe_callB call_len_seq (by rfl) T.m_len (by decide +kernel) (pa_cons (pv 1) pa_nil)) pe_int (nomark _))
  (pss_one (ps_raiseSup rfl Z.WordError_ Z.WordError_nm hr (takes_of rfl rfl rfl rfl) (by exact (pa_cons (pe_op op_add (pe_glob (v := .int 2) (by rfl) T.c_FIRST_LINE ⟨_, rfl⟩) pe_int) pa_nil))))
  pss_nil)
  (pss_one (ps_ret (pe_ix (show IxR _ (rIxT K) from ix_tup) (pv 1) pe_int (fun _ _ => rfl))))))), ?_⟩
    refine ⟨.str z, rfl, "paper", z, rfl, hl, fun rows hr H1 v s1 rv => ?_, fun n hn => e n (by unfold rdK; rw [hn])⟩
    obtain ⟨a, xs, rfl, sq, rl⟩ := rv
    have xl : xs.length = rows.length := by rw [rl.len, List.length_map]
    have rk : rdK 4 "paper" z = (match faultK 4 rows with | some k => .error k | none => .ok (thing 4 rows)) := by unfold rdK; rw [hr]
    refine ⟨.ref a, rfl, a, xs, rfl, .inr sq, rfl, _, rfl, ?_⟩
    cases rows with
    | nil =>
      refine ifT (decide_eq_true (by rw [xl]; rfl)) ?_
      exact ⟨_, rfl, line_fmt (n := 2) (by decide) (by decide), (e 2 (by rw [rk]; rfl)).now s1⟩
    | cons r rs =>
      refine ifF (decide_eq_false (by rw [xl, List.length_cons]; intro y; have := V.int.inj y; omega)) ?_
      dsimp only [tNext]
      refine ⟨.ref a, rfl, a, xs, rfl, .inr sq, _, _, rfl, rfl, _, rfl, ?_⟩
      cases rs with
      | cons r2 rs =>
        refine ifT (decide_eq_true (by rw [xl, List.length_cons, List.length_cons]; omega)) ?_
        exact ⟨_, _, rfl, rfl, _, rfl, line_fmt (n := 3) (by decide) (by decide), (e 3 (by rw [rk]; rfl)).now s1⟩
      | nil =>
        refine ifF (decide_eq_false (by rw [xl]; simp)) ?_
        dsimp only [tNext]
        obtain ⟨x, ys, rfl, rx, ry⟩ := rl
        exact ⟨.ref a, rfl, a, _, 0, x, rfl, rfl, sq, atI_nat (j := 0) rfl, q (.tup r) (by rw [rk]; rfl) _ _ s1 rx⟩
theorem ok_read_run (T : CnF mg t1 t2 t3 t4 t5 t6) (Z : Ex P K mg C fI) (Df : HasDef K mg "read_run" s_read_run ["text"]) (C_read_rows : Has P w K mg base (L2.CX P w) 6 "read_rows" ["head", "text"] (spReadRows K C)) (C_begins_with_word : Has P w K mg base CX0 1 "begins_with_word" ["row"] (spBegins K)) :
    Has P w K mg base (L2.CX P w) 7 "read_run" ["text"] (spReadK K C 2 "run") := by
  refine Df.has fun f fd F => F.okX sc_read_run (fun vs H Q E h => ?_) (fun cdv A outer s H vs Q E hr h => ?_)
  · obtain ⟨_, rfl, _⟩ := h; rfl
  · obtain ⟨z, rfl, hl, q, e⟩ := h
    refine ⟨_, (pss_cons (ps_set (i := 1) sc_read_run.nd rfl (Or.inl rfl) (pe_hasS C_read_rows (hr.mono (by omega)) (takes_of rfl rfl rfl rfl) (by exact (pa_cons pe_str (pa_cons (pv 0) pa_nil)))))
  (pss_cons (ps_for (passes_of rfl) rfl (pi_enumT (by rfl) T.m_enumerate (pa_cons (pv 1) pa_nil)) (pg_tup rfl (pgs_cons (pg_name (i := 2) sc_read_run.nd rfl (Or.inl rfl)) (pgs_cons (pg_name (i := 3) sc_read_run.nd rfl (Or.inl rfl)) pgs_nil)))
  (pss_one (ps_if (pt_not (pt_val (pe_has C_begins_with_word (hr.mono (by omega)) pass0 (pa_cons (pv 3) pa_nil))))
  (pss_one (ps_raiseSup rfl Z.WordError_ Z.WordError_nm hr (takes_of rfl rfl rfl rfl) (by exact (pa_cons (pe_op op_add (pe_glob (v := .int 2) (by rfl) T.c_FIRST_LINE ⟨_, rfl⟩) (pv 2)) pa_nil))))
  pss_nil)))
  (pss_one (ps_ret (pv 1))))), ?_⟩
    refine ⟨.str z, rfl, "run", z, rfl, hl, fun rows hr H1 v s1 rv => ?_, fun n hn => e n (by unfold rdK; rw [hn])⟩
    have cap := rows_cap hr hl
    obtain ⟨a, xs, rfl, sq, rl⟩ := rv
    have xl : xs.length = rows.length := by rw [rl.len, List.length_map]
    have rk : rdK 2 "run" z = (match bad goodRun rows 2 with | some k => .error k | none => .ok (rowsD rows)) := by unfold rdK; rw [hr]; rfl
    refine ⟨.ref a, rfl, a, xs, rfl, sq, for_enumT (K := K) (a := a) (xs := xs) (fun i σ H' => ∃ y1 y2, σ = [some (.str z), some (.ref a), y1, y2] ∧ Same H1 H' ∧ ∀ r ∈ rows.take i, goodRun r = true) ⟨none, none, rfl, Same.refl _, fun r hr => by simp at hr⟩ (fun i σ H' _ ⟨_, _, _, s2, _⟩ => (TK.same s2).seqT sq) ?_ ?_⟩
    · rintro i x σ H2 t hi ⟨y1, y2, rfl, s2, hg⟩ nt
      obtain ⟨ds, hds, rd⟩ := rl.rows hi
      have ii := (List.getElem?_eq_some_iff.mp hds).1
      have s3 : Same H1 (upd H2 t (.tup [.int (i : Nat), x])) := s2.trans (Sv.nil (Sv.new nt))
      refine ⟨t, _, rfl, .inl (.inl upd_same), rfl, _, _, rfl, _, _, rfl, rfl, ?_⟩
      refine ⟨x, rfl, x, ds, rfl, rd.keep (TK.same s3), fun H3 s4 => ⟨_, rfl, ?_⟩⟩
      cases hgd : goodRun ds with
      | true =>
        refine iteF ?_
        exact ⟨_, _, rfl, s3.trans s4, good_take hg hds hgd⟩
      | false =>
        refine iteT ?_
        refine ⟨_, rfl, _, _, rfl, rfl, _, rfl, line_fmt (by omega) (by omega), ?_⟩
        have := (e (2 + i) (by rw [rk, bad_at hg hds hgd])).now (s1.trans (s3.trans s4))
        rw [show ((2 + i : Nat) : Int) = 2 + (i : Int) by omega] at this
        exact this
    · rintro σ H2 ⟨y1, y2, rfl, s2, hg⟩
      rw [xl, List.take_length] at hg
      exact ⟨.ref a, rfl, q (rowsD rows) (by rw [rk, bad_all hg]) _ _ (s1.trans s2) ⟨a, xs, rfl, (TK.same s2).seqT sq, rl.keep (TK.same s2)⟩⟩

theorem ok_read_log (T : CnF mg t1 t2 t3 t4 t5 t6) (Z : Ex P K mg C fI) (Df : HasDef K mg "read_log" s_read_log ["text"]) (C_read_rows : Has P w K mg base (L2.CX P w) 6 "read_rows" ["head", "text"] (spReadRows K C)) (C_whole : Has P w K mg base CX0 1 "whole" ["x"] (spWhole K))
    (C_begins_with_word : Has P w K mg base CX0 1 "begins_with_word" ["row"] (spBegins K)) :
    Has P w K mg base (L2.CX P w) 7 "read_log" ["text"] (spReadK K C 1 "log") := by
  refine Df.has fun f fd F => F.okX sc_read_log (fun vs H Q E h => ?_) (fun cdv A outer s H vs Q E hr h => ?_)
  · obtain ⟨_, rfl, _⟩ := h; rfl
  · obtain ⟨z, rfl, hl, q, e⟩ := h
    refine ⟨_, (pss_cons (ps_set (i := 1) sc_read_log.nd rfl (Or.inl rfl) (pe_lst pa_nil))
  (pss_cons (ps_for (passes_of rfl) rfl (pi_enumT (by rfl) T.m_enumerate (pa_cons (pe_hasS C_read_rows (hr.mono (by omega)) (takes_of rfl rfl rfl rfl) (by exact (pa_cons pe_str (pa_cons (pv 0) pa_nil)))) pa_nil)) (pg_tup rfl (pgs_cons (pg_name (i := 2) sc_read_log.nd rfl (Or.inl rfl)) (pgs_cons (pg_name (i := 3) sc_read_log.nd rfl (Or.inl rfl)) pgs_nil)))
  (pss_cons (ps_if (PW.pt (pw_or (pt_cmpR op_lt (pe_callB call_len_seq (by rfl) T.m_len (by decide +kernel) (pa_cons (pv 3) pa_nil)) pe_int (nomark _)) (pw_or (pt_not (pt_val (pe_has C_whole (hr.mono (by omega)) pass0 (pa_cons (pe_ix (show IxR _ (rIxT K) from ix_tup) (pv 3) pe_int (fun _ _ => rfl)) pa_nil)))) (pw_or1 (pt_not (pt_val (pe_has C_begins_with_word (hr.mono (by omega)) pass0 (pa_cons (pe_slice sl_tupA (pv 3) (po_some pe_int) po_none) pa_nil))))))))
  (pss_one (ps_raiseSup rfl Z.WordError_ Z.WordError_nm hr (takes_of rfl rfl rfl rfl) (by exact (pa_cons (pe_op op_add (pe_glob (v := .int 2) (by rfl) T.c_FIRST_LINE ⟨_, rfl⟩) (pv 2)) pa_nil))))
  pss_nil)
  (pss_one (ps_expr (pe_bm PySem.F.plainAttrs_list PySem.F.slot_list_append PySem.F.type_list_append mt_append (pv 1) (pa_cons (pe_tup (pa_cons (pe_ix (show IxR _ (rIxT K) from ix_tup) (pv 3) pe_int (fun _ _ => rfl)) (pa_cons (pe_slice sl_tupA (pv 3) (po_some pe_int) po_none) pa_nil))) pa_nil))))))
  (pss_one (ps_ret (pe_callTy call_tuple_of (by rfl) T.m_tuple (by decide +kernel) (pa_cons (pv 1) pa_nil)))))), ?_⟩
    have hsz := sizeLine_eq
    refine ⟨Nat.zero_le _, fun l nl => ?_⟩
    have s0 : Same H (upd H l (.lst [])) := Sv.nil (Sv.new nl)
    refine ⟨.str z, rfl, "log", z, rfl, hl, fun rows hr H1 v s1 rv => ?_, fun n hn => (e n (by unfold rdK; rw [hn])).on s0⟩
    have cap := rows_cap hr hl
    have hl1 : H1 l = some (.lst []) := s1 _ _ upd_same
    have sv1 : Sv [l] H H1 := (Sv.new nl).trans (Sv.same s1)
    obtain ⟨a, xs, rfl, sq, rl⟩ := rv
    have xl : xs.length = rows.length := by rw [rl.len, List.length_map]
    have rk : rdK 1 "log" z = (match bad goodLog rows 2 with | some k => .error k | none => .ok (.tup (rows.map logE))) := by unfold rdK; rw [hr]; rfl
    have isl : ∀ {H' : Hp} {ys : List V}, H' l = some (.lst ys) → ∀ b ∈ [l], IsL H' b := fun h b hb => by
      have : b = l := by simpa using hb
      exact this ▸ ⟨_, h⟩
    refine ⟨a, xs, rfl, sq, for_enumT (K := K) (a := a) (xs := xs) (fun i σ H' => ∃ y1 y2 ys, σ = [some (.str z), some (.ref l), y1, y2] ∧ Sv [l] H1 H' ∧ H' l = some (.lst ys) ∧ RpL K H' ((rows.take i).map logE) ys ∧ ∀ r ∈ rows.take i, goodLog r = true)
      ⟨none, none, [], rfl, Sv.refl _ _, hl1, rfl, fun r hr => by simp at hr⟩ (fun i σ H' _ ⟨_, _, _, _, s2, _⟩ => (Sv.tk s2 (isl hl1)).seqT sq) ?_ ?_⟩
    · rintro i x σ H2 t hi ⟨y1, y2, ys, rfl, s2, hl2, ry, hg⟩ nt
      obtain ⟨ds, hds, rd⟩ := rl.rows hi
      have ii := (List.getElem?_eq_some_iff.mp hds).1
      have k2 : TK H1 H2 := Sv.tk s2 (isl hl1)
      have s3 : Same H2 (upd H2 t (.tup [.int (i : Nat), x])) := Sv.nil (Sv.new nt)
      have smH : ∀ {H' : Hp}, Sv [l] H2 H' → Same H H' := fun h => Sv.nil (Sv.drop nl (sv1.trans (s2.trans h)))
      have ylen : ys.length ≤ 9000000 := by
        rw [ry.len, List.length_map, List.length_take]
        omega
      refine ⟨t, _, rfl, .inl (.inl upd_same), rfl, _, _, rfl, _, _, rfl, rfl, ?_⟩
      have rx := (rd.keep k2).keep (TK.same s3)
      generalize hH3 : upd H2 t (.tup [.int (i : Nat), x]) = H3 at *
      have hl3 : H3 l = some (.lst ys) := s3 _ _ hl2
      have ry3 := ry.keep (TK.same s3)
      obtain ⟨b, zs, rfl, sqb, rb⟩ := rx
      refine cutIfSR (!goodLog ds) (fun H' => Same H3 H') (fun Q' h' => ?_) ?_
      · refine ⟨.ref b, rfl, b, zs, rfl, .inr sqb, _, _, rfl, rfl, _, rfl, ?_⟩
        match ds, rb with
        | [], rb =>
          cases (show zs = [] from rb)
          exact ifT (by decide +kernel) (h' _ (Same.refl _))
        | [d0], rb =>
          obtain ⟨z0, zr, rfl, r0, rr⟩ := rb
          cases (show zr = [] from rr)
          exact ifT (decide_eq_true (by show ((1 : Nat) : Int) < 2; omega)) (h' _ (Same.refl _))
        | d0 :: d1 :: dr, rb =>
          obtain ⟨z0, zr, rfl, r0, rr⟩ := rb
          have zl : zr.length = dr.length + 1 := rr.len
          refine ifF (decide_eq_false (by rw [List.length_cons, zl]; omega)) ?_
          refine ⟨.ref b, rfl, b, _, 0, z0, rfl, rfl, sqb, atI_nat (j := 0) rfl, z0, d0, rfl, r0, _, rfl, ?_⟩
          cases hi0 : isInt d0 with
          | false =>
            refine iteT ?_
            have : goodLog (d0 :: d1 :: dr) = false := by show (isInt d0 && isStr d1) = false; rw [hi0]; rfl
            rw [this] at h'
            exact h' _ (Same.refl _)
          | true =>
            refine iteF ?_
            refine ⟨.ref b, rfl, _, rfl, ?_⟩
            unfold tNoPart
            dsimp only
            refine sl_tail sqb fun p np => ?_
            refine ⟨.ref p, d1 :: dr, rfl, Rp.made np rr, fun H4 s4 => ⟨_, rfl, ?_⟩⟩
            have : goodLog (d0 :: d1 :: dr) = goodRun (d1 :: dr) := by show (isInt d0 && isStr d1) = isStr d1; rw [hi0]; rfl
            rw [this] at h'
            exact h' _ ((Sv.nil (Sv.new np)).trans s4)
      · intro H4 s4
        cases hgd : goodLog ds with
        | false =>
          refine iteT ?_
          refine ⟨_, rfl, _, _, rfl, rfl, _, rfl, line_fmt (by omega) (by omega), ?_⟩
          have := (e (2 + i) (by rw [rk, bad_at hg hds hgd])).now (smH (Sv.same (s3.trans s4)))
          rw [show ((2 + i : Nat) : Int) = 2 + (i : Int) by omega] at this
          exact this
        | true =>
          refine iteF ?_
          dsimp only [tNext]
          obtain ⟨d0, d1, dr, rfl⟩ : ∃ x y r, ds = x :: y :: r := by
            match ds, hgd with
            | x :: y :: r, _ => exact ⟨x, y, r, rfl⟩
          obtain ⟨z0, zr, rfl, r0, rr⟩ := rb
          have hl4 := s4 _ _ hl3
          have sqb4 := (TK.same s4).seqT sqb
          refine ⟨.ref l, rfl, .inl ⟨rfl, _, .inl (.inl hl4)⟩, .ref b, rfl, b, _, 0, z0, rfl, rfl, sqb4, atI_nat (j := 0) rfl, .ref b, rfl, _, rfl, ?_⟩
          unfold tNoPart
          dsimp only
          refine sl_tail sqb4 fun p np => ?_
          refine ⟨by show 2 ≤ sizeLine; omega, fun p2 np2 => ?_⟩
          have k2 : Same H4 (upd (upd H4 p (.tup zr)) p2 (.tup [z0, .ref p])) := (Sv.nil (Sv.new np)).trans (Sv.nil (Sv.new np2))
          have k34 := s4.trans k2
          refine ⟨l, _, _, rfl, rfl, k2 _ _ hl4, by omega, ⟨_, _, ys ++ [.ref p2], rfl, s2.trans ((Sv.same (s3.trans k34)).trans (Sv.set (by simp))), upd_same, ?_, good_take hg hds hgd⟩⟩
          have isl2 : IsL (upd (upd H4 p (.tup zr)) p2 (.tup [z0, .ref p])) l := ⟨_, k2 _ _ hl4⟩
          rw [take_snoc hds, List.map_append]
          refine RpL.app ((ry3.keep (TK.same k34)).keep (tk_set isl2)) ⟨.ref p2, [], rfl, ?_, rfl⟩
          have hp2 : (upd (upd H4 p (.tup zr)) p2 (.tup [z0, .ref p])) p = some (.tup zr) := (Sv.nil (Sv.new np2)) _ _ upd_same
          have rp2 : Rp K (upd (upd H4 p (.tup zr)) p2 (.tup [z0, .ref p])) (.tup [d0, .tup (d1 :: dr)]) (.ref p2) :=
            ⟨p2, _, rfl, .inl (.inl upd_same), z0, _, rfl, r0.keep (TK.same k34), .ref p, [], rfl, ⟨p, zr, rfl, .inl (.inl hp2), rr.keep (TK.same k34)⟩, rfl⟩
          exact rp2.keep (tk_set isl2)
    · rintro σ H2 ⟨y1, y2, ys, rfl, s2, hl2, ry, hg⟩
      rw [xl, List.take_length] at hg
      rw [xl, List.take_length] at ry
      have smH : Same H H2 := Sv.nil (Sv.drop nl (sv1.trans s2))
      refine ⟨.ref l, rfl, l, ys, rfl, .inl ⟨.inl (.inl hl2), fun t nt => ?_⟩⟩
      exact q (.tup (rows.map logE)) (by rw [rk, bad_all hg]) _ _ (smH.trans (Sv.nil (Sv.new nt))) ⟨t, ys, rfl, .inl (.inl upd_same), ry.keep (TK.same (Sv.nil (Sv.new nt)))⟩
end
end RS

namespace RS
open PySem PySem.Spec PyProof.Rows L2 TL

abbrev s_law_read_rows : Stmt := topS 43
theorem sc_law_read_rows : FnScope ["head", "text", "found", "pieces", "k", "got"] ["head", "text"] (defScope s_law_read_rows) := ⟨rfl, rfl, rfl, by decide +kernel, rfl, by decide +kernel, by decide +kernel⟩

section
variable {P : Program} {w : World} {K : PySem.W.Frag} {mg : Str → Option Value} {base : Heap} {t1 t2 t3 t4 t5 t6 : Tok} {C fI : Addr}
def spLRows (K : PySem.W.Frag) : Sp := fun vs H Q _ => ∃ head text : Str, vs = [.str head, .str text] ∧ text.length ≤ 9000000 ∧ (∀ rows, rdRows head text = .ok rows → ∀ H' v, Same H H' → Rp K H' (rowsD rows) v → Q v H') ∧ (∀ n : Nat, rdRows head text = .error n → ∀ H', Same H H' → Q (.int (n : Int)) H')
theorem ok_law_read_rows (T : CnF mg t1 t2 t3 t4 t5 t6) (Df : HasDef K mg "_law_read_rows" s_law_read_rows ["head", "text"]) (C_law_read : Has P w K mg base CX0 2 "_law_read" ["text"] (spLRead K)) :
    Has P w K mg base CX0 3 "_law_read_rows" ["head", "text"] (spLRows K) := by
  refine Df.has fun f fd F => F.ok sc_law_read_rows (fun vs H Q E h => ?_) (fun cdv A outer s H vs Q E hr h => ?_)
  · obtain ⟨_, _, rfl, _⟩ := h; rfl
  · obtain ⟨head, z, rfl, hl, q, e⟩ := h
    refine ⟨_, (pss_cons (ps_set (i := 2) sc_law_read_rows.nd rfl (Or.inl rfl) (pe_lst pa_nil))
  (pss_cons (ps_set (i := 3) sc_law_read_rows.nd rfl (Or.inl rfl) (pe_split (pv 1) pe_str))
  (pss_cons (ps_for PassesOwn.never rfl (pi_range1 (by rfl) T.m_range (pa_cons (pe_callB call_len_seq (by rfl) T.m_len (by decide +kernel) (pa_cons (pv 3) pa_nil)) pa_nil)) (pg_name (i := 4) sc_law_read_rows.nd rfl (Or.inl rfl))
  (pss_cons (ps_if (PW.pt (pw_and (pt_cmpR op_eq (pv 4) pe_int (nomark _)) (pw_and1 (PW.pt (pw_or (pt_cmpR op_ne (pe_ix ix_list (pv 3) pe_int (fun _ _ => rfl)) (pv 0) (nomark _)) (pw_or1 (pt_cmpR op_eq (pe_callB call_len_seq (by rfl) T.m_len (by decide +kernel) (pa_cons (pv 3) pa_nil)) pe_int (nomark _))))))))
  (pss_one (ps_ret pe_int))
  pss_nil)
  (pss_one (ps_if (pt_cmpR op_eq (pv 4) (pe_op op_sub (pe_callB call_len_seq (by rfl) T.m_len (by decide +kernel) (pa_cons (pv 3) pa_nil)) pe_int) (nomark _))
  (pss_one (ps_if (pt_cmpR op_ne (pe_ix ix_list (pv 3) (pv 4) (fun _ _ => rfl)) pe_str (nomark _))
  (pss_one (ps_ret (pe_op op_add (pv 4) pe_int)))
  pss_nil))
  (pss_one (ps_if (PW.pt (pw_and (pt_cmpR op_gt (pv 4) pe_int (nomark _)) (pw_and1 (pt_cmpR op_eq (pe_ix ix_list (pv 3) (pv 4) (fun _ _ => rfl)) pe_str (nomark _)))))
  (pss_one (ps_expr (pe_bm PySem.F.plainAttrs_list PySem.F.slot_list_append PySem.F.type_list_append mt_append (pv 2) (pa_cons (pe_tup pa_nil) pa_nil))))
  (pss_one (ps_if (pt_cmpR op_gt (pv 4) pe_int (nomark _))
  (pss_cons (ps_set (i := 5) sc_law_read_rows.nd rfl (Or.inl rfl) (pe_has C_law_read (hr.mono (by omega)) pass0 (pa_cons (pe_ix ix_list (pv 3) (pv 4) (fun _ _ => rfl)) pa_nil)))
  (pss_cons (ps_if (pt_val (pe_callB call_isi (by rfl) T.m_isinstance (by decide +kernel) (pa_cons (pv 5) (pa_cons (pe_bltn (v := .ty "tuple") (u := .type "tuple") (by rfl) T.m_tuple (by decide +kernel) rfl) pa_nil))))
  (pss_one (ps_ret (pe_op op_add (pv 4) pe_int)))
  pss_nil)
  (pss_one (ps_expr (pe_bm PySem.F.plainAttrs_list PySem.F.slot_list_append PySem.F.type_list_append mt_append (pv 2) (pa_cons (pe_callTy call_tuple_of (by rfl) T.m_tuple (by decide +kernel) (pa_cons (pv 5) pa_nil)) pa_nil))))))
  pss_nil))))))))
  (pss_one (ps_ret (pe_callTy call_tuple_of (by rfl) T.m_tuple (by decide +kernel) (pa_cons (pv 2) pa_nil))))))), ?_⟩
    have hsz := sizeLine_eq
    refine cutSeq (fun σ' H' => ∃ l : Addr, σ' = [some (.str head), some (.str z), some (.ref l), none, none, none] ∧ H l = none ∧ H' = upd H l (.lst [])) (fun nx hn => ?_) ?_
    · exact ⟨Nat.zero_le _, fun l nl => hn _ _ ⟨l, rfl, nl, rfl⟩⟩
    rintro _ H0 ⟨l, rfl, nl, rfl⟩
    refine cutSeq (fun σ' H' => ∃ a : Addr, σ' = [some (.str head), some (.str z), some (.ref l), some (.ref a), none, none] ∧ Sv [l] H H' ∧ H' l = some (.lst []) ∧ Strs H' a (Txt.split z RS.nl) ∧ a ≠ l) (fun nx hn => ?_) ?_
    · refine ⟨.str z, rfl, ⟨z, rfl⟩, z, RS.nl, rfl, rfl, by decide +kernel, by omega, fun a na => hn _ _ ⟨a, rfl, (Sv.new nl).trans (Sv.new na), ?_, upd_same, ?_⟩⟩
      · exact (Sv.nil (Sv.new na)) _ _ upd_same
      · intro y
        rw [y, upd_same] at na
        cases na
    rintro _ H1 ⟨a, rfl, sv1, hl1, ha, al⟩
    have hrd : rdRows head z = (if (Txt.split z RS.nl).length = 1 ∨ (Txt.split z RS.nl).head? ≠ some head then .error 1
      else match scan ((Txt.split z RS.nl).tail.dropLast) 2 with
        | .error k => .error k
        | .ok rows => if (Txt.split z RS.nl).getLast? = some eS then .ok rows else .error (Txt.split z RS.nl).length) := rfl
    have hLw := lines_sum z
    have hLn := lines_ne z
    generalize Txt.split z RS.nl = L at *
    have hLl : L.length ≤ 9000001 := by have := len_le_wsum L; omega
    obtain ⟨x0, r0, rfl⟩ : ∃ x r, L = x :: r := by
      cases L with
      | nil => exact absurd rfl hLn
      | cons x r => exact ⟨x, r, rfl⟩
    have smH : ∀ {H' : Hp}, Sv [l] H1 H' → Same H H' := fun h => Sv.nil (Sv.drop nl (sv1.trans h))
    have nat0 : ∀ {i : Nat}, (V.int (0 + (i : Int)) = V.int 0) ↔ i = 0 := fun {i} => ⟨fun h => by have := V.int.inj h; omega, fun h => by rw [h]; rfl⟩
    by_cases hC : (x0 :: r0).length = 1 ∨ (x0 :: r0).head? ≠ some head
    · rw [if_pos hC] at hrd
      refine ⟨.ref a, rfl, a, _, rfl, .inl (.inl (.inl ha)), _, rfl, ?_, ?_, for_range (lo := 0) (n := _) (fun i σ H' => i = 0 ∧ ∃ y4 y5, σ = [some (.str head), some (.str z), some (.ref l), some (.ref a), y4, y5] ∧ H' = H1) ⟨rfl, none, none, rfl, rfl⟩ ?_ ?_⟩
      · rw [List.length_map]; omega
      · rw [List.length_map]; omega
      · rintro i σ H' hi ⟨rfl, y4, y5, rfl, rfl⟩
        refine ⟨_, rfl, rfl, _, rfl, ?_⟩
        refine iteT ?_
        refine ⟨.ref a, rfl, a, _, 0, .str x0, rfl, rfl, .inl (.inl ha), atI_nat (j := 0) rfl, _, rfl, rfl, _, rfl, ?_⟩
        have out := e 1 hrd H' (smH (Sv.refl _ _))
        by_cases hx : x0 = head
        · rw [decide_eq_true (congrArg V.str hx)]
          refine iteF ?_
          refine ⟨.ref a, rfl, a, _, rfl, .inl (.inl (.inl ha)), rfl, _, rfl, ?_⟩
          have h1 : (x0 :: r0).length = 1 := by
            rcases hC with h | h
            · exact h
            · exact absurd (congrArg some hx) h
          refine ifT (decide_eq_true (congrArg V.int (by rw [List.length_map, h1]; rfl))) ?_
          exact out
        · rw [decide_eq_false (fun y => hx (V.str.inj y))]
          exact iteT out
      · rintro σ H' ⟨h0, _⟩
        exfalso
        rw [List.length_map, List.length_cons] at h0
        omega
    · rw [if_neg hC] at hrd
      have hr0 : r0 ≠ [] := fun y => hC (.inl (by rw [y]; rfl))
      obtain ⟨mid, last, rfl⟩ : ∃ mid last, r0 = mid ++ [last] := ⟨r0.dropLast, r0.getLast hr0, (List.dropLast_concat_getLast hr0).symm⟩
      have hmid : (x0 :: (mid ++ [last])).tail.dropLast = mid := List.dropLast_concat
      have hlast : (x0 :: (mid ++ [last])).getLast? = some last := by
        rw [← List.cons_append, List.getLast?_append]
        rfl
      have hlen : (x0 :: (mid ++ [last])).length = mid.length + 2 := by simp
      rw [hmid, hlast, hlen] at hrd
      have hx : x0 = head := by
        by_cases y : x0 = head
        · exact y
        · exact absurd (.inr (fun h => y (Option.some.inj h))) hC
      refine ⟨.ref a, rfl, a, _, rfl, .inl (.inl (.inl ha)), _, rfl, ?_, ?_, for_range (lo := 0) (n := _) (fun i σ H' => ∃ y4 y5 acc xs, σ = [some (.str head), some (.str z), some (.ref l), some (.ref a), y4, y5] ∧ Sv [l] H1 H' ∧ H' l = some (.lst xs) ∧ RpL K H' (acc.map .tup) xs ∧ soFar mid (min (i - 1) mid.length) acc ∧ (i = mid.length + 2 → last = eS))
        ⟨none, none, [], [], rfl, Sv.refl _ _, hl1, RpL.nil, by rw [show min (0 - 1) mid.length = 0 by omega]; exact soFar.zero mid, fun h => by omega⟩ ?_ ?_⟩
      · rw [List.length_map]; omega
      · rw [List.length_map]; omega
      · rintro i σ H' hi ⟨y4, y5, acc, xs, rfl, sv, hl', rl, sf, _⟩
        rw [List.length_map, hlen] at hi
        have hi' : i < mid.length + 2 := by omega
        have ha' : H' a = some (.lst ((x0 :: (mid ++ [last])).map V.str)) := sv _ _ (by simpa using al) ha
        have sqa : SqL K H' a ((x0 :: (mid ++ [last])).map V.str) := .inl (.inl ha')
        have sm := smH sv
        have xl : xs.length ≤ 9000001 := by
          rw [rl.len, List.length_map, sf.2.1]
          rw [hlen] at hLl
          omega
        refine cutIfS false (fun Q' h' => ?_) (iteF ?_)
        · refine ⟨_, rfl, rfl, _, rfl, ?_⟩
          refine ite2 (fun e1 => ?_) (fun e1 => ?_)
          · refine ⟨.ref a, rfl, a, _, 0, .str x0, rfl, rfl, .inl (.inl ha'), atI_nat (j := 0) rfl, _, rfl, rfl, _, rfl, ?_⟩
            rw [decide_eq_true (congrArg V.str hx)]
            refine iteF ?_
            refine ⟨.ref a, rfl, a, _, rfl, .inl (.inl (.inl ha')), rfl, _, rfl, ?_⟩
            rw [decide_eq_false (fun y => by have := V.int.inj y; rw [List.length_map, hlen] at this; omega)]
            exact h'
          · exact h'
        dsimp only [tNext]
        refine ⟨_, rfl, .ref a, rfl, a, _, rfl, .inl sqa, _, _, rfl, rfl, rfl, _, rfl, ?_⟩
        by_cases hil : i = mid.length + 1
        · refine ifT (decide_eq_true (congrArg V.int (by rw [List.length_map, hlen]; omega))) ?_
          have hat : atI ((x0 :: (mid ++ [last])).map V.str) (0 + (i : Int)) = some (.str last) := by
            rw [show 0 + (i : Int) = ((mid.length + 1 : Nat) : Int) by omega]
            refine atI_nat (j := mid.length + 1) ?_
            rw [List.getElem?_map, List.getElem?_cons_succ, List.getElem?_append_right (Nat.le_refl _), Nat.sub_self]
            rfl
          have sf2 : soFar mid mid.length acc := by rw [show min (i - 1) mid.length = mid.length by omega] at sf; exact sf
          refine ⟨.ref a, rfl, _, rfl, a, _, _, _, rfl, rfl, sqa, hat, rfl, _, rfl, ?_⟩
          rw [scan_all sf2] at hrd
          dsimp only at hrd
          refine ite2 (fun e2 => ?_) (fun e2 => ?_)
          · have hne : last ≠ eS := fun y => by
              rw [y] at e2
              exact absurd e2 (by decide +kernel)
            rw [if_neg (fun y => hne (Option.some.inj y))] at hrd
            refine ⟨_, rfl, _, _, rfl, rfl, ?_⟩
            have := e _ hrd _ sm
            rw [show ((mid.length + 2 : Nat) : Int) = 0 + (i : Int) + 1 by omega] at this
            exact this
          · have heq : last = eS := by
              by_cases y : last = eS
              · exact y
              · exfalso
                apply e2
                rw [decide_eq_false (fun w => y (V.str.inj w))]
                rfl
            exact ⟨_, _, acc, xs, rfl, sv, hl', rl, by rw [show min (i + 1 - 1) mid.length = mid.length by omega]; exact sf2, fun _ => heq⟩
        · refine ifF (decide_eq_false (fun y => hil (by have := V.int.inj y; rw [List.length_map, hlen] at this; omega))) ?_
          by_cases hi0 : i = 0
          · subst hi0
            refine ⟨_, rfl, _, _, rfl, rfl, _, rfl, ?_⟩
            refine ifF (by decide) ?_
            refine iteF ?_
            refine ⟨_, rfl, _, _, rfl, rfl, _, rfl, ?_⟩
            refine ifF (by decide) ?_
            exact ⟨_, _, acc, xs, rfl, sv, hl', rl, sf, fun h => by omega⟩
          · obtain ⟨j, rfl⟩ : ∃ j, i = j + 1 := ⟨i - 1, by omega⟩
            have hj : j < mid.length := by omega
            have sf2 : soFar mid j acc := by rw [show min (j + 1 - 1) mid.length = j by omega] at sf; exact sf
            obtain ⟨s, hs⟩ : ∃ s, mid[j]? = some s := ⟨_, List.getElem?_eq_getElem hj⟩
            have sl := wsum_mem (s := s) (ws := x0 :: (mid ++ [last])) (by
              have := List.mem_of_getElem? hs
              simp [this])
            have hat : atI ((x0 :: (mid ++ [last])).map V.str) (0 + ((j + 1 : Nat) : Int)) = some (.str s) := by
              rw [show 0 + ((j + 1 : Nat) : Int) = ((j + 1 : Nat) : Int) by omega]
              refine atI_nat (j := j + 1) ?_
              rw [List.getElem?_map, List.getElem?_cons_succ, List.getElem?_append_left hj, hs]
              rfl
            have gt : decide (0 + ((j + 1 : Nat) : Int) > 0) = true := decide_eq_true (by omega)
            refine ⟨_, rfl, _, _, rfl, rfl, _, rfl, ?_⟩
            refine ifT gt ?_
            refine ⟨.ref a, rfl, _, rfl, a, _, _, _, rfl, rfl, sqa, hat, rfl, _, rfl, ?_⟩
            by_cases hse : s = eS
            · refine ifT (decide_eq_true (congrArg V.str hse)) ?_
              have hro : rowOf s = some [] := by unfold rowOf; rw [if_pos hse]
              refine ⟨.ref l, rfl, .inl ⟨rfl, _, .inl (.inl hl')⟩, Nat.zero_le _, fun p np => ?_⟩
              have k2 : Same H' (upd H' p (.tup [])) := Sv.nil (Sv.new np)
              refine ⟨l, _, _, rfl, rfl, k2 _ _ hl', by omega, ?_⟩
              refine ⟨_, _, acc ++ [[]], xs ++ [.ref p], rfl, sv.trans ((Sv.same k2).trans (Sv.set (by simp))), upd_same, ?_, by rw [show min (j + 1 + 1 - 1) mid.length = j + 1 by omega]; exact sf2.step hs hro, fun h => by omega⟩
              have isl : IsL (upd H' p (.tup [])) l := ⟨_, k2 _ _ hl'⟩
              rw [List.map_append]
              exact RpL.app ((rl.keep (TK.same k2)).keep (tk_set isl)) ⟨.ref p, [], rfl, (show Rp K _ (.tup []) (.ref p) from ⟨p, [], rfl, .inl (.inl upd_same), rfl⟩).keep (tk_set isl), rfl⟩
            · refine ifF (decide_eq_false (fun y => hse (V.str.inj y))) ?_
              have hro : rowOf s = rdVals s := by unfold rowOf; rw [if_neg hse]
              refine ⟨_, rfl, _, _, rfl, rfl, _, rfl, ?_⟩
              refine ifT gt ?_
              refine ⟨.ref a, rfl, _, rfl, a, _, _, _, rfl, rfl, sqa, hat, s, rfl, by omega, fun ds hd H2 p ys s2 hp rp => ?_, fun hn H2 v s2 rv => ?_⟩
              · have hl2 := s2 _ _ hl'
                refine ⟨.ref p, rfl, _, _, _, _, _, rfl, .ty "tuple", .base (.lst hp), kit_ty (by decide +kernel : kitB "list" "tuple" = some false), _, rfl, ?_⟩
                refine iteF ?_
                dsimp only [tNext]
                refine ⟨.ref l, rfl, .inl ⟨rfl, _, .inl (.inl hl2)⟩, .ref p, rfl, p, ys, rfl, .inl ⟨.inl (.inl hp), fun t nt => ?_⟩⟩
                have k2 : Same H2 (upd H2 t (.tup ys)) := Sv.nil (Sv.new nt)
                refine ⟨l, _, _, rfl, rfl, k2 _ _ hl2, by omega, ?_⟩
                refine ⟨_, _, acc ++ [ds], xs ++ [.ref t], rfl, sv.trans ((Sv.same (s2.trans k2)).trans (Sv.set (by simp))), upd_same, ?_, by rw [show min (j + 1 + 1 - 1) mid.length = j + 1 by omega]; exact sf2.step hs (hro.trans hd), fun h => by omega⟩
                have isl : IsL (upd H2 t (.tup ys)) l := ⟨_, k2 _ _ hl2⟩
                rw [List.map_append]
                exact RpL.app ((rl.keep (TK.same (s2.trans k2))).keep (tk_set isl)) ⟨.ref t, [], rfl, (show Rp K _ (.tup ds) (.ref t) from ⟨t, ys, rfl, .inl (.inl upd_same), rp.keep (TK.same k2)⟩).keep (tk_set isl), rfl⟩
              · refine ⟨v, rfl, _, _, _, _, _, rfl, .ty "tuple", rv.ty, kit_ty (kb_tup faultD), _, rfl, ?_⟩
                refine iteT ?_
                refine ⟨_, rfl, _, _, rfl, rfl, ?_⟩
                have es : rdRows head z = .error (2 + j) := by rw [hrd, scan_at sf2 hs (hro.trans hn)]
                have := e _ es _ (sm.trans s2)
                rw [show ((2 + j : Nat) : Int) = 0 + ((j + 1 : Nat) : Int) + 1 by omega] at this
                exact this
      · rintro σ H' ⟨y4, y5, acc, xs, rfl, sv, hl', rl, sf, hlst⟩
        rw [List.length_map, hlen] at sf hlst
        have e0 : ((mid.length + 2 : Nat) : Int).toNat = mid.length + 2 := by omega
        rw [e0] at sf hlst
        rw [show min (mid.length + 2 - 1) mid.length = mid.length by omega] at sf
        rw [scan_all sf] at hrd
        dsimp only at hrd
        rw [if_pos (congrArg some (hlst rfl))] at hrd
        refine ⟨.ref l, rfl, l, xs, rfl, .inl ⟨.inl (.inl hl'), fun t nt => ?_⟩⟩
        exact q acc hrd _ _ ((smH sv).trans (Sv.nil (Sv.new nt))) ⟨t, xs, rfl, .inl (.inl upd_same), rl.keep (TK.same (Sv.nil (Sv.new nt)))⟩
end
end RS

namespace RS
open PySem PySem.Spec PyProof.Rows L2 TL

abbrev s_law_due : Stmt := topS 59
theorem sc_law_due : FnScope ["nth", "top", "text", "rows", "k", "row"] ["nth", "top", "text"] (defScope s_law_due) := ⟨rfl, rfl, rfl, by decide +kernel, rfl, by decide +kernel, by decide +kernel⟩

def dueD (nth : Nat) (head text : Str) : D := match rdK nth head text with
  | .error k => .tup [.str "refused", .int k]
  | .ok d => .tup [.str "read", d]
theorem natEq {n m : Nat} : decide (V.int (n : Int) = V.int (m : Int)) = decide (n = m) := by
  by_cases h : n = m
  · rw [decide_eq_true (congrArg (fun k : Nat => V.int (k : Int)) h), decide_eq_true h]
  · rw [decide_eq_false (fun y => h (by have := V.int.inj y; omega)), decide_eq_false h]
theorem isIntB_ok {d : D} (h : ok d) : isIntB d = isInt d := by
  cases d <;> first | rfl | exact h.elim
theorem due_read {K : PySem.W.Frag} {H : Hp} {p : Addr} {v : V} {nth : Nat} {head text : Str} {d : D} (h : rdK nth head text = .ok d) (rv : Rp K H d v) (e : H p = some (.tup [.str "read", v])) : Rp K H (dueD nth head text) (.ref p) := by
  unfold dueD
  rw [h]
  exact ⟨p, _, rfl, .inl (.inl e), _, _, rfl, rfl, _, _, rfl, rv, rfl⟩
theorem due_not {K : PySem.W.Frag} {H : Hp} {p : Addr} {nth : Nat} {head text : Str} {k : Nat} (h : rdK nth head text = .error k) (e : H p = some (.tup [.str "refused", .int k])) : Rp K H (dueD nth head text) (.ref p) := by
  unfold dueD
  rw [h]
  exact ⟨p, _, rfl, .inl (.inl e), _, _, rfl, rfl, _, _, rfl, rfl, rfl⟩

section
variable {P : Program} {w : World} {K : PySem.W.Frag} {mg : Str → Option Value} {base : Heap} {t1 t2 t3 t4 t5 t6 : Tok} {C fI : Addr}
def spDueK (K : PySem.W.Frag) : Sp := fun vs H Q _ => ∃ (nth : Nat) (head text : Str), vs = [.int (nth : Int), .str head, .str text] ∧ text.length ≤ 9000000 ∧ ∀ H' v, Same H H' → Rp K H' (dueD nth head text) v → Q v H'
theorem ok_law_due (T : CnF mg t1 t2 t3 t4 t5 t6) (Df : HasDef K mg "_law_due" s_law_due ["nth", "top", "text"]) (C_law_read_rows : Has P w K mg base CX0 3 "_law_read_rows" ["head", "text"] (spLRows K)) :
    Has P w K mg base CX0 4 "_law_due" ["nth", "top", "text"] (spDueK K) := by
  refine Df.has fun f fd F => F.ok sc_law_due (fun vs H Q E h => ?_) (fun cdv A outer s H vs Q E hr h => ?_)
  · obtain ⟨_, _, _, rfl, _⟩ := h; rfl
  · obtain ⟨nth, head, z, rfl, hl, q⟩ := h
    refine ⟨_, (pss_cons (ps_set (i := 3) sc_law_due.nd rfl (Or.inl rfl) (pe_has C_law_read_rows (hr.mono (by omega)) pass0 (pa_cons (pv 1) (pa_cons (pv 2) pa_nil))))
  (pss_cons (ps_if (pt_not (pt_val (pe_callB call_isi (by rfl) T.m_isinstance (by decide +kernel) (pa_cons (pv 3) (pa_cons (pe_bltn (v := .ty "tuple") (u := .type "tuple") (by rfl) T.m_tuple (by decide +kernel) rfl) pa_nil)))))
  (pss_one (ps_ret (pe_tup (pa_cons pe_str (pa_cons (pv 3) pa_nil)))))
  pss_nil)
  (pss_cons (ps_for PassesOwn.never rfl (pi_range1 (by rfl) T.m_range (pa_cons (pe_callB call_len_seq (by rfl) T.m_len (by decide +kernel) (pa_cons (pv 3) pa_nil)) pa_nil)) (pg_name (i := 4) sc_law_due.nd rfl (Or.inl rfl))
  (pss_cons (ps_set (i := 5) sc_law_due.nd rfl (Or.inl rfl) (pe_ix (show IxR _ (rIxT K) from ix_tup) (pv 3) (pv 4) (fun _ _ => rfl)))
  (pss_cons (ps_if (PW.pt (pw_and (pt_cmpR op_eq (pv 0) pe_int (nomark _)) (pw_and1 (PW.pt (pw_or (pt_cmpR op_lt (pe_callB call_len_seq (by rfl) T.m_len (by decide +kernel) (pa_cons (pv 5) pa_nil)) pe_int (nomark _)) (pw_or (pt_not (pt_val (pe_callB call_isi (by rfl) T.m_isinstance (by decide +kernel) (pa_cons (pe_ix (show IxR _ (rIxT K) from ix_tup) (pv 5) pe_int (fun _ _ => rfl)) (pa_cons (pe_bltn (v := .ty "int") (u := .type "int") (by rfl) T.m_int (by decide +kernel) rfl) pa_nil))))) (pw_or1 (pt_not (pt_val (pe_callB call_isi (by rfl) T.m_isinstance (by decide +kernel) (pa_cons (pe_ix (show IxR _ (rIxT K) from ix_tup) (pv 5) pe_int (fun _ _ => rfl)) (pa_cons (pe_bltn (v := .ty "str") (u := .type "str") (by rfl) T.m_str (by decide +kernel) rfl) pa_nil))))))))))))
  (pss_one (ps_ret (pe_tup (pa_cons pe_str (pa_cons (pe_op op_add pe_int (pv 4)) pa_nil)))))
  pss_nil)
  (pss_one (ps_if (PW.pt (pw_and (pt_cmpR op_eq (pv 0) pe_int (nomark _)) (pw_and1 (PW.pt (pw_or (pt_cmpR op_lt (pe_callB call_len_seq (by rfl) T.m_len (by decide +kernel) (pa_cons (pv 5) pa_nil)) pe_int (nomark _)) (pw_or1 (pt_not (pt_val (pe_callB call_isi (by rfl) T.m_isinstance (by decide +kernel) (pa_cons (pe_ix (show IxR _ (rIxT K) from ix_tup) (pv 5) pe_int (fun _ _ => rfl)) (pa_cons (pe_bltn (v := .ty "str") (u := .type "str") (by rfl) T.m_str (by decide +kernel) rfl) pa_nil)))))))))))
  (pss_one (ps_ret (pe_tup (pa_cons pe_str (pa_cons (pe_op op_add pe_int (pv 4)) pa_nil)))))
  pss_nil)))))
  (pss_cons (ps_if (pt_cmpR op_eq (pv 0) pe_int (nomark _))
  (pss_one (ps_ret (pe_tup (pa_cons pe_str (pa_cons (pe_callTy call_tuple_of (by rfl) T.m_tuple (by decide +kernel) (pa_cons (pe_lc (own := [("row", 5)]) (g := gName 5) (tt := tYes) rfl sc_law_due.nd (pi_tup (pv 3)) (blkOk_by (own := [("row", 5)]) (N := ["nth", "top", "text", "rows", "k", "row"]) (sc := defScope s_law_due) (by decide +kernel)) (fun _ _ _ _ _ => (pg_name (i := 5) sc_law_due.nd rfl (Or.inl rfl))) (fun _ _ _ _ _ => pts_nil) (fun _ _ _ _ _ => (pe_tup (pa_cons (pe_ix (show IxR _ (rIxT K) from ix_tup) (pv 5) pe_int (fun _ _ => rfl)) (pa_cons (pe_slice (show SlR _ (rSlA K) from sl_tupA) (pv 5) (po_some pe_int) po_none) pa_nil))))) pa_nil)) pa_nil)))))
  pss_nil)
  (pss_cons (ps_if (PW.pt (pw_and (pt_cmpR op_eq (pv 0) pe_int (nomark _)) (pw_and1 (pt_cmpR op_ne (pe_callB call_len_seq (by rfl) T.m_len (by decide +kernel) (pa_cons (pv 3) pa_nil)) pe_int (nomark _)))))
  (pss_one (ps_ret (pe_tup (pa_cons pe_str (pa_cons (pe_op op_add pe_int (pe_callTy call_int1 (by rfl) T.m_int (by decide +kernel) (pa_cons (pe_cmpR op_gt (pe_callB call_len_seq (by rfl) T.m_len (by decide +kernel) (pa_cons (pv 3) pa_nil)) pe_int (nomark _)) pa_nil))) pa_nil)))))
  pss_nil)
  (pss_cons (ps_if (pt_cmpR op_eq (pv 0) pe_int (nomark _))
  (pss_one (ps_ret (pe_tup (pa_cons pe_str (pa_cons (pe_ix (show IxR _ (rIxT K) from ix_tup) (pv 3) pe_int (fun _ _ => rfl)) pa_nil)))))
  pss_nil)
  (pss_one (ps_ret (pe_tup (pa_cons pe_str (pa_cons (pv 3) pa_nil))))))))))), ?_⟩
    have hsz := sizeLine_eq
    refine ⟨_, rfl, _, rfl, head, z, rfl, hl, fun rows hrw H1 v s1 rv => ?_, fun n hn H1 s1 => ?_⟩
    · have ok1 := (rows_back hrw).2
      have cap := rows_cap hrw hl
      obtain ⟨a, xs, rfl, sq, rl⟩ := id rv
      have xl : xs.length = rows.length := by rw [rl.len, List.length_map]
      have rk : rdK nth head z = (match faultK nth rows with | some k => .error k | none => .ok (thing nth rows)) := by (unfold rdK; rw [hrw]) <;> rfl
      refine ⟨.ref a, rfl, _, _, _, _, _, rfl, .ty "tuple", rv.ty, kit_ty (kb_tup (rowsD rows)), _, rfl, ?_⟩
      refine iteF ?_
      dsimp only [tNext]
      have sqk : ∀ {H' : Hp}, Same H1 H' → SqT K H' a xs := fun s => (TK.same s).seqT sq
      refine ⟨.ref a, rfl, a, xs, rfl, .inr sq, _, rfl, by omega, by omega, for_range (lo := 0) (n := _) (fun i σ H' => ∃ y4 y5, σ = [some (.int (nth : Int)), some (.str head), some (.str z), some (.ref a), y4, y5] ∧ Same H1 H' ∧ (nth = 1 → ∀ r ∈ rows.take i, goodLog r = true) ∧ (nth = 2 → ∀ r ∈ rows.take i, goodRun r = true))
        ⟨none, none, rfl, Same.refl _, fun _ r hr => by simp at hr, fun _ r hr => by simp at hr⟩ ?_ ?_⟩
      · rintro i σ H' hi ⟨y4, y5, rfl, s2, g1, g2⟩
        have hi2 : i < xs.length := by omega
        obtain ⟨x, hx⟩ : ∃ x, xs[i]? = some x := ⟨_, List.getElem?_eq_getElem hi2⟩
        obtain ⟨ds, hds, rd⟩ := rl.rows hx
        have okds := (ok1 ds (List.mem_of_getElem? hds)).1
        have hat : atI xs (0 + (i : Int)) = some x := by
          rw [Int.zero_add]
          exact atI_nat hx
        have rd2 := rd.keep (TK.same s2)
        obtain ⟨b, zs, rfl, sqb, rb⟩ := rd2
        have sm := s1.trans s2
        refine cutSeq (fun σ' H2 => σ' = [some (.int (nth : Int)), some (.str head), some (.str z), some (.ref a), some (.int (0 + (i : Int))), some (.ref b)] ∧ H' = H2) (fun nx hn => ?_) ?_
        · exact ⟨.ref a, rfl, _, rfl, a, xs, _, _, rfl, rfl, sqk s2, hat, hn _ _ ⟨rfl, rfl⟩⟩
        rintro _ _ ⟨rfl, rfl⟩
        refine cutIfS (decide (nth = 1 ∧ goodLog ds = false)) (fun Q' h' => ?_) ?_
        · refine ⟨_, rfl, rfl, _, rfl, ?_⟩
          by_cases n1 : nth = 1
          · refine ifT (decide_eq_true (by rw [n1]; rfl)) ?_
            have hq : decide (nth = 1 ∧ goodLog ds = false) = !goodLog ds := by
              cases goodLog ds <;> simp [n1]
            rw [hq] at h'
            refine ⟨.ref b, rfl, b, zs, rfl, .inr sqb, _, _, rfl, rfl, _, rfl, ?_⟩
            match ds, rb, okds with
            | [], rb, _ =>
              cases (show zs = [] from rb)
              exact ifT (by decide +kernel) h'
            | [d0], rb, _ =>
              obtain ⟨z0, zr, rfl, r0, rr⟩ := rb
              cases (show zr = [] from rr)
              exact ifT (decide_eq_true (by show ((1 : Nat) : Int) < 2; omega)) h'
            | d0 :: d1 :: dr, rb, okds =>
              obtain ⟨z0, zr, rfl, r0, z1, zr2, rfl, r1, rr⟩ := rb
              refine ifF (decide_eq_false (by rw [List.length_cons, List.length_cons]; omega)) ?_
              refine ⟨.ref b, rfl, b, _, 0, z0, rfl, rfl, sqb, atI_nat (j := 0) rfl, _, _, _, _, _, rfl, .ty "int", r0.ty, kit_ty (kb_int d0), _, rfl, ?_⟩
              rw [isIntB_ok okds.1]
              have hg : goodLog (d0 :: d1 :: dr) = (isInt d0 && isStr d1) := rfl
              rw [hg] at h'
              cases hi0 : isInt d0 with
              | false =>
                rw [hi0] at h'
                exact iteT h'
              | true =>
                rw [hi0] at h'
                refine iteF ?_
                exact ⟨.ref b, rfl, b, _, 1, z1, rfl, rfl, sqb, atI_nat (j := 1) rfl, _, _, _, _, _, rfl, .ty "str", r1.ty, kit_ty (kb_str d1), _, rfl, h'⟩
          · refine ifF (decide_eq_false (fun y => n1 (by have := V.int.inj y; omega))) ?_
            rw [decide_eq_false (fun y => n1 y.1)] at h'
            exact h'
        by_cases c1 : nth = 1 ∧ goodLog ds = false
        · refine ifT (decide_eq_true c1) ?_
          refine ⟨_, rfl, _, _, rfl, rfl, by show 2 ≤ sizeLine; omega, fun p np => ?_⟩
          refine q _ _ (sm.trans (Sv.nil (Sv.new np))) (due_not (k := 2 + i) ?_ ?_)
          · rw [rk]
            unfold faultK
            rw [if_pos c1.1, bad_at (g1 c1.1) hds c1.2]
          · rw [show ((2 + i : Nat) : Int) = 2 + (0 + (i : Int)) by omega]
            exact upd_same
        · refine ifF (decide_eq_false c1) ?_
          dsimp only [tNext]
          refine cutIf (decide (nth = 2 ∧ goodRun ds = false)) (fun Q' h' => ?_) ?_
          · refine ⟨_, rfl, rfl, _, rfl, ?_⟩
            by_cases n1 : nth = 2
            · refine ifT (decide_eq_true (by rw [n1]; rfl)) ?_
              have hq : decide (nth = 2 ∧ goodRun ds = false) = !goodRun ds := by
                cases goodRun ds <;> simp [n1]
              rw [hq] at h'
              refine ⟨.ref b, rfl, b, zs, rfl, .inr sqb, _, _, rfl, rfl, _, rfl, ?_⟩
              cases ds with
              | nil =>
                cases (show zs = [] from rb)
                exact ifT (by decide +kernel) h'
              | cons d0 dr =>
                obtain ⟨z0, zr, rfl, r0, rr⟩ := rb
                refine ifF (decide_eq_false (by rw [List.length_cons]; omega)) ?_
                exact ⟨.ref b, rfl, b, _, 0, z0, rfl, rfl, sqb, atI_nat (j := 0) rfl, _, _, _, _, _, rfl, .ty "str", r0.ty, kit_ty (kb_str d0), _, rfl, h'⟩
            · refine ifF (decide_eq_false (fun y => n1 (by have := V.int.inj y; omega))) ?_
              rw [decide_eq_false (fun y => n1 y.1)] at h'
              exact h'
          by_cases c2 : nth = 2 ∧ goodRun ds = false
          · refine ifT (decide_eq_true c2) ?_
            refine ⟨_, rfl, _, _, rfl, rfl, by show 2 ≤ sizeLine; omega, fun p np => ?_⟩
            refine q _ _ (sm.trans (Sv.nil (Sv.new np))) (due_not (k := 2 + i) ?_ ?_)
            · rw [rk]
              unfold faultK
              rw [if_neg (by omega), if_pos c2.1, bad_at (g2 c2.1) hds c2.2]
            · rw [show ((2 + i : Nat) : Int) = 2 + (0 + (i : Int)) by omega]
              exact upd_same
          · refine ifF (decide_eq_false c2) ?_
            refine ⟨_, _, rfl, s2, fun n1 => good_take (g1 n1) hds ?_, fun n2 => good_take (g2 n2) hds ?_⟩
            · cases hq : goodLog ds with
              | true => rfl
              | false => exact absurd ⟨n1, hq⟩ c1
            · cases hq : goodRun ds with
              | true => rfl
              | false => exact absurd ⟨n2, hq⟩ c2
      · rintro σ H' ⟨y4, y5, rfl, s2, g1, g2⟩
        have en : ((xs.length : Int)).toNat = xs.length := by omega
        rw [en, xl, List.take_length] at g1 g2
        have sm := s1.trans s2
        have sqa := sqk s2
        have rl2 := rl.keep (TK.same s2)
        refine ⟨_, rfl, rfl, _, rfl, ?_⟩
        by_cases n1 : nth = 1
        · refine ifT (decide_eq_true (by rw [n1]; rfl)) ?_
          have gl := g1 n1
          have rk1 : rdK nth head z = .ok (.tup (rows.map logE)) := by
            rw [rk]
            unfold faultK thing
            rw [if_pos n1, bad_all gl, if_pos n1]
          refine ⟨.ref a, rfl, a, rfl, ⟨_, sqa⟩, fun l nl => lc_tup (K := K) (a := a) (xs := xs) (fun i H2 => Sv [l] H' H2 ∧ ∃ ys, H2 l = some (.lst ys) ∧ RpL K H2 ((rows.take i).map logE) ys) ⟨Sv.new nl, [], upd_same, RpL.nil⟩
            (fun i H2 _ ⟨s3, _⟩ => (TK.same (Sv.nil (Sv.drop nl s3))).seqT sqa) ?_ ?_⟩
          · rintro i x H2 hi ⟨s3, ys, hl2, ry⟩
            have sm3 := Sv.nil (Sv.drop nl s3)
            obtain ⟨ds, hds, rd⟩ := rl2.rows hi
            obtain ⟨d0, d1, dr, rfl⟩ : ∃ x y r, ds = x :: y :: r := by
              match ds, gl ds (List.mem_of_getElem? hds) with
              | x :: y :: r, _ => exact ⟨x, y, r, rfl⟩
            obtain ⟨b, zs, rfl, sqb, z0, zr, rfl, r0, rr⟩ := rd.keep (TK.same sm3)
            have ylen : ys.length ≤ 9000000 := by
              rw [ry.len, List.length_map, List.length_take]
              omega
            refine ⟨rfl, .ref b, rfl, b, _, 0, z0, rfl, rfl, sqb, atI_nat (j := 0) rfl, .ref b, rfl, _, rfl, ?_⟩
            unfold tNoPart
            dsimp only
            refine sl_tail sqb fun p np => ⟨by show 2 ≤ sizeLine; omega, fun p2 np2 => ?_⟩
            have k2 : Same H2 (upd (upd H2 p (.tup zr)) p2 (.tup [z0, .ref p])) := (Sv.nil (Sv.new np)).trans (Sv.nil (Sv.new np2))
            refine ⟨ys, k2 _ _ hl2, by omega, s3.trans ((Sv.same k2).trans (Sv.set (by simp))), _, upd_same, ?_⟩
            have isl2 : IsL (upd (upd H2 p (.tup zr)) p2 (.tup [z0, .ref p])) l := ⟨_, k2 _ _ hl2⟩
            rw [take_snoc hds, List.map_append]
            refine RpL.app ((ry.keep (TK.same k2)).keep (tk_set isl2)) ⟨.ref p2, [], rfl, ?_, rfl⟩
            have hp2 : (upd (upd H2 p (.tup zr)) p2 (.tup [z0, .ref p])) p = some (.tup zr) := (Sv.nil (Sv.new np2)) _ _ upd_same
            have rp2 : Rp K (upd (upd H2 p (.tup zr)) p2 (.tup [z0, .ref p])) (.tup [d0, .tup (d1 :: dr)]) (.ref p2) :=
              ⟨p2, _, rfl, .inl (.inl upd_same), z0, _, rfl, r0.keep (TK.same k2), .ref p, [], rfl, ⟨p, zr, rfl, .inl (.inl hp2), rr.keep (TK.same k2)⟩, rfl⟩
            exact rp2.keep (tk_set isl2)
          · rintro H2 ⟨s3, ys, hl2, ry⟩
            rw [xl, List.take_length] at ry
            have sm3 := Sv.nil (Sv.drop nl s3)
            refine ⟨l, ys, rfl, .inl ⟨.inl (.inl hl2), fun t nt => ⟨by show 2 ≤ sizeLine; omega, fun p np => ?_⟩⟩⟩
            have k2 := Sv.nil (Sv.new (o := .tup ys) nt)
            have k3 := Sv.nil (Sv.new (o := .tup [.str "read", .ref t]) np)
            exact q _ _ (sm.trans (sm3.trans (k2.trans k3))) (due_read rk1 ((Rp.made nt ry).keep (TK.same k3)) upd_same)
        refine ifF (decide_eq_false (fun y => n1 (by have := V.int.inj y; omega))) ?_
        dsimp only [tNext]
        refine cutIfS (decide (nth = 4 ∧ rows.length ≠ 1)) (fun Q' h' => ?_) ?_
        · refine ⟨_, rfl, rfl, _, rfl, ?_⟩
          by_cases n4 : nth = 4
          · refine ifT (decide_eq_true (by rw [n4]; rfl)) ?_
            refine ⟨.ref a, rfl, a, xs, rfl, .inr sqa, rfl, _, rfl, ?_⟩
            have : (!decide (V.int (xs.length : Int) = V.int 1)) = decide (nth = 4 ∧ rows.length ≠ 1) := by
              rw [show V.int 1 = V.int ((1 : Nat) : Int) from rfl, natEq, xl]
              by_cases h1 : rows.length = 1 <;> simp [n4, h1]
            rw [this]
            exact h'
          · refine ifF (decide_eq_false (fun y => n4 (by have := V.int.inj y; omega))) ?_
            rw [decide_eq_false (fun y => n4 y.1)] at h'
            exact h'
        by_cases c4 : nth = 4 ∧ rows.length ≠ 1
        · refine ifT (decide_eq_true c4) ?_
          refine ⟨.ref a, rfl, a, xs, rfl, .inr sqa, _, _, rfl, rfl, .inr ⟨_, rfl, _, _, rfl, rfl, by show 2 ≤ sizeLine; omega, fun p np => ?_⟩⟩
          refine q _ _ (sm.trans (Sv.nil (Sv.new np))) (due_not (k := if rows.length > 1 then 3 else 2) ?_ ?_)
          · rw [rk]
            unfold faultK
            rw [if_neg n1, if_neg (by omega), if_pos c4.1]
            match rows, c4.2 with
            | [], _ => rfl
            | [x], h => exact absurd rfl h
            | _ :: _ :: _, _ => rfl
          · rw [upd_same, xl]
            by_cases h1 : rows.length > 1
            · rw [if_pos h1, decide_eq_true (show (rows.length : Int) > 1 by omega)]
              rfl
            · rw [if_neg h1, decide_eq_false (show ¬ (rows.length : Int) > 1 by omega)]
              rfl
        refine ifF (decide_eq_false c4) ?_
        dsimp only [tNext]
        refine ⟨_, rfl, rfl, _, rfl, ?_⟩
        by_cases n4 : nth = 4
        · refine ifT (decide_eq_true (by rw [n4]; rfl)) ?_
          obtain ⟨r, rfl⟩ : ∃ r, rows = [r] := by
            match rows, c4 with
            | [], h => exact absurd ⟨n4, by simp⟩ h
            | [r], _ => exact ⟨r, rfl⟩
            | _ :: _ :: _, h => exact absurd ⟨n4, by simp⟩ h
          obtain ⟨x, ys, rfl, rx, ry⟩ := rl2
          refine ⟨.ref a, rfl, a, _, 0, x, rfl, rfl, sqa, atI_nat (j := 0) rfl, by show 2 ≤ sizeLine; omega, fun p np => ?_⟩
          have k3 := Sv.nil (Sv.new (o := .tup [.str "read", x]) np)
          refine q _ _ (sm.trans k3) (due_read (d := .tup r) ?_ (rx.keep (TK.same k3)) upd_same)
          rw [rk]
          unfold faultK thing
          rw [if_neg n1, if_neg (by omega), if_pos n4, if_neg n1, if_pos n4]
          rfl
        · refine ifF (decide_eq_false (fun y => n4 (by have := V.int.inj y; omega))) ?_
          refine ⟨.ref a, rfl, by show 2 ≤ sizeLine; omega, fun p np => ?_⟩
          have k3 := Sv.nil (Sv.new (o := .tup [.str "read", .ref a]) np)
          refine q _ _ (sm.trans k3) (due_read (d := rowsD rows) ?_ (rv.keep (TK.same (s2.trans k3))) upd_same)
          rw [rk]
          unfold faultK thing
          rw [if_neg n1, if_neg n4, if_neg n4, if_neg n1]
          by_cases n2 : nth = 2
          · rw [if_pos n2, bad_all (g2 n2)]
          · rw [if_neg n2]
    · refine ⟨_, rfl, _, _, _, _, _, rfl, .ty "tuple", (show Rp K H1 (.int n) (.int n) from rfl).ty, kit_ty (kb_tup (.int n)), _, rfl, ?_⟩
      refine iteT ?_
      refine ⟨_, rfl, by show 2 ≤ sizeLine; omega, fun p np => ?_⟩
      refine q _ _ (s1.trans (Sv.nil (Sv.new np))) (due_not (k := n) ?_ upd_same)
      unfold rdK
      rw [hn]
end
end RS

namespace L2
open PySem PySem.Spec PyProof.Rows
/-- isinstance(e, c) in the suite, whatever it caught -/
def rIsSupG (K : PySem.W.Frag) (D a : Addr) (cls : Value) (d : Option Addr) : List V → Hp → VK → Prop := fun xs H Q => cls = .ref D ∧ ∃ dd, d = some dd ∧ rIsSup K D a dd xs H Q
theorem call_isSupG {X : Cx} {a D : Addr} {cls : Value} {d : Option Addr} {oe : Obj} {pn : List (Addr × Obj)} (C : PySem.SupX.IsTxt X.K D) (hz : Zc cls d oe) (hf : ∃ vs, oe.data = .fields vs) : CallR (X.suite a ((a, oe) :: pn)) (.builtin "isinstance") (rIsSupG X.K D a cls d) := by
  intro pins s σ H xs us Q I r h
  obtain ⟨e1, dd, e2, h⟩ := h
  subst e1
  subst e2
  exact call_isSup C hz hf pins s σ H xs us Q I r h
end L2
namespace RS
open PySem PySem.Spec PyProof.Rows L2 TL

abbrev s_law_ask : Stmt := topS 60
theorem sc_law_ask : FnScope ["nth", "top", "text"] ["nth", "top", "text"] (defScope s_law_ask) := ⟨rfl, rfl, rfl, by decide +kernel, rfl, by decide +kernel, by decide +kernel⟩
abbrev s_law_back : Stmt := topS 61
theorem sc_law_back : FnScope ["nth", "top", "thing"] ["nth", "top", "thing"] (defScope s_law_back) := ⟨rfl, rfl, rfl, by decide +kernel, rfl, by decide +kernel, by decide +kernel⟩
abbrev s_law_told : Stmt := topS 62
theorem sc_law_told : FnScope ["nth", "top", "text", "caught", "number", "thing", "e"] ["nth", "top", "text"] (defScope s_law_told) := ⟨rfl, rfl, rfl, by decide +kernel, rfl, by decide +kernel, by decide +kernel⟩
abbrev s_law_marks : Stmt := topS 63
theorem sc_law_marks : FnScope ["nth", "top", "text", "found", "e"] ["nth", "top", "text"] (defScope s_law_marks) := ⟨rfl, rfl, rfl, by decide +kernel, rfl, by decide +kernel, by decide +kernel⟩
abbrev s_law_holds : Stmt := topS 64
theorem sc_law_holds : FnScope ["nth", "top", "text", "due"] ["nth", "top", "text"] (defScope s_law_holds) := ⟨rfl, rfl, rfl, by decide +kernel, rfl, by decide +kernel, by decide +kernel⟩

/-- the kind's head -/
def kindOk (nth : Nat) (head : Str) : Prop := (nth = 1 → head = "log") ∧ (nth = 2 → head = "run") ∧ (nth = 3 → head = "journal") ∧ (nth = 4 → head = "paper")
theorem rdK_ok {nth : Nat} {head text : Str} {d : D} (h : rdK nth head text = .ok d) : ∃ rows, rdRows head text = .ok rows ∧ faultK nth rows = none ∧ d = thing nth rows := by
  unfold rdK at h
  cases hr : rdRows head text with
  | error k => rw [hr] at h; cases h
  | ok rows =>
    rw [hr] at h
    dsimp only at h
    cases hf : faultK nth rows with
    | some k => rw [hf] at h; cases h
    | none => rw [hf] at h; cases h; exact ⟨rows, rfl, hf, rfl⟩
theorem rdK_free {nth : Nat} {head text : Str} (h1 : nth ≠ 1) (h2 : nth ≠ 2) (h4 : nth ≠ 4) : rdK nth head text = (match rdRows head text with | .error k => .error k | .ok rows => .ok (rowsD rows)) := by
  unfold rdK
  cases rdRows head text with
  | error k => rfl
  | ok rows =>
    have e1 : faultK nth rows = none := by unfold faultK; rw [if_neg h1, if_neg h2, if_neg h4]
    have e2 : thing nth rows = rowsD rows := by unfold thing; rw [if_neg h1, if_neg h4]
    dsimp only
    rw [e1, e2]
theorem rdK_jr {head text : Str} : rdK 3 head text = rdK 0 head text := by rw [rdK_free (by decide) (by decide) (by decide), rdK_free (by decide) (by decide) (by decide)]

section
variable {P : Program} {w : World} {K : PySem.W.Frag} {mg : Str → Option Value} {base : Heap} {t1 t2 t3 t4 t5 t6 : Tok} {C fI : Addr}
theorem nat_if {n m : Nat} {A B : Prop} (h1 : n = m → A) (h2 : n ≠ m → B) : if decide (V.int (n : Int) = V.int (m : Int)) = true then A else B := by
  by_cases h : n = m
  · rw [if_pos (decide_eq_true (congrArg (fun k : Nat => V.int (k : Int)) h))]
    exact h1 h
  · rw [if_neg (fun y => h (by have := V.int.inj (of_decide_eq_true y); omega))]
    exact h2 h
def spAsk (K : PySem.W.Frag) (C : Addr) : Sp := fun vs H Q E => ∃ (nth : Nat) (head text : Str), vs = [.int (nth : Int), .str head, .str text] ∧ kindOk nth head ∧ nth ≤ 4 ∧ text.length ≤ 9000000 ∧ (∀ d, rdK nth head text = .ok d → ∀ H' v, Same H H' → Rp K H' d v → Q v H') ∧ (∀ n, rdK nth head text = .error n → Err C n H E)
theorem ok_law_ask (T : CnF mg t1 t2 t3 t4 t5 t6) (Df : HasDef K mg "_law_ask" s_law_ask ["nth", "top", "text"]) (C_read_rows : Has P w K mg base (L2.CX P w) 6 "read_rows" ["head", "text"] (spReadRows K C))
    (C_read_log : Has P w K mg base (L2.CX P w) 7 "read_log" ["text"] (spReadK K C 1 "log")) (C_read_run : Has P w K mg base (L2.CX P w) 7 "read_run" ["text"] (spReadK K C 2 "run"))
    (C_read_journal : Has P w K mg base (L2.CX P w) 7 "read_journal" ["text"] (spReadK K C 3 "journal")) (C_read_paper : Has P w K mg base (L2.CX P w) 7 "read_paper" ["text"] (spReadK K C 4 "paper")) :
    Has P w K mg base (L2.CX P w) 8 "_law_ask" ["nth", "top", "text"] (spAsk K C) := by
  refine Df.has fun f fd F => F.okX sc_law_ask (fun vs H Q E h => ?_) (fun cdv A outer s H vs Q E hr h => ?_)
  · obtain ⟨_, _, _, rfl, _⟩ := h; rfl
  · obtain ⟨nth, head, z, rfl, hk, h4, hl, q, e⟩ := h
    refine ⟨_, (pss_cons (ps_if (pt_cmpR op_eq (pv 0) pe_int (nomark _))
  (pss_one (ps_ret (pe_hasS C_read_log (hr.mono (by omega)) (takes_of rfl rfl rfl rfl) (by exact (pa_cons (pv 2) pa_nil)))))
  pss_nil)
  (pss_cons (ps_if (pt_cmpR op_eq (pv 0) pe_int (nomark _))
  (pss_one (ps_ret (pe_hasS C_read_run (hr.mono (by omega)) (takes_of rfl rfl rfl rfl) (by exact (pa_cons (pv 2) pa_nil)))))
  pss_nil)
  (pss_cons (ps_if (pt_cmpR op_eq (pv 0) pe_int (nomark _))
  (pss_one (ps_ret (pe_hasS C_read_journal (hr.mono (by omega)) (takes_of rfl rfl rfl rfl) (by exact (pa_cons (pv 2) pa_nil)))))
  pss_nil)
  (pss_cons (ps_if (pt_cmpR op_eq (pv 0) pe_int (nomark _))
  (pss_one (ps_ret (pe_hasS C_read_paper (hr.mono (by omega)) (takes_of rfl rfl rfl rfl) (by exact (pa_cons (pv 2) pa_nil)))))
  pss_nil)
  (pss_one (ps_ret (pe_hasS C_read_rows (hr.mono (by omega)) (takes_of rfl rfl rfl rfl) (by exact (pa_cons (pv 1) (pa_cons (pv 2) pa_nil)))))))))), ?_⟩
    refine ⟨_, rfl, rfl, _, rfl, nat_if (m := 1) (fun h => ?_) fun n1 => ?_⟩
    · subst h
      have := hk.1 rfl
      subst this
      exact ⟨.str z, rfl, z, rfl, hl, q, e⟩
    refine ⟨_, rfl, rfl, _, rfl, nat_if (m := 2) (fun h => ?_) fun n2 => ?_⟩
    · subst h
      have := hk.2.1 rfl
      subst this
      exact ⟨.str z, rfl, z, rfl, hl, q, e⟩
    refine ⟨_, rfl, rfl, _, rfl, nat_if (m := 3) (fun h => ?_) fun n3 => ?_⟩
    · subst h
      have := hk.2.2.1 rfl
      subst this
      exact ⟨.str z, rfl, z, rfl, hl, q, e⟩
    refine ⟨_, rfl, rfl, _, rfl, nat_if (m := 4) (fun h => ?_) fun n4 => ?_⟩
    · subst h
      have := hk.2.2.2 rfl
      subst this
      exact ⟨.str z, rfl, z, rfl, hl, q, e⟩
    have er := rdK_free (head := head) (text := z) n1 n2 n4
    refine ⟨_, rfl, .str z, rfl, head, z, rfl, hl, fun rows hr H1 v s1 rv => q (rowsD rows) (by rw [er, hr]) _ _ s1 rv, fun n hn => e n (by rw [er, hn])⟩
def spBack (K : PySem.W.Frag) : Sp := fun vs H Q _ => ∃ (nth : Nat) (head : Str) (v : V) (text : Str) (d : D), vs = [.int (nth : Int), .str head, v] ∧ kindOk nth head ∧ text.length ≤ 9000000 ∧ rdK nth head text = .ok d ∧ Rp K H d v ∧ ∀ H', Same H H' → Q (.str text) H'
theorem ok_law_back (T : CnF mg t1 t2 t3 t4 t5 t6) (Df : HasDef K mg "_law_back" s_law_back ["nth", "top", "thing"]) (C_write_rows : Has P w K mg base CX0 23 "write_rows" ["head", "rows"] (spWriteRows K))
    (C_write_log : Has P w K mg base CX0 24 "write_log" ["log"] (spWriteLog K)) (C_write_run : Has P w K mg base CX0 24 "write_run" ["run"] (spWriteK K "run"))
    (C_write_journal : Has P w K mg base CX0 24 "write_journal" ["journal"] (spWriteK K "journal")) (C_write_paper : Has P w K mg base CX0 24 "write_paper" ["paper"] (spWritePaper K)) :
    Has P w K mg base CX0 25 "_law_back" ["nth", "top", "thing"] (spBack K) := by
  refine Df.has fun f fd F => F.ok sc_law_back (fun vs H Q E h => ?_) (fun cdv A outer s H vs Q E hr h => ?_)
  · obtain ⟨_, _, _, _, _, rfl, _⟩ := h; rfl
  · obtain ⟨nth, head, v, z, d, rfl, hk, hl, hd, rv, q⟩ := h
    refine ⟨_, (pss_cons (ps_if (pt_cmpR op_eq (pv 0) pe_int (nomark _))
  (pss_one (ps_ret (pe_has C_write_log (hr.mono (by omega)) pass0 (pa_cons (pv 2) pa_nil))))
  pss_nil)
  (pss_cons (ps_if (pt_cmpR op_eq (pv 0) pe_int (nomark _))
  (pss_one (ps_ret (pe_has C_write_run (hr.mono (by omega)) pass0 (pa_cons (pv 2) pa_nil))))
  pss_nil)
  (pss_cons (ps_if (pt_cmpR op_eq (pv 0) pe_int (nomark _))
  (pss_one (ps_ret (pe_has C_write_journal (hr.mono (by omega)) pass0 (pa_cons (pv 2) pa_nil))))
  pss_nil)
  (pss_cons (ps_if (pt_cmpR op_eq (pv 0) pe_int (nomark _))
  (pss_one (ps_ret (pe_has C_write_paper (hr.mono (by omega)) pass0 (pa_cons (pv 2) pa_nil))))
  pss_nil)
  (pss_one (ps_ret (pe_has C_write_rows (hr.mono (by omega)) pass0 (pa_cons (pv 1) (pa_cons (pv 2) pa_nil))))))))), ?_⟩
    obtain ⟨rows, hr, hf, rfl⟩ := rdK_ok hd
    obtain ⟨hw, ok1⟩ := rows_back hr
    have hsum : wsum (head :: rows.map rowT) ≤ 9000000 := by
      have e := len_catnl (head :: rows.map rowT)
      have e2 : (wrRows head rows).length = wsum (head :: rows.map rowT) := e
      rw [hw] at e2
      omega
    have q' : ∀ H', Same H H' → Q (.str (wrRows head rows)) H' := fun H' s' => by rw [hw]; exact q H' s'
    refine ⟨_, rfl, rfl, _, rfl, nat_if (m := 1) (fun h => ?_) fun n1 => ?_⟩
    · subst h
      have := hk.1 rfl
      subst this
      exact ⟨v, rfl, v, rows, rfl, rv, none_bad (n := 2) hf, ok1, hsum, q'⟩
    refine ⟨_, rfl, rfl, _, rfl, nat_if (m := 2) (fun h => ?_) fun n2 => ?_⟩
    · subst h
      have := hk.2.1 rfl
      subst this
      exact ⟨v, rfl, v, rows, rfl, rv, ok1, hsum, q'⟩
    refine ⟨_, rfl, rfl, _, rfl, nat_if (m := 3) (fun h => ?_) fun n3 => ?_⟩
    · subst h
      have := hk.2.2.1 rfl
      subst this
      exact ⟨v, rfl, v, rows, rfl, rv, ok1, hsum, q'⟩
    refine ⟨_, rfl, rfl, _, rfl, nat_if (m := 4) (fun h => ?_) fun n4 => ?_⟩
    · subst h
      have := hk.2.2.2 rfl
      subst this
      obtain ⟨r, rfl⟩ : ∃ r, rows = [r] := by
        match rows, hf with
        | [r], _ => exact ⟨r, rfl⟩
      exact ⟨v, rfl, v, r, rfl, rv, ok1, hsum, q'⟩
    have et : thing nth rows = rowsD rows := by unfold thing; rw [if_neg n1, if_neg n4]
    rw [et] at rv
    exact ⟨_, rfl, v, rfl, head, v, rows, rfl, rv, ok1, hsum, q'⟩
end
/-- the six errors -/
structure ExL (P : Program) (K : PySem.W.Frag) (mg : Str → Option Value) (C fI R Bk De Qu Tm : Addr) : Prop extends Ex P K mg C fI where
  g_RightsteadError : mg "RightsteadError" = some (.ref R)
  g_BookError : mg "BookError" = some (.ref Bk)
  g_DeedError : mg "DeedError" = some (.ref De)
  g_QuestionError : mg "QuestionError" = some (.ref Qu)
  g_TooMany : mg "TooMany" = some (.ref Tm)
  is_WordError : PySem.SupX.IsTxt K C
  is_RightsteadError : PySem.SupX.IsTxt K C
  ex_R : PySem.W.exmOne K (.ref C) (.ref R) = some true
  ex_W : PySem.W.exmOne K (.ref C) (.ref C) = some true
  k_V : PySem.W.kitOne K (.ref C) (.type "ValueError") = some true
  k_W : PySem.W.kitOne K (.ref C) (.ref C) = some true
  k_B : PySem.W.kitOne K (.ref C) (.ref Bk) = some false
  k_D : PySem.W.kitOne K (.ref C) (.ref De) = some false
  k_Q : PySem.W.kitOne K (.ref C) (.ref Qu) = some false
  k_T : PySem.W.kitOne K (.ref C) (.ref Tm) = some false
theorem ExL.g_WordError {P : Program} {K : PySem.W.Frag} {mg : Str → Option Value} {C fI R Bk De Qu Tm : Addr} (Z : ExL P K mg C fI R Bk De Qu Tm) : mg "WordError" = some (.ref C) := Z.WordError_.gC
def markL : List D := [.bl true, .bl true, .bl false, .bl false, .bl false, .bl false]

section
variable {P : Program} {w : World} {K : PySem.W.Frag} {mg : Str → Option Value} {base : Heap} {t1 t2 t3 t4 t5 t6 : Tok} {C fI R Bk De Qu Tm : Addr}
def spTold (K : PySem.W.Frag) : Sp := fun vs H Q _ => ∃ (nth : Nat) (head text : Str), vs = [.int (nth : Int), .str head, .str text] ∧ kindOk nth head ∧ nth ≤ 4 ∧ text.length ≤ 9000000 ∧ ∀ H' v, Same H H' → Rp K H' (dueD nth head text) v → Q v H'
theorem ok_law_told (T : CnF mg t1 t2 t3 t4 t5 t6) (Z : ExL P K mg C fI R Bk De Qu Tm) (Df : HasDef K mg "_law_told" s_law_told ["nth", "top", "text"]) (C_law_ask : Has P w K mg base (L2.CX P w) 8 "_law_ask" ["nth", "top", "text"] (spAsk K C)) :
    Has P w K mg base CX0 9 "_law_told" ["nth", "top", "text"] (spTold K) := by
  refine Df.has fun f fd F => F.ok sc_law_told (fun vs H Q E h => ?_) (fun cdv A outer s H vs Q E hr h => ?_)
  · obtain ⟨_, _, _, rfl, _⟩ := h; rfl
  · obtain ⟨nth, head, z, rfl, hk, h4, hl, q⟩ := h
    refine ⟨_, (pss_cons (ps_set (i := 3) sc_law_told.nd rfl (Or.inl rfl) pe_bl)
  (pss_cons (ps_set (i := 4) sc_law_told.nd rfl (Or.inl rfl) pe_int)
  (pss_cons (ps_set (i := 5) sc_law_told.nd rfl (Or.inl rfl) (pe_tup pa_nil))
  (pss_cons (ps_try_as (i := 6) rfl rfl sc_law_told.nd rfl rfl ⟨rfl, by decide, Or.inl Z.g_WordError⟩ takes0 (fun W pn xe tk pas => (pss_one (ps_set (i := 5) sc_law_told.nd rfl (Or.inl rfl) (pe_hasS C_law_ask (hr.mono (by omega)) tk (by exact (pa_cons (pv 0) (pa_cons (pv 1) (pa_cons (pv 2) pa_nil)))))))) (fun a oe cls d pn hz hf => (pss_cons (ps_set (i := 3) sc_law_told.nd rfl (Or.inl rfl) pe_bl)
  (pss_one (ps_set (i := 4) sc_law_told.nd rfl (Or.inl rfl) (pe_bySup Z.WordError_ hz hf (pv 6)))))))
  (pss_cons (ps_if (pt_val (pv 3))
  (pss_one (ps_ret (pe_tup (pa_cons pe_str (pa_cons (pv 4) pa_nil)))))
  pss_nil)
  (pss_one (ps_ret (pe_tup (pa_cons pe_str (pa_cons (pv 5) pa_nil)))))))))), ?_⟩
    have hsz := sizeLine_eq
    refine ⟨Nat.zero_le _, fun p0 np0 => ?_⟩
    have s0 : Same H (upd H p0 (.tup [])) := Sv.nil (Sv.new np0)
    refine ⟨_, rfl, _, rfl, .str z, rfl, nth, head, z, rfl, hk, h4, hl, fun d hd H1 v s1 rv => ?_, fun n hn H1 dd s1 hdd hdn => ?_⟩
    · refine ⟨_, rfl, _, rfl, ?_⟩
      refine iteF ?_
      refine ⟨v, rfl, by show 2 ≤ sizeLine; omega, fun p np => ?_⟩
      have k := Sv.nil (Sv.new (o := .tup [.str "read", v]) np)
      exact q _ _ (s0.trans (s1.trans k)) (due_read hd (rv.keep (TK.same k)) upd_same)
    · refine ⟨true, Z.ex_W, fun _ a na => ?_, fun q => nomatch q⟩
      refine ⟨.ref a, rfl, rfl, rfl, dd, .int n, rfl, hdd, ?_⟩
      refine ⟨_, rfl, _, rfl, ?_⟩
      refine iteT ?_
      refine ⟨_, rfl, by show 2 ≤ sizeLine; omega, fun p np => ?_⟩
      exact q _ _ (s0.trans (s1.trans (Sv.nil (Sv.new np)))) (due_not hn upd_same)
def spMarks (K : PySem.W.Frag) : Sp := fun vs H Q _ => ∃ (nth : Nat) (head text : Str) (n : Nat), vs = [.int (nth : Int), .str head, .str text] ∧ kindOk nth head ∧ nth ≤ 4 ∧ text.length ≤ 9000000 ∧ rdK nth head text = .error n ∧ ∀ H' v, Same H H' → Rp K H' (.tup markL) v → Q v H'
theorem ok_law_marks (T : CnF mg t1 t2 t3 t4 t5 t6) (Z : ExL P K mg C fI R Bk De Qu Tm) (Df : HasDef K mg "_law_marks" s_law_marks ["nth", "top", "text"]) (C_law_ask : Has P w K mg base (L2.CX P w) 8 "_law_ask" ["nth", "top", "text"] (spAsk K C)) :
    Has P w K mg base CX0 9 "_law_marks" ["nth", "top", "text"] (spMarks K) := by
  refine Df.has fun f fd F => F.ok sc_law_marks (fun vs H Q E h => ?_) (fun cdv A outer s H vs Q E hr h => ?_)
  · obtain ⟨_, _, _, _, rfl, _⟩ := h; rfl
  · obtain ⟨nth, head, z, n, rfl, hk, h4, hl, hn, q⟩ := h
    refine ⟨_, (pss_cons (ps_set (i := 3) sc_law_marks.nd rfl (Or.inl rfl) (pe_tup pa_nil))
  (pss_cons (ps_try_as (i := 4) rfl rfl sc_law_marks.nd rfl rfl ⟨rfl, by decide, Or.inl Z.g_RightsteadError⟩ takes0 (fun W pn xe tk pas => (pss_one (ps_expr (pe_hasS C_law_ask (hr.mono (by omega)) tk (by exact (pa_cons (pv 0) (pa_cons (pv 1) (pa_cons (pv 2) pa_nil)))))))) (fun a oe cls d pn hz hf => (pss_cons (ps_set (i := 3) sc_law_marks.nd rfl (Or.inl rfl) (pe_tup (pa_cons (pe_callB (call_isSupG Z.is_RightsteadError hz hf) (by rfl) T.m_isinstance (by decide +kernel) (pa_cons (pv 4) (pa_cons (pe_bltn (v := .ty "ValueError") (u := .type "ValueError") (by rfl) T.m_ValueError (by decide +kernel) rfl) pa_nil))) (pa_cons (pe_callB (call_isSupG Z.is_RightsteadError hz hf) (by rfl) T.m_isinstance (by decide +kernel) (pa_cons (pv 4) (pa_cons (pe_glob (v := .ref C) (by rfl) Z.g_WordError rfl) pa_nil))) (pa_cons (pe_callB (call_isSupG Z.is_RightsteadError hz hf) (by rfl) T.m_isinstance (by decide +kernel) (pa_cons (pv 4) (pa_cons (pe_glob (v := .ref Bk) (by rfl) Z.g_BookError rfl) pa_nil))) (pa_cons (pe_callB (call_isSupG Z.is_RightsteadError hz hf) (by rfl) T.m_isinstance (by decide +kernel) (pa_cons (pv 4) (pa_cons (pe_glob (v := .ref De) (by rfl) Z.g_DeedError rfl) pa_nil))) pa_nil))))))
  (pss_one (ps_set (i := 3) sc_law_marks.nd rfl (Or.inl rfl) (pe_op (show OpR _ _ (rCatA K) from op_catA) (pv 3) (pe_tup (pa_cons (pe_callB (call_isSupG Z.is_RightsteadError hz hf) (by rfl) T.m_isinstance (by decide +kernel) (pa_cons (pv 4) (pa_cons (pe_glob (v := .ref Qu) (by rfl) Z.g_QuestionError rfl) pa_nil))) (pa_cons (pe_callB (call_isSupG Z.is_RightsteadError hz hf) (by rfl) T.m_isinstance (by decide +kernel) (pa_cons (pv 4) (pa_cons (pe_glob (v := .ref Tm) (by rfl) Z.g_TooMany rfl) pa_nil))) pa_nil)))))))))
  (pss_one (ps_ret (pv 3))))), ?_⟩
    have hsz := sizeLine_eq
    refine ⟨Nat.zero_le _, fun p0 np0 => ?_⟩
    have s0 : Same H (upd H p0 (.tup [])) := Sv.nil (Sv.new np0)
    refine ⟨_, rfl, _, rfl, .str z, rfl, nth, head, z, rfl, hk, h4, hl, fun d hd => (by rw [hn] at hd; cases hd), fun m hm H1 dd s1 hdd hdn => ?_⟩
    refine ⟨true, Z.ex_R, fun _ a na => ?_, fun q => nomatch q⟩
    have isx : ∀ {c : V} {cv : Value} {b : Bool} {H2 : Hp} {Q2 : VK}, (∀ u, RelV c u → u = cv) → H2 dd = some (.xd [("line", .int m)]) → PySem.W.kitOne K (.ref C) cv = some b → Q2 (.bl b) H2 → rIsSupG K C a (.ref C) (some dd) [.ref a, c] H2 Q2 :=
      fun h1 h2 h3 h4 => ⟨rfl, dd, rfl, _, _, _, _, rfl, h1, h2, h3, h4⟩
    have sq1 : ∀ {p : Addr} {xs : List V} {H2 : Hp}, H2 p = some (.tup xs) → SqT K H2 p xs := fun h => .inl (.inl h)
    refine ⟨.ref a, rfl, isx (fun _ h => h) hdd Z.k_V ?_⟩
    refine ⟨.ref a, rfl, isx (fun _ h => h) hdd Z.k_W ?_⟩
    refine ⟨.ref a, rfl, isx (fun _ h => h) hdd Z.k_B ?_⟩
    refine ⟨.ref a, rfl, isx (fun _ h => h) hdd Z.k_D ?_⟩
    refine ⟨by show 4 ≤ sizeLine; omega, fun p np => ?_⟩
    have s2 := s0.trans (s1.trans (Sv.nil (Sv.new (o := .tup [.bl true, .bl true, .bl false, .bl false]) np)))
    have hdd2 : (upd H1 p (.tup [.bl true, .bl true, .bl false, .bl false])) dd = some (.xd [("line", .int m)]) := (Sv.nil (Sv.new np)) _ _ hdd
    refine ⟨.ref p, rfl, .ref a, rfl, isx (fun _ h => h) hdd2 Z.k_Q ?_⟩
    refine ⟨.ref a, rfl, isx (fun _ h => h) hdd2 Z.k_T ?_⟩
    refine ⟨by show 2 ≤ sizeLine; omega, fun p2 np2 => ?_⟩
    have hp2 : (upd (upd H1 p (.tup [.bl true, .bl true, .bl false, .bl false])) p2 (.tup [.bl false, .bl false])) p = some (.tup [.bl true, .bl true, .bl false, .bl false]) := (Sv.nil (Sv.new np2)) _ _ upd_same
    refine ⟨p, p2, _, _, rfl, rfl, sq1 hp2, sq1 upd_same, by show 4 + 2 ≤ sizeLine; omega, fun e => (by cases e), fun _ e => (by cases e), fun _ _ p3 np3 => ?_⟩
    refine ⟨.ref p3, rfl, ?_⟩
    exact q _ _ (s2.trans ((Sv.nil (Sv.new np2)).trans (Sv.nil (Sv.new np3)))) ⟨p3, _, rfl, sq1 upd_same, _, _, rfl, rfl, _, _, rfl, rfl, _, _, rfl, rfl, _, _, rfl, rfl, _, _, rfl, rfl, _, _, rfl, rfl, rfl⟩
def spHolds : Sp := fun vs H Q _ => ∃ (nth : Nat) (head text : Str), vs = [.int (nth : Int), .str head, .str text] ∧ kindOk nth head ∧ nth ≤ 4 ∧ text.length ≤ 8500000 ∧ ∀ H', Same H H' → Q (.bl true) H'
theorem thing_facts {nth : Nat} {rows : List (List D)} {n : Nat} (h : okRows rows) (hn : ∀ r ∈ rows, wsum (toksL r) ≤ n) (hn2 : n ≤ 9000000) (hr : rows.length ≤ 9000000) : dep (thing nth rows) < 16 ∧ wide (thing nth rows) := by
  have wL : ∀ r ∈ rows, wideL r := fun r hr => wideL_of (h r hr).1 (Nat.le_trans (hn r hr) hn2)
  have len : ∀ r ∈ rows, r.length ≤ 9000000 := fun r hr => Nat.le_trans (okL_len (h r hr).1) (Nat.le_trans (len_le_wsum _) (Nat.le_trans (hn r hr) hn2))
  have wrow : ∀ r ∈ rows, wide (.tup r) := fun r hr => ⟨Nat.le_trans (len r hr) (by decide), wL r hr⟩
  have wAll : ∀ {ds : List D}, (∀ d ∈ ds, wide d) → wideL ds := fun {ds} => by
    induction ds with
    | nil => intro _; trivial
    | cons d r ih => intro h; exact ⟨h d (by simp), ih fun x hx => h x (by simp [hx])⟩
  unfold thing
  split
  · refine ⟨?_, ?_⟩
    · show 1 + depL (rows.map logE) < 16
      have : depL (rows.map logE) ≤ 14 := depL_le.mpr fun d hd => by
        obtain ⟨r, hr, rfl⟩ := List.mem_map.mp hd
        have := (h r hr).2
        cases r with
        | nil => show 1 + 0 ≤ 14; omega
        | cons x t =>
          have e : max (dep x) (depL t) ≤ 12 := this
          show 1 + max (dep x) (max (1 + depL t) 0) ≤ 14
          omega
      omega
    · refine ⟨by rw [List.length_map]; exact Nat.le_trans hr (by decide), wAll fun d hd => ?_⟩
      obtain ⟨r, hr, rfl⟩ := List.mem_map.mp hd
      cases r with
      | nil => exact ⟨Nat.zero_le _, trivial⟩
      | cons x t =>
        have e := wL _ hr
        have l := len _ hr
        rw [List.length_cons] at l
        exact ⟨by show 2 ≤ 10000000; omega, e.1, ⟨by omega, e.2⟩, trivial⟩
  · split
    · cases rows with
      | nil => exact ⟨by show 1 + 0 < 16; omega, Nat.zero_le _, trivial⟩
      | cons r rs =>
        refine ⟨?_, wrow r (by simp)⟩
        have := (h r (by simp)).2
        show 1 + depL r < 16
        omega
    · refine ⟨?_, ?_⟩
      · show 1 + depL (rows.map .tup) < 16
        have : depL (rows.map D.tup) ≤ 13 := depL_le.mpr fun d hd => by
          obtain ⟨r, hr, rfl⟩ := List.mem_map.mp hd
          have := (h r hr).2
          show 1 + depL r ≤ 13
          omega
        omega
      · refine ⟨by rw [List.length_map]; exact Nat.le_trans hr (by decide), wAll fun d hd => ?_⟩
        obtain ⟨r, hr, rfl⟩ := List.mem_map.mp hd
        exact wrow r hr
theorem due_facts {nth : Nat} {head text : Str} (hl : text.length ≤ 8500000) : dep (dueD nth head text) < 17 ∧ wide (dueD nth head text) := by
  unfold dueD
  cases h : rdK nth head text with
  | error k => exact ⟨by show 1 + max 0 (max 0 0) < 17; omega, by show 2 ≤ 10000000; omega, trivial, trivial, trivial⟩
  | ok d =>
    obtain ⟨rows, hr, _, rfl⟩ := rdK_ok h
    obtain ⟨hw, ok1⟩ := rows_back hr
    have hsum : wsum (head :: rows.map rowT) ≤ 8500000 := by
      have e := len_catnl (head :: rows.map rowT)
      have e2 : (wrRows head rows).length = wsum (head :: rows.map rowT) := e
      rw [hw] at e2
      omega
    have cap := rows_cap hr (by omega)
    obtain ⟨a, b⟩ := thing_facts (nth := nth) ok1 (n := 8500001) (fun r hr => by
      obtain ⟨i, hi⟩ := List.getElem?_of_mem hr
      exact row_wsum hi ok1 hsum) (by decide) cap
    exact ⟨by show 1 + max 0 (max (dep (thing nth rows)) 0) < 17; omega, by show 2 ≤ 10000000; omega, trivial, b, trivial⟩
theorem ok_law_holds (T : CnF mg t1 t2 t3 t4 t5 t6) (Df : HasDef K mg "_law_holds" s_law_holds ["nth", "top", "text"]) (C_law_due : Has P w K mg base CX0 4 "_law_due" ["nth", "top", "text"] (spDueK K)) (C_law_told : Has P w K mg base CX0 9 "_law_told" ["nth", "top", "text"] (spTold K))
    (C_law_marks : Has P w K mg base CX0 9 "_law_marks" ["nth", "top", "text"] (spMarks K)) (C_law_back : Has P w K mg base CX0 25 "_law_back" ["nth", "top", "thing"] (spBack K)) (C_law_same : Has P w K mg base CX0 18 "_law_same" ["got", "due"] (spSame K 17)) :
    Has P w K mg base CX0 26 "_law_holds" ["nth", "top", "text"] spHolds := by
  refine Df.has fun f fd F => F.ok sc_law_holds (fun vs H Q E h => ?_) (fun cdv A outer s H vs Q E hr h => ?_)
  · obtain ⟨_, _, _, rfl, _⟩ := h; rfl
  · obtain ⟨nth, head, z, rfl, hk, h4, hl, q⟩ := h
    refine ⟨_, (pss_cons (ps_set (i := 3) sc_law_holds.nd rfl (Or.inl rfl) (pe_has C_law_due (hr.mono (by omega)) pass0 (pa_cons (pv 0) (pa_cons (pv 1) (pa_cons (pv 2) pa_nil)))))
  (pss_cons (ps_if (pt_not (pt_val (pe_has C_law_same (hr.mono (by omega)) pass0 (pa_cons (pe_has C_law_told (hr.mono (by omega)) pass0 (pa_cons (pv 0) (pa_cons (pv 1) (pa_cons (pv 2) pa_nil)))) (pa_cons (pv 3) pa_nil)))))
  (pss_one (ps_ret pe_bl))
  pss_nil)
  (pss_cons (ps_if (pt_cmpR op_eq (pe_ix (show IxR _ (rIxT K) from ix_tup) (pv 3) pe_int (fun _ _ => rfl)) pe_str (nomark _))
  (pss_one (ps_ret (pe_has C_law_same (hr.mono (by omega)) pass0 (pa_cons (pe_has C_law_back (hr.mono (by omega)) pass0 (pa_cons (pv 0) (pa_cons (pv 1) (pa_cons (pe_ix (show IxR _ (rIxT K) from ix_tup) (pv 3) pe_int (fun _ _ => rfl)) pa_nil)))) (pa_cons (pv 2) pa_nil)))))
  pss_nil)
  (pss_one (ps_ret (pe_has C_law_same (hr.mono (by omega)) pass0 (pa_cons (pe_has C_law_marks (hr.mono (by omega)) pass0 (pa_cons (pv 0) (pa_cons (pv 1) (pa_cons (pv 2) pa_nil)))) (pa_cons (pe_tup (pa_cons pe_bl (pa_cons pe_bl (pa_cons pe_bl (pa_cons pe_bl (pa_cons pe_bl (pa_cons pe_bl pa_nil))))))) pa_nil)))))))), ?_⟩
    have hsz := sizeLine_eq
    obtain ⟨dd, dw⟩ := due_facts (nth := nth) (head := head) hl
    refine ⟨_, rfl, _, rfl, .str z, rfl, nth, head, z, rfl, by omega, fun H1 u s1 ru => ?_⟩
    refine ⟨_, rfl, _, rfl, .str z, rfl, nth, head, z, rfl, hk, h4, by omega, fun H2 u2 s2 ru2 => ?_⟩
    have ru1 := ru.keep (TK.same s2)
    refine ⟨u, rfl, _, _, dueD nth head z, rfl, ru2, ru1, dd, dw, _, rfl, ?_⟩
    refine iteF ?_
    dsimp only [tNext]
    have s12 := s1.trans s2
    unfold dueD at ru1
    cases hd : rdK nth head z with
    | error n =>
      rw [hd] at ru1
      obtain ⟨pu, xs, rfl, sx, x, ys, rfl, rfl, ry⟩ := ru1
      refine ⟨.ref pu, rfl, pu, _, 0, _, rfl, rfl, sx, atI_nat (j := 0) rfl, rfl, _, rfl, ?_⟩
      refine ifF (by decide +kernel) ?_
      refine ⟨_, rfl, _, rfl, .str z, rfl, nth, head, z, n, rfl, hk, h4, by omega, hd, fun H3 v s3 rv => ⟨by show 6 ≤ sizeLine; omega, fun p np => ?_⟩⟩
      have k := Sv.nil (Sv.new (o := .tup [.bl true, .bl true, .bl false, .bl false, .bl false, .bl false]) np)
      refine ⟨_, _, .tup markL, rfl, rv.keep (TK.same k), ⟨p, _, rfl, .inl (.inl upd_same), _, _, rfl, rfl, _, _, rfl, rfl, _, _, rfl, rfl, _, _, rfl, rfl, _, _, rfl, rfl, _, _, rfl, rfl, rfl⟩, by decide, ⟨by decide, trivial, trivial, trivial, trivial, trivial, trivial, trivial⟩, ?_⟩
      exact q _ (s12.trans (s3.trans k))
    | ok d =>
      rw [hd] at ru1
      obtain ⟨pu, xs, rfl, sx, x, ys, rfl, rfl, v, ys2, rfl, rv, ry⟩ := ru1
      refine ⟨.ref pu, rfl, pu, _, 0, _, rfl, rfl, sx, atI_nat (j := 0) rfl, rfl, _, rfl, ?_⟩
      refine ifT (by decide +kernel) ?_
      refine ⟨_, rfl, _, rfl, .ref pu, rfl, pu, _, 1, v, rfl, rfl, sx, atI_nat (j := 1) rfl, nth, head, v, z, d, rfl, hk, by omega, hd, rv, fun H3 s3 => ?_⟩
      exact ⟨_, rfl, _, _, .str z, rfl, rfl, rfl, by show 0 < 17; omega, trivial, q _ (s12.trans s3)⟩
end
end RS

/-! Expressions that draw. -/
namespace RS
open PySem PySem.Spec PyProof.Rows L2 TL

def Sz (n b : Nat) (d : D) : Prop := ok d ∧ dep d ≤ n ∧ wsum (toks d) ≤ b
def SzL (n b : Nat) (ds : List D) : Prop := okL ds ∧ depL ds ≤ n ∧ wsum (toksL ds) ≤ b
def TupP (pr : List D → Prop) (d : D) : Prop := ∃ ds, d = .tup ds ∧ pr ds
theorem Sz.mono {n m b c : Nat} {d : D} (h : Sz n b d) (hn : n ≤ m) (hb : b ≤ c) : Sz m c d := ⟨h.1, Nat.le_trans h.2.1 hn, Nat.le_trans h.2.2 hb⟩
theorem SzL.mono {n m b c : Nat} {ds : List D} (h : SzL n b ds) (hn : n ≤ m) (hb : b ≤ c) : SzL m c ds := ⟨h.1, Nat.le_trans h.2.1 hn, Nat.le_trans h.2.2 hb⟩
theorem szl_nil : SzL 0 0 [] := ⟨trivial, Nat.le_refl _, Nat.le_refl _⟩
theorem szl_cons {n m b c : Nat} {d : D} {ds : List D} (h : Sz n b d) (g : SzL m c ds) : SzL (max n m) (b + c) (d :: ds) := by
  refine ⟨⟨h.1, g.1⟩, ?_, ?_⟩
  · show max (dep d) (depL ds) ≤ _
    have := h.2.1
    have := g.2.1
    omega
  · show wsum (toks d ++ toksL ds) ≤ _
    rw [wsum_append]
    have := h.2.2
    have := g.2.2
    omega
theorem szl_app {n m b c : Nat} {ds es : List D} (h : SzL n b ds) (g : SzL m c es) : SzL (max n m) (b + c) (ds ++ es) := by
  refine ⟨okL_append.mpr ⟨h.1, g.1⟩, ?_, ?_⟩
  · refine depL_le.mpr fun d hd => ?_
    rcases List.mem_append.mp hd with hd | hd
    · have := depL_le.mp h.2.1 d hd
      omega
    · have := depL_le.mp g.2.1 d hd
      omega
  · rw [toksL_append, wsum_append]
    have := h.2.2
    have := g.2.2
    omega
theorem sz_tup {n b : Nat} {ds : List D} (h : SzL n b ds) : Sz (n + 1) (b + 4) (.tup ds) := by
  refine ⟨h.1, ?_, ?_⟩
  · show 1 + depL ds ≤ _
    have := h.2.1
    omega
  · rw [wsum_tup]
    have := h.2.2
    omega
theorem sz_int {i : Int} (h : i.natAbs < 10 ^ 60) : Sz 0 62 (.int i) := by
  refine ⟨h, Nat.le_refl _, ?_⟩
  show wsum [Str.ofString (toString i)] ≤ 62
  rw [wsum_one]
  have := int_len h
  omega
theorem sz_small {i : Int} (h : i.natAbs ≤ 1000000) : Sz 0 62 (.int i) := sz_int (Nat.lt_of_le_of_lt h (by decide))
theorem sz_str {z : Str} (h : isWord z = true) : Sz 0 62 (.str z) := by
  refine ⟨h, Nat.le_refl _, ?_⟩
  show wsum [z] ≤ 62
  rw [wsum_one]
  have := (word_letters h).2.2
  rw [len_tl]
  omega
theorem szl_len {n b : Nat} {ds : List D} (h : SzL n b ds) : ds.length ≤ b := Nat.le_trans (okL_len h.1) (Nat.le_trans (len_le_wsum _) h.2.2)

section
variable {K : PySem.W.Frag} {H0 : Hp} {σ : L2.St} {p : Addr}
/-- an expression that draws out of the pool at p, seen from the heap H0 -/
def Dw (K : PySem.W.Frag) (H0 : Hp) (te : TE) (σ : L2.St) (p : Addr) (pr : D → Prop) : Prop := ∀ (H : Hp) (Q : VK), Sv [p] H0 H → Pool H p → (∀ H' v d, Sv [p] H H' → Pool H' p → Rp K H' d v → pr d → Q v H') → te σ H Q
def DwA (K : PySem.W.Frag) (H0 : Hp) (ta : TA) (σ : L2.St) (p : Addr) (pr : List D → Prop) : Prop := ∀ (H : Hp) (Q : List V → Hp → Prop), Sv [p] H0 H → Pool H p → (∀ H' vs ds, Sv [p] H H' → Pool H' p → RpL K H' ds vs → pr ds → Q vs H') → ta σ H Q
theorem pool_tk {H H' : Hp} (hP : Pool H p) (s : Sv [p] H H') : TK H H' := Sv.tk s fun b hb => by
  have : b = p := by simpa using hb
  exact this ▸ hP.isL
theorem Dw.imp {te : TE} {pr pr' : D → Prop} (h : Dw K H0 te σ p pr) (g : ∀ d, pr d → pr' d) : Dw K H0 te σ p pr' := fun H Q s hP q => h H Q s hP fun H' v d s' hP' r pd => q H' v d s' hP' r (g d pd)
theorem dwa_nil : DwA K H0 tNil σ p (SzL 0 0) := fun H Q s hP q => q H [] [] (Sv.refl _ _) hP rfl szl_nil
theorem dwa_cons {te : TE} {ta : TA} {n m b c : Nat} (h : Dw K H0 te σ p (Sz n b)) (g : DwA K H0 ta σ p (SzL m c)) : DwA K H0 (tCons te ta) σ p (SzL (max n m) (b + c)) := fun H Q s hP q =>
  h H _ s hP fun H1 v d s1 hP1 r pd => g H1 _ (s.trans s1) hP1 fun H2 vs ds s2 hP2 rl pl => q H2 (v :: vs) (d :: ds) (s1.trans s2) hP2 ⟨v, vs, rfl, r.keep (pool_tk hP1 s2), rl⟩ (szl_cons pd pl)
/-- .. with what is known of the first -/
theorem dwa_consP {te : TE} {ta : TA} {pr : D → Prop} {m c : Nat} (h : Dw K H0 te σ p pr) (g : DwA K H0 ta σ p (SzL m c)) : DwA K H0 (tCons te ta) σ p (fun ds => ∃ d r, ds = d :: r ∧ pr d ∧ SzL m c r) := fun H Q s hP q =>
  h H _ s hP fun H1 v d s1 hP1 r pd => g H1 _ (s.trans s1) hP1 fun H2 vs ds s2 hP2 rl pl => q H2 (v :: vs) (d :: ds) (s1.trans s2) hP2 ⟨v, vs, rfl, r.keep (pool_tk hP1 s2), rl⟩ ⟨d, ds, rfl, pd, pl⟩
theorem dwa_consQ {te : TE} {ta : TA} {pr : D → Prop} {pl : List D → Prop} (h : Dw K H0 te σ p pr) (g : DwA K H0 ta σ p pl) : DwA K H0 (tCons te ta) σ p (fun ds => ∃ d r, ds = d :: r ∧ pr d ∧ pl r) := fun H Q s hP q =>
  h H _ s hP fun H1 v d s1 hP1 r pd => g H1 _ (s.trans s1) hP1 fun H2 vs ds s2 hP2 rl pl => q H2 (v :: vs) (d :: ds) (s1.trans s2) hP2 ⟨v, vs, rfl, r.keep (pool_tk hP1 s2), rl⟩ ⟨d, ds, rfl, pd, pl⟩
theorem dw_tup {ta : TA} {pr : List D → Prop} (h : DwA K H0 ta σ p pr) (hl : ∀ ds, pr ds → ds.length ≤ 1000000) : Dw K H0 (tTup ta) σ p (TupP pr) := fun H Q s hP q =>
  h H _ s hP fun H1 vs ds s1 hP1 rl pl => ⟨by rw [rl.len, sizeLine_eq]; have := hl ds pl; omega, fun t nt => q _ (.ref t) (.tup ds) (s1.trans (Sv.new nt)) (hP1.new nt) (Rp.made nt rl) ⟨ds, rfl, pl⟩⟩
theorem dw_tupS {ta : TA} {n b : Nat} (h : DwA K H0 ta σ p (SzL n b)) (hb : b ≤ 1000000) : Dw K H0 (tTup ta) σ p (TupP (SzL n b)) := dw_tup h fun ds hd => Nat.le_trans (szl_len hd) hb
theorem dw_sz {te : TE} {n b : Nat} (h : Dw K H0 te σ p (TupP (SzL n b))) : Dw K H0 te σ p (Sz (n + 1) (b + 4)) := h.imp fun d ⟨ds, e, pd⟩ => by rw [e]; exact sz_tup pd
theorem dw_cat {t1 t2 : TE} {pa pb : List D → Prop} (h : Dw K H0 t1 σ p (TupP pa)) (g : Dw K H0 t2 σ p (TupP pb)) (hl : ∀ a b, pa a → pb b → a.length + b.length ≤ 1000000) : Dw K H0 (tOp (rCatA K) t1 t2) σ p (TupP fun ds => ∃ a b, ds = a ++ b ∧ pa a ∧ pb b) := fun H Q s hP q =>
  h H _ s hP fun H1 v d s1 hP1 r pd => g H1 _ (s.trans s1) hP1 fun H2 v2 d2 s2 hP2 r2 pd2 => by
    obtain ⟨da, rfl, pd⟩ := pd
    obtain ⟨db, rfl, pd2⟩ := pd2
    obtain ⟨a, xs, rfl, sa, ra⟩ := r.keep (pool_tk hP1 s2)
    obtain ⟨b, ys, rfl, sb, rb⟩ := r2
    refine ⟨a, b, xs, ys, rfl, rfl, sa, sb, by rw [ra.len, rb.len, sizeLine_eq]; have := hl da db pd pd2; omega, fun e => ?_, fun _ e => ?_, fun _ _ t nt => ?_⟩
    · have : da = [] := List.length_eq_zero_iff.mp (by rw [← ra.len, e]; rfl)
      exact q H2 _ (.tup (da ++ db)) (s1.trans s2) hP2 (by rw [this]; exact ⟨b, ys, rfl, sb, rb⟩) ⟨_, rfl, da, db, rfl, pd, pd2⟩
    · have : db = [] := List.length_eq_zero_iff.mp (by rw [← rb.len, e]; rfl)
      exact q H2 _ (.tup (da ++ db)) (s1.trans s2) hP2 (by rw [this, List.append_nil]; exact ⟨a, xs, rfl, sa, ra⟩) ⟨_, rfl, da, db, rfl, pd, pd2⟩
    · exact q _ (.ref t) (.tup (da ++ db)) ((s1.trans s2).trans (Sv.new nt)) (hP2.new nt) (Rp.made nt (RpL.app ra rb)) ⟨_, rfl, da, db, rfl, pd, pd2⟩
theorem dw_catS {t1 t2 : TE} {n m b c : Nat} (h : Dw K H0 t1 σ p (TupP (SzL n b))) (g : Dw K H0 t2 σ p (TupP (SzL m c))) (hb : b + c ≤ 1000000) : Dw K H0 (tOp (rCatA K) t1 t2) σ p (TupP (SzL (max n m) (b + c))) :=
  (dw_cat h g fun x y hx hy => by have := szl_len hx; have := szl_len hy; omega).imp fun d ⟨ds, e, a, b', e2, pa, pb⟩ => ⟨ds, e, by rw [e2]; exact szl_app pa pb⟩
/-- ints that are drawn -/
def SmI (n : Nat) (d : D) : Prop := ∃ i : Int, d = .int i ∧ i.natAbs ≤ n
theorem SmI.sz {n : Nat} {d : D} (hn : n ≤ 1000000) (h : SmI n d) : Sz 0 62 d := by
  obtain ⟨i, rfl, hi⟩ := h
  exact sz_small (Nat.le_trans hi hn)
theorem dw_draw {m : Int} (h0 : σ[0]? = some (some (.ref p))) (m0 : 0 < m) (m1 : m ≤ 1000000) : Dw K H0 (tCall spDraw [] E0 (tCons (tVar 0) (tCons (tC (.int m)) tNil))) σ p (SmI 1000000) := fun H Q s hP q =>
  ⟨_, h0, p, m, rfl, hP, m0, by omega, fun H' n s' hP' n0 n1 => q H' (.int n) (.int n) s' hP' rfl ⟨n, rfl, by omega⟩⟩
theorem dw_drawS {m : Int} (h0 : σ[0]? = some (some (.ref p))) (m0 : 0 < m) (m1 : m ≤ 1000000) : Dw K H0 (tCall spDraw [] E0 (tCons (tVar 0) (tCons (tC (.int m)) tNil))) σ p (Sz 0 62) := (dw_draw h0 m0 m1).imp fun _ h => h.sz (by decide)
theorem dw_sub {te : TE} {c : Int} (h : Dw K H0 te σ p (SmI 1000000)) (c0 : c.natAbs ≤ 1000000) : Dw K H0 (tOp (rI0 fun i j => .int (i - j)) te (tC (.int c))) σ p (Sz 0 62) := fun H Q s hP q =>
  h H _ s hP fun H1 v d s1 hP1 r pd => by
    obtain ⟨i, rfl, hi⟩ := pd
    cases (show v = V.int i from r)
    exact ⟨i, c, rfl, rfl, q H1 (.int (i - c)) (.int (i - c)) s1 hP1 rfl (sz_int (Nat.lt_of_le_of_lt (show (i - c).natAbs ≤ 2000000 by omega) (by decide)))⟩
theorem dw_add {te : TE} {c : Int} (h : Dw K H0 te σ p (SmI 1000000)) (c0 : c.natAbs ≤ 1000000) : Dw K H0 (tOp (rI0 fun i j => .int (i + j)) (tC (.int c)) te) σ p (Sz 0 62) := fun H Q s hP q =>
  h H _ s hP fun H1 v d s1 hP1 r pd => by
    obtain ⟨i, rfl, hi⟩ := pd
    cases (show v = V.int i from r)
    exact ⟨c, i, rfl, rfl, q H1 (.int (c + i)) (.int (c + i)) s1 hP1 rfl (sz_int (Nat.lt_of_le_of_lt (show (c + i).natAbs ≤ 2000000 by omega) (by decide)))⟩
theorem dw_str {z : Str} (h : isWord z = true) : Dw K H0 (tC (.str z)) σ p (fun d => d = .str z) := fun H Q s hP q => q H (.str z) (.str z) (Sv.refl _ _) hP rfl rfl
theorem dw_strS {z : Str} (h : isWord z = true) : Dw K H0 (tC (.str z)) σ p (Sz 0 62) := (dw_str h).imp fun d e => by rw [e]; exact sz_str h
theorem dw_var {i : Nat} {v : V} {d : D} (e : σ[i]? = some (some v)) (r : Rp K H0 d v) (hP0 : Pool H0 p) {pr : D → Prop} (pd : pr d) : Dw K H0 (tVar i) σ p pr := fun H Q s hP q => ⟨v, e, q H v d (Sv.refl _ _) hP (r.keep (pool_tk hP0 s)) pd⟩
/-- a call that draws -/
theorem dw_call {sp : Sp} {pr : D → Prop} (h0 : σ[0]? = some (some (.ref p))) (h : ∀ (H : Hp) (Q : VK), Pool H p → (∀ H' v d, Sv [p] H H' → Pool H' p → Rp K H' d v → pr d → Q v H') → sp [.ref p] H Q E0) : Dw K H0 (tCall sp [] E0 (tCons (tVar 0) tNil)) σ p pr := fun H Q s hP q => ⟨_, h0, h H Q hP q⟩
/-- a call's promise of a drawn value -/
def spDw (K : PySem.W.Frag) (pr : D → Prop) : Sp := fun vs H Q _ => ∃ p : Addr, vs = [.ref p] ∧ Pool H p ∧ ∀ H' v d, Sv [p] H H' → Pool H' p → Rp K H' d v → pr d → Q v H'
theorem dw_spDw {pr : D → Prop} (h0 : σ[0]? = some (some (.ref p))) : Dw K H0 (tCall (spDw K pr) [] E0 (tCons (tVar 0) tNil)) σ p pr := dw_call h0 fun H Q hP q => ⟨p, rfl, hP, q⟩
theorem dw_number (h0 : σ[0]? = some (some (.ref p))) : Dw K H0 (tCall spNumber [] E0 (tCons (tVar 0) tNil)) σ p (fun d => ∃ n : Int, d = .int n ∧ n.natAbs < 10 ^ 60) := dw_call h0 fun H Q hP q => ⟨p, rfl, hP, fun H' n s hP' hn => q H' (.int n) (.int n) s hP' rfl ⟨n, rfl, hn⟩⟩
theorem dw_letters (h0 : σ[0]? = some (some (.ref p))) : Dw K H0 (tCall spLetters [] E0 (tCons (tVar 0) tNil)) σ p (fun d => ∃ z : Str, d = .str z ∧ isWord z = true) := dw_call h0 fun H Q hP q => ⟨p, rfl, hP, fun H' z s hP' hz => q H' (.str z) (.str z) s hP' rfl ⟨z, rfl, hz⟩⟩
end

/-! ### picks, comprehensions -/
section
variable {K : PySem.W.Frag} {H0 : Hp} {σ : L2.St} {p : Addr}
abbrev strsTA (ss : List Str) : TA := ss.foldr (fun s t => tCons (tC (.str s)) t) tNil
theorem dwa_strs : ∀ (ss : List Str), DwA K H0 (strsTA ss) σ p (fun ds => ds = ss.map .str)
  | [] => fun H Q s hP q => q H [] [] (Sv.refl _ _) hP rfl rfl
  | x :: r => fun H Q s hP q => dwa_strs r H _ s hP fun H2 vs ds s2 hP2 rl pl => q H2 (.str x :: vs) (.str x :: ds) s2 hP2 ⟨_, vs, rfl, rfl, rl⟩ (by rw [pl]; rfl)
/-- an int below m -/
def InI (m : Int) (d : D) : Prop := ∃ i : Int, d = .int i ∧ 0 ≤ i ∧ i < m
theorem dw_drawI {m : Int} (h0 : σ[0]? = some (some (.ref p))) (m0 : 0 < m) (m1 : m ≤ 1000000) : Dw K H0 (tCall spDraw [] E0 (tCons (tVar 0) (tCons (tC (.int m)) tNil))) σ p (InI m) := fun H Q s hP q =>
  ⟨_, h0, p, m, rfl, hP, m0, by omega, fun H' n s' hP' n0 n1 => q H' (.int n) (.int n) s' hP' rfl ⟨n, rfl, n0, n1⟩⟩
theorem dw_addI {te : TE} {c m : Int} (h : Dw K H0 te σ p (InI m)) (c0 : 0 ≤ c) : Dw K H0 (tOp (rI0 fun i j => .int (i + j)) (tC (.int c)) te) σ p (InI (c + m)) := fun H Q s hP q =>
  h H _ s hP fun H1 v d s1 hP1 r pd => by
    obtain ⟨i, rfl, h0, h1⟩ := pd
    cases (show v = V.int i from r)
    exact ⟨c, i, rfl, rfl, q H1 (.int (c + i)) (.int (c + i)) s1 hP1 rfl ⟨c + i, rfl, by omega, by omega⟩⟩
theorem rpl_strs {H : Hp} : ∀ {ss : List Str} {xs : List V}, RpL K H (ss.map .str) xs → xs = ss.map V.str
  | [], _, h => h
  | s :: r, _, h => by
    obtain ⟨x, ys, rfl, e, t⟩ := h
    rw [show x = V.str s from e, rpl_strs t]
    rfl
theorem dw_ix {t1 tn : TE} {ss : List Str} {m : Int} (h : Dw K H0 t1 σ p (fun d => d = .tup (ss.map .str))) (g : Dw K H0 tn σ p (InI m)) (hm : m ≤ ss.length) : Dw K H0 (tOp (rIxT K) t1 tn) σ p (fun d => ∃ z, z ∈ ss ∧ d = .str z) := fun H Q s hP q =>
  h H _ s hP fun H1 v d s1 hP1 r e => g H1 _ (s.trans s1) hP1 fun H2 v2 d2 s2 hP2 r2 pd => by
    subst e
    obtain ⟨i, rfl, i0, i1⟩ := pd
    cases (show v2 = V.int i from r2)
    obtain ⟨a, xs, rfl, sa, ra⟩ := r.keep (pool_tk hP1 s2)
    have ex := rpl_strs ra
    obtain ⟨z, hz, e⟩ := pickS (ss := ss) i0 (by omega)
    refine ⟨a, xs, i, .str z, rfl, rfl, sa, by rw [ex]; exact e, q H2 (.str z) (.str z) (s1.trans s2) hP2 rfl ⟨z, hz, rfl⟩⟩
theorem dw_pick {tn : TE} {m : Int} (ss : List Str) (hl : ss.length ≤ 1000000) (g : Dw K H0 tn σ p (InI m)) (hm : m ≤ ss.length) : Dw K H0 (tOp (rIxT K) (tTup (strsTA ss)) tn) σ p (fun d => ∃ z, z ∈ ss ∧ d = .str z) :=
  dw_ix ((dw_tup (dwa_strs ss) fun ds e => by rw [e, List.length_map]; exact hl).imp fun d ⟨ds, e, e2⟩ => by rw [e, e2]) g hm
theorem dw_words {te : TE} {ss : List Str} (h : Dw K H0 te σ p (fun d => ∃ z, z ∈ ss ∧ d = .str z)) (hw : ss.all isWord = true) : Dw K H0 te σ p (fun d => isStr d = true ∧ Sz 0 62 d) := h.imp fun d ⟨z, hz, e⟩ => by
  rw [e]
  exact ⟨rfl, sz_str (List.all_eq_true.mp hw z hz)⟩
/-- what a comprehension has drawn behind i turns -/
def PvD (K : PySem.W.Frag) (H : Hp) (p l : Addr) (n b i : Nat) (H' : Hp) : Prop := Sv [p, l] H H' ∧ Pool H' p ∧ ∃ ys ds, H' l = some (.lst ys) ∧ RpL K H' ds ys ∧ SzL n (b * i) ds
theorem PvD.start {H : Hp} {l : Addr} {n b : Nat} (hP : Pool H p) (nl : H l = none) : PvD K H p l n b 0 (upd H l (.lst [])) := ⟨Sv.new nl, hP.new nl, [], [], upd_same, rfl, trivial, Nat.zero_le _, by show 0 ≤ _; omega⟩
theorem PvD.skip {H H1 H2 : Hp} {l : Addr} {n b i : Nat} (h : PvD K H p l n b i H1) (pl : p ≠ l) (s : Sv [p] H1 H2) (hP : Pool H2 p) : PvD K H p l n b (i + 1) H2 := by
  obtain ⟨h1, h2, ys, ds, h3, h4, h5⟩ := h
  exact ⟨h1.trans (s.mono (by simp)), hP, ys, ds, s _ _ (by simpa using pl.symm) h3, h4.keep (pool_tk h2 s), h5.mono (Nat.le_refl _) (Nat.mul_le_mul_left _ (Nat.le_succ _))⟩
theorem PvD.step {H H1 H2 : Hp} {l : Addr} {n b i : Nat} {d : D} {v : V} (h : PvD K H p l n b i H1) (pl : p ≠ l) (s : Sv [p] H1 H2) (hP : Pool H2 p) (r : Rp K H2 d v) (z : Sz n b d) (hb : b * i ≤ 1000000) :
    ∃ acc, H2 l = some (.lst acc) ∧ acc.length < sizeLine ∧ PvD K H p l n b (i + 1) (upd H2 l (.lst (acc ++ [v]))) := by
  obtain ⟨h1, h2, ys, ds, h3, h4, h5⟩ := h
  have hl := s _ _ (by simpa using pl.symm) h3
  have len := szl_len h5
  have isl : IsL H2 l := ⟨_, hl⟩
  refine ⟨ys, hl, by rw [h4.len, sizeLine_eq]; omega, (h1.trans (s.mono (by simp))).trans (Sv.set (by simp)), ?_, _, ds ++ [d], upd_same, RpL.app ((h4.keep (pool_tk h2 s)).keep (tk_set isl)) ⟨v, [], rfl, r.keep (tk_set isl), rfl⟩, ?_⟩
  · obtain ⟨x1, x2, x3, e⟩ := hP
    exact ⟨x1, x2, x3, by rw [upd_ne pl]; exact e⟩
  · have := szl_app h5 (szl_cons z szl_nil)
    exact this.mono (by omega) (by rw [Nat.mul_succ]; omega)
/-- tuple([te for j in range(tn)]) -/
theorem dw_tupLc {tn te : TE} {j : Nat} {vs : List Nat} {n b N : Nat} (hn : Dw K H0 tn σ p (InI ((N : Int) + 1))) (he : ∀ x : V, Dw K H0 te ((wipe σ vs).set j (some x)) p (Sz n b)) (hw : ∀ x : V, wipe ((wipe σ vs).set j (some x)) vs = wipe σ vs) (hb : b * N ≤ 1000000) (hN : N ≤ 1000000) :
    Dw K H0 (tCB (fun xs H Q => ∃ q ys, xs = [.ref q] ∧ ((SqL K H q ys ∧ ∀ l, H l = none → Q (.ref l) (upd H l (.tup ys))) ∨ (SqT K H q ys ∧ Q (.ref q) H))) (tCons (tLc (iRng1 (tCons tn tNil)) (gName j) tYes te vs) tNil)) σ p (TupP (SzL n (b * N))) := fun H Q s hP q =>
  hn H _ s hP fun H1 v d s1 hP1 r pd => by
    obtain ⟨i, rfl, i0, i1⟩ := pd
    cases (show v = V.int i from r)
    refine ⟨i, rfl, by omega, by omega, fun l nl => ?_⟩
    have pl : p ≠ l := (hP1.ne nl).symm
    refine lc_range (lo := 0) (n := i.toNat) (fun k H' => PvD K H1 p l n b k H') (PvD.start hP1 nl) (fun k H2 hk h => ?_) fun H2 h => ?_
    · refine ⟨hw _, ?_⟩
      have bk : b * k ≤ 1000000 := Nat.le_trans (Nat.mul_le_mul_left b (show k ≤ N by omega)) hb
      exact he (.int (0 + (k : Int))) H2 _ (((s.trans s1).trans (Sv.drop nl (h.1.mono (by simp [or_comm])))).mono (by simp)) h.2.1 fun H3 v3 d3 s3 hP3 r3 z3 => h.step pl s3 hP3 r3 z3 bk
    · obtain ⟨h1, h2, ys, ds, h3, h4, h5⟩ := h
      have sv2 : Sv [p] H1 H2 := Sv.drop nl (h1.mono (by simp [or_comm]))
      refine ⟨l, ys, rfl, .inl ⟨.inl (.inl h3), fun t nt => ?_⟩⟩
      exact q _ (.ref t) (.tup ds) ((s1.trans sv2).trans (Sv.new nt)) (h2.new nt) (Rp.made nt h4) ⟨ds, rfl, h5.mono (Nat.le_refl _) (Nat.mul_le_mul_left _ (by omega))⟩
end
end RS

namespace RS
open PySem PySem.Spec PyProof.Rows L2 TL

abbrev s_law_small : Stmt := topS 48
theorem sc_law_small : FnScope ["pool"] ["pool"] (defScope s_law_small) := ⟨rfl, rfl, rfl, by decide +kernel, rfl, by decide +kernel, by decide +kernel⟩
abbrev s_law_rising : Stmt := topS 49
theorem sc_law_rising : FnScope ["pool", "k"] ["pool"] (defScope s_law_rising) := ⟨rfl, rfl, rfl, by decide +kernel, rfl, by decide +kernel, by decide +kernel⟩
abbrev s_law_item : Stmt := topS 50
theorem sc_law_item : FnScope ["pool"] ["pool"] (defScope s_law_item) := ⟨rfl, rfl, rfl, by decide +kernel, rfl, by decide +kernel, by decide +kernel⟩
abbrev s_law_deed : Stmt := topS 51
theorem sc_law_deed : FnScope ["pool", "names", "more", "k", "top", "row", "j"] ["pool"] (defScope s_law_deed) := ⟨rfl, rfl, rfl, by decide +kernel, rfl, by decide +kernel, by decide +kernel⟩
abbrev s_law_record : Stmt := topS 52
theorem sc_law_record : FnScope ["pool", "top", "way", "hand", "verb"] ["pool"] (defScope s_law_record) := ⟨rfl, rfl, rfl, by decide +kernel, rfl, by decide +kernel, by decide +kernel⟩
abbrev s_law_sheet : Stmt := topS 53
theorem sc_law_sheet : FnScope ["pool", "top", "words", "sides", "k", "why", "bs", "j"] ["pool"] (defScope s_law_sheet) := ⟨rfl, rfl, rfl, by decide +kernel, rfl, by decide +kernel, by decide +kernel⟩

def IntP (d : D) : Prop := ∃ n : Int, d = .int n ∧ n.natAbs < 10 ^ 60
theorem IntP.sz {d : D} (h : IntP d) : Sz 0 62 d := by
  obtain ⟨n, rfl, hn⟩ := h
  exact sz_int hn

def RunP (n b : Nat) (ds : List D) : Prop := SzL n b ds ∧ goodRun ds = true
section
variable {K : PySem.W.Frag} {H0 : Hp} {σ : L2.St} {p : Addr}
theorem dw_tupR {te : TE} {ta : TA} {n m b c : Nat} (h : Dw K H0 te σ p (fun d => isStr d = true ∧ Sz n b d)) (g : DwA K H0 ta σ p (SzL m c)) (hb : b + c ≤ 1000000) : Dw K H0 (tTup (tCons te ta)) σ p (TupP (RunP (max n m) (b + c))) :=
  (dw_tup (dwa_consQ h g) fun ds ⟨d, r, e, pd, pl⟩ => by rw [e]; exact Nat.le_trans (szl_len (szl_cons pd.2 pl)) hb).imp fun d ⟨ds, e, d0, r, e2, pd, pl⟩ => ⟨ds, e, by rw [e2]; exact szl_cons pd.2 pl, by rw [e2]; exact pd.1⟩
theorem run_app {a b : List D} (h : goodRun a = true) : goodRun (a ++ b) = true := by
  cases a with
  | nil => cases h
  | cons x r => exact h
theorem dw_catR {t1 t2 : TE} {n m b c : Nat} (h : Dw K H0 t1 σ p (TupP (RunP n b))) (g : Dw K H0 t2 σ p (TupP (SzL m c))) (hb : b + c ≤ 1000000) : Dw K H0 (tOp (rCatA K) t1 t2) σ p (TupP (RunP (max n m) (b + c))) :=
  (dw_cat h g fun x y hx hy => by have := szl_len hx.1; have := szl_len hy; omega).imp fun d ⟨ds, e, a, b', e2, pa, pb⟩ => ⟨ds, e, by rw [e2]; exact szl_app pa.1 pb, by rw [e2]; exact run_app pa.2⟩
theorem dw_ixL {ss : List Str} {i j : Nat} {a : Addr} {k : Int} (e1 : σ[i]? = some (some (.ref a))) (ha : H0 a = some (.lst (ss.map V.str))) (ap : a ≠ p) (e2 : σ[j]? = some (some (.int k))) (k0 : 0 ≤ k) (k1 : k < ss.length) : Dw K H0 (tOp (rIxL K) (tVar i) (tVar j)) σ p (fun d => ∃ z, z ∈ ss ∧ d = .str z) := fun H Q s hP q => by
  obtain ⟨z, hz, e⟩ := pickS (ss := ss) k0 k1
  exact ⟨_, e1, _, e2, a, _, k, .str z, rfl, rfl, .inl (.inl (s _ _ (by simpa using ap) ha)), e, q H (.str z) (.str z) (Sv.refl _ _) hP rfl ⟨z, hz, rfl⟩⟩
theorem dw_ixI {is : List Int} {i j : Nat} {a : Addr} {k m : Int} (e1 : σ[i]? = some (some (.ref a))) (ha : H0 a = some (.tup (is.map V.int))) (ap : a ≠ p) (e2 : σ[j]? = some (some (.int k))) (k0 : 0 ≤ k) (k1 : k < is.length) (hm : ∀ x ∈ is, 0 ≤ x ∧ x < m) : Dw K H0 (tOp (rIxT K) (tVar i) (tVar j)) σ p (InI m) := fun H Q s hP q => by
  obtain ⟨x, hx, e⟩ := pickI (ss := is) k0 k1
  exact ⟨_, e1, _, e2, a, _, k, .int x, rfl, rfl, .inl (.inl (s _ _ (by simpa using ap) ha)), e, q H (.int x) (.int x) (Sv.refl _ _) hP rfl ⟨x, rfl, (hm x hx).1, (hm x hx).2⟩⟩
end

section
variable {P : Program} {w : World} {K : PySem.W.Frag} {mg : Str → Option Value} {base : Heap} {t1 t2 t3 t4 t5 t6 : Tok} {C fI : Addr}
theorem ok_law_small (T : CnF mg t1 t2 t3 t4 t5 t6) (Df : HasDef K mg "_law_small" s_law_small ["pool"]) (C_law_draw : Has P w K mg base CX0 1 "_law_draw" ["pool", "many"] spDraw) (C_law_number : Has P w K mg base CX0 2 "_law_number" ["pool"] spNumber) :
    Has P w K mg base CX0 3 "_law_small" ["pool"] (spDw K IntP) := by
  refine Df.has fun f fd F => F.ok sc_law_small (fun vs H Q E h => ?_) (fun cdv A outer s H vs Q E hr h => ?_)
  · obtain ⟨_, rfl, _⟩ := h; rfl
  · obtain ⟨p, rfl, hP, q⟩ := h
    refine ⟨_, (pss_cons (ps_if (pt_cmpR op_eq (pe_has C_law_draw (hr.mono (by omega)) pass0 (pa_cons (pv 0) (pa_cons pe_int pa_nil))) pe_int (nomark _))
  (pss_one (ps_ret (pe_has C_law_number (hr.mono (by omega)) pass0 (pa_cons (pv 0) pa_nil))))
  pss_nil)
  (pss_one (ps_ret (pe_op op_sub (pe_has C_law_draw (hr.mono (by omega)) pass0 (pa_cons (pv 0) (pa_cons pe_int pa_nil))) pe_int)))), ?_⟩
    refine ⟨.ref p, rfl, p, 8, rfl, hP, by decide, by decide, fun H1 j sv1 hP1 j0 j1 => ⟨rfl, _, rfl, ?_⟩⟩
    refine ite2 (fun e1 => ?_) (fun e1 => ?_)
    · exact ⟨.ref p, rfl, p, rfl, hP1, fun H2 n sv2 hP2 hn => q H2 (.int n) (.int n) (sv1.trans sv2) hP2 rfl ⟨n, rfl, hn⟩⟩
    · exact ⟨.ref p, rfl, p, 13, rfl, hP1, by decide, by decide, fun H2 n sv2 hP2 n0 n1 => ⟨_, _, rfl, rfl, q H2 _ (.int (n - 1)) (sv1.trans sv2) hP2 rfl ⟨n - 1, rfl, Nat.lt_of_le_of_lt (show (n - 1).natAbs ≤ 100 by omega) (by decide)⟩⟩⟩
theorem ok_law_rising (T : CnF mg t1 t2 t3 t4 t5 t6) (Df : HasDef K mg "_law_rising" s_law_rising ["pool"]) (C_law_draw : Has P w K mg base CX0 1 "_law_draw" ["pool", "many"] spDraw) :
    Has P w K mg base CX0 2 "_law_rising" ["pool"] (spDw K (TupP (SzL 0 300))) := by
  refine Df.has fun f fd F => F.ok sc_law_rising (fun vs H Q E h => ?_) (fun cdv A outer s H vs Q E hr h => ?_)
  · obtain ⟨_, rfl, _⟩ := h; rfl
  · obtain ⟨p, rfl, hP, q⟩ := h
    refine ⟨_, (pss_one (ps_ret (pe_callTy call_tuple_of (by rfl) T.m_tuple (by decide +kernel) (pa_cons (pe_lc (own := [("k", 1)]) (g := gName 1) rfl sc_law_rising.nd (pi_range1 (by rfl) T.m_range (pa_cons pe_int pa_nil)) (blkOk_by (own := [("k", 1)]) (N := ["pool", "k"]) (sc := defScope s_law_rising) (by decide +kernel)) (fun _ _ _ _ _ => (pg_name (i := 1) sc_law_rising.nd rfl (Or.inl rfl))) (fun _ _ _ _ _ => (pts_one (pt_cmpR op_eq (pe_has C_law_draw (hr.mono (by omega)) pass0 (pa_cons (pv 0) (pa_cons pe_int pa_nil))) pe_int (nomark _)))) (fun _ _ _ _ _ => (pv 1))) pa_nil)))), ?_⟩
    refine ⟨4, rfl, by decide, by decide, fun l nl => ?_⟩
    have pl : p ≠ l := (hP.ne nl).symm
    refine lc_range (lo := 0) (n := 4) (fun k H' => PvD K H p l 0 62 k H') (PvD.start hP nl) (fun k H2 hk h => ?_) fun H2 h => ?_
    · refine ⟨rfl, .ref p, rfl, p, 2, rfl, h.2.1, by decide, by decide, fun H3 j sv3 hP3 j0 j1 => ⟨rfl, _, rfl, ?_⟩⟩
      refine ite2 (fun e1 => ?_) (fun e1 => h.skip pl sv3 hP3)
      exact ⟨_, rfl, h.step pl sv3 hP3 (d := .int (0 + (k : Int))) rfl (sz_small (by omega)) (by omega)⟩
    · obtain ⟨h1, h2, ys, ds, h3, h4, h5⟩ := h
      refine ⟨l, ys, rfl, .inl ⟨.inl (.inl h3), fun t nt => ?_⟩⟩
      exact q _ (.ref t) (.tup ds) ((Sv.drop nl (h1.mono (by simp [or_comm]))).trans (Sv.new nt)) (h2.new nt) (Rp.made nt h4) ⟨ds, rfl, h5.mono (Nat.le_refl _) (by decide)⟩
theorem ok_law_item (T : CnF mg t1 t2 t3 t4 t5 t6) (Df : HasDef K mg "_law_item" s_law_item ["pool"]) (C_law_draw : Has P w K mg base CX0 1 "_law_draw" ["pool", "many"] spDraw) :
    Has P w K mg base CX0 2 "_law_item" ["pool"] (spDw K (TupP (SzL 0 130))) := by
  refine Df.has fun f fd F => F.ok sc_law_item (fun vs H Q E h => ?_) (fun cdv A outer s H vs Q E hr h => ?_)
  · obtain ⟨_, rfl, _⟩ := h; rfl
  · obtain ⟨p, rfl, hP, q⟩ := h
    refine ⟨_, (pss_cons (ps_if (pt_cmpR op_eq (pe_has C_law_draw (hr.mono (by omega)) pass0 (pa_cons (pv 0) (pa_cons pe_int pa_nil))) pe_int (nomark _))
  (pss_one (ps_ret (pe_tup pa_nil)))
  pss_nil)
  (pss_one (ps_ret (pe_tup (pa_cons (pe_ix (show IxR _ (rIxT K) from ix_tup) (pe_tup (pa_cons pe_str (pa_cons pe_str (pa_cons pe_str (pa_cons pe_str pa_nil))))) (pe_has C_law_draw (hr.mono (by omega)) pass0 (pa_cons (pv 0) (pa_cons pe_int pa_nil))) (fun _ _ => rfl)) (pa_cons (pe_has C_law_draw (hr.mono (by omega)) pass0 (pa_cons (pv 0) (pa_cons pe_int pa_nil))) pa_nil)))))), ?_⟩
    refine ⟨.ref p, rfl, p, 5, rfl, hP, by decide, by decide, fun H1 j sv1 hP1 j0 j1 => ⟨rfl, _, rfl, ?_⟩⟩
    refine ite2 (fun e1 => ?_) (fun e1 => ?_)
    · exact ⟨Nat.zero_le _, fun t nt => q _ (.ref t) (.tup []) (sv1.trans (Sv.new nt)) (hP1.new nt) ⟨t, [], rfl, .inl (.inl upd_same), rfl⟩ ⟨[], rfl, szl_nil.mono (Nat.le_refl _) (by decide)⟩⟩
    · refine dw_tupS (K := K) (H0 := H1) (n := 0) (b := 124) (dwa_cons (n := 0) (m := 0) (b := 62) (c := 62) ((dw_words (dw_pick ["rule", "door", "lot", "glass"] (by decide) (dw_drawI rfl (by decide) (by decide)) (by decide)) (by decide +kernel)).imp fun d h => h.2) (dwa_cons (n := 0) (m := 0) (b := 62) (c := 0) (dw_drawS rfl (by decide) (by decide)) dwa_nil)) (by decide) H1 _ (Sv.refl _ _) hP1 fun H' v d s' hP' r pd => ?_
      obtain ⟨ds, rfl, pd⟩ := pd
      exact q H' v _ (sv1.trans s') hP' r ⟨ds, rfl, pd.mono (Nat.le_refl _) (by decide)⟩

def names15 : List Str := ["seat", "out", "mark", "wipe", "lend",
  "call", "open", "shut", "strike",
  "add", "pass", "back", "away",
  "here", "quit"]
def more15 : List Int := [2, 1, 3, 2, 4, 2,
  1, 1, 1, 0, 5, 1, 1, 0, 0]
theorem ok_law_deed (T : CnF mg t1 t2 t3 t4 t5 t6) (Df : HasDef K mg "_law_deed" s_law_deed ["pool"]) (C_law_draw : Has P w K mg base CX0 1 "_law_draw" ["pool", "many"] spDraw) (C_law_small : Has P w K mg base CX0 3 "_law_small" ["pool"] (spDw K IntP))
    (C_law_rising : Has P w K mg base CX0 2 "_law_rising" ["pool"] (spDw K (TupP (SzL 0 300)))) : Has P w K mg base CX0 4 "_law_deed" ["pool"] (spDw K (TupP (RunP 3 3000))) := by
  refine Df.has fun f fd F => F.ok sc_law_deed (fun vs H Q E h => ?_) (fun cdv A outer s H vs Q E hr h => ?_)
  · obtain ⟨_, rfl, _⟩ := h; rfl
  · obtain ⟨p, rfl, hP, q⟩ := h
    refine ⟨_, (pss_cons (ps_set (i := 1) sc_law_deed.nd rfl (Or.inl rfl) (pe_lst (pa_cons pe_str (pa_cons pe_str (pa_cons pe_str (pa_cons pe_str (pa_cons pe_str (pa_cons pe_str (pa_cons pe_str (pa_cons pe_str (pa_cons pe_str (pa_cons pe_str (pa_cons pe_str (pa_cons pe_str (pa_cons pe_str (pa_cons pe_str (pa_cons pe_str pa_nil)))))))))))))))))
  (pss_cons (ps_set (i := 2) sc_law_deed.nd rfl (Or.inl rfl) (pe_tup (pa_cons pe_int (pa_cons pe_int (pa_cons pe_int (pa_cons pe_int (pa_cons pe_int (pa_cons pe_int (pa_cons pe_int (pa_cons pe_int (pa_cons pe_int (pa_cons pe_int (pa_cons pe_int (pa_cons pe_int (pa_cons pe_int (pa_cons pe_int (pa_cons pe_int pa_nil)))))))))))))))))
  (pss_cons (ps_set (i := 3) sc_law_deed.nd rfl (Or.inl rfl) (pe_has C_law_draw (hr.mono (by omega)) pass0 (pa_cons (pv 0) (pa_cons pe_int pa_nil))))
  (pss_cons (ps_if (pt_cmpR op_gt (pv 3) pe_int (nomark _))
  (pss_one (ps_ret (pe_tup (pa_cons pe_str (pa_cons (pe_has C_law_draw (hr.mono (by omega)) pass0 (pa_cons (pv 0) (pa_cons pe_int pa_nil))) pa_nil)))))
  pss_nil)
  (pss_cons (ps_set (i := 4) sc_law_deed.nd rfl (Or.inl rfl) (pe_tup (pa_cons (pe_ix ix_list (pv 1) (pv 3) (fun _ _ => rfl)) (pa_cons (pe_has C_law_small (hr.mono (by omega)) pass0 (pa_cons (pv 0) pa_nil)) (pa_cons (pe_has C_law_small (hr.mono (by omega)) pass0 (pa_cons (pv 0) pa_nil)) (pa_cons (pe_has C_law_draw (hr.mono (by omega)) pass0 (pa_cons (pv 0) (pa_cons pe_int pa_nil))) pa_nil))))))
  (pss_cons (ps_if (pt_cmpR op_ne (pe_ix ix_list (pv 1) (pv 3) (fun _ _ => rfl)) pe_str (nomark _))
  (pss_one (ps_ret (pe_op (show OpR _ _ (rCatA K) from op_catA) (pv 4) (pe_callTy call_tuple_of (by rfl) T.m_tuple (by decide +kernel) (pa_cons (pe_lc (own := [("j", 6)]) (g := gName 6) (tt := tYes) rfl sc_law_deed.nd (pi_range1 (by rfl) T.m_range (pa_cons (pe_ix (show IxR _ (rIxT K) from ix_tup) (pv 2) (pv 3) (fun _ _ => rfl)) pa_nil)) (blkOk_by (own := [("j", 6)]) (N := ["pool", "names", "more", "k", "top", "row", "j"]) (sc := defScope s_law_deed) (by decide +kernel)) (fun _ _ _ _ _ => (pg_name (i := 6) sc_law_deed.nd rfl (Or.inl rfl))) (fun _ _ _ _ _ => pts_nil) (fun _ _ _ _ _ => (pe_has C_law_small (hr.mono (by omega)) pass0 (pa_cons (pv 0) pa_nil)))) pa_nil)))))
  pss_nil)
  (pss_cons (ps_set (i := 5) sc_law_deed.nd rfl (Or.inl rfl) (pe_tup (pa_cons (pe_has C_law_draw (hr.mono (by omega)) pass0 (pa_cons (pv 0) (pa_cons pe_int pa_nil))) (pa_cons (pe_has C_law_draw (hr.mono (by omega)) pass0 (pa_cons (pv 0) (pa_cons pe_int pa_nil))) (pa_cons (pe_op op_sub (pe_has C_law_draw (hr.mono (by omega)) pass0 (pa_cons (pv 0) (pa_cons pe_int pa_nil))) pe_int) (pa_cons (pe_has C_law_rising (hr.mono (by omega)) pass0 (pa_cons (pv 0) pa_nil)) (pa_cons (pe_has C_law_draw (hr.mono (by omega)) pass0 (pa_cons (pv 0) (pa_cons pe_int pa_nil))) (pa_cons (pe_has C_law_draw (hr.mono (by omega)) pass0 (pa_cons (pv 0) (pa_cons pe_int pa_nil))) pa_nil))))))))
  (pss_one (ps_ret (pe_op (show OpR _ _ (rCatA K) from op_catA) (pv 4) (pe_tup (pa_cons (pe_op (show OpR _ _ (rCatA K) from op_catA) (pv 5) (pe_tup (pa_cons (pe_has C_law_rising (hr.mono (by omega)) pass0 (pa_cons (pv 0) pa_nil)) (pa_cons (pe_has C_law_rising (hr.mono (by omega)) pass0 (pa_cons (pv 0) pa_nil)) pa_nil)))) pa_nil)))))))))))), ?_⟩
    have hsz := sizeLine_eq
    refine cutSeq (fun σ' H' => ∃ a : Addr, σ' = [some (.ref p), some (.ref a), none, none, none, none, none] ∧ Sv [p] H H' ∧ Pool H' p ∧ H' a = some (.lst (names15.map V.str)) ∧ a ≠ p) (fun nx hn => ?_) ?_
    · exact ⟨by show 15 ≤ sizeLine; omega, fun a na => hn _ _ ⟨a, rfl, Sv.new na, hP.new na, upd_same, hP.ne na⟩⟩
    rintro _ H1 ⟨a, rfl, sv1, hP1, ha1, ap⟩
    refine cutSeq (fun σ' H' => ∃ m : Addr, σ' = [some (.ref p), some (.ref a), some (.ref m), none, none, none, none] ∧ Sv [p] H H' ∧ Pool H' p ∧ H' a = some (.lst (names15.map V.str)) ∧ H' m = some (.tup (more15.map V.int)) ∧ m ≠ p) (fun nx hn => ?_) ?_
    · exact ⟨by show 15 ≤ sizeLine; omega, fun m nm => hn _ _ ⟨m, rfl, sv1.trans (Sv.new nm), hP1.new nm, (Sv.nil (Sv.new nm)) _ _ ha1, upd_same, hP1.ne nm⟩⟩
    rintro _ H2 ⟨m, rfl, sv2, hP2, ha2, hm2, mp⟩
    refine cutSeq (fun σ' H' => ∃ k : Int, 0 ≤ k ∧ k < 18 ∧ σ' = [some (.ref p), some (.ref a), some (.ref m), some (.int k), none, none, none] ∧ Sv [p] H H' ∧ Pool H' p ∧ H' a = some (.lst (names15.map V.str)) ∧ H' m = some (.tup (more15.map V.int))) (fun nx hn => ?_) ?_
    · exact ⟨.ref p, rfl, p, 18, rfl, hP2, by decide, by decide, fun H' k s' hP' k0 k1 => hn _ _ ⟨k, k0, k1, rfl, sv2.trans s', hP', s' _ _ (by simpa using ap) ha2, s' _ _ (by simpa using mp) hm2⟩⟩
    rintro _ H3 ⟨k, k0, k1, rfl, sv3, hP3, ha3, hm3⟩
    refine ⟨_, rfl, _, _, rfl, rfl, _, rfl, ?_⟩
    refine ite2 (fun e1 => ?_) (fun e1 => ?_)
    · refine dw_tupR (K := K) (H0 := H3) (n := 0) (m := 0) (b := 62) (c := 62) ((dw_str (z := "join") (by decide +kernel)).imp fun d e => by rw [e]; exact ⟨rfl, sz_str (by decide +kernel)⟩) (dwa_cons (n := 0) (m := 0) (b := 62) (c := 0) (dw_drawS rfl (by decide) (by decide)) dwa_nil) (by decide) H3 _ (Sv.refl _ _) hP3 fun H' v d s' hP' r pd => ?_
      obtain ⟨ds, rfl, pd⟩ := pd
      exact q H' v _ (sv3.trans s') hP' r ⟨ds, rfl, pd.1.mono (by decide) (by decide), pd.2⟩
    have k15 : k < 15 := by
      by_cases h : k < 15
      · exact h
      · exact absurd (decide_eq_true (show k > 14 by omega)) e1
    dsimp only [tNext]
    refine cutSeq (fun σ' H' => ∃ v ds, σ' = [some (.ref p), some (.ref a), some (.ref m), some (.int k), some v, none, none] ∧ Sv [p] H H' ∧ Pool H' p ∧ H' a = some (.lst (names15.map V.str)) ∧ H' m = some (.tup (more15.map V.int)) ∧ Rp K H' (.tup ds) v ∧ RunP 0 300 ds) (fun nx hn => ?_) ?_
    · refine dw_tupR (K := K) (H0 := H3) (n := 0) (m := 0) (b := 62) (c := 186) (dw_words (dw_ixL (ss := names15) rfl ha3 ap rfl k0 (by show k < 15; exact k15)) (by decide +kernel)) (dwa_cons (n := 0) (m := 0) (b := 62) (c := 124) ((dw_spDw rfl).imp fun d h => h.sz) (dwa_cons (n := 0) (m := 0) (b := 62) (c := 62) ((dw_spDw rfl).imp fun d h => h.sz) (dwa_cons (n := 0) (m := 0) (b := 62) (c := 0) (dw_drawS rfl (by decide) (by decide)) dwa_nil))) (by decide) H3 _ (Sv.refl _ _) hP3 fun H' v d s' hP' r pd => ?_
      obtain ⟨ds, rfl, pd⟩ := pd
      exact hn _ _ ⟨v, ds, rfl, sv3.trans s', hP', s' _ _ (by simpa using ap) ha3, s' _ _ (by simpa using mp) hm3, r, pd.1.mono (by decide) (by decide), pd.2⟩
    rintro _ H4 ⟨v, ds, rfl, sv4, hP4, ha4, hm4, rv, pv4⟩
    obtain ⟨z, hz, ez⟩ := pickS (ss := names15) k0 (by show k < 15; exact k15)
    refine ⟨.ref a, rfl, _, rfl, a, _, k, _, rfl, rfl, .inl (.inl ha4), ez, rfl, _, rfl, ?_⟩
    refine ite2 (fun e2 => ?_) (fun e2 => ?_)
    · refine dw_catR (K := K) (H0 := H4) (n := 0) (m := 0) (b := 300) (c := 62 * 5) (dw_var (d := .tup ds) rfl rv hP4 ⟨ds, rfl, pv4⟩) (dw_tupLc (N := 5) (b := 62) (n := 0) (dw_ixI (is := more15) rfl hm4 mp rfl k0 (by show k < 15; exact k15) (by decide)) (fun x => (dw_spDw rfl).imp fun d h => h.sz) (fun x => rfl) (by decide) (by decide)) (by decide) H4 _ (Sv.refl _ _) hP4 fun H' v d s' hP' r pd => ?_
      obtain ⟨ds, rfl, pd⟩ := pd
      exact q H' v _ (sv4.trans s') hP' r ⟨ds, rfl, pd.1.mono (by decide) (by decide), pd.2⟩
    dsimp only [tNext]
    refine cutSeq (fun σ' H' => ∃ v5 ds5, σ' = [some (.ref p), some (.ref a), some (.ref m), some (.int k), some v, some v5, none] ∧ Sv [p] H H' ∧ Pool H' p ∧ Rp K H' (.tup ds) v ∧ Rp K H' (.tup ds5) v5 ∧ SzL 1 1000 ds5) (fun nx hn => ?_) ?_
    · refine dw_tupS (K := K) (H0 := H4) (n := 1) (b := 62 + (62 + (62 + (304 + (62 + (62 + 0)))))) (dwa_cons (n := 0) (m := 1) (dw_drawS rfl (by decide) (by decide)) (dwa_cons (n := 0) (m := 1) (dw_drawS rfl (by decide) (by decide)) (dwa_cons (n := 0) (m := 1) (dw_sub (dw_draw rfl (by decide) (by decide)) (by decide)) (dwa_cons (n := 1) (m := 0) (dw_sz (n := 0) (b := 300) (dw_spDw rfl)) (dwa_cons (n := 0) (m := 0) (dw_drawS rfl (by decide) (by decide)) (dwa_cons (n := 0) (m := 0) (dw_drawS rfl (by decide) (by decide)) dwa_nil)))))) (by decide) H4 _ (Sv.refl _ _) hP4 fun H' v5 d s' hP' r pd => ?_
      obtain ⟨ds5, rfl, pd⟩ := pd
      exact hn _ _ ⟨v5, ds5, rfl, sv4.trans s', hP', rv.keep (pool_tk hP4 s'), r, pd.mono (by decide) (by decide)⟩
    rintro _ H5 ⟨v5, ds5, rfl, sv5, hP5, rv5, rw5, pw5⟩
    refine dw_catR (K := K) (H0 := H5) (n := 0) (m := 2) (b := 300) (c := (1000 + (304 + (304 + 0))) + 4 + 0) (dw_var (d := .tup ds) rfl rv5 hP5 ⟨ds, rfl, pv4⟩) (dw_tupS (n := 2) (dwa_cons (n := 2) (m := 0) (dw_sz (n := 1) (dw_catS (n := 1) (m := 1) (b := 1000) (c := 304 + (304 + 0)) (dw_var (d := .tup ds5) rfl rw5 hP5 ⟨ds5, rfl, pw5⟩) (dw_tupS (n := 1) (dwa_cons (n := 1) (m := 1) (dw_sz (n := 0) (b := 300) (dw_spDw rfl)) (dwa_cons (n := 1) (m := 0) (dw_sz (n := 0) (b := 300) (dw_spDw rfl)) dwa_nil)) (by decide)) (by decide))) dwa_nil) (by decide)) (by decide) H5 _ (Sv.refl _ _) hP5 fun H' v d s' hP' r pd => ?_
    obtain ⟨ds, rfl, pd⟩ := pd
    exact q H' v _ (sv5.trans s') hP' r ⟨ds, rfl, pd.1.mono (by decide) (by decide), pd.2⟩

theorem ok_law_record (T : CnF mg t1 t2 t3 t4 t5 t6) (Df : HasDef K mg "_law_record" s_law_record ["pool"]) (C_law_draw : Has P w K mg base CX0 1 "_law_draw" ["pool", "many"] spDraw) (C_law_small : Has P w K mg base CX0 3 "_law_small" ["pool"] (spDw K IntP))
    (C_law_rising : Has P w K mg base CX0 2 "_law_rising" ["pool"] (spDw K (TupP (SzL 0 300)))) (C_law_item : Has P w K mg base CX0 2 "_law_item" ["pool"] (spDw K (TupP (SzL 0 130)))) : Has P w K mg base CX0 4 "_law_record" ["pool"] (spDw K (TupP (SzL 2 3000))) := by
  refine Df.has fun f fd F => F.ok sc_law_record (fun vs H Q E h => ?_) (fun cdv A outer s H vs Q E hr h => ?_)
  · obtain ⟨_, rfl, _⟩ := h; rfl
  · obtain ⟨p, rfl, hP, q⟩ := h
    refine ⟨_, (pss_cons (ps_set (i := 1) sc_law_record.nd rfl (Or.inl rfl) (pe_tup (pa_cons (pe_has C_law_draw (hr.mono (by omega)) pass0 (pa_cons (pv 0) (pa_cons pe_int pa_nil))) (pa_cons (pe_has C_law_draw (hr.mono (by omega)) pass0 (pa_cons (pv 0) (pa_cons pe_int pa_nil))) (pa_cons (pe_op op_sub (pe_has C_law_draw (hr.mono (by omega)) pass0 (pa_cons (pv 0) (pa_cons pe_int pa_nil))) pe_int) pa_nil)))))
  (pss_cons (ps_set (i := 2) sc_law_record.nd rfl (Or.inl rfl) (pe_has C_law_draw (hr.mono (by omega)) pass0 (pa_cons (pv 0) (pa_cons pe_int pa_nil))))
  (pss_cons (ps_set (i := 3) sc_law_record.nd rfl (Or.inl rfl) (pe_has C_law_small (hr.mono (by omega)) pass0 (pa_cons (pv 0) pa_nil)))
  (pss_cons (ps_set (i := 4) sc_law_record.nd rfl (Or.inl rfl) (pe_op op_add pe_int (pe_has C_law_draw (hr.mono (by omega)) pass0 (pa_cons (pv 0) (pa_cons pe_int pa_nil)))))
  (pss_cons (ps_if (pt_cmpR op_eq (pv 2) pe_int (nomark _))
  (pss_one (ps_ret (pe_op (show OpR _ _ (rCatA K) from op_catA) (pv 1) (pe_tup (pa_cons pe_str (pa_cons (pv 3) (pa_cons (pv 4) (pa_cons (pe_has C_law_draw (hr.mono (by omega)) pass0 (pa_cons (pv 0) (pa_cons pe_int pa_nil))) (pa_cons (pe_has C_law_draw (hr.mono (by omega)) pass0 (pa_cons (pv 0) (pa_cons pe_int pa_nil))) pa_nil)))))))))
  pss_nil)
  (pss_cons (ps_if (pt_cmpR op_eq (pv 2) pe_int (nomark _))
  (pss_one (ps_ret (pe_op (show OpR _ _ (rCatA K) from op_catA) (pv 1) (pe_tup (pa_cons pe_str (pa_cons (pv 3) (pa_cons (pe_has C_law_small (hr.mono (by omega)) pass0 (pa_cons (pv 0) pa_nil)) (pa_cons (pe_has C_law_draw (hr.mono (by omega)) pass0 (pa_cons (pv 0) (pa_cons pe_int pa_nil))) (pa_cons (pe_has C_law_draw (hr.mono (by omega)) pass0 (pa_cons (pv 0) (pa_cons pe_int pa_nil))) (pa_cons (pe_has C_law_item (hr.mono (by omega)) pass0 (pa_cons (pv 0) pa_nil)) pa_nil))))))))))
  pss_nil)
  (pss_cons (ps_set (i := 1) sc_law_record.nd rfl (Or.inl rfl) (pe_op (show OpR _ _ (rCatA K) from op_catA) (pv 1) (pe_tup (pa_cons pe_str (pa_cons (pv 3) (pa_cons (pe_has C_law_small (hr.mono (by omega)) pass0 (pa_cons (pv 0) pa_nil)) (pa_cons (pv 4) (pa_cons (pe_has C_law_draw (hr.mono (by omega)) pass0 (pa_cons (pv 0) (pa_cons pe_int pa_nil))) (pa_cons (pe_has C_law_draw (hr.mono (by omega)) pass0 (pa_cons (pv 0) (pa_cons pe_int pa_nil))) (pa_cons (pe_has C_law_item (hr.mono (by omega)) pass0 (pa_cons (pv 0) pa_nil)) pa_nil))))))))))
  (pss_one (ps_ret (pe_op (show OpR _ _ (rCatA K) from op_catA) (pv 1) (pe_tup (pa_cons (pe_op op_sub (pe_has C_law_draw (hr.mono (by omega)) pass0 (pa_cons (pv 0) (pa_cons pe_int pa_nil))) pe_int) (pa_cons (pe_has C_law_rising (hr.mono (by omega)) pass0 (pa_cons (pv 0) pa_nil)) pa_nil))))))))))))), ?_⟩
    have out : ∀ {Hx : Hp} {n b : Nat}, Sv [p] H Hx → n ≤ 2 → b ≤ 3000 → ∀ (H' : Hp) (v : V) (d : D), Sv [p] Hx H' → Pool H' p → Rp K H' d v → TupP (SzL n b) d → Q v H' := fun sv hn hb H' v d s' hP' r pd => by
      obtain ⟨ds, rfl, pd⟩ := pd
      exact q H' v _ (sv.trans s') hP' r ⟨ds, rfl, pd.mono hn hb⟩
    refine cutSeq (fun σ' H' => ∃ v ds, σ' = [some (.ref p), some v, none, none, none] ∧ Sv [p] H H' ∧ Pool H' p ∧ Rp K H' (.tup ds) v ∧ SzL 0 186 ds) (fun nx hn => ?_) ?_
    · refine dw_tupS (K := K) (H0 := H) (n := 0) (b := 62 + (62 + (62 + 0))) (dwa_cons (n := 0) (m := 0) (dw_drawS rfl (by decide) (by decide)) (dwa_cons (n := 0) (m := 0) (dw_drawS rfl (by decide) (by decide)) (dwa_cons (n := 0) (m := 0) (dw_sub (dw_draw rfl (by decide) (by decide)) (by decide)) dwa_nil))) (by decide) H _ (Sv.refl _ _) hP fun H' v d s' hP' r pd => ?_
      obtain ⟨ds, rfl, pd⟩ := pd
      exact hn _ _ ⟨v, ds, rfl, s', hP', r, pd⟩
    rintro _ H1 ⟨v, ds, rfl, sv1, hP1, rv1, pv⟩
    refine cutSeq (fun σ' H' => ∃ k : Int, σ' = [some (.ref p), some v, some (.int k), none, none] ∧ Sv [p] H H' ∧ Pool H' p ∧ Rp K H' (.tup ds) v) (fun nx hn => ?_) ?_
    · exact ⟨.ref p, rfl, p, 3, rfl, hP1, by decide, by decide, fun H' k s' hP' k0 k1 => hn _ _ ⟨k, rfl, sv1.trans s', hP', rv1.keep (pool_tk hP1 s')⟩⟩
    rintro _ H2 ⟨k, rfl, sv2, hP2, rv2⟩
    refine cutSeq (fun σ' H' => ∃ n : Int, σ' = [some (.ref p), some v, some (.int k), some (.int n), none] ∧ Sv [p] H H' ∧ Pool H' p ∧ Rp K H' (.tup ds) v ∧ n.natAbs < 10 ^ 60) (fun nx hn => ?_) ?_
    · refine ⟨.ref p, rfl, p, rfl, hP2, fun H' v' d s' hP' r pd => ?_⟩
      obtain ⟨n, rfl, hn'⟩ := pd
      cases (show v' = V.int n from r)
      exact hn _ _ ⟨n, rfl, sv2.trans s', hP', rv2.keep (pool_tk hP2 s'), hn'⟩
    rintro _ H3 ⟨n, rfl, sv3, hP3, rv3, hn3⟩
    refine cutSeq (fun σ' H' => ∃ u : Int, σ' = [some (.ref p), some v, some (.int k), some (.int n), some (.int u)] ∧ Sv [p] H H' ∧ Pool H' p ∧ Rp K H' (.tup ds) v ∧ u.natAbs ≤ 100) (fun nx hn => ?_) ?_
    · exact ⟨.ref p, rfl, p, 4, rfl, hP3, by decide, by decide, fun H' u s' hP' u0 u1 => ⟨_, _, rfl, rfl, hn _ _ ⟨9 + u, rfl, sv3.trans s', hP', rv3.keep (pool_tk hP3 s'), by omega⟩⟩⟩
    rintro _ H4 ⟨u, rfl, sv4, hP4, rv4, hu⟩
    have zn := sz_int hn3
    have zu : Sz 0 62 (.int u) := sz_small (by omega)
    have wd : ∀ {z : Str}, isWord z = true → Dw K H4 (tC (.str z)) [some (.ref p), some v, some (.int k), some (.int n), some (.int u)] p (Sz 0 62) := fun h => dw_strS h
    refine ⟨_, rfl, rfl, _, rfl, ?_⟩
    refine ite2 (fun e1 => ?_) (fun e1 => ?_)
    · exact dw_catS (K := K) (H0 := H4) (n := 0) (m := 0) (b := 186) (c := 62 + (62 + (62 + (62 + (62 + 0))))) (dw_var (d := .tup ds) rfl rv4 hP4 ⟨ds, rfl, pv⟩) (dw_tupS (n := 0) (dwa_cons (n := 0) (m := 0) (dw_strS (by decide +kernel)) (dwa_cons (n := 0) (m := 0) (dw_var (d := .int n) rfl rfl hP4 zn) (dwa_cons (n := 0) (m := 0) (dw_var (d := .int u) rfl rfl hP4 zu) (dwa_cons (n := 0) (m := 0) (dw_drawS rfl (by decide) (by decide)) (dwa_cons (n := 0) (m := 0) (dw_drawS rfl (by decide) (by decide)) dwa_nil))))) (by decide)) (by decide) H4 _ (Sv.refl _ _) hP4 (out sv4 (by decide) (by decide))
    refine ⟨_, rfl, rfl, _, rfl, ?_⟩
    refine ite2 (fun e2 => ?_) (fun e2 => ?_)
    · exact dw_catS (K := K) (H0 := H4) (n := 0) (m := 1) (b := 186) (c := 62 + (62 + (62 + (62 + (62 + (134 + 0)))))) (dw_var (d := .tup ds) rfl rv4 hP4 ⟨ds, rfl, pv⟩) (dw_tupS (n := 1) (dwa_cons (n := 0) (m := 1) (dw_strS (by decide +kernel)) (dwa_cons (n := 0) (m := 1) (dw_var (d := .int n) rfl rfl hP4 zn) (dwa_cons (n := 0) (m := 1) ((dw_spDw rfl).imp fun d h => h.sz) (dwa_cons (n := 0) (m := 1) (dw_drawS rfl (by decide) (by decide)) (dwa_cons (n := 0) (m := 1) (dw_drawS rfl (by decide) (by decide)) (dwa_cons (n := 1) (m := 0) (dw_sz (n := 0) (b := 130) (dw_spDw rfl)) dwa_nil)))))) (by decide)) (by decide) H4 _ (Sv.refl _ _) hP4 (out sv4 (by decide) (by decide))
    dsimp only [tNext]
    refine cutSeq (fun σ' H' => ∃ v ds, σ' = [some (.ref p), some v, some (.int k), some (.int n), some (.int u)] ∧ Sv [p] H H' ∧ Pool H' p ∧ Rp K H' (.tup ds) v ∧ SzL 1 1000 ds) (fun nx hn => ?_) ?_
    · refine dw_catS (K := K) (H0 := H4) (n := 0) (m := 1) (b := 186) (c := 62 + (62 + (62 + (62 + (62 + (62 + (134 + 0))))))) (dw_var (d := .tup ds) rfl rv4 hP4 ⟨ds, rfl, pv⟩) (dw_tupS (n := 1) (dwa_cons (n := 0) (m := 1) (dw_strS (by decide +kernel)) (dwa_cons (n := 0) (m := 1) (dw_var (d := .int n) rfl rfl hP4 zn) (dwa_cons (n := 0) (m := 1) ((dw_spDw rfl).imp fun d h => h.sz) (dwa_cons (n := 0) (m := 1) (dw_var (d := .int u) rfl rfl hP4 zu) (dwa_cons (n := 0) (m := 1) (dw_drawS rfl (by decide) (by decide)) (dwa_cons (n := 0) (m := 1) (dw_drawS rfl (by decide) (by decide)) (dwa_cons (n := 1) (m := 0) (dw_sz (n := 0) (b := 130) (dw_spDw rfl)) dwa_nil))))))) (by decide)) (by decide) H4 _ (Sv.refl _ _) hP4 fun H' v d s' hP' r pd => ?_
      obtain ⟨ds, rfl, pd⟩ := pd
      exact hn _ _ ⟨v, ds, rfl, sv4.trans s', hP', r, pd.mono (by decide) (by decide)⟩
    rintro _ H5 ⟨v, ds, rfl, sv5, hP5, rv5, pv5⟩
    exact dw_catS (K := K) (H0 := H5) (n := 1) (m := 1) (b := 1000) (c := 62 + (304 + 0)) (dw_var (d := .tup ds) rfl rv5 hP5 ⟨ds, rfl, pv5⟩) (dw_tupS (n := 1) (dwa_cons (n := 0) (m := 1) (dw_sub (dw_draw rfl (by decide) (by decide)) (by decide)) (dwa_cons (n := 1) (m := 0) (dw_sz (n := 0) (b := 300) (dw_spDw rfl)) dwa_nil)) (by decide)) (by decide) H5 _ (Sv.refl _ _) hP5 (out sv5 (by decide) (by decide))
def words10 : List Str := ["let", "refused", "none", "role",
  "verb", "node", "hour", "place",
  "shut", "unheld"]
theorem ok_law_sheet (T : CnF mg t1 t2 t3 t4 t5 t6) (Df : HasDef K mg "_law_sheet" s_law_sheet ["pool"]) (C_law_draw : Has P w K mg base CX0 1 "_law_draw" ["pool", "many"] spDraw) (C_law_small : Has P w K mg base CX0 3 "_law_small" ["pool"] (spDw K IntP))
    (C_law_rising : Has P w K mg base CX0 2 "_law_rising" ["pool"] (spDw K (TupP (SzL 0 300)))) (C_law_item : Has P w K mg base CX0 2 "_law_item" ["pool"] (spDw K (TupP (SzL 0 130)))) : Has P w K mg base CX0 4 "_law_sheet" ["pool"] (spDw K (TupP (SzL 5 5000))) := by
  refine Df.has fun f fd F => F.ok sc_law_sheet (fun vs H Q E h => ?_) (fun cdv A outer s H vs Q E hr h => ?_)
  · obtain ⟨_, rfl, _⟩ := h; rfl
  · obtain ⟨p, rfl, hP, q⟩ := h
    refine ⟨_, (pss_cons (ps_set (i := 1) sc_law_sheet.nd rfl (Or.inl rfl) (pe_tup (pa_cons (pe_has C_law_draw (hr.mono (by omega)) pass0 (pa_cons (pv 0) (pa_cons pe_int pa_nil))) (pa_cons (pe_has C_law_draw (hr.mono (by omega)) pass0 (pa_cons (pv 0) (pa_cons pe_int pa_nil))) (pa_cons (pe_has C_law_small (hr.mono (by omega)) pass0 (pa_cons (pv 0) pa_nil)) (pa_cons (pe_has C_law_small (hr.mono (by omega)) pass0 (pa_cons (pv 0) pa_nil)) pa_nil))))))
  (pss_cons (ps_set (i := 1) sc_law_sheet.nd rfl (Or.inl rfl) (pe_op (show OpR _ _ (rCatA K) from op_catA) (pv 1) (pe_tup (pa_cons (pe_has C_law_draw (hr.mono (by omega)) pass0 (pa_cons (pv 0) (pa_cons pe_int pa_nil))) (pa_cons (pe_has C_law_draw (hr.mono (by omega)) pass0 (pa_cons (pv 0) (pa_cons pe_int pa_nil))) pa_nil)))))
  (pss_cons (ps_set (i := 2) sc_law_sheet.nd rfl (Or.inr rfl) (pe_tup (pa_cons pe_str (pa_cons pe_str (pa_cons pe_str (pa_cons pe_str (pa_cons pe_str (pa_cons pe_str (pa_cons pe_str (pa_cons pe_str (pa_cons pe_str (pa_cons pe_str pa_nil))))))))))))
  (pss_cons (ps_set (i := 3) sc_law_sheet.nd rfl (Or.inl rfl) (pe_lst pa_nil))
  (pss_cons (ps_for PassesOwn.never rfl (pi_range1 (by rfl) T.m_range (pa_cons (pe_op op_add pe_int (pe_has C_law_draw (hr.mono (by omega)) pass0 (pa_cons (pv 0) (pa_cons pe_int pa_nil)))) pa_nil)) (pg_name (i := 4) sc_law_sheet.nd rfl (Or.inl rfl))
  (pss_cons (ps_set (i := 5) sc_law_sheet.nd rfl (Or.inl rfl) (pe_callTy call_tuple_of (by rfl) T.m_tuple (by decide +kernel) (pa_cons (pe_lc (own := [("j", 7)]) (g := gName 7) (tt := tYes) rfl sc_law_sheet.nd (pi_range1 (by rfl) T.m_range (pa_cons (pe_has C_law_draw (hr.mono (by omega)) pass0 (pa_cons (pv 0) (pa_cons pe_int pa_nil))) pa_nil)) (blkOk_by (own := [("j", 7)]) (N := ["pool", "top", "words", "sides", "k", "why", "bs", "j"]) (sc := defScope s_law_sheet) (by decide +kernel)) (fun _ _ _ _ _ => (pg_name (i := 7) sc_law_sheet.nd rfl (Or.inl rfl))) (fun _ _ _ _ _ => pts_nil) (fun _ _ _ _ _ => (pe_tup (pa_cons (pe_has C_law_item (hr.mono (by omega)) pass0 (pa_cons (pv 0) pa_nil)) (pa_cons (pe_ix (show IxR _ (rIxT K) from ix_tup) (pv 2) (pe_op op_add pe_int (pe_has C_law_draw (hr.mono (by omega)) pass0 (pa_cons (pv 0) (pa_cons pe_int pa_nil)))) (fun _ _ => rfl)) pa_nil))))) pa_nil)))
  (pss_cons (ps_set (i := 6) sc_law_sheet.nd rfl (Or.inl rfl) (pe_tup (pa_cons (pe_has C_law_draw (hr.mono (by omega)) pass0 (pa_cons (pv 0) (pa_cons pe_int pa_nil))) (pa_cons (pe_has C_law_draw (hr.mono (by omega)) pass0 (pa_cons (pv 0) (pa_cons pe_int pa_nil))) (pa_cons (pe_has C_law_rising (hr.mono (by omega)) pass0 (pa_cons (pv 0) pa_nil)) pa_nil)))))
  (pss_one (ps_expr (pe_bm PySem.F.plainAttrs_list PySem.F.slot_list_append PySem.F.type_list_append mt_append (pv 3) (pa_cons (pe_tup (pa_cons (pv 6) (pa_cons (pe_has C_law_rising (hr.mono (by omega)) pass0 (pa_cons (pv 0) pa_nil)) (pa_cons (pe_ix (show IxR _ (rIxT K) from ix_tup) (pv 2) (pe_has C_law_draw (hr.mono (by omega)) pass0 (pa_cons (pv 0) (pa_cons pe_int pa_nil))) (fun _ _ => rfl)) (pa_cons (pe_has C_law_item (hr.mono (by omega)) pass0 (pa_cons (pv 0) pa_nil)) (pa_cons (pv 5) pa_nil)))))) pa_nil)))))))
  (pss_one (ps_ret (pe_op (show OpR _ _ (rCatA K) from op_catA) (pv 1) (pe_tup (pa_cons (pe_has C_law_draw (hr.mono (by omega)) pass0 (pa_cons (pv 0) (pa_cons pe_int pa_nil))) (pa_cons (pe_has C_law_rising (hr.mono (by omega)) pass0 (pa_cons (pv 0) pa_nil)) (pa_cons (pe_callTy call_tuple_of (by rfl) T.m_tuple (by decide +kernel) (pa_cons (pv 3) pa_nil)) (pa_cons (pe_ix (show IxR _ (rIxT K) from ix_tup) (pv 2) (pe_has C_law_draw (hr.mono (by omega)) pass0 (pa_cons (pv 0) (pa_cons pe_int pa_nil))) (fun _ _ => rfl)) (pa_cons (pe_has C_law_item (hr.mono (by omega)) pass0 (pa_cons (pv 0) pa_nil)) pa_nil)))))))))))))), ?_⟩
    have hsz := sizeLine_eq
    refine cutSeq (fun σ' H' => ∃ v ds, σ' = [some (.ref p), some v, none, none, none, none, none, none] ∧ Sv [p] H H' ∧ Pool H' p ∧ Rp K H' (.tup ds) v ∧ SzL 0 248 ds) (fun nx hn => ?_) ?_
    · refine dw_tupS (K := K) (H0 := H) (n := 0) (b := 62 + (62 + (62 + (62 + 0)))) (dwa_cons (n := 0) (m := 0) (dw_drawS rfl (by decide) (by decide)) (dwa_cons (n := 0) (m := 0) (dw_drawS rfl (by decide) (by decide)) (dwa_cons (n := 0) (m := 0) ((dw_spDw rfl).imp fun d h => h.sz) (dwa_cons (n := 0) (m := 0) ((dw_spDw rfl).imp fun d h => h.sz) dwa_nil)))) (by decide) H _ (Sv.refl _ _) hP fun H' v d s' hP' r pd => ?_
      obtain ⟨ds, rfl, pd⟩ := pd
      exact hn _ _ ⟨v, ds, rfl, s', hP', r, pd⟩
    rintro _ H1 ⟨v0, ds0, rfl, sv1, hP1, rv1, pv0⟩
    refine cutSeq (fun σ' H' => ∃ v ds, σ' = [some (.ref p), some v, none, none, none, none, none, none] ∧ Sv [p] H H' ∧ Pool H' p ∧ Rp K H' (.tup ds) v ∧ SzL 0 372 ds) (fun nx hn => ?_) ?_
    · refine dw_catS (K := K) (H0 := H1) (n := 0) (m := 0) (b := 248) (c := 62 + (62 + 0)) (dw_var (d := .tup ds0) rfl rv1 hP1 ⟨ds0, rfl, pv0⟩) (dw_tupS (n := 0) (dwa_cons (n := 0) (m := 0) (dw_drawS rfl (by decide) (by decide)) (dwa_cons (n := 0) (m := 0) (dw_drawS rfl (by decide) (by decide)) dwa_nil)) (by decide)) (by decide) H1 _ (Sv.refl _ _) hP1 fun H' v d s' hP' r pd => ?_
      obtain ⟨ds, rfl, pd⟩ := pd
      exact hn _ _ ⟨v, ds, rfl, sv1.trans s', hP', r, pd⟩
    rintro _ H2 ⟨v, ds, rfl, sv2, hP2, rv2, pv⟩
    refine cutSeq (fun σ' H' => ∃ u, σ' = [some (.ref p), some v, some u, none, none, none, none, none] ∧ Sv [p] H H' ∧ Pool H' p ∧ Rp K H' (.tup ds) v ∧ Rp K H' (.tup (words10.map .str)) u) (fun nx hn => ?_) ?_
    · refine dw_tup (K := K) (H0 := H2) (dwa_strs words10) (fun ds e => by rw [e]; decide) H2 _ (Sv.refl _ _) hP2 fun H' u d s' hP' r pd => ?_
      obtain ⟨ds', rfl, rfl⟩ := pd
      exact hn _ _ ⟨u, rfl, sv2.trans s', hP', rv2.keep (pool_tk hP2 s'), r⟩
    rintro _ H3 ⟨u, rfl, sv3, hP3, rv3, ru3⟩
    refine cutSeq (fun σ' H' => ∃ l : Addr, σ' = [some (.ref p), some v, some u, some (.ref l), none, none, none, none] ∧ H3 l = none ∧ H' = upd H3 l (.lst [])) (fun nx hn => ?_) ?_
    · exact ⟨Nat.zero_le _, fun l nl => hn _ _ ⟨l, rfl, nl, rfl⟩⟩
    rintro _ H4 ⟨l, rfl, nl, rfl⟩
    have pl : p ≠ l := (hP3.ne nl).symm
    have S0 : PvD K H3 p l 4 1740 0 (upd H3 l (.lst [])) := PvD.start hP3 nl
    have dropd : ∀ {H' : Hp} {i : Nat}, PvD K H3 p l 4 1740 i H' → Sv [p] H3 H' := fun h => Sv.drop nl (h.1.mono (by simp [or_comm]))
    have wix : ∀ {Hx : Hp} {σ : L2.St} {tn : TE} {m : Int}, σ[2]? = some (some u) → Rp K Hx (.tup (words10.map .str)) u → Pool Hx p → Dw K Hx tn σ p (InI m) → m ≤ 10 → Dw K Hx (tOp (rIxT K) (tVar 2) tn) σ p (Sz 0 62) := fun e r hP g hm =>
      (dw_words (dw_ix (ss := words10) (dw_var (d := .tup (words10.map .str)) e r hP rfl) g hm) (by decide +kernel)).imp fun d h => h.2
    refine ⟨.ref p, rfl, p, 2, rfl, S0.2.1, by decide, by decide, fun H5 k0 s5 hP5 k00 k01 => ?_⟩
    have S5 : Sv [p] H3 H5 := (dropd S0).trans s5
    have hl5 : H5 l = some (.lst []) := s5 _ _ (by simpa using pl.symm) upd_same
    have P5 : PvD K H3 p l 4 1740 0 H5 := ⟨(Sv.new nl).trans (s5.mono (by simp)), hP5, [], [], hl5, rfl, trivial, Nat.zero_le _, by show 0 ≤ _; omega⟩
    refine ⟨_, _, rfl, rfl, _, rfl, by omega, by omega, for_range (lo := 0) (n := _) (fun i σ' H' => ∃ y4 y5 y6, σ' = [some (.ref p), some v, some u, some (.ref l), y4, y5, y6, none] ∧ PvD K H3 p l 4 1740 i H') ⟨none, none, none, rfl, P5⟩ ?_ ?_⟩
    · rintro i σ' H6 hi ⟨y4, y5, y6, rfl, P6⟩
      have i2 : i < 2 := by omega
      have ru6 := ru3.keep (pool_tk hP3 (dropd P6))
      have hP6 := P6.2.1
      refine cutSeq (fun σ' H' => ∃ vw dw, σ' = [some (.ref p), some v, some u, some (.ref l), some (.int (0 + (i : Int))), some vw, y6, none] ∧ Sv [p] H6 H' ∧ Pool H' p ∧ Rp K H' (.tup dw) vw ∧ SzL 2 800 dw) (fun nx hn => ?_) ?_
      · refine dw_tupLc (K := K) (H0 := H6) (N := 4) (b := 200) (n := 2) (dw_drawI rfl (by decide) (by decide)) (fun x => dw_sz (n := 1) (b := 196) (dw_tupS (n := 1) (dwa_cons (n := 1) (m := 0) (dw_sz (n := 0) (b := 130) (dw_spDw rfl)) (dwa_cons (n := 0) (m := 0) (wix (m := 3 + 7) rfl ru6 hP6 (dw_addI (dw_drawI rfl (by decide) (by decide)) (by decide)) (by decide)) dwa_nil)) (by decide))) (fun x => rfl) (by decide) (by decide) H6 _ (Sv.refl _ _) hP6 fun H' vw d s' hP' r pd => ?_
        obtain ⟨dw, rfl, pd⟩ := pd
        exact hn _ _ ⟨vw, dw, rfl, s', hP', r, pd⟩
      rintro _ H7 ⟨vw, dw, rfl, s7, hP7, rw7, pw⟩
      refine cutSeq (fun σ' H' => ∃ vb db, σ' = [some (.ref p), some v, some u, some (.ref l), some (.int (0 + (i : Int))), some vw, some vb, none] ∧ Sv [p] H6 H' ∧ Pool H' p ∧ Rp K H' (.tup dw) vw ∧ Rp K H' (.tup db) vb ∧ SzL 1 428 db) (fun nx hn => ?_) ?_
      · refine dw_tupS (K := K) (H0 := H7) (n := 1) (b := 62 + (62 + (304 + 0))) (dwa_cons (n := 0) (m := 1) (dw_drawS rfl (by decide) (by decide)) (dwa_cons (n := 0) (m := 1) (dw_drawS rfl (by decide) (by decide)) (dwa_cons (n := 1) (m := 0) (dw_sz (n := 0) (b := 300) (dw_spDw rfl)) dwa_nil))) (by decide) H7 _ (Sv.refl _ _) hP7 fun H' vb d s' hP' r pd => ?_
        obtain ⟨db, rfl, pd⟩ := pd
        exact hn _ _ ⟨vb, db, rfl, s7.trans s', hP', rw7.keep (pool_tk hP7 s'), r, pd⟩
      rintro _ H8 ⟨vb, db, rfl, s8, hP8, rw8, rb8, pb⟩
      have ru8 := ru6.keep (pool_tk hP6 s8)
      have P6' := P6
      obtain ⟨_, _, ys, es, hl6, _, _⟩ := P6'
      have hl8 := s8 _ _ (by simpa using pl.symm) hl6
      refine ⟨.ref l, rfl, .inl ⟨rfl, _, .inl (.inl hl8)⟩, ?_⟩
      refine dw_tupS (K := K) (H0 := H8) (n := 3) (b := 432 + (304 + (62 + (134 + (804 + 0))))) (dwa_cons (n := 2) (m := 3) (dw_sz (n := 1) (b := 428) (dw_var (d := .tup db) rfl rb8 hP8 ⟨db, rfl, pb⟩)) (dwa_cons (n := 1) (m := 3) (dw_sz (n := 0) (b := 300) (dw_spDw rfl)) (dwa_cons (n := 0) (m := 3) (wix (m := 3) rfl ru8 hP8 (dw_drawI rfl (by decide) (by decide)) (by decide)) (dwa_cons (n := 1) (m := 3) (dw_sz (n := 0) (b := 130) (dw_spDw rfl)) (dwa_cons (n := 3) (m := 0) (dw_sz (n := 2) (b := 800) (dw_var (d := .tup dw) rfl rw8 hP8 ⟨dw, rfl, pw⟩)) dwa_nil))))) (by decide) H8 _ (Sv.refl _ _) hP8 fun H9 v9 d s9 hP9 r9 pd => ?_
      obtain ⟨d9, rfl, pd⟩ := pd
      obtain ⟨acc, h1, h2, h3⟩ := P6.step pl (s8.trans s9) hP9 r9 (sz_tup pd) (by omega)
      exact ⟨l, acc, _, rfl, rfl, h1, h2, _, _, _, rfl, h3⟩
    · rintro σ' H6 ⟨y4, y5, y6, rfl, P6⟩
      have S6 := dropd P6
      have ru6 := ru3.keep (pool_tk hP3 S6)
      have rv6 := rv3.keep (pool_tk hP3 S6)
      obtain ⟨_, hP6, ys, es, hl6, re, pe⟩ := P6
      have bb : 1740 * (1 + k0).toNat ≤ 3480 := by omega
      have dsides : Dw K H6 (tCB (fun xs H Q => ∃ q ys, xs = [.ref q] ∧ ((SqL K H q ys ∧ ∀ l, H l = none → Q (.ref l) (upd H l (.tup ys))) ∨ (SqT K H q ys ∧ Q (.ref q) H))) (tCons (tVar 3) tNil)) [some (.ref p), some v, some u, some (.ref l), y4, y5, y6, none] p (TupP (SzL 4 3480)) := fun Hx Q' sx hPx q' => by
        have hlx := sx _ _ (by simpa using pl.symm) hl6
        exact ⟨.ref l, rfl, l, ys, rfl, .inl ⟨.inl (.inl hlx), fun t nt => q' _ (.ref t) (.tup es) (Sv.new nt) (hPx.new nt) (Rp.made nt (re.keep (pool_tk hP6 sx))) ⟨es, rfl, pe.mono (Nat.le_refl _) bb⟩⟩⟩
      refine dw_catS (K := K) (H0 := H6) (n := 0) (m := 5) (b := 372) (c := 62 + (304 + (3484 + (62 + (134 + 0))))) (dw_var (d := .tup ds) rfl rv6 hP6 ⟨ds, rfl, pv⟩) (dw_tupS (n := 5) (dwa_cons (n := 0) (m := 5) (dw_drawS rfl (by decide) (by decide)) (dwa_cons (n := 1) (m := 5) (dw_sz (n := 0) (b := 300) (dw_spDw rfl)) (dwa_cons (n := 5) (m := 1) (dw_sz (n := 4) (b := 3480) dsides) (dwa_cons (n := 0) (m := 1) (wix (m := 3) rfl ru6 hP6 (dw_drawI rfl (by decide) (by decide)) (by decide)) (dwa_cons (n := 1) (m := 0) (dw_sz (n := 0) (b := 130) (dw_spDw rfl)) dwa_nil))))) (by decide)) (by decide) H6 _ (Sv.refl _ _) hP6 fun H' v d s' hP' r pd => ?_
      obtain ⟨ds, rfl, pd⟩ := pd
      exact q H' v _ ((sv3.trans S6).trans s') hP' r ⟨ds, rfl, pd.mono (by decide) (by decide)⟩
end
end RS

namespace RS
open PySem PySem.Spec PyProof.Rows L2 TL

abbrev s_law_row : Stmt := topS 54
theorem sc_law_row : FnScope ["pool", "nth", "free"] ["pool", "nth"] (defScope s_law_row) := ⟨rfl, rfl, rfl, by decide +kernel, rfl, by decide +kernel, by decide +kernel⟩
abbrev s_law_text : Stmt := topS 55
theorem sc_law_text : FnScope ["top", "rows", "row", "x"] ["top", "rows"] (defScope s_law_text) := ⟨rfl, rfl, rfl, by decide +kernel, rfl, by decide +kernel, by decide +kernel⟩
/-- the outer comprehension's scope -/
def scIn_law_text : Scope := match defBody s_law_text with
  | [.Return (some (.Call _ [.ListComp _ _ sc _] _ _)) _] => sc
  | _ => defScope s_law_text

theorem pi_tupK {X : Cx} {K : PySem.W.Frag} {tg l : Expr} {tl : TE} (e : X.K = K) (hl : PE X l tl) : PI X tg l (iTup K tl) := e ▸ pi_tup hl
theorem pi_listK {X : Cx} {K : PySem.W.Frag} {tg l : Expr} {tl : TE} (e : X.K = K) (hl : PE X l tl) : PI X tg l (iList K tl) := e ▸ pi_list hl
/-- sep.join(..), the reading over K -/
def rJoin (K : PySem.W.Frag) : V → List V → Hp → VK → Prop := fun x xs H Q => ∃ a p, ∃ ys : List Str, x = .str a ∧ xs = [.ref p] ∧ (SqL K H p (ys.map V.str) ∨ SqT K H p (ys.map V.str)) ∧ (ys.map (·.length)).sum + ys.length * a.length ≤ 16777216 ∧ Q (.str (Txt.join a ys)) H
theorem pe_joinK {X : Cx} {K : PySem.W.Frag} {o e : Expr} {to te : TE} {apos pos : Pos} (ek : X.K = K) (ho : PE X o to) (he : PE X e te) (hs : starEach [e] X.env = [(false, eval e X.env)] := by rfl) (hbase : attributeBase o "join" X.env (eval o X.env) = eval o X.env := by rfl) (hline : (apos.endLine == pos.line) = true := by rfl) :
    PE X (.Call (.Attribute o "join" apos) [e] [] pos) (tM1 (rJoin K) to te) := by
  subst ek
  exact pe_join ho he hs hbase hline
theorem ret_op {r : R2} {t1 t2 : TE} {D : Ends} {σ : L2.St} {H : Hp} (h : t1 σ H fun x H1 => t2 σ H1 fun y H2 => r x y H2 D.rt) : tRet (tOp r t1 t2) D σ H := h
/-- a row that the kind nth may have -/
def RowP (nth : Nat) (ds : List D) : Prop := SzL 12 5000 ds ∧ (nth < 4 → wsum (toksL ds) ≤ 4000) ∧ (nth = 1 → goodLog ds = true) ∧ (nth = 2 → goodRun ds = true)
section
variable {K : PySem.W.Frag} {H0 : Hp} {σ : L2.St} {p : Addr}
theorem dwa_nil0 : DwA K H0 tNil σ p (fun ds => ds = []) := fun H Q s hP q => q H [] [] (Sv.refl _ _) hP rfl rfl
theorem dw_parts {m : Int} (h0 : σ[0]? = some (some (.ref p))) (m0 : 0 < m) (m1 : m ≤ 20) : Dw K H0 (tCall (spParts K 12) [] E0 (tCons (tVar 0) (tCons (tCall spDraw [] E0 (tCons (tVar 0) (tCons (tC (.int m)) tNil))) tNil))) σ p (TupP (SzL 12 1240)) := fun H Q s hP q =>
  ⟨_, h0, _, h0, p, m, rfl, hP, m0, by omega, fun H1 n s1 hP1 n0 n1 => by
    obtain ⟨k, rfl⟩ := Int.eq_ofNat_of_zero_le n0
    exact ⟨p, k, rfl, hP1, by omega, fun H2 v ds s2 hP2 r o1 o2 o3 => q H2 v (.tup ds) (s1.trans s2) hP2 r ⟨ds, rfl, o1, o2, by omega⟩⟩⟩
end

section
variable {P : Program} {w : World} {K : PySem.W.Frag} {mg : Str → Option Value} {base : Heap} {t1 t2 t3 t4 t5 t6 : Tok} {C fI : Addr}
def spRowD (K : PySem.W.Frag) : Sp := fun vs H Q _ => ∃ (p : Addr) (nth : Nat), vs = [.ref p, .int (nth : Int)] ∧ nth ≤ 4 ∧ Pool H p ∧ ∀ H' v ds, Sv [p] H H' → Pool H' p → Rp K H' (.tup ds) v → RowP nth ds → Q v H'
theorem ok_law_row (T : CnF mg t1 t2 t3 t4 t5 t6) (m_min : mg "min" = none) (Df : HasDef K mg "_law_row" s_law_row ["pool", "nth"]) (C_law_draw : Has P w K mg base CX0 1 "_law_draw" ["pool", "many"] spDraw) (C_law_small : Has P w K mg base CX0 3 "_law_small" ["pool"] (spDw K IntP))
    (C_law_number : Has P w K mg base CX0 2 "_law_number" ["pool"] spNumber) (C_law_letters : Has P w K mg base CX0 3 "_law_letters" ["pool"] spLetters) (C_law_parts : Has P w K mg base CX0 4 "_law_parts" ["pool", "many"] (spParts K 12))
    (C_law_deed : Has P w K mg base CX0 4 "_law_deed" ["pool"] (spDw K (TupP (RunP 3 3000)))) (C_law_record : Has P w K mg base CX0 4 "_law_record" ["pool"] (spDw K (TupP (SzL 2 3000)))) (C_law_sheet : Has P w K mg base CX0 4 "_law_sheet" ["pool"] (spDw K (TupP (SzL 5 5000)))) :
    Has P w K mg base CX0 5 "_law_row" ["pool", "nth"] (spRowD K) := by
  refine Df.has fun f fd F => F.ok sc_law_row (fun vs H Q E h => ?_) (fun cdv A outer s H vs Q E hr h => ?_)
  · obtain ⟨_, _, rfl, _⟩ := h; rfl
  · obtain ⟨p, nth, rfl, h4, hP, q⟩ := h
    refine ⟨_, (pss_cons (ps_set (i := 2) sc_law_row.nd rfl (Or.inl rfl) (pe_cmpR op_eq (pe_has C_law_draw (hr.mono (by omega)) pass0 (pa_cons (pv 0) (pa_cons pe_int pa_nil))) pe_int (nomark _)))
  (pss_cons (ps_if (PW.pt (pw_and (pt_cmpR op_eq (pv 1) pe_int (nomark _)) (pw_and1 (pt_not (pt_val (pv 2))))))
  (pss_one (ps_ret (pe_op (show OpR _ _ (rCatA K) from op_catA) (pe_tup (pa_cons (pe_has C_law_small (hr.mono (by omega)) pass0 (pa_cons (pv 0) pa_nil)) pa_nil)) (pe_has C_law_deed (hr.mono (by omega)) pass0 (pa_cons (pv 0) pa_nil)))))
  pss_nil)
  (pss_cons (ps_if (pt_cmpR op_eq (pv 1) pe_int (nomark _))
  (pss_one (ps_ret (pe_op (show OpR _ _ (rCatA K) from op_catA) (pe_tup (pa_cons (pe_has C_law_number (hr.mono (by omega)) pass0 (pa_cons (pv 0) pa_nil)) (pa_cons (pe_has C_law_letters (hr.mono (by omega)) pass0 (pa_cons (pv 0) pa_nil)) pa_nil))) (pe_has C_law_parts (hr.mono (by omega)) pass0 (pa_cons (pv 0) (pa_cons (pe_has C_law_draw (hr.mono (by omega)) pass0 (pa_cons (pv 0) (pa_cons pe_int pa_nil))) pa_nil))))))
  pss_nil)
  (pss_cons (ps_if (PW.pt (pw_and (pt_cmpR op_eq (pv 1) pe_int (nomark _)) (pw_and1 (pt_not (pt_val (pv 2))))))
  (pss_one (ps_ret (pe_ix (show IxR _ (rIxT K) from ix_tup) (pe_tup (pa_cons (pe_tup (pa_cons pe_str pa_nil)) (pa_cons (pe_has C_law_deed (hr.mono (by omega)) pass0 (pa_cons (pv 0) pa_nil)) pa_nil))) (pe_callB (call_min2 rfl) (by rfl) m_min (by decide +kernel) (pa_cons pe_int (pa_cons (pe_has C_law_draw (hr.mono (by omega)) pass0 (pa_cons (pv 0) (pa_cons pe_int pa_nil))) pa_nil))) (fun _ _ => rfl))))
  pss_nil)
  (pss_cons (ps_if (pt_cmpR op_eq (pv 1) pe_int (nomark _))
  (pss_one (ps_ret (pe_op (show OpR _ _ (rCatA K) from op_catA) (pe_tup (pa_cons (pe_has C_law_letters (hr.mono (by omega)) pass0 (pa_cons (pv 0) pa_nil)) pa_nil)) (pe_has C_law_parts (hr.mono (by omega)) pass0 (pa_cons (pv 0) (pa_cons (pe_has C_law_draw (hr.mono (by omega)) pass0 (pa_cons (pv 0) (pa_cons pe_int pa_nil))) pa_nil))))))
  pss_nil)
  (pss_cons (ps_if (PW.pt (pw_and (pt_cmpR op_eq (pv 1) pe_int (nomark _)) (pw_and1 (pt_not (pt_val (pv 2))))))
  (pss_one (ps_ret (pe_has C_law_record (hr.mono (by omega)) pass0 (pa_cons (pv 0) pa_nil))))
  pss_nil)
  (pss_cons (ps_if (PW.pt (pw_and (pt_cmpR op_eq (pv 1) pe_int (nomark _)) (pw_and1 (pt_not (pt_val (pv 2))))))
  (pss_one (ps_ret (pe_has C_law_sheet (hr.mono (by omega)) pass0 (pa_cons (pv 0) pa_nil))))
  pss_nil)
  (pss_one (ps_ret (pe_has C_law_parts (hr.mono (by omega)) pass0 (pa_cons (pv 0) (pa_cons (pe_has C_law_draw (hr.mono (by omega)) pass0 (pa_cons (pv 0) (pa_cons pe_int pa_nil))) pa_nil)))))))))))), ?_⟩
    have hsz := sizeLine_eq
    refine cutSeq (fun σ' H' => ∃ b : Bool, σ' = [some (.ref p), some (.int (nth : Int)), some (.bl b)] ∧ Sv [p] H H' ∧ Pool H' p) (fun nx hn => ?_) ?_
    · exact ⟨.ref p, rfl, p, 3, rfl, hP, by decide, by decide, fun H1 j sv1 hP1 j0 j1 => ⟨rfl, hn _ _ ⟨_, rfl, sv1, hP1⟩⟩⟩
    rintro _ H1 ⟨b, rfl, sv1, hP1⟩
    have out : ∀ {Hx : Hp} {pr : List D → Prop}, Sv [p] H Hx → (∀ ds, pr ds → RowP nth ds) → ∀ (H' : Hp) (v : V) (d : D), Sv [p] Hx H' → Pool H' p → Rp K H' d v → TupP pr d → Q v H' := fun sv hp H' v d s' hP' r pd => by
      obtain ⟨ds, rfl, pd⟩ := pd
      exact q H' v _ (sv.trans s') hP' r (hp ds pd)
    have test : ∀ {m : Nat} {A B : Prop}, (nth = m → b = false → A) → (¬ (nth = m ∧ b = false) → B) → (if decide (nth = m ∧ b = false) = true then A else B) := fun {m A B} h1 h2 => by
      by_cases h : nth = m ∧ b = false
      · rw [if_pos (decide_eq_true h)]; exact h1 h.1 h.2
      · rw [if_neg (fun y => h (of_decide_eq_true y))]; exact h2 h
    refine cutIfS (decide (nth = 1 ∧ b = false)) (fun Q' h' => ?_) (test (fun n1 _ => ?_) fun c1 => ?_)
    · refine ⟨_, rfl, rfl, _, rfl, ?_⟩
      by_cases n1 : nth = 1
      · refine ifT (decide_eq_true (by rw [n1]; rfl)) ⟨_, rfl, _, rfl, ?_⟩
        have e : decide (nth = 1 ∧ b = false) = !b := by cases b <;> simp [n1]
        rw [e] at h'
        exact h'
      · refine ifF (decide_eq_false (fun y => n1 (by have := V.int.inj y; omega))) ?_
        rw [decide_eq_false (fun y => n1 y.1)] at h'
        exact h'
    · refine dw_cat (K := K) (H0 := H1) (pa := fun ds => ∃ n : Int, ds = [.int n] ∧ n.natAbs < 10 ^ 60) (pb := RunP 3 3000) ((dw_tup (dwa_consQ (pr := IntP) (dw_spDw rfl) dwa_nil) fun ds ⟨d, r, e, pd, pl⟩ => by rw [e]; have := szl_len pl; rw [List.length_cons]; omega).imp fun d ⟨ds, e, d0, r, e2, ⟨n, en, hn⟩, pl⟩ => ⟨ds, e, n, by have := szl_len pl; rw [e2, en, List.length_eq_zero_iff.mp (Nat.le_zero.mp this)], hn⟩) (dw_spDw rfl) (fun a b ⟨n, e, _⟩ hb => by rw [e]; have := szl_len hb.1; show 1 + _ ≤ _; omega) H1 _ (Sv.refl _ _) hP1 (out sv1 fun ds ⟨a, b, e, ⟨n, ea, hn⟩, pb⟩ => ?_)
      subst e ea
      have z := szl_cons (sz_int hn) pb.1
      refine ⟨z.mono (by decide) (by decide), fun _ => Nat.le_trans z.2.2 (by decide), fun _ => ?_, fun n2 => by omega⟩
      cases b with
      | nil => cases pb.2
      | cons x r => exact pb.2
    dsimp only [tNext]
    refine ⟨_, rfl, rfl, _, rfl, nat_if (m := 1) (fun n1 => ?_) fun n1 => ?_⟩
    · refine dw_cat (K := K) (H0 := H1) (pa := fun ds => ∃ (n : Int) (z : Str), ds = [.int n, .str z] ∧ n.natAbs < 10 ^ 60 ∧ isWord z = true) (pb := SzL 12 1240) ((dw_tup (dwa_consQ (dw_number rfl) (dwa_consQ (dw_letters rfl) dwa_nil)) fun ds ⟨d, r, e, pd, d2, r2, e2, pd2, pl⟩ => by rw [e, e2]; have := szl_len pl; rw [List.length_cons, List.length_cons]; omega).imp fun d ⟨ds, e, d0, r, e2, ⟨n, en, hn⟩, d2, r2, e3, ⟨z, ez, hz⟩, pl⟩ => ⟨ds, e, n, z, by have := szl_len pl; rw [e2, e3, en, ez, List.length_eq_zero_iff.mp (Nat.le_zero.mp this)], hn, hz⟩) (dw_parts rfl (by decide) (by decide)) (fun a b ⟨n, z, e, _⟩ hb => by rw [e]; have := szl_len hb; show 2 + _ ≤ _; omega) H1 _ (Sv.refl _ _) hP1 (out sv1 fun ds ⟨a, b, e, ⟨n, z, ea, hn, hz⟩, pb⟩ => ?_)
      subst e ea
      have z := szl_cons (sz_int hn) (szl_cons (sz_str hz) pb)
      exact ⟨z.mono (by decide) (by decide), fun _ => Nat.le_trans z.2.2 (by decide), fun _ => rfl, fun n2 => by omega⟩
    dsimp only [tNext]
    refine cutIfS (decide (nth = 2 ∧ b = false)) (fun Q' h' => ?_) (test (fun n2 _ => ?_) fun c2 => ?_)
    · refine ⟨_, rfl, rfl, _, rfl, ?_⟩
      by_cases n1 : nth = 2
      · refine ifT (decide_eq_true (by rw [n1]; rfl)) ⟨_, rfl, _, rfl, ?_⟩
        have e : decide (nth = 2 ∧ b = false) = !b := by cases b <;> simp [n1]
        rw [e] at h'
        exact h'
      · refine ifF (decide_eq_false (fun y => n1 (by have := V.int.inj y; omega))) ?_
        rw [decide_eq_false (fun y => n1 y.1)] at h'
        exact h'
    · refine ret_op ?_
      refine dw_tup (K := K) (H0 := H1) (dwa_consQ (pr := TupP (RunP 3 3000)) ((dw_tupR (n := 0) (m := 0) (b := 62) (c := 0) ((dw_str (z := "tick") (by decide +kernel)).imp fun d e => by rw [e]; exact ⟨rfl, sz_str (by decide +kernel)⟩) dwa_nil (by decide)).imp fun d ⟨ds, e, pd⟩ => ⟨ds, e, pd.1.mono (by decide) (by decide), pd.2⟩) (dwa_consQ (pr := TupP (RunP 3 3000)) (pl := fun ds => ds = []) (dw_spDw (σ := [some (.ref p), some (.int (nth : Int)), some (.bl b)]) rfl) dwa_nil0)) (fun ds ⟨d, r, e, _, d2, r2, e2, _, e3⟩ => by rw [e, e2, e3]; show 2 ≤ 1000000; omega) H1 _ (Sv.refl _ _) hP1 fun H2 v d s2 hP2 rv pd => ?_
      obtain ⟨ds, rfl, d0, r, rfl, ⟨a0, rfl, p0⟩, d1, r2, rfl, ⟨a1, rfl, p1⟩, rfl⟩ := pd
      refine ⟨.ref p, rfl, p, 4, rfl, hP2, by decide, by decide, fun H3 j s3 hP3 j0 j1 => ?_⟩
      obtain ⟨a, xs, rfl, sa, x0, xr, rfl, r0, x1, xr2, rfl, r1, hz⟩ := rv.keep (pool_tk hP2 s3)
      cases (show xr2 = [] from hz)
      have good : ∀ {ds : List D}, RunP 3 3000 ds → RowP nth ds := fun h => ⟨h.1.mono (by decide) (by decide), fun _ => Nat.le_trans h.1.2.2 (by decide), fun n1 => by omega, fun _ => h.2⟩
      refine ⟨1, j, rfl, ?_⟩
      by_cases hj : j < 1
      · rw [if_pos hj]
        have : j = 0 := by omega
        subst this
        exact ⟨a, _, 0, x0, rfl, rfl, sa, atI_nat (j := 0) rfl, q H3 x0 a0 (sv1.trans (s2.trans s3)) hP3 r0 (good p0)⟩
      · rw [if_neg hj]
        exact ⟨a, _, 1, x1, rfl, rfl, sa, atI_nat (j := 1) rfl, q H3 x1 a1 (sv1.trans (s2.trans s3)) hP3 r1 (good p1)⟩
    dsimp only [tNext]
    refine ⟨_, rfl, rfl, _, rfl, nat_if (m := 2) (fun n2 => ?_) fun n2 => ?_⟩
    · refine dw_catR (K := K) (H0 := H1) (n := 0) (m := 12) (b := 62) (c := 1240) (dw_tupR (n := 0) (m := 0) (b := 62) (c := 0) ((dw_letters rfl).imp fun d ⟨z, e, hz⟩ => by rw [e]; exact ⟨rfl, sz_str hz⟩) dwa_nil (by decide)) (dw_parts rfl (by decide) (by decide)) (by decide) H1 _ (Sv.refl _ _) hP1 (out sv1 fun ds pd => ?_)
      exact ⟨pd.1.mono (by decide) (by decide), fun _ => Nat.le_trans pd.1.2.2 (by decide), fun n1 => by omega, fun _ => pd.2⟩
    dsimp only [tNext]
    refine cutIfS (decide (nth = 3 ∧ b = false)) (fun Q' h' => ?_) (test (fun n3 _ => ?_) fun c3 => ?_)
    · refine ⟨_, rfl, rfl, _, rfl, ?_⟩
      by_cases n1 : nth = 3
      · refine ifT (decide_eq_true (by rw [n1]; rfl)) ⟨_, rfl, _, rfl, ?_⟩
        have e : decide (nth = 3 ∧ b = false) = !b := by cases b <;> simp [n1]
        rw [e] at h'
        exact h'
      · refine ifF (decide_eq_false (fun y => n1 (by have := V.int.inj y; omega))) ?_
        rw [decide_eq_false (fun y => n1 y.1)] at h'
        exact h'
    · exact dw_spDw (K := K) (H0 := H1) (pr := TupP (SzL 2 3000)) rfl H1 _ (Sv.refl _ _) hP1 (out sv1 fun ds pd => ⟨pd.mono (by decide) (by decide), fun _ => Nat.le_trans pd.2.2 (by decide), fun n1 => by omega, fun n2 => by omega⟩)
    dsimp only [tNext]
    refine cutIfS (decide (nth = 4 ∧ b = false)) (fun Q' h' => ?_) (test (fun n4 _ => ?_) fun c4 => ?_)
    · refine ⟨_, rfl, rfl, _, rfl, ?_⟩
      by_cases n1 : nth = 4
      · refine ifT (decide_eq_true (by rw [n1]; rfl)) ⟨_, rfl, _, rfl, ?_⟩
        have e : decide (nth = 4 ∧ b = false) = !b := by cases b <;> simp [n1]
        rw [e] at h'
        exact h'
      · refine ifF (decide_eq_false (fun y => n1 (by have := V.int.inj y; omega))) ?_
        rw [decide_eq_false (fun y => n1 y.1)] at h'
        exact h'
    · exact dw_spDw (K := K) (H0 := H1) (pr := TupP (SzL 5 5000)) rfl H1 _ (Sv.refl _ _) hP1 (out sv1 fun ds pd => ⟨pd.mono (by decide) (by decide), fun n => by omega, fun n1 => by omega, fun n2 => by omega⟩)
    dsimp only [tNext]
    exact dw_parts (K := K) (H0 := H1) rfl (by decide) (by decide) H1 _ (Sv.refl _ _) hP1 (out sv1 fun ds pd => ⟨pd.mono (by decide) (by decide), fun _ => Nat.le_trans pd.2.2 (by decide), fun n => absurd n n1, fun n => absurd n n2⟩)

def spText (K : PySem.W.Frag) : Sp := fun vs H Q _ => ∃ (top : Str) (r : Addr) (xs : List V) (rows : List (List D)), vs = [.str top, .ref r] ∧ isWord top = true ∧ H r = some (.lst xs) ∧ RpL K H (rows.map .tup) xs ∧ okRows rows ∧ wsum (top :: rows.map rowT) ≤ 9000000 ∧ ∀ H', Same H H' → Q (.str (wrRows top rows)) H'
theorem ok_law_text (T : CnF mg t1 t2 t3 t4 t5 t6) (m_list : mg "list" = none) (Df : HasDef K mg "_law_text" s_law_text ["top", "rows"]) (C_law_write : Has P w K mg base CX0 15 "_law_write" ["x"] (spLWrite K 14)) :
    Has P w K mg base CX0 16 "_law_text" ["top", "rows"] (spText K) := by
  refine Df.has fun f fd F => F.ok sc_law_text (fun vs H Q E h => ?_) (fun cdv A outer s H vs Q E hr h => ?_)
  · obtain ⟨_, _, _, _, rfl, _⟩ := h; rfl
  · obtain ⟨top, r, xs, rows, rfl, ht, hr1, rl, hok, hw, q⟩ := h
    refine ⟨_, (pss_one (ps_ret (pe_join pe_str (pe_lc (own := [("row", 2)]) (g := gName 2) (tt := tYes) rfl sc_law_text.nd (pi_list (pe_op op_cat (pe_lst (pa_cons (pe_tup (pa_cons (pv 0) pa_nil)) pa_nil)) (pe_callTy call_list_of (by rfl) m_list (by decide +kernel) (pa_cons (pv 1) pa_nil)))) (blkOk_by (own := [("row", 2)]) (N := ["top", "rows", "row", "x"]) (sc := defScope s_law_text) (by decide +kernel)) (fun _ _ _ _ _ => (pg_name (i := 2) sc_law_text.nd rfl (Or.inl rfl))) (fun _ _ _ _ _ => pts_nil) (fun _ _ _ _ _ => (pe_op op_add_str (pe_joinK (K := K) rfl pe_str (pe_lc (own := [("x", 3)]) (g := gName 3) (tt := tYes) rfl sc_law_text.nd (pi_tupK (K := K) rfl (pv 2)) (blkOk_by (own := [("x", 3)]) (N := ["top", "rows", "row", "x"]) (sc := scIn_law_text) (by decide +kernel)) (fun _ _ _ _ _ => (pg_name (i := 3) sc_law_text.nd rfl (Or.inl rfl))) (fun _ _ _ _ _ => pts_nil) (fun _ _ _ _ _ => (pe_has C_law_write (hr.mono (by omega)) pass0 (pa_cons (pv 3) pa_nil))))) pe_str)))))), ?_⟩
    have hsz := sizeLine_eq
    have hll : rows.length + 1 ≤ 9000000 := by
      have := len_le_wsum (top :: rows.map rowT)
      rw [List.length_cons, List.length_map] at this
      omega
    have xl : xs.length = rows.length := by rw [rl.len, List.length_map]
    refine ⟨⟨_, rfl⟩, _, rfl, by show 1 ≤ sizeLine; omega, fun t nt => ⟨by show 1 ≤ sizeLine; omega, fun l1 n1 => ?_⟩⟩
    have k1 : Same H (upd (upd H t (.tup [.str top])) l1 (.lst [.ref t])) := (Sv.nil (Sv.new nt)).trans (Sv.nil (Sv.new n1))
    have ht1 : (upd (upd H t (.tup [.str top])) l1 (.lst [.ref t])) t = some (.tup [.str top]) := (Sv.nil (Sv.new n1)) _ _ upd_same
    refine ⟨.ref r, rfl, r, xs, rfl, .inl (.inl (.inl (k1 _ _ hr1))), fun l2 n2 => ?_⟩
    have k2 := Sv.nil (Sv.new (o := .lst xs) n2)
    refine ⟨l1, l2, [.ref t], xs, rfl, rfl, k2 _ _ upd_same, upd_same, by rw [xl]; show 1 + _ ≤ _; omega, fun l3 n3 => ?_⟩
    have k3 := Sv.nil (Sv.new (o := .lst ([.ref t] ++ xs)) n3)
    have K0 := k1.trans (k2.trans k3)
    generalize hH0 : upd (upd (upd (upd H t (.tup [.str top])) l1 (.lst [.ref t])) l2 (.lst xs)) l3 (.lst ([.ref t] ++ xs)) = H0 at *
    have hl3 : H0 l3 = some (.lst ([.ref t] ++ xs)) := by rw [← hH0]; exact upd_same
    have rl0 : RpL K H0 (([.str top] :: rows).map .tup) ([.ref t] ++ xs) := ⟨.ref t, xs, rfl, ⟨t, [.str top], rfl, .inl (.inl ((k2.trans k3) _ _ ht1)), _, _, rfl, rfl, rfl⟩, rl.keep (TK.same K0)⟩
    have hok0 : okRows ([.str top] :: rows) := fun x hx => by
      rcases List.mem_cons.mp hx with rfl | hx
      · exact ⟨⟨ht, trivial⟩, Nat.zero_le _⟩
      · exact hok x hx
    have hT : ([.str top] :: rows).map rowT = top :: rows.map rowT := rfl
    generalize ([.str top] :: rows) = al at *
    have hll2 : al.length ≤ 9000000 := by
      have e := congrArg List.length hT
      rw [List.length_map, List.length_cons, List.length_map] at e
      omega
    generalize hxs : [V.ref t] ++ xs = zs at *
    have zl : zs.length = al.length := by rw [rl0.len, List.length_map]
    refine ⟨l3, rfl, ⟨_, .inl (.inl hl3)⟩, fun l nl => lc_list (K := K) (a := l3) (xs := zs) (fun i H' => Sv [l] H0 H' ∧ H' l = some (.lst ((((al.take i).map rowT).map (· ++ RS.nl)).map V.str))) ⟨Sv.new nl, upd_same⟩ (fun i H' _ ⟨s2, _⟩ => .inl (.inl ((Sv.nil (Sv.drop nl s2)) _ _ hl3))) ?_ ?_⟩
    · rintro i x H1 hi ⟨s2, hl1⟩
      obtain ⟨ds, hds, rd⟩ := rl0.rows hi
      obtain ⟨okd, dpd⟩ := hok0 ds (List.mem_of_getElem? hds)
      have sm := Sv.nil (Sv.drop nl s2)
      have wr1 : wsum (toksL ds) ≤ 9000001 := by
        have b := wsum_mem (s := rowT ds) (ws := al.map rowT) (List.mem_map.mpr ⟨ds, List.mem_of_getElem? hds, rfl⟩)
        rw [hT] at b
        have := (rowT_len okd).1
        omega
      have wr2 := (rowT_len okd).2
      obtain ⟨b, ys, rfl, sqb, rb⟩ := rd.keep (TK.same sm)
      refine ⟨rfl, ⟨_, rfl⟩, .ref b, rfl, b, rfl, ⟨_, sqb⟩, fun m nm => lc_tup (K := K) (a := b) (xs := ys) (fun j H2 => Sv [m] H1 H2 ∧ H2 m = some (.lst (((ds.take j).map wr).map V.str))) ⟨Sv.new nm, upd_same⟩ (fun j H2 _ ⟨s3, _⟩ => (TK.same (Sv.nil (Sv.drop nm s3))).seqT sqb) ?_ ?_⟩
      · rintro j y H2 hj ⟨s3, hm2⟩
        obtain ⟨d, hdj, rdj⟩ := rb.get hj
        have od := okL_mem okd d (List.mem_of_getElem? hdj)
        refine ⟨rfl, y, rfl, y, d, rfl, rdj.keep (TK.same (Sv.nil (Sv.drop nm s3))), ?_, small_of od, ?_, fun H3 s4 => ⟨_, s4 _ _ hm2, ?_, s3.trans ((Sv.same s4).trans (Sv.set (by simp))), ?_⟩⟩
        · have : dep d ≤ depL ds := depL_le.mp (Nat.le_refl _) d (List.mem_of_getElem? hdj)
          omega
        · have := wsum_at hdj
          omega
        · rw [List.length_map, List.length_map, List.length_take]
          have := okL_len okd
          have := len_le_wsum (toksL ds)
          omega
        · rw [upd_same, take_snoc hdj, List.map_append, List.map_append]
          rfl
      · rintro H2 ⟨s3, hm2⟩
        have ef : ds.take ys.length = ds := by rw [rb.len, List.take_length]
        rw [ef] at hm2
        have sm2 := Sv.nil (Sv.drop nm s3)
        have hww : wsum (ds.map wr) = wsum (toksL ds) := wsum_wr (smallL_of okd)
        refine ⟨sp, m, ds.map wr, rfl, rfl, .inl (.inl (.inl hm2)), join_fits (by omega), _, _, rfl, rfl, ?_, _, sm2 _ _ hl1, ?_, s2.trans ((Sv.same sm2).trans (Sv.set (by simp))), ?_⟩
        · show (rowT ds).length + 1 ≤ _
          omega
        · rw [List.length_map, List.length_map, List.length_map, List.length_take]; omega
        · rw [upd_same, take_snoc hds, List.map_append, List.map_append, List.map_append]
          rfl
    · rintro H1 ⟨s2, hl1⟩
      rw [zl, List.take_length, hT] at hl1
      have e0 : (Str.length ("" : Str)) = 0 := rfl
      have hc := len_catnl (top :: rows.map rowT)
      refine ⟨"", l, (top :: rows.map rowT).map (· ++ RS.nl), rfl, rfl, .inl (.inl (.inl hl1)), ?_, ?_⟩
      · rw [e0, Nat.mul_zero, Nat.add_zero, ← cat_sum, hc]
        omega
      · exact q _ (K0.trans (Sv.nil (Sv.drop nl s2)))
end
end RS

namespace RS
open PySem PySem.Spec PyProof.Rows L2 TL

theorem sIx_k (n d k : Nat) : HT.sIx n d (some (k : Int)) = min k n := HT.sIx_nat n d k
theorem cutV_take (L : List Str) (k : Nat) : cutV (L.map V.str) none (some (k : Int)) = (L.take k).map V.str := by
  unfold cutV
  rw [sIx_k]
  show ((L.map V.str).drop 0).take (min k _ - 0) = _
  rw [List.drop_zero, Nat.sub_zero, List.length_map, List.map_take]
  by_cases h : k ≤ L.length
  · rw [Nat.min_eq_left h]
  · rw [Nat.min_eq_right (by omega), List.take_of_length_le (by rw [List.length_map]; omega), List.take_of_length_le (by rw [List.length_map]; omega)]
theorem drop_min {α : Type} (L : List α) (a : Nat) : L.drop (min a L.length) = L.drop a := by
  by_cases h : a ≤ L.length
  · rw [Nat.min_eq_left h]
  · rw [Nat.min_eq_right (by omega), List.drop_of_length_le (Nat.le_refl _), List.drop_of_length_le (by omega)]
theorem cutV_drop (L : List Str) (a : Nat) : cutV (L.map V.str) (some (a : Int)) none = (L.drop a).map V.str := by
  unfold cutV
  rw [sIx_k]
  have e := drop_min (L.map V.str) a
  rw [e, List.map_drop, List.take_of_length_le]
  rw [List.length_drop]
  show _ ≤ (L.map V.str).length - min a _
  omega
theorem cutV_mid (L : List Str) (a b : Nat) (h : a ≤ b) : cutV (L.map V.str) (some (a : Int)) (some (b : Int)) = ((L.drop a).take (b - a)).map V.str := by
  unfold cutV
  rw [sIx_k, sIx_k]
  have e := drop_min (L.map V.str) a
  rw [e, List.map_take, List.map_drop]
  by_cases h2 : b ≤ (L.map V.str).length
  · rw [Nat.min_eq_left h2, Nat.min_eq_left (by omega)]
  · rw [Nat.min_eq_right (by omega)]
    rw [List.take_of_length_le (by rw [List.length_drop]; omega), List.take_of_length_le (by rw [List.length_drop]; omega)]
theorem wsum_td (L : List Str) (k : Nat) : wsum (L.take k) + wsum (L.drop k) = wsum L := by
  have e := congrArg wsum (List.take_append_drop k L)
  rw [wsum_append] at e
  exact e
theorem wsum_at1 {L : List Str} {k : Nat} (h : k < L.length) : wsum (L.drop k) = L[k].length + 1 + wsum (L.drop (k + 1)) := by
  rw [List.drop_eq_getElem_cons h, wsum_cons]
theorem joinN_le (us : List Str) : (Txt.join nl us).length ≤ wsum us := by
  cases us with
  | nil =>
    have e : Txt.join nl [] = ("" : Str) := by decide +kernel
    rw [e]
    exact Nat.zero_le _
  | cons a r =>
    have := join_nl_len (a :: r) (by simp)
    rw [join_eq]
    omega
theorem joinS_le (us : List Str) : (Txt.join sp us).length ≤ wsum us := by
  cases us with
  | nil =>
    have e : Txt.join sp [] = ("" : Str) := by decide +kernel
    rw [e]
    exact Nat.zero_le _
  | cons a r =>
    have := join_len (a :: r) (by simp)
    rw [join_eq]
    omega
theorem fitsN {us : List Str} (h : wsum us ≤ 16000000) : (us.map (·.length)).sum + us.length * nl.length ≤ 16777216 := by
  rw [nl_len, Nat.mul_one]
  unfold wsum at h
  omega

section
variable {K : PySem.W.Frag} {H0 : Hp} {σ : L2.St} {p : Addr}
/-- an expression that gives a list of texts; a text; an int -/
def Ls (K : PySem.W.Frag) (H0 : Hp) (te : TE) (σ : L2.St) (p : Addr) (pr : List Str → Prop) : Prop := ∀ (H : Hp) (Q : VK), Sv [p] H0 H → Pool H p → (∀ H' a us, Sv [p] H H' → Pool H' p → H' a = some (.lst (us.map V.str)) → a ≠ p → pr us → Q (.ref a) H') → te σ H Q
def Sx (H0 : Hp) (te : TE) (σ : L2.St) (p : Addr) (pr : Str → Prop) : Prop := ∀ (H : Hp) (Q : VK), Sv [p] H0 H → Pool H p → (∀ H' z, Sv [p] H H' → Pool H' p → pr z → Q (.str z) H') → te σ H Q
def Ie (te : TE) (σ : L2.St) (n : Nat) : Prop := ∀ (H : Hp) (Q : VK), Q (.int (n : Int)) H → te σ H Q
theorem ie_var {i : Nat} {n : Nat} (e : σ[i]? = some (some (.int (n : Int)))) : Ie (tVar i) σ n := fun H Q q => ⟨_, e, q⟩
theorem ie_c {n : Nat} : Ie (tC (.int (n : Int))) σ n := fun H Q q => q
theorem ie_add {te : TE} {n c : Nat} (h : Ie te σ n) : Ie (tOp (rI0 fun i j => .int (i + j)) te (tC (.int (c : Int)))) σ (n + c) := fun H Q q => h H _ ⟨_, _, rfl, rfl, by show Q (.int ((n : Int) + (c : Int))) H; rw [show ((n : Int) + (c : Int)) = ((n + c : Nat) : Int) by omega]; exact q⟩
theorem ls_var {i : Nat} {a : Addr} {us : List Str} (e : σ[i]? = some (some (.ref a))) (h : H0 a = some (.lst (us.map V.str))) (n : a ≠ p) : Ls K H0 (tVar i) σ p (fun vs => vs = us) := fun H Q s hP q => ⟨_, e, q H a us (Sv.refl _ _) hP (s _ _ (by simpa using n) h) n rfl⟩
theorem ls_cut0 {i : Nat} {a : Addr} {us : List Str} {te : TE} {k : Nat} (e : σ[i]? = some (some (.ref a))) (h : H0 a = some (.lst (us.map V.str))) (n : a ≠ p) (g : Ie te σ k) : Ls K H0 (tSl (rSlL K) (tVar i) tNoPart (tPart te)) σ p (fun vs => vs = us.take k) := fun H Q s hP q =>
  ⟨_, e, g H _ ⟨_, rfl, a, _, rfl, .inl (.inl (s _ _ (by simpa using n) h)), fun t nt => by rw [cutV_take]; exact q _ t _ (Sv.new nt) (hP.new nt) upd_same (hP.ne nt) rfl⟩⟩
theorem ls_cut1 {i : Nat} {a : Addr} {us : List Str} {te : TE} {k : Nat} (e : σ[i]? = some (some (.ref a))) (h : H0 a = some (.lst (us.map V.str))) (n : a ≠ p) (g : Ie te σ k) : Ls K H0 (tSl (rSlL K) (tVar i) (tPart te) tNoPart) σ p (fun vs => vs = us.drop k) := fun H Q s hP q =>
  ⟨_, e, g H _ ⟨_, rfl, a, _, rfl, .inl (.inl (s _ _ (by simpa using n) h)), fun t nt => by rw [cutV_drop]; exact q _ t _ (Sv.new nt) (hP.new nt) upd_same (hP.ne nt) rfl⟩⟩
theorem ls_cut2 {i : Nat} {a : Addr} {us : List Str} {te tf : TE} {k m : Nat} (e : σ[i]? = some (some (.ref a))) (h : H0 a = some (.lst (us.map V.str))) (n : a ≠ p) (g : Ie te σ k) (g2 : Ie tf σ m) (km : k ≤ m) : Ls K H0 (tSl (rSlL K) (tVar i) (tPart te) (tPart tf)) σ p (fun vs => vs = (us.drop k).take (m - k)) := fun H Q s hP q =>
  ⟨_, e, g H _ ⟨_, rfl, g2 H _ ⟨_, rfl, a, _, rfl, .inl (.inl (s _ _ (by simpa using n) h)), fun t nt => by rw [cutV_mid _ _ _ km]; exact q _ t _ (Sv.new nt) (hP.new nt) upd_same (hP.ne nt) rfl⟩⟩⟩
theorem ls_cat {t1 t2 : TE} {pa pb : List Str → Prop} (h : Ls K H0 t1 σ p pa) (g : Ls K H0 t2 σ p pb) (hl : ∀ a b, pa a → pb b → a.length + b.length ≤ 16000000) : Ls K H0 (tOp rCat t1 t2) σ p (fun us => ∃ a b, us = a ++ b ∧ pa a ∧ pb b) := fun H Q s hP q =>
  h H _ s hP fun H1 a us s1 hP1 ha na pu => g H1 _ (s.trans s1) hP1 fun H2 b vs s2 hP2 hb nb pv =>
    ⟨a, b, _, _, rfl, rfl, s2 _ _ (by simpa using na) ha, hb, by rw [List.length_map, List.length_map, sizeLine_eq]; have := hl us vs pu pv; omega, fun t nt => q _ t (us ++ vs) ((s1.trans s2).trans (Sv.new nt)) (hP2.new nt) (by rw [upd_same, List.map_append]) (hP2.ne nt) ⟨us, vs, rfl, pu, pv⟩⟩
theorem ls_lst1 {te : TE} {pr : Str → Prop} (h : Sx H0 te σ p pr) : Ls K H0 (tLst (tCons te tNil)) σ p (fun us => ∃ z, us = [z] ∧ pr z) := fun H Q s hP q =>
  h H _ s hP fun H1 z s1 hP1 pz => ⟨by show 1 ≤ sizeLine; rw [sizeLine_eq]; decide, fun t nt => q _ t [z] (s1.trans (Sv.new nt)) (hP1.new nt) upd_same (hP1.ne nt) ⟨z, rfl, pz⟩⟩
theorem ls_lst2 {te tf : TE} {pr pr2 : Str → Prop} (h : Sx H0 te σ p pr) (g : Sx H0 tf σ p pr2) : Ls K H0 (tLst (tCons te (tCons tf tNil))) σ p (fun us => ∃ z y, us = [z, y] ∧ pr z ∧ pr2 y) := fun H Q s hP q =>
  h H _ s hP fun H1 z s1 hP1 pz => g H1 _ (s.trans s1) hP1 fun H2 y s2 hP2 py => ⟨by show 2 ≤ sizeLine; rw [sizeLine_eq]; decide, fun t nt => q _ t [z, y] ((s1.trans s2).trans (Sv.new nt)) (hP2.new nt) upd_same (hP2.ne nt) ⟨z, y, rfl, pz, py⟩⟩
theorem sx_join {te : TE} {sep : Str} {pr : List Str → Prop} (h : Ls K H0 te σ p pr) (hf : ∀ us, pr us → (us.map (·.length)).sum + us.length * sep.length ≤ 16777216) :
    Sx H0 (tM1 (fun x xs H Q => ∃ a p, ∃ ys : List Str, x = .str a ∧ xs = [.ref p] ∧ (SqL K H p (ys.map V.str) ∨ SqT K H p (ys.map V.str)) ∧ (ys.map (·.length)).sum + ys.length * a.length ≤ 16777216 ∧ Q (.str (Txt.join a ys)) H) (tC (.str sep)) te) σ p (fun z => ∃ us, pr us ∧ z = Txt.join sep us) := fun H Q s hP q =>
  ⟨⟨_, rfl⟩, h H _ s hP fun H1 a us s1 hP1 ha na pu => ⟨sep, a, us, rfl, rfl, .inl (.inl (.inl ha)), hf us pu, q H1 _ s1 hP1 ⟨us, pu, rfl⟩⟩⟩
theorem sx_ixL {i : Nat} {a : Addr} {us : List Str} {te : TE} {k : Nat} (e : σ[i]? = some (some (.ref a))) (h : H0 a = some (.lst (us.map V.str))) (n : a ≠ p) (g : Ie te σ k) (hk : k < us.length) : Sx H0 (tOp (rIxL K) (tVar i) te) σ p (fun z => z = us[k]) := fun H Q s hP q =>
  ⟨_, e, g H _ ⟨a, _, _, .str us[k], rfl, rfl, .inl (.inl (s _ _ (by simpa using n) h)), atI_nat (by rw [List.getElem?_map, List.getElem?_eq_getElem hk]; rfl), q H _ (Sv.refl _ _) hP rfl⟩⟩
theorem sx_c {z : Str} : Sx H0 (tC (.str z)) σ p (fun y => y = z) := fun H Q s hP q => q H z (Sv.refl _ _) hP rfl
theorem sx_var {i : Nat} {z : Str} (e : σ[i]? = some (some (.str z))) : Sx H0 (tVar i) σ p (fun y => y = z) := fun H Q s hP q => ⟨_, e, q H z (Sv.refl _ _) hP rfl⟩
theorem sx_token (h0 : σ[0]? = some (some (.ref p))) : Sx H0 (tCall spTok [] E0 (tCons (tVar 0) tNil)) σ p (fun z => z.length ≤ 100) := fun H Q s hP q => ⟨_, h0, p, rfl, hP, fun H' z s' hP' hz => q H' z s' hP' hz⟩
theorem sx_letters (h0 : σ[0]? = some (some (.ref p))) : Sx H0 (tCall spLetters [] E0 (tCons (tVar 0) tNil)) σ p (fun z => z.length ≤ 100) := fun H Q s hP q => ⟨_, h0, p, rfl, hP, fun H' z s' hP' hz => q H' z s' hP' (by have := (word_letters hz).2.2; show z.length ≤ 100; rw [len_tl]; omega)⟩
theorem Sx.imp {te : TE} {pr pr' : Str → Prop} (h : Sx H0 te σ p pr) (g : ∀ z, pr z → pr' z) : Sx H0 te σ p pr' := fun H Q s hP q => h H Q s hP fun H' z s' hP' pz => q H' z s' hP' (g z pz)
theorem Ls.imp {te : TE} {pr pr' : List Str → Prop} (h : Ls K H0 te σ p pr) (g : ∀ z, pr z → pr' z) : Ls K H0 te σ p pr' := fun H Q s hP q => h H Q s hP fun H' a us s' hP' ha na pz => q H' a us s' hP' ha na (g us pz)
/-- [z for i in range(low)] -/
theorem ls_rep {i j : Nat} {vs : List Nat} {z : Str} {n : Nat} (e : σ[i]? = some (some (.int (n : Int)))) (hn : n ≤ 100) (hw : ∀ x : V, wipe ((wipe σ vs).set j (some x)) vs = wipe σ vs) : Ls K H0 (tLc (iRng1 (tCons (tVar i) tNil)) (gName j) tYes (tC (.str z)) vs) σ p (fun us => us = List.replicate n z) := fun H Q s hP q => by
  refine ⟨_, e, (n : Int), rfl, by omega, by omega, fun l nl => lc_range (lo := 0) (n := ((n : Int)).toNat) (Reps z H l) ⟨Sv.new nl, upd_same⟩ (fun k H' hk h => ?_) fun H' h => ?_⟩
  · obtain ⟨g1, g2⟩ := h
    refine ⟨hw _, _, g2, by rw [List.length_map, List.length_replicate, sizeLine_eq]; omega, g1.trans (Sv.set (by simp)), ?_⟩
    rw [upd_same, List.replicate_succ', List.map_append]
    rfl
  · obtain ⟨g1, g2⟩ := h
    have sm := Sv.nil (Sv.drop nl g1)
    rw [show ((n : Int)).toNat = n by omega] at g2
    exact q H' l _ (Sv.same sm) (hP.same sm) g2 (hP.ne nl) rfl
end

abbrev s_law_bent : Stmt := topS 58
theorem sc_law_bent : FnScope ["pool", "text", "way", "at", "pieces", "k", "words", "j", "low", "top", "i"] ["pool", "text"] (defScope s_law_bent) := ⟨rfl, rfl, rfl, by decide +kernel, rfl, by decide +kernel, by decide +kernel⟩

section
variable {P : Program} {w : World} {K : PySem.W.Frag} {mg : Str → Option Value} {base : Heap} {t1 t2 t3 t4 t5 t6 : Tok} {C fI : Addr}
def heads9 : List Str := ["log", "run", "journal", "paper",
  "book", "", "Log", "log ", " log"]
def spBent : Sp := fun vs H Q _ => ∃ (p : Addr) (x : Str), vs = [.ref p, .str x] ∧ Pool H p ∧ x.length ≤ 4200000 ∧ ∀ H' z, Sv [p] H H' → Pool H' p → z.length ≤ 2 * x.length + 400 → Q (.str z) H'
theorem ok_law_bent (T : CnF mg t1 t2 t3 t4 t5 t6) (Df : HasDef K mg "_law_bent" s_law_bent ["pool", "text"]) (C_law_draw : Has P w K mg base CX0 1 "_law_draw" ["pool", "many"] spDraw)
    (C_law_sign : Has P w K mg base CX0 2 "_law_sign" ["pool"] spSign) (C_law_token : Has P w K mg base CX0 3 "_law_token" ["pool"] spTok) (C_law_letters : Has P w K mg base CX0 3 "_law_letters" ["pool"] spLetters) :
    Has P w K mg base CX0 4 "_law_bent" ["pool", "text"] spBent := by
  refine Df.has fun f fd F => F.ok sc_law_bent (fun vs H Q E h => ?_) (fun cdv A outer s H vs Q E hr h => ?_)
  · obtain ⟨_, _, rfl, _⟩ := h; rfl
  · obtain ⟨p, x, rfl, hP, hx, q⟩ := h
    refine ⟨_, (pss_cons (ps_set (i := 2) sc_law_bent.nd rfl (Or.inl rfl) (pe_has C_law_draw (hr.mono (by omega)) pass0 (pa_cons (pv 0) (pa_cons pe_int pa_nil))))
  (pss_cons (ps_set (i := 3) sc_law_bent.nd rfl (Or.inl rfl) (pe_has C_law_draw (hr.mono (by omega)) pass0 (pa_cons (pv 0) (pa_cons (pe_op op_add (pe_callB call_len_str (by rfl) T.m_len (by decide +kernel) (pa_cons (pv 1) pa_nil)) pe_int) pa_nil))))
  (pss_cons (ps_set (i := 4) sc_law_bent.nd rfl (Or.inl rfl) (pe_split (pv 1) pe_str))
  (pss_cons (ps_set (i := 5) sc_law_bent.nd rfl (Or.inl rfl) (pe_has C_law_draw (hr.mono (by omega)) pass0 (pa_cons (pv 0) (pa_cons (pe_callB call_len_seq (by rfl) T.m_len (by decide +kernel) (pa_cons (pv 4) pa_nil)) pa_nil))))
  (pss_cons (ps_set (i := 6) sc_law_bent.nd rfl (Or.inl rfl) (pe_split (pe_ix ix_list (pv 4) (pv 5) (fun _ _ => rfl)) pe_str))
  (pss_cons (ps_set (i := 7) sc_law_bent.nd rfl (Or.inl rfl) (pe_has C_law_draw (hr.mono (by omega)) pass0 (pa_cons (pv 0) (pa_cons (pe_callB call_len_seq (by rfl) T.m_len (by decide +kernel) (pa_cons (pv 6) pa_nil)) pa_nil))))
  (pss_cons (ps_set (i := 8) sc_law_bent.nd rfl (Or.inl rfl) (pe_has C_law_draw (hr.mono (by omega)) pass0 (pa_cons (pv 0) (pa_cons pe_int pa_nil))))
  (pss_cons (ps_if (pt_cmpR op_eq (pv 2) pe_int (nomark _))
  (pss_one (ps_ret (pe_op op_add_str (pe_op op_add_str (pe_slice sl_str (pv 1) po_none (po_some (pv 3))) (pe_has C_law_sign (hr.mono (by omega)) pass0 (pa_cons (pv 0) pa_nil))) (pe_slice sl_str (pv 1) (po_some (pv 3)) po_none))))
  pss_nil)
  (pss_cons (ps_if (pt_cmpR op_eq (pv 2) pe_int (nomark _))
  (pss_one (ps_ret (pe_op op_add_str (pe_op op_add_str (pe_slice sl_str (pv 1) po_none (po_some (pv 3))) (pe_has C_law_sign (hr.mono (by omega)) pass0 (pa_cons (pv 0) pa_nil))) (pe_slice sl_str (pv 1) (po_some (pe_op op_add (pv 3) pe_int)) po_none))))
  pss_nil)
  (pss_cons (ps_if (pt_cmpR op_eq (pv 2) pe_int (nomark _))
  (pss_one (ps_ret (pe_op op_add_str (pe_slice sl_str (pv 1) po_none (po_some (pv 3))) (pe_slice sl_str (pv 1) (po_some (pe_op op_add (pv 3) pe_int)) po_none))))
  pss_nil)
  (pss_cons (ps_if (pt_cmpR op_eq (pv 2) pe_int (nomark _))
  (pss_one (ps_ret (pe_slice sl_str (pv 1) po_none (po_some (pe_un un_neg pe_int)))))
  pss_nil)
  (pss_cons (ps_if (pt_cmpR op_eq (pv 2) pe_int (nomark _))
  (pss_one (ps_ret (pe_op op_add_str (pv 1) (pe_ix (show IxR _ (rIxT K) from ix_tup) (pe_tup (pa_cons pe_str (pa_cons pe_str (pa_cons pe_str (pa_cons pe_str (pa_cons pe_str (pa_cons pe_str pa_nil))))))) (pe_has C_law_draw (hr.mono (by omega)) pass0 (pa_cons (pv 0) (pa_cons pe_int pa_nil))) (fun _ _ => rfl)))))
  pss_nil)
  (pss_cons (ps_if (PW.pt (pw_or (pt_cmpR op_eq (pv 2) pe_int (nomark _)) (pw_or1 (pt_cmpR op_eq (pv 2) pe_int (nomark _)))))
  (pss_one (ps_set (i := 6) sc_law_bent.nd rfl (Or.inl rfl) (pe_op op_cat (pe_op op_cat (pe_slice sl_list (pv 6) po_none (po_some (pv 7))) (pe_lst (pa_cons (pe_has C_law_token (hr.mono (by omega)) pass0 (pa_cons (pv 0) pa_nil)) pa_nil))) (pe_slice sl_list (pv 6) (po_some (pe_op op_add (pv 7) pe_int)) po_none))))
  pss_nil)
  (pss_cons (ps_if (pt_cmpR op_eq (pv 2) pe_int (nomark _))
  (pss_one (ps_set (i := 6) sc_law_bent.nd rfl (Or.inl rfl) (pe_op op_cat (pe_slice sl_list (pv 6) po_none (po_some (pv 7))) (pe_slice sl_list (pv 6) (po_some (pe_op op_add (pv 7) pe_int)) po_none))))
  pss_nil)
  (pss_cons (ps_if (pt_cmpR op_eq (pv 2) pe_int (nomark _))
  (pss_one (ps_set (i := 6) sc_law_bent.nd rfl (Or.inl rfl) (pe_op op_cat (pe_slice sl_list (pv 6) (po_some (pv 7)) (po_some (pe_op op_add (pv 7) pe_int))) (pv 6))))
  pss_nil)
  (pss_cons (ps_if (pt_cmpR op_eq (pv 2) pe_int (nomark _))
  (pss_one (ps_set (i := 6) sc_law_bent.nd rfl (Or.inl rfl) (pe_op op_cat (pe_op op_cat (pe_lc (own := [("i", 10)]) (g := gName 10) (tt := tYes) rfl sc_law_bent.nd (pi_range1 (by rfl) T.m_range (pa_cons (pv 8) pa_nil)) (blkOk_by (own := [("i", 10)]) (N := ["pool", "text", "way", "at", "pieces", "k", "words", "j", "low", "top", "i"]) (sc := defScope s_law_bent) (by decide +kernel)) (fun _ _ _ _ _ => (pg_name (i := 10) sc_law_bent.nd rfl (Or.inl rfl))) (fun _ _ _ _ _ => pts_nil) (fun _ _ _ _ _ => pe_str)) (pv 6)) (pe_lc (own := [("i", 10)]) (g := gName 10) (tt := tYes) rfl sc_law_bent.nd (pi_range1 (by rfl) T.m_range (pa_cons (pv 8) pa_nil)) (blkOk_by (own := [("i", 10)]) (N := ["pool", "text", "way", "at", "pieces", "k", "words", "j", "low", "top", "i"]) (sc := defScope s_law_bent) (by decide +kernel)) (fun _ _ _ _ _ => (pg_name (i := 10) sc_law_bent.nd rfl (Or.inl rfl))) (fun _ _ _ _ _ => pts_nil) (fun _ _ _ _ _ => pe_str)))))
  pss_nil)
  (pss_cons (ps_if (PW.pt (pw_and (pt_cmpR op_gt (pv 2) pe_int (nomark _)) (pw_and1 (pt_cmpR op_lt (pv 2) pe_int (nomark _)))))
  (pss_one (ps_ret (pe_join pe_str (pe_op op_cat (pe_op op_cat (pe_slice sl_list (pv 4) po_none (po_some (pv 5))) (pe_lst (pa_cons (pe_join pe_str (pv 6)) pa_nil))) (pe_slice sl_list (pv 4) (po_some (pe_op op_add (pv 5) pe_int)) po_none)))))
  pss_nil)
  (pss_cons (ps_if (pt_cmpR op_eq (pv 2) pe_int (nomark _))
  (pss_one (ps_ret (pe_join pe_str (pe_op op_cat (pe_slice sl_list (pv 4) po_none (po_some (pv 5))) (pe_slice sl_list (pv 4) (po_some (pe_op op_add (pv 5) pe_int)) po_none)))))
  pss_nil)
  (pss_cons (ps_if (pt_cmpR op_eq (pv 2) pe_int (nomark _))
  (pss_one (ps_ret (pe_join pe_str (pe_op op_cat (pe_op op_cat (pe_slice sl_list (pv 4) po_none (po_some (pv 5))) (pe_lst (pa_cons (pe_ix ix_list (pv 4) (pv 5) (fun _ _ => rfl)) pa_nil))) (pe_slice sl_list (pv 4) (po_some (pv 5)) po_none)))))
  pss_nil)
  (pss_cons (ps_if (pt_cmpR op_eq (pv 2) pe_int (nomark _))
  (pss_one (ps_ret (pe_join pe_str (pe_op op_cat (pe_op op_cat (pe_op op_cat (pe_slice sl_list (pv 4) po_none (po_some (pv 5))) (pe_slice sl_list (pv 4) (po_some (pe_op op_add (pv 5) pe_int)) (po_some (pe_op op_add (pv 5) pe_int)))) (pe_lst (pa_cons (pe_ix ix_list (pv 4) (pv 5) (fun _ _ => rfl)) pa_nil))) (pe_slice sl_list (pv 4) (po_some (pe_op op_add (pv 5) pe_int)) po_none)))))
  pss_nil)
  (pss_cons (ps_if (pt_cmpR op_eq (pv 2) pe_int (nomark _))
  (pss_one (ps_ret (pe_join pe_str (pe_op op_cat (pe_op op_cat (pe_slice sl_list (pv 4) po_none (po_some (pv 5))) (pe_lst (pa_cons pe_str pa_nil))) (pe_slice sl_list (pv 4) (po_some (pv 5)) po_none)))))
  pss_nil)
  (pss_cons (ps_if (pt_cmpR op_eq (pv 2) pe_int (nomark _))
  (pss_one (ps_ret (pe_join pe_str (pe_op op_cat (pe_op op_cat (pe_slice sl_list (pv 4) po_none (po_some (pv 5))) (pe_lst (pa_cons (pe_join pe_str (pe_slice sl_list (pv 6) po_none (po_some (pv 7)))) (pa_cons (pe_join pe_str (pe_slice sl_list (pv 6) (po_some (pv 7)) po_none)) pa_nil)))) (pe_slice sl_list (pv 4) (po_some (pe_op op_add (pv 5) pe_int)) po_none)))))
  pss_nil)
  (pss_cons (ps_if (pt_cmpR op_eq (pv 2) pe_int (nomark _))
  (pss_one (ps_ret (pe_join pe_str (pe_op op_cat (pe_op op_cat (pe_slice sl_list (pv 4) po_none (po_some (pv 5))) (pe_lst (pa_cons (pe_join pe_str (pe_slice sl_list (pv 4) (po_some (pv 5)) (po_some (pe_op op_add (pv 5) pe_int)))) pa_nil))) (pe_slice sl_list (pv 4) (po_some (pe_op op_add (pv 5) pe_int)) po_none)))))
  pss_nil)
  (pss_cons (ps_set (i := 9) sc_law_bent.nd rfl (Or.inl rfl) (pe_ix (show IxR _ (rIxT K) from ix_tup) (pe_tup (pa_cons pe_str (pa_cons pe_str (pa_cons pe_str (pa_cons pe_str (pa_cons pe_str (pa_cons pe_str (pa_cons pe_str (pa_cons pe_str (pa_cons pe_str (pa_cons (pe_has C_law_letters (hr.mono (by omega)) pass0 (pa_cons (pv 0) pa_nil)) pa_nil))))))))))) (pe_has C_law_draw (hr.mono (by omega)) pass0 (pa_cons (pv 0) (pa_cons pe_int pa_nil))) (fun _ _ => rfl)))
  (pss_one (ps_ret (pe_join pe_str (pe_op op_cat (pe_lst (pa_cons (pv 9) pa_nil)) (pe_slice sl_list (pv 4) (po_some pe_int) po_none))))))))))))))))))))))))))))), ?_⟩
    have hsz := sizeLine_eq
    have hx' : x.length ≤ sizeLine := by omega
    refine cutSeq (fun σ' H' => ∃ k : Int, σ' = [some (.ref p), some (.str x), some (.int k), none, none, none, none, none, none, none, none] ∧ Sv [p] H H' ∧ Pool H' p) (fun nx hn => ?_) ?_
    · exact ⟨.ref p, rfl, p, _, rfl, hP, by decide, by decide, fun H1 k sv1 hP1 k0 k1 => hn _ _ ⟨k, rfl, sv1, hP1⟩⟩
    rintro _ H1 ⟨way, rfl, sv1, hP1⟩
    refine cutSeq (fun σ' H' => ∃ at_ : Nat, σ' = [some (.ref p), some (.str x), some (.int way), some (.int (at_ : Int)), none, none, none, none, none, none, none] ∧ Sv [p] H H' ∧ Pool H' p) (fun nx hn => ?_) ?_
    · refine ⟨.ref p, rfl, .str x, rfl, x, rfl, hx', _, _, rfl, rfl, p, _, rfl, hP1, by omega, by omega, fun H2 k sv2 hP2 k0 k1 => ?_⟩
      obtain ⟨j, rfl⟩ := Int.eq_ofNat_of_zero_le k0
      exact hn _ _ ⟨j, rfl, sv1.trans sv2, hP2⟩
    rintro _ H2 ⟨at_, rfl, sv2, hP2⟩
    refine cutSeq (fun σ' H' => ∃ a : Addr, σ' = [some (.ref p), some (.str x), some (.int way), some (.int (at_ : Int)), some (.ref a), none, none, none, none, none, none] ∧ Sv [p] H H' ∧ Pool H' p ∧ Strs H' a (Txt.split x RS.nl) ∧ a ≠ p) (fun nx hn => ?_) ?_
    · exact ⟨.str x, rfl, ⟨x, rfl⟩, x, RS.nl, rfl, rfl, by decide +kernel, by omega, fun a na => hn _ _ ⟨a, rfl, sv2.trans (Sv.new na), hP2.new na, upd_same, hP2.ne na⟩⟩
    rintro _ H3 ⟨a, rfl, sv3, hP3, ha3, ap⟩
    have hL := lines_sum x
    have hLn := lines_ne x
    generalize Txt.split x RS.nl = L at *
    have hLl : L.length ≤ 4200001 := by have := len_le_wsum L; omega
    have hL1 : 1 ≤ L.length := by
      cases L with
      | nil => exact absurd rfl hLn
      | cons a b => simp
    refine cutSeq (fun σ' H' => ∃ k : Nat, k < L.length ∧ σ' = [some (.ref p), some (.str x), some (.int way), some (.int (at_ : Int)), some (.ref a), some (.int (k : Int)), none, none, none, none, none] ∧ Sv [p] H H' ∧ Pool H' p ∧ Strs H' a L) (fun nx hn => ?_) ?_
    · refine ⟨.ref p, rfl, .ref a, rfl, a, _, rfl, .inl (.inl (.inl ha3)), p, _, rfl, hP3, by rw [List.length_map]; omega, by rw [List.length_map]; omega, fun H4 k sv4 hP4 k0 k1 => ?_⟩
      rw [List.length_map] at k1
      obtain ⟨j, rfl⟩ := Int.eq_ofNat_of_zero_le k0
      exact hn _ _ ⟨j, by omega, rfl, sv3.trans sv4, hP4, ha3.drawn hP3 sv4⟩
    rintro _ H4 ⟨k, hk, rfl, sv4, hP4, ha4⟩
    have dk := wsum_at1 hk
    have tdk := wsum_td L k
    refine cutSeq (fun σ' H' => ∃ b : Addr, σ' = [some (.ref p), some (.str x), some (.int way), some (.int (at_ : Int)), some (.ref a), some (.int (k : Int)), some (.ref b), none, none, none, none] ∧ Sv [p] H H' ∧ Pool H' p ∧ Strs H' a L ∧ Strs H' b (Txt.split L[k] sp) ∧ b ≠ p) (fun nx hn => ?_) ?_
    · exact ⟨.ref a, rfl, _, rfl, a, _, _, .str L[k], rfl, rfl, .inl (.inl ha4), atI_nat (by rw [List.getElem?_map, List.getElem?_eq_getElem hk]; rfl), ⟨_, rfl⟩, L[k], sp, rfl, rfl, by decide +kernel, by omega, fun b nb => hn _ _ ⟨b, rfl, sv4.trans (Sv.new nb), hP4.new nb, ha4.new nb, upd_same, hP4.ne nb⟩⟩
    rintro _ H5 ⟨b, rfl, sv5, hP5, ha5, hb5, bp⟩
    have hW := split_sum L[k]
    have hWn := split_ne L[k]
    generalize Txt.split L[k] sp = W at *
    have hWl : W.length ≤ 4200001 := by have := len_le_wsum W; omega
    have hW1 : 1 ≤ W.length := by
      cases W with
      | nil => exact absurd rfl hWn
      | cons a b => simp
    refine cutSeq (fun σ' H' => ∃ j : Nat, j < W.length ∧ σ' = [some (.ref p), some (.str x), some (.int way), some (.int (at_ : Int)), some (.ref a), some (.int (k : Int)), some (.ref b), some (.int (j : Int)), none, none, none] ∧ Sv [p] H H' ∧ Pool H' p ∧ Strs H' a L ∧ Strs H' b W) (fun nx hn => ?_) ?_
    · refine ⟨.ref p, rfl, .ref b, rfl, b, _, rfl, .inl (.inl (.inl hb5)), p, _, rfl, hP5, by rw [List.length_map]; omega, by rw [List.length_map]; omega, fun H6 j sv6 hP6 j0 j1 => ?_⟩
      rw [List.length_map] at j1
      obtain ⟨j, rfl⟩ := Int.eq_ofNat_of_zero_le j0
      exact hn _ _ ⟨j, by omega, rfl, sv5.trans sv6, hP6, ha5.drawn hP5 sv6, hb5.drawn hP5 sv6⟩
    rintro _ H6 ⟨j, hj, rfl, sv6, hP6, ha6, hb6⟩
    refine cutSeq (fun σ' H' => ∃ low : Nat, low < 14 ∧ σ' = [some (.ref p), some (.str x), some (.int way), some (.int (at_ : Int)), some (.ref a), some (.int (k : Int)), some (.ref b), some (.int (j : Int)), some (.int (low : Int)), none, none] ∧ Sv [p] H H' ∧ Pool H' p ∧ Strs H' a L ∧ Strs H' b W) (fun nx hn => ?_) ?_
    · refine ⟨.ref p, rfl, p, _, rfl, hP6, by decide, by decide, fun H7 l sv7 hP7 l0 l1 => ?_⟩
      obtain ⟨l, rfl⟩ := Int.eq_ofNat_of_zero_le l0
      exact hn _ _ ⟨l, by omega, rfl, sv6.trans sv7, hP7, ha6.drawn hP6 sv7, hb6.drawn hP6 sv7⟩
    rintro _ H7 ⟨low, hlow, rfl, sv7, hP7, ha7, hb7⟩
    have dj := wsum_at1 hj
    have tdj := wsum_td W j
    have c1 : (cutS x none (some (at_ : Int))).length ≤ x.length := cutS_length x _ _
    refine ⟨_, rfl, rfl, _, rfl, ?_⟩
    refine ite2 (fun e0 => ?_) (fun e0 => ?_)
    · have c2 := cutS_length x (some (at_ : Int)) none
      refine ⟨.str x, rfl, _, rfl, _, rfl, x, rfl, hx', .ref p, rfl, p, rfl, hP7, fun H8 c sv8 hP8 => ⟨_, _, rfl, rfl, ?_, .str x, rfl, _, rfl, _, rfl, x, rfl, hx', _, _, rfl, rfl, ?_, ?_⟩⟩
      · show _ + 1 ≤ _; omega
      · rw [len_append]; show _ + 1 + _ ≤ _; omega
      · refine q _ _ (sv7.trans sv8) hP8 ?_
        rw [len_append, len_append]; show _ + 1 + _ ≤ _; omega
    refine ⟨_, rfl, rfl, _, rfl, ?_⟩
    refine ite2 (fun e1 => ?_) (fun e1 => ?_)
    · have c2 := cutS_length x (some ((at_ : Int) + 1)) none
      refine ⟨.str x, rfl, _, rfl, _, rfl, x, rfl, hx', .ref p, rfl, p, rfl, hP7, fun H8 c sv8 hP8 => ⟨_, _, rfl, rfl, ?_, .str x, rfl, _, rfl, _, _, rfl, rfl, _, rfl, x, rfl, hx', _, _, rfl, rfl, ?_, ?_⟩⟩
      · show _ + 1 ≤ _; omega
      · rw [len_append]; show _ + 1 + _ ≤ _; omega
      · refine q _ _ (sv7.trans sv8) hP8 ?_
        rw [len_append, len_append]; show _ + 1 + _ ≤ _; omega
    refine ⟨_, rfl, rfl, _, rfl, ?_⟩
    refine ite2 (fun e2 => ?_) (fun e2 => ?_)
    · have c2 := cutS_length x (some ((at_ : Int) + 1)) none
      refine ⟨.str x, rfl, _, rfl, _, rfl, x, rfl, hx', .str x, rfl, _, rfl, _, _, rfl, rfl, _, rfl, x, rfl, hx', _, _, rfl, rfl, ?_, ?_⟩
      · omega
      · refine q _ _ sv7 hP7 ?_
        rw [len_append]; omega
    refine ⟨_, rfl, rfl, _, rfl, ?_⟩
    refine ite2 (fun e3 => ?_) (fun e3 => ?_)
    · have c2 := cutS_length x none (some (-1))
      exact ⟨.str x, rfl, _, rfl, _, rfl, x, rfl, hx', q _ _ sv7 hP7 (by show (cutS x none (some (-1))).length ≤ _; omega)⟩
    refine ⟨_, rfl, rfl, _, rfl, ?_⟩
    refine ite2 (fun e4 => ?_) (fun e4 => ?_)
    · refine ⟨.str x, rfl, by show 6 ≤ sizeLine; omega, fun t nt => ⟨.ref p, rfl, p, 6, rfl, hP7.new nt, by decide, by decide, fun H8 n sv8 hP8 n0 n1 => ?_⟩⟩
      have ht : H8 t = some (.tup [.str "0", .str " ", .str "\n", .str "[ ]", .str "join", .str "log"]) := sv8 t _ (by simpa using hP7.ne nt) upd_same
      obtain ⟨z, hz, e⟩ := pickS (ss := ["0", " ", "\n", "[ ]", "join", "log"]) n0 n1
      have hzl : z.length ≤ 10 := by
        have : z = ("0" : Str) ∨ z = (" " : Str) ∨ z = ("\n" : Str) ∨ z = ("[ ]" : Str) ∨ z = ("join" : Str) ∨ z = ("log" : Str) := by simpa using hz
        rcases this with rfl | rfl | rfl | rfl | rfl | rfl <;> decide +kernel
      exact ⟨t, _, n, _, rfl, rfl, .inl (.inl ht), e, _, _, rfl, rfl, by omega, q _ _ ((sv7.trans (Sv.new nt)).trans sv8) hP8 (by rw [len_append]; omega)⟩
    dsimp only [tNext]
    -- the words
    have lw : ∀ us : List Str, us.length ≤ wsum us := len_le_wsum
    have W7 : wsum W ≤ 4200001 := by omega
    refine cutSeq (fun σ' H' => ∃ (b : Addr) (U : List Str), σ' = [some (.ref p), some (.str x), some (.int way), some (.int (at_ : Int)), some (.ref a), some (.int (k : Int)), some (.ref b), some (.int (j : Int)), some (.int (low : Int)), none, none] ∧ Sv [p] H H' ∧ Pool H' p ∧ Strs H' a L ∧ Strs H' b U ∧ b ≠ p ∧ wsum U ≤ 2 * wsum W + 200 ∧ (U = W ∨ (5 ≤ way ∧ way ≤ 6))) (fun nx hn => ?_) ?_
    · refine cutIf (decide (way = 5 ∨ way = 6)) (fun Q' h' => ?_) ?_
      · refine ⟨_, rfl, rfl, _, rfl, ?_⟩
        refine ite2 (fun c => ?_) (fun c => ?_)
        · rw [decide_eq_true (.inl (V.int.inj (of_decide_eq_true c)))] at h'
          exact h'
        · refine ⟨_, rfl, rfl, _, rfl, ?_⟩
          have : decide (V.int way = V.int 6) = decide (way = 5 ∨ way = 6) := by
            have n5 : way ≠ 5 := fun e => c (decide_eq_true (congrArg V.int e))
            by_cases h : way = 6
            · rw [decide_eq_true (congrArg V.int h), decide_eq_true (.inr h)]
            · rw [decide_eq_false (fun e => h (V.int.inj e)), decide_eq_false (fun e => e.elim n5 h)]
          rw [this]
          exact h'
      · refine ite2 (fun c => ?_) (fun c => hn _ _ ⟨b, W, rfl, sv7, hP7, ha7, hb7, bp, by omega, .inl rfl⟩)
        have hw := of_decide_eq_true c
        refine ls_cat (K := K) (H0 := H7) (ls_cat (ls_cut0 (us := W) (k := j) rfl hb7 bp (ie_var rfl)) (ls_lst1 (sx_token rfl)) (fun u v eu ev => ?_)) (ls_cut1 (us := W) (k := j + 1) rfl hb7 bp (ie_add (c := 1) (ie_var rfl))) (fun u v eu ev => ?_) H7 _ (Sv.refl _ _) hP7 fun H8 b' us s8 hP8 hb' nb pu => ?_
        · obtain ⟨z, rfl, _⟩ := ev
          rw [eu, List.length_take]; show _ + 1 ≤ _; omega
        · obtain ⟨u1, u2, rfl, rfl, z, rfl, _⟩ := eu
          rw [ev, List.length_append, List.length_take, List.length_drop]; show _ + 1 + _ ≤ _; omega
        · obtain ⟨u1, u2, rfl, ⟨u3, u4, rfl, rfl, z, rfl, hz⟩, rfl⟩ := pu
          refine hn _ _ ⟨b', _, rfl, sv7.trans s8, hP8, ha7.drawn hP7 s8, hb', nb, ?_, .inr (by omega)⟩
          rw [wsum_append, wsum_append, wsum_one]
          omega
    rintro _ H8 ⟨b8, U8, rfl, sv8, hP8, ha8, hb8, bp8, wu8, cu8⟩
    refine cutSeq (fun σ' H' => ∃ (b : Addr) (U : List Str), σ' = [some (.ref p), some (.str x), some (.int way), some (.int (at_ : Int)), some (.ref a), some (.int (k : Int)), some (.ref b), some (.int (j : Int)), some (.int (low : Int)), none, none] ∧ Sv [p] H H' ∧ Pool H' p ∧ Strs H' a L ∧ Strs H' b U ∧ b ≠ p ∧ wsum U ≤ 2 * wsum W + 200 ∧ (U = W ∨ (5 ≤ way ∧ way ≤ 7))) (fun nx hn => ?_) ?_
    · refine ⟨_, rfl, rfl, _, rfl, ?_⟩
      refine ite2 (fun c => ?_) (fun c => hn _ _ ⟨b8, U8, rfl, sv8, hP8, ha8, hb8, bp8, wu8, cu8.imp id fun h => by omega⟩)
      have hw : way = 7 := V.int.inj (of_decide_eq_true c)
      have eU : U8 = W := cu8.elim id fun h => by omega
      subst eU
      refine ls_cat (K := K) (H0 := H8) (ls_cut0 (us := U8) (k := j) rfl hb8 bp8 (ie_var rfl)) (ls_cut1 (us := U8) (k := j + 1) rfl hb8 bp8 (ie_add (c := 1) (ie_var rfl))) (fun u v eu ev => ?_) H8 _ (Sv.refl _ _) hP8 fun H9 b' us s9 hP9 hb' nb pu => ?_
      · rw [eu, ev, List.length_take, List.length_drop]; omega
      · obtain ⟨u1, u2, rfl, rfl, rfl⟩ := pu
        refine hn _ _ ⟨b', _, rfl, sv8.trans s9, hP9, ha8.drawn hP8 s9, hb', nb, ?_, .inr (by omega)⟩
        rw [wsum_append]
        omega
    rintro _ H9 ⟨b9, U9, rfl, sv9, hP9, ha9, hb9, bp9, wu9, cu9⟩
    refine cutSeq (fun σ' H' => ∃ (b : Addr) (U : List Str), σ' = [some (.ref p), some (.str x), some (.int way), some (.int (at_ : Int)), some (.ref a), some (.int (k : Int)), some (.ref b), some (.int (j : Int)), some (.int (low : Int)), none, none] ∧ Sv [p] H H' ∧ Pool H' p ∧ Strs H' a L ∧ Strs H' b U ∧ b ≠ p ∧ wsum U ≤ 2 * wsum W + 200 ∧ (U = W ∨ (5 ≤ way ∧ way ≤ 8))) (fun nx hn => ?_) ?_
    · refine ⟨_, rfl, rfl, _, rfl, ?_⟩
      refine ite2 (fun c => ?_) (fun c => hn _ _ ⟨b9, U9, rfl, sv9, hP9, ha9, hb9, bp9, wu9, cu9.imp id fun h => by omega⟩)
      have hw : way = 8 := V.int.inj (of_decide_eq_true c)
      have eU : U9 = W := cu9.elim id fun h => by omega
      subst eU
      refine ls_cat (K := K) (H0 := H9) (ls_cut2 (us := U9) (k := j) (m := j + 1) rfl hb9 bp9 (ie_var rfl) (ie_add (c := 1) (ie_var rfl)) (Nat.le_succ _)) (ls_var (us := U9) rfl hb9 bp9) (fun u v eu ev => ?_) H9 _ (Sv.refl _ _) hP9 fun H10 b' us s10 hP10 hb' nb pu => ?_
      · rw [eu, ev, List.length_take, List.length_drop]; omega
      · obtain ⟨u1, u2, rfl, rfl, rfl⟩ := pu
        refine hn _ _ ⟨b', _, rfl, sv9.trans s10, hP10, ha9.drawn hP9 s10, hb', nb, ?_, .inr (by omega)⟩
        have := wsum_td (u2.drop j) (j + 1 - j)
        rw [wsum_append]
        omega
    rintro _ H10 ⟨b10, U10, rfl, sv10, hP10, ha10, hb10, bp10, wu10, cu10⟩
    refine cutSeq (fun σ' H' => ∃ (b : Addr) (U : List Str), σ' = [some (.ref p), some (.str x), some (.int way), some (.int (at_ : Int)), some (.ref a), some (.int (k : Int)), some (.ref b), some (.int (j : Int)), some (.int (low : Int)), none, none] ∧ Sv [p] H H' ∧ Pool H' p ∧ Strs H' a L ∧ Strs H' b U ∧ b ≠ p ∧ wsum U ≤ 2 * wsum W + 200 ∧ (U = W ∨ (5 ≤ way ∧ way ≤ 9))) (fun nx hn => ?_) ?_
    · refine ⟨_, rfl, rfl, _, rfl, ?_⟩
      refine ite2 (fun c => ?_) (fun c => hn _ _ ⟨b10, U10, rfl, sv10, hP10, ha10, hb10, bp10, wu10, cu10.imp id fun h => by omega⟩)
      have hw : way = 9 := V.int.inj (of_decide_eq_true c)
      have eU : U10 = W := cu10.elim id fun h => by omega
      subst eU
      have e1' : ("[" : Str).length = 1 := rfl
      have e2' : ("]" : Str).length = 1 := rfl
      refine ls_cat (K := K) (H0 := H10) (ls_cat (ls_rep (n := low) rfl (by omega) (fun _ => rfl)) (ls_var (us := U10) rfl hb10 bp10) (fun u v eu ev => ?_)) (ls_rep (n := low) rfl (by omega) (fun _ => rfl)) (fun u v eu ev => ?_) H10 _ (Sv.refl _ _) hP10 fun H11 b' us s11 hP11 hb' nb pu => ?_
      · rw [eu, ev, List.length_replicate]; omega
      · obtain ⟨u1, u2, rfl, rfl, rfl⟩ := eu
        rw [ev, List.length_append, List.length_replicate, List.length_replicate]; omega
      · obtain ⟨u1, u2, rfl, ⟨u3, u4, rfl, rfl, rfl⟩, rfl⟩ := pu
        refine hn _ _ ⟨b', _, rfl, sv10.trans s11, hP11, ha10.drawn hP10 s11, hb', nb, ?_, .inr (by omega)⟩
        rw [wsum_append, wsum_append, wsum_rep, wsum_rep, e1', e2']
        omega
    rintro _ H11 ⟨ca, U, rfl, sv11, hP11, ha11, hc11, cp, wu, cu⟩
    -- what is told
    have out : ∀ (pr : List Str → Prop), (∀ us, pr us → wsum us ≤ 2 * x.length + 400) → ∀ (H' : Hp) (z : Str), Sv [p] H11 H' → Pool H' p → (∃ us, pr us ∧ z = Txt.join RS.nl us) → Q (.str z) H' := fun pr hp H' z s' hP' ⟨us, pu, ez⟩ => by
      refine q H' z (sv11.trans s') hP' ?_
      have := joinN_le us
      have := hp us pu
      rw [ez]
      omega
    have fits : ∀ (pr : List Str → Prop), (∀ us, pr us → wsum us ≤ 2 * x.length + 400) → ∀ us, pr us → (us.map (·.length)).sum + us.length * RS.nl.length ≤ 16777216 := fun pr hp us pu => fitsN (by have := hp us pu; omega)
    have cut0 := ls_cut0 (K := K) (H0 := H11) (σ := [some (.ref p), some (.str x), some (.int way), some (.int (at_ : Int)), some (.ref a), some (.int (k : Int)), some (.ref ca), some (.int (j : Int)), some (.int (low : Int)), none, none]) (p := p) (i := 4) (us := L) (te := tVar 5) (k := k) rfl ha11 ap (ie_var rfl)
    have cut1 := ls_cut1 (K := K) (H0 := H11) (σ := [some (.ref p), some (.str x), some (.int way), some (.int (at_ : Int)), some (.ref a), some (.int (k : Int)), some (.ref ca), some (.int (j : Int)), some (.int (low : Int)), none, none]) (p := p) (i := 4) (us := L) (k := k + 1) rfl ha11 ap (ie_add (c := 1) (ie_var (i := 5) rfl))
    have cutk := ls_cut1 (K := K) (H0 := H11) (σ := [some (.ref p), some (.str x), some (.int way), some (.int (at_ : Int)), some (.ref a), some (.int (k : Int)), some (.ref ca), some (.int (j : Int)), some (.int (low : Int)), none, none]) (p := p) (i := 4) (us := L) (te := tVar 5) (k := k) rfl ha11 ap (ie_var rfl)
    refine cutIfS (decide (4 < way ∧ way < 10)) (fun Q' h' => ?_) ?_
    · refine ⟨_, rfl, _, _, rfl, rfl, _, rfl, ?_⟩
      refine ite2 (fun c => ?_) (fun c => ?_)
      · refine ⟨_, rfl, _, _, rfl, rfl, _, rfl, ?_⟩
        have : decide (way < 10) = decide (4 < way ∧ way < 10) := by
          have := of_decide_eq_true c
          by_cases h : way < 10
          · rw [decide_eq_true h, decide_eq_true ⟨by omega, h⟩]
          · rw [decide_eq_false h, decide_eq_false (fun y => h y.2)]
        rw [this]
        exact h'
      · rw [decide_eq_false (fun y => c (decide_eq_true y.1))] at h'
        exact h'
    refine ite2 (fun c5 => ?_) (fun c5 => ?_)
    · have hp : ∀ us : List Str, (∃ a b, us = a ++ b ∧ (∃ a' b', a = a' ++ b' ∧ a' = L.take k ∧ ∃ z, b' = [z] ∧ z.length ≤ wsum U) ∧ b = L.drop (k + 1)) → wsum us ≤ 2 * x.length + 400 := by
        rintro us ⟨u1, u2, rfl, ⟨u3, u4, rfl, rfl, z, rfl, hz⟩, rfl⟩
        rw [wsum_append, wsum_append, wsum_one]
        omega
      exact sx_join (K := K) (H0 := H11) (sep := RS.nl) (ls_cat (ls_cat cut0 (ls_lst1 ((sx_join (sep := sp) (ls_var (us := U) rfl hc11 cp) fun us e => by rw [e]; exact join_fits (by omega)).imp fun z ⟨us, e, ez⟩ => by rw [ez, e]; exact joinS_le U)) fun u v eu ev => by
          obtain ⟨z, rfl, _⟩ := ev
          rw [eu, List.length_take]; show _ + 1 ≤ _; omega) cut1 fun u v eu ev => by
          obtain ⟨u1, u2, rfl, rfl, z, rfl, _⟩ := eu
          rw [ev, List.length_append, List.length_take, List.length_drop]; show _ + 1 + _ ≤ _; omega) (fits _ hp) H11 _ (Sv.refl _ _) hP11 (out _ hp)
    have eU : ∀ {n : Int}, 10 ≤ n → way = n → U = W := fun h e => cu.elim id fun h2 => by omega
    have len0 : ∀ {u v : List Str} {n : Nat}, u = L.take k → v.length ≤ n → u.length + v.length ≤ L.length + n := fun e h => by rw [e, List.length_take]; omega
    dsimp only [tNext]
    refine ⟨_, rfl, rfl, _, rfl, ?_⟩
    refine ite2 (fun c => ?_) (fun c => ?_)
    · have hp : ∀ us : List Str, (∃ a b, us = a ++ b ∧ a = L.take k ∧ b = L.drop (k + 1)) → wsum us ≤ 2 * x.length + 400 := by
        rintro us ⟨u1, u2, rfl, rfl, rfl⟩
        rw [wsum_append]
        omega
      exact sx_join (K := K) (H0 := H11) (sep := RS.nl) (ls_cat cut0 cut1 fun u v eu ev => by rw [eu, ev, List.length_take, List.length_drop]; omega) (fits _ hp) H11 _ (Sv.refl _ _) hP11 (out _ hp)
    refine ⟨_, rfl, rfl, _, rfl, ?_⟩
    refine ite2 (fun c => ?_) (fun c => ?_)
    · have hp : ∀ us : List Str, (∃ a b, us = a ++ b ∧ (∃ a' b', a = a' ++ b' ∧ a' = L.take k ∧ ∃ z, b' = [z] ∧ z = L[k]) ∧ b = L.drop k) → wsum us ≤ 2 * x.length + 400 := by
        rintro us ⟨u1, u2, rfl, ⟨u3, u4, rfl, rfl, z, rfl, rfl⟩, rfl⟩
        rw [wsum_append, wsum_append, wsum_one]
        omega
      exact sx_join (K := K) (H0 := H11) (sep := RS.nl) (ls_cat (ls_cat cut0 (ls_lst1 (sx_ixL (us := L) (k := k) rfl ha11 ap (ie_var rfl) hk)) fun u v eu ev => by
          obtain ⟨z, rfl, _⟩ := ev
          rw [eu, List.length_take]; show _ + 1 ≤ _; omega) cutk fun u v eu ev => by
          obtain ⟨u1, u2, rfl, rfl, z, rfl, _⟩ := eu
          rw [ev, List.length_append, List.length_take, List.length_drop]; show _ + 1 + _ ≤ _; omega) (fits _ hp) H11 _ (Sv.refl _ _) hP11 (out _ hp)
    refine ⟨_, rfl, rfl, _, rfl, ?_⟩
    refine ite2 (fun c => ?_) (fun c => ?_)
    · have td2 := wsum_td (L.drop (k + 1)) 1
      rw [List.drop_drop] at td2
      have hp : ∀ us : List Str, (∃ a b, us = a ++ b ∧ (∃ a' b', a = a' ++ b' ∧ (∃ a2 b2, a' = a2 ++ b2 ∧ a2 = L.take k ∧ b2 = (L.drop (k + 1)).take (k + 2 - (k + 1))) ∧ ∃ z, b' = [z] ∧ z = L[k]) ∧ b = L.drop (k + 2)) → wsum us ≤ 2 * x.length + 400 := by
        rintro us ⟨u1, u2, rfl, ⟨u3, u4, rfl, ⟨u5, u6, rfl, rfl, rfl⟩, z, rfl, rfl⟩, rfl⟩
        rw [wsum_append, wsum_append, wsum_append, wsum_one, show k + 2 - (k + 1) = 1 by omega]
        rw [show k + 1 + 1 = k + 2 by omega] at td2
        omega
      exact sx_join (K := K) (H0 := H11) (sep := RS.nl) (ls_cat (ls_cat (ls_cat cut0 (ls_cut2 (us := L) (k := k + 1) (m := k + 2) rfl ha11 ap (ie_add (c := 1) (ie_var rfl)) (ie_add (c := 2) (ie_var rfl)) (by omega)) fun u v eu ev => by rw [eu, ev, List.length_take, List.length_take, List.length_drop]; omega) (ls_lst1 (sx_ixL (us := L) (k := k) rfl ha11 ap (ie_var rfl) hk)) fun u v eu ev => by
          obtain ⟨z, rfl, _⟩ := ev
          obtain ⟨u1, u2, rfl, rfl, rfl⟩ := eu
          rw [List.length_append, List.length_take, List.length_take, List.length_drop]; show _ + 1 ≤ _; omega) (ls_cut1 (us := L) (k := k + 2) rfl ha11 ap (ie_add (c := 2) (ie_var rfl))) fun u v eu ev => by
          obtain ⟨u1, u2, rfl, ⟨u3, u4, rfl, rfl, rfl⟩, z, rfl, _⟩ := eu
          rw [ev, List.length_append, List.length_append, List.length_take, List.length_take, List.length_drop, List.length_drop]; show _ + 1 + _ ≤ _; omega) (fits _ hp) H11 _ (Sv.refl _ _) hP11 (out _ hp)
    refine ⟨_, rfl, rfl, _, rfl, ?_⟩
    refine ite2 (fun c => ?_) (fun c => ?_)
    · have e0 : ("" : Str).length = 0 := rfl
      have hp : ∀ us : List Str, (∃ a b, us = a ++ b ∧ (∃ a' b', a = a' ++ b' ∧ a' = L.take k ∧ ∃ z, b' = [z] ∧ z = ("" : Str)) ∧ b = L.drop k) → wsum us ≤ 2 * x.length + 400 := by
        rintro us ⟨u1, u2, rfl, ⟨u3, u4, rfl, rfl, z, rfl, rfl⟩, rfl⟩
        rw [wsum_append, wsum_append, wsum_one, e0]
        omega
      exact sx_join (K := K) (H0 := H11) (sep := RS.nl) (ls_cat (ls_cat cut0 (ls_lst1 sx_c) fun u v eu ev => by
          obtain ⟨z, rfl, _⟩ := ev
          rw [eu, List.length_take]; show _ + 1 ≤ _; omega) cutk fun u v eu ev => by
          obtain ⟨u1, u2, rfl, rfl, z, rfl, _⟩ := eu
          rw [ev, List.length_append, List.length_take, List.length_drop]; show _ + 1 + _ ≤ _; omega) (fits _ hp) H11 _ (Sv.refl _ _) hP11 (out _ hp)
    refine ⟨_, rfl, rfl, _, rfl, ?_⟩
    refine ite2 (fun c => ?_) (fun c => ?_)
    · have eW : U = W := eU (n := 14) (by decide) (V.int.inj (of_decide_eq_true c))
      subst eW
      have hp : ∀ us : List Str, (∃ a b, us = a ++ b ∧ (∃ a' b', a = a' ++ b' ∧ a' = L.take k ∧ ∃ z y, b' = [z, y] ∧ z.length ≤ wsum (U.take j) ∧ y.length ≤ wsum (U.drop j)) ∧ b = L.drop (k + 1)) → wsum us ≤ 2 * x.length + 400 := by
        rintro us ⟨u1, u2, rfl, ⟨u3, u4, rfl, rfl, z, y, rfl, hz, hy⟩, rfl⟩
        rw [wsum_append, wsum_append, wsum_cons, wsum_one]
        omega
      exact sx_join (K := K) (H0 := H11) (sep := RS.nl) (ls_cat (ls_cat cut0 (ls_lst2 ((sx_join (sep := sp) (ls_cut0 (us := U) (k := j) rfl hc11 cp (ie_var rfl)) fun us e => by rw [e]; exact join_fits (by omega)).imp fun z ⟨us, e, ez⟩ => by rw [ez, e]; exact joinS_le _) ((sx_join (sep := sp) (ls_cut1 (us := U) (k := j) rfl hc11 cp (ie_var rfl)) fun us e => by rw [e]; exact join_fits (by omega)).imp fun z ⟨us, e, ez⟩ => by rw [ez, e]; exact joinS_le _)) fun u v eu ev => by
          obtain ⟨z, y, rfl, _⟩ := ev
          rw [eu, List.length_take]; show _ + 2 ≤ _; omega) cut1 fun u v eu ev => by
          obtain ⟨u1, u2, rfl, rfl, z, y, rfl, _⟩ := eu
          rw [ev, List.length_append, List.length_take, List.length_drop]; show _ + 2 + _ ≤ _; omega) (fits _ hp) H11 _ (Sv.refl _ _) hP11 (out _ hp)
    refine ⟨_, rfl, rfl, _, rfl, ?_⟩
    refine ite2 (fun c => ?_) (fun c => ?_)
    · have td2 := wsum_td (L.drop k) 2
      rw [List.drop_drop] at td2
      have hp : ∀ us : List Str, (∃ a b, us = a ++ b ∧ (∃ a' b', a = a' ++ b' ∧ a' = L.take k ∧ ∃ z, b' = [z] ∧ z.length ≤ wsum ((L.drop k).take 2)) ∧ b = L.drop (k + 2)) → wsum us ≤ 2 * x.length + 400 := by
        rintro us ⟨u1, u2, rfl, ⟨u3, u4, rfl, rfl, z, rfl, hz⟩, rfl⟩
        rw [wsum_append, wsum_append, wsum_one]
        omega
      exact sx_join (K := K) (H0 := H11) (sep := RS.nl) (ls_cat (ls_cat cut0 (ls_lst1 ((sx_join (sep := sp) (ls_cut2 (us := L) (k := k) (m := k + 2) rfl ha11 ap (ie_var rfl) (ie_add (c := 2) (ie_var rfl)) (by omega)) fun us e => by rw [e, show k + 2 - k = 2 by omega]; exact join_fits (by omega)).imp fun z ⟨us, e, ez⟩ => by rw [ez, e, show k + 2 - k = 2 by omega]; exact joinS_le _)) fun u v eu ev => by
          obtain ⟨z, rfl, _⟩ := ev
          rw [eu, List.length_take]; show _ + 1 ≤ _; omega) (ls_cut1 (us := L) (k := k + 2) rfl ha11 ap (ie_add (c := 2) (ie_var rfl))) fun u v eu ev => by
          obtain ⟨u1, u2, rfl, rfl, z, rfl, _⟩ := eu
          rw [ev, List.length_append, List.length_take, List.length_drop]; show _ + 1 + _ ≤ _; omega) (fits _ hp) H11 _ (Sv.refl _ _) hP11 (out _ hp)
    dsimp only [tNext]
    refine cutSeq (fun σ' H' => ∃ z : Str, z.length ≤ 100 ∧ σ' = [some (.ref p), some (.str x), some (.int way), some (.int (at_ : Int)), some (.ref a), some (.int (k : Int)), some (.ref ca), some (.int (j : Int)), some (.int (low : Int)), some (.str z), none] ∧ Sv [p] H11 H' ∧ Pool H' p ∧ Strs H' a L) (fun nx hn => ?_) ?_
    · refine ⟨.ref p, rfl, p, rfl, hP11, fun H12 y s12 hP12 hy => ⟨by show 10 ≤ sizeLine; omega, fun t nt => ⟨.ref p, rfl, p, 10, rfl, hP12.new nt, by decide, by decide, fun H13 n s13 hP13 n0 n1 => ?_⟩⟩⟩
      have ht : H13 t = some (.tup ((heads9 ++ [y]).map V.str)) := s13 t _ (by simpa using hP12.ne nt) upd_same
      obtain ⟨z, hz, e⟩ := pickS (ss := heads9 ++ [y]) n0 (by show n < 10; exact n1)
      have hzl : z.length ≤ 100 := by
        rcases List.mem_append.mp hz with hz | hz
        · have : (heads9.all fun s => decide (s.length ≤ 100)) = true := by decide +kernel
          exact of_decide_eq_true (List.all_eq_true.mp this z hz)
        · have : z = y := by simpa using hz
          have := (word_letters hy).2.2
          rw [‹z = y›, len_tl]
          omega
      exact ⟨t, _, n, _, rfl, rfl, .inl (.inl ht), e, hn _ _ ⟨z, hzl, rfl, (s12.trans (Sv.new nt)).trans s13, hP13, ((ha11.drawn hP11 s12).new nt).drawn (hP12.new nt) s13⟩⟩
    rintro _ H12 ⟨z, hz, rfl, s12, hP12, ha12⟩
    have hp : ∀ us : List Str, (∃ a b, us = a ++ b ∧ (∃ y, a = [y] ∧ y = z) ∧ b = L.drop 1) → wsum us ≤ 2 * x.length + 400 := by
      rintro us ⟨u1, u2, rfl, ⟨y, rfl, rfl⟩, rfl⟩
      have := wsum_td L 1
      rw [wsum_append, wsum_one]
      omega
    exact sx_join (K := K) (H0 := H12) (sep := RS.nl) (ls_cat (ls_lst1 (sx_var (z := z) rfl)) (ls_cut1 (us := L) (k := 1) rfl ha12 ap (ie_c (n := 1))) fun u v eu ev => by
        obtain ⟨y, rfl, _⟩ := eu
        rw [ev, List.length_drop]; show 1 + _ ≤ _; omega) (fits _ hp) H12 _ (Sv.refl _ _) hP12 fun H' y s' hP' hy => out _ hp H' y (s12.trans s') hP' hy
end
end RS

namespace RS
open PySem PySem.Spec PyProof.Rows L2 TL
abbrev s_law : Stmt := topS 65
theorem sc_law : FnScope ["script", "pool", "nth", "top", "many", "rows", "turns", "text", "turn", "bent", "other", "top_here", "k"] ["script"] (defScope s_law) := ⟨rfl, rfl, rfl, by decide +kernel, rfl, by decide +kernel, by decide +kernel⟩

theorem nm_line : SupNm PySem.Challenge.pw_rightstead_k76_rows_of_logs_and_runs "line" "line " (some " is at fault") :=
  { hpre := by decide +kernel, hsuf := fun t e => by cases e; decide +kernel, hbd := PySem.SupX.bind_line, xs := by decide +kernel, x1 := by decide +kernel, x2 := by decide +kernel, x3 := by decide +kernel, htop := by decide +kernel }
def RowsP (nth : Nat) (al : List (List D)) : Prop := ∀ r ∈ al, RowP nth r
theorem rows_okR {nth : Nat} {al : List (List D)} (h : RowsP nth al) : okRows al := fun r hr => ⟨(h r hr).1.1, (h r hr).1.2.1⟩
theorem rows_due {nth : Nat} {top : Str} {al : List (List D)} (ht : isWord top = true) (h : RowsP nth al) (h4 : nth = 4 → al.length = 1) : rdK nth top (wrRows top al) = .ok (thing nth al) := by
  have hf : 10 ∉ tl top := fun z => by
    have := (word_letters ht).1 10 z
    omega
  unfold rdK
  rw [rows_fwd hf (rows_okR h)]
  have e : faultK nth al = none := by
    unfold faultK
    split
    · rename_i n1
      exact bad_all fun r hr => (h r hr).2.2.1 n1
    · split
      · rename_i n2
        exact bad_all fun r hr => (h r hr).2.2.2 n2
      · split
        · rename_i n4
          match al, h4 n4 with
          | [x], _ => rfl
        · rfl
  dsimp only
  rw [e]
theorem rows_size {nth : Nat} {top : Str} {n : Nat} : ∀ {al : List (List D)}, (∀ r ∈ al, okL r ∧ wsum (toksL r) ≤ n) → wsum (al.map rowT) ≤ al.length * (n + 1)
  | [], _ => Nat.zero_le _
  | r :: rs, h => by
    have ih := rows_size (nth := nth) (top := top) (al := rs) fun x hx => h x (by simp [hx])
    have h1 := h r (by simp)
    have h2 := (rowT_len h1.1).2
    rw [List.map_cons, wsum_cons, List.length_cons, Nat.succ_mul]
    omega

theorem rep_mem {α : Type} {n : Nat} {al : List α} {r : α} (h : r ∈ (List.replicate n al).flatten) : r ∈ al := by
  obtain ⟨l, h1, h2⟩ := List.mem_flatten.mp h
  exact (List.mem_replicate.mp h1).2 ▸ h2
theorem RpL.rep {K : PySem.W.Frag} {H : Hp} {ds : List D} {xs : List V} (h : RpL K H ds xs) : ∀ n : Nat, RpL K H (List.replicate n ds).flatten (List.replicate n xs).flatten
  | 0 => rfl
  | n + 1 => by
    rw [List.replicate_succ, List.replicate_succ, List.flatten_cons, List.flatten_cons]
    exact RpL.app h (RpL.rep h n)
theorem flat_rep_len {α : Type} (n : Nat) (l : List α) : (List.replicate n l).flatten.length = n * l.length := by
  induction n with
  | zero => simp
  | succ n ih => rw [List.replicate_succ, List.flatten_cons, List.length_append, ih, Nat.succ_mul]; omega
section
variable {P : Program} {w : World} {K : PySem.W.Frag} {mg : Str → Option Value} {base : Heap} {t1 t2 t3 t4 t5 t6 : Tok} {C fI : Addr}
def kinds4 : List Str := ["log", "run", "journal", "paper"]
def spLaw (K : PySem.W.Frag) : Sp := fun vs H Q _ => ∃ (a : Addr) (ns : List Int), vs = [.ref a] ∧ SqL K H a (ns.map V.int) ∧ ∀ H', Same H H' → Q (.bl true) H'
theorem seqL_same {H H' : Hp} {a : Addr} {xs : List V} (s : Same H H') (h : SqL K H a xs) : SqL K H' a xs := by
  rcases h with (h | ⟨o, h⟩) | h
  · exact .inl (.inl (s _ _ h))
  · exact .inl (.inr ⟨o, s _ _ h⟩)
  · exact .inr h
theorem ok_law (T : CnF mg t1 t2 t3 t4 t5 t6)
    (C_law_pool : Has P w K mg base CX0 1 "_law_pool" ["script", "at"] (spPool K))
    (C_law_draw : Has P w K mg base CX0 1 "_law_draw" ["pool", "many"] spDraw)
    (C_law_letters : Has P w K mg base CX0 3 "_law_letters" ["pool"] spLetters)
    (C_law_row : Has P w K mg base CX0 5 "_law_row" ["pool", "nth"] (spRowD K))
    (C_law_text : Has P w K mg base CX0 16 "_law_text" ["top", "rows"] (spText K))
    (C_law_due : Has P w K mg base CX0 4 "_law_due" ["nth", "top", "text"] (spDueK K))
    (C_law_holds : Has P w K mg base CX0 26 "_law_holds" ["nth", "top", "text"] spHolds)
    (C_law_bent : Has P w K mg base CX0 4 "_law_bent" ["pool", "text"] spBent) :
    ∀ f fd, Fun K "law" "law" s_law f fd → FnOk P w K mg base CX0 27 f fd ["script"] (spLaw K) := by
  intro f fd F
  refine F.ok sc_law (fun vs H Q E h => ?_) (fun cdv A outer s H vs Q E hr h => ?_)
  · obtain ⟨a, ns, rfl, _⟩ := h; rfl
  · obtain ⟨a, ns, rfl, hS, q⟩ := h
    refine ⟨_, (pss_cons (ps_set (i := 1) sc_law.nd rfl (Or.inr rfl) (pe_has C_law_pool (hr.mono (by omega)) pass0 (pa_cons (pv 0) (pa_cons pe_int pa_nil))))
  (pss_cons (ps_set (i := 2) sc_law.nd rfl (Or.inr rfl) (pe_has C_law_draw (hr.mono (by omega)) pass0 (pa_cons (pv 1) (pa_cons pe_int pa_nil))))
  (pss_cons (ps_set (i := 3) sc_law.nd rfl (Or.inl rfl) (pe_ix (show IxR _ (rIxT K) from ix_tup) (pe_tup (pa_cons pe_str (pa_cons pe_str (pa_cons pe_str (pa_cons pe_str (pa_cons pe_str pa_nil)))))) (pv 2) (fun _ _ => rfl)))
  (pss_cons (ps_if (pt_cmpR op_eq (pv 2) pe_int (nomark _))
  (pss_one (ps_set (i := 3) sc_law.nd rfl (Or.inl rfl) (pe_has C_law_letters (hr.mono (by omega)) pass0 (pa_cons (pv 1) pa_nil))))
  pss_nil)
  (pss_cons (ps_set (i := 4) sc_law.nd rfl (Or.inl rfl) (pe_has C_law_draw (hr.mono (by omega)) pass0 (pa_cons (pv 1) (pa_cons pe_int pa_nil))))
  (pss_cons (ps_if (pt_cmpR op_eq (pe_has C_law_draw (hr.mono (by omega)) pass0 (pa_cons (pv 1) (pa_cons pe_int pa_nil))) pe_int (nomark _))
  (pss_one (ps_set (i := 4) sc_law.nd rfl (Or.inl rfl) (pe_has C_law_draw (hr.mono (by omega)) pass0 (pa_cons (pv 1) (pa_cons pe_int pa_nil)))))
  pss_nil)
  (pss_cons (ps_if (pt_cmpR op_eq (pv 2) pe_int (nomark _))
  (pss_one (ps_set (i := 4) sc_law.nd rfl (Or.inl rfl) pe_int))
  pss_nil)
  (pss_cons (ps_setLc (i := 5) (own := [("k", 12)]) (g := gName 12) (tt := tYes) rfl sc_law.nd rfl rfl (sw_true rfl rfl rfl (by decide +kernel)) (pi_range1 (by rfl) T.m_range (pa_cons (pv 4) pa_nil)) (blkOk_by (own := [("k", 12)]) (N := ["script", "pool", "nth", "top", "many", "rows", "turns", "text", "turn", "bent", "other", "top_here", "k"]) (sc := defScope s_law) (by decide +kernel)) (fun _ _ _ _ _ => (pg_name (i := 12) sc_law.nd rfl (Or.inl rfl))) (fun _ _ _ _ _ => pts_nil) (fun _ _ _ _ _ => (pe_has C_law_row (hr.mono (by omega)) pass0 (pa_cons (pv 1) (pa_cons (pv 2) pa_nil)))))
  (pss_cons (ps_set (i := 6) sc_law.nd rfl (Or.inl rfl) pe_int)
  (pss_cons (ps_if (PW.pt (pw_and (pt_cmpR op_lt (pv 2) pe_int (nomark _)) (pw_and1 (pt_cmpR op_eq (pe_has C_law_draw (hr.mono (by omega)) pass0 (pa_cons (pv 1) (pa_cons pe_int pa_nil))) pe_int (nomark _)))))
  (pss_cons (ps_set (i := 5) sc_law.nd rfl (Or.inl rfl) (pe_op op_rep (pv 5) pe_int))
  (pss_one (ps_set (i := 6) sc_law.nd rfl (Or.inl rfl) pe_int)))
  pss_nil)
  (pss_cons (ps_set (i := 7) sc_law.nd rfl (Or.inl rfl) (pe_has C_law_text (hr.mono (by omega)) pass0 (pa_cons (pv 3) (pa_cons (pv 5) pa_nil))))
  (pss_cons (ps_if (PW.pt (pw_or (pt_cmpR op_ne (pe_ix (show IxR _ (rIxT K) from ix_tup) (pe_has C_law_due (hr.mono (by omega)) pass0 (pa_cons (pv 2) (pa_cons (pv 3) (pa_cons (pv 7) pa_nil)))) pe_int (fun _ _ => rfl)) pe_str (nomark _)) (pw_or1 (pt_not (pt_val (pe_has C_law_holds (hr.mono (by omega)) pass0 (pa_cons (pv 2) (pa_cons (pv 3) (pa_cons (pv 7) pa_nil)))))))))
  (pss_one (ps_ret pe_bl))
  pss_nil)
  (pss_cons (ps_for PassesOwn.never rfl (pi_range1 (by rfl) T.m_range (pa_cons (pv 6) pa_nil)) (pg_name (i := 8) sc_law.nd rfl (Or.inl rfl))
  (pss_cons (ps_set (i := 1) sc_law.nd rfl (Or.inr rfl) (pe_has C_law_pool (hr.mono (by omega)) pass0 (pa_cons (pv 0) (pa_cons (pe_op op_add pe_int (pv 8)) pa_nil))))
  (pss_cons (ps_set (i := 9) sc_law.nd rfl (Or.inl rfl) (pe_has C_law_bent (hr.mono (by omega)) pass0 (pa_cons (pv 1) (pa_cons (pv 7) pa_nil))))
  (pss_cons (ps_if (pt_cmpR op_eq (pe_has C_law_draw (hr.mono (by omega)) pass0 (pa_cons (pv 1) (pa_cons pe_int pa_nil))) pe_int (nomark _))
  (pss_one (ps_set (i := 9) sc_law.nd rfl (Or.inl rfl) (pe_has C_law_bent (hr.mono (by omega)) pass0 (pa_cons (pv 1) (pa_cons (pv 9) pa_nil)))))
  pss_nil)
  (pss_cons (ps_set (i := 10) sc_law.nd rfl (Or.inl rfl) (pv 2))
  (pss_cons (ps_if (pt_cmpR op_eq (pe_has C_law_draw (hr.mono (by omega)) pass0 (pa_cons (pv 1) (pa_cons pe_int pa_nil))) pe_int (nomark _))
  (pss_one (ps_set (i := 10) sc_law.nd rfl (Or.inl rfl) (pe_has C_law_draw (hr.mono (by omega)) pass0 (pa_cons (pv 1) (pa_cons pe_int pa_nil)))))
  pss_nil)
  (pss_cons (ps_set (i := 11) sc_law.nd rfl (Or.inl rfl) (pv 3))
  (pss_cons (ps_if (pt_cmpR op_gt (pv 10) pe_int (nomark _))
  (pss_one (ps_set (i := 11) sc_law.nd rfl (Or.inl rfl) (pe_ix (show IxR _ (rIxT K) from ix_tup) (pe_tup (pa_cons pe_str (pa_cons pe_str (pa_cons pe_str (pa_cons pe_str pa_nil))))) (pe_op op_sub (pv 10) pe_int) (fun _ _ => rfl))))
  pss_nil)
  (pss_one (ps_if (pt_not (pt_val (pe_has C_law_holds (hr.mono (by omega)) pass0 (pa_cons (pv 10) (pa_cons (pv 11) (pa_cons (pv 9) pa_nil))))))
  (pss_one (ps_ret pe_bl))
  pss_nil))))))))))
  (pss_one (ps_ret (pe_has C_law_holds (hr.mono (by omega)) pass0 (pa_cons (pv 2) (pa_cons (pv 3) (pa_cons (pv 7) pa_nil))))))))))))))))))), ?_⟩
    have hsz := sizeLine_eq
    refine cutSeq (fun σ' H' => ∃ p : Addr, σ' = [some (.ref a), some (.ref p), none, none, none, none, none, none, none, none, none, none, none] ∧ Same H H' ∧ H p = none ∧ Pool H' p) (fun nx hn => ?_) ?_
    · exact ⟨.ref a, rfl, a, ns, 0, rfl, hS, by decide, fun H1 p s1 np hP => hn _ _ ⟨p, rfl, s1, np, hP⟩⟩
    rintro _ H1 ⟨p, rfl, s1, np, hP1⟩
    have smp : ∀ {H' : Hp}, Sv [p] H1 H' → Same H H' := fun h => Sv.nil (Sv.drop np ((Sv.same s1).trans h))
    refine cutSeq (fun σ' H' => ∃ nth : Nat, nth ≤ 4 ∧ σ' = [some (.ref a), some (.ref p), some (.int (nth : Int)), none, none, none, none, none, none, none, none, none, none] ∧ Sv [p] H1 H' ∧ Pool H' p) (fun nx hn => ?_) ?_
    · refine ⟨.ref p, rfl, p, 5, rfl, hP1, by decide, by decide, fun H2 k s2 hP2 k0 k1 => ?_⟩
      obtain ⟨n, rfl⟩ := Int.eq_ofNat_of_zero_le k0
      exact hn _ _ ⟨n, by omega, rfl, s2, hP2⟩
    rintro _ H2 ⟨nth, h4, rfl, s2, hP2⟩
    refine cutSeq (fun σ' H' => ∃ z : Str, (nth ≠ 0 → isWord z = true ∧ kindOk nth z) ∧ σ' = [some (.ref a), some (.ref p), some (.int (nth : Int)), some (.str z), none, none, none, none, none, none, none, none, none] ∧ Sv [p] H1 H' ∧ Pool H' p) (fun nx hn => ?_) ?_
    · refine ⟨by show 5 ≤ sizeLine; omega, fun t nt => ?_⟩
      have ht : (upd H2 t (.tup [.str "", .str "log", .str "run", .str "journal", .str "paper"])) t = some (.tup ((["", "log", "run", "journal", "paper"] : List Str).map V.str)) := upd_same
      obtain ⟨z, hz, e⟩ : ∃ z, (nth ≠ 0 → isWord z = true ∧ kindOk nth z) ∧ atI ((["", "log", "run", "journal", "paper"] : List Str).map V.str) (nth : Int) = some (.str z) := by
        have five : nth = 0 ∨ nth = 1 ∨ nth = 2 ∨ nth = 3 ∨ nth = 4 := by omega
        rcases five with rfl | rfl | rfl | rfl | rfl
        · exact ⟨"", fun h => absurd rfl h, atI_nat (j := 0) rfl⟩
        · exact ⟨"log", fun _ => ⟨by decide +kernel, fun _ => rfl, fun h => by omega, fun h => by omega, fun h => by omega⟩, atI_nat (j := 1) rfl⟩
        · exact ⟨"run", fun _ => ⟨by decide +kernel, fun h => by omega, fun _ => rfl, fun h => by omega, fun h => by omega⟩, atI_nat (j := 2) rfl⟩
        · exact ⟨"journal", fun _ => ⟨by decide +kernel, fun h => by omega, fun h => by omega, fun _ => rfl, fun h => by omega⟩, atI_nat (j := 3) rfl⟩
        · exact ⟨"paper", fun _ => ⟨by decide +kernel, fun h => by omega, fun h => by omega, fun h => by omega, fun _ => rfl⟩, atI_nat (j := 4) rfl⟩
      exact ⟨_, rfl, t, _, _, _, rfl, rfl, .inl (.inl ht), e, hn _ _ ⟨z, hz, rfl, s2.trans (Sv.new nt), hP2.new nt⟩⟩
    rintro _ H3 ⟨z, hz, rfl, s3, hP3⟩
    refine cutSeq (fun σ' H' => ∃ z : Str, isWord z = true ∧ kindOk nth z ∧ σ' = [some (.ref a), some (.ref p), some (.int (nth : Int)), some (.str z), none, none, none, none, none, none, none, none, none] ∧ Sv [p] H1 H' ∧ Pool H' p) (fun nx hn => ?_) ?_
    · refine ⟨_, rfl, rfl, _, rfl, nat_if (m := 0) (fun h => ?_) fun h => hn _ _ ⟨z, (hz h).1, (hz h).2, rfl, s3, hP3⟩⟩
      exact ⟨.ref p, rfl, p, rfl, hP3, fun H4 y s4 hP4 hy => hn _ _ ⟨y, hy, ⟨fun e => by omega, fun e => by omega, fun e => by omega, fun e => by omega⟩, rfl, s3.trans s4, hP4⟩⟩
    rintro _ H4 ⟨top, ht, hk, rfl, s4, hP4⟩
    refine cutSeq (fun σ' H' => ∃ m : Nat, m ≤ 25 ∧ σ' = [some (.ref a), some (.ref p), some (.int (nth : Int)), some (.str top), some (.int (m : Int)), none, none, none, none, none, none, none, none] ∧ Sv [p] H1 H' ∧ Pool H' p) (fun nx hn => ?_) ?_
    · refine ⟨.ref p, rfl, p, 7, rfl, hP4, by decide, by decide, fun H5 k s5 hP5 k0 k1 => ?_⟩
      obtain ⟨n, rfl⟩ := Int.eq_ofNat_of_zero_le k0
      exact hn _ _ ⟨n, by omega, rfl, s4.trans s5, hP5⟩
    rintro _ H5 ⟨m, hm, rfl, s5, hP5⟩
    refine cutSeq (fun σ' H' => ∃ m : Nat, m ≤ 25 ∧ σ' = [some (.ref a), some (.ref p), some (.int (nth : Int)), some (.str top), some (.int (m : Int)), none, none, none, none, none, none, none, none] ∧ Sv [p] H1 H' ∧ Pool H' p) (fun nx hn => ?_) ?_
    · refine ⟨.ref p, rfl, p, 6, rfl, hP5, by decide, by decide, fun H6 k s6 hP6 k0 k1 => ⟨rfl, _, rfl, ?_⟩⟩
      refine ite2 (fun e1 => ?_) (fun e1 => hn _ _ ⟨m, hm, rfl, s5.trans s6, hP6⟩)
      refine ⟨.ref p, rfl, p, 26, rfl, hP6, by decide, by decide, fun H7 k s7 hP7 k0 k1 => ?_⟩
      obtain ⟨n, rfl⟩ := Int.eq_ofNat_of_zero_le k0
      exact hn _ _ ⟨n, by omega, rfl, (s5.trans s6).trans s7, hP7⟩
    rintro _ H6 ⟨m2, hm2, rfl, s6, hP6⟩
    refine cutSeq (fun σ' H' => ∃ m : Nat, m ≤ 25 ∧ (nth = 4 → m = 1) ∧ σ' = [some (.ref a), some (.ref p), some (.int (nth : Int)), some (.str top), some (.int (m : Int)), none, none, none, none, none, none, none, none] ∧ Sv [p] H1 H' ∧ Pool H' p) (fun nx hn => ?_) ?_
    · refine ⟨_, rfl, rfl, _, rfl, nat_if (m := 4) (fun h => ?_) fun h => hn _ _ ⟨m2, hm2, fun e => absurd e h, rfl, s6, hP6⟩⟩
      exact hn _ _ ⟨1, by decide, fun _ => rfl, rfl, s6, hP6⟩
    rintro _ H7 ⟨m3, hm3, hm4, rfl, s7, hP7⟩
    refine cutSeq (fun σ' H' => ∃ (r : Addr) (xs : List V) (al : List (List D)), al.length = m3 ∧ RowsP nth al ∧ σ' = [some (.ref a), some (.ref p), some (.int (nth : Int)), some (.str top), some (.int (m3 : Int)), some (.ref r), none, none, none, none, none, none, none] ∧ Sv [p] H1 H' ∧ Pool H' p ∧ H' r = some (.lst xs) ∧ r ≠ p ∧ RpL K H' (al.map .tup) xs) (fun nx hn => ?_) ?_
    · refine ⟨_, rfl, m3, rfl, by omega, by omega, fun l nl => ?_⟩
      have pl : p ≠ l := (hP7.ne nl).symm
      refine lc_range (lo := 0) (n := ((m3 : Int)).toNat) (fun i H' => Sv [p, l] H7 H' ∧ Pool H' p ∧ ∃ xs al, al.length = i ∧ RowsP nth al ∧ H' l = some (.lst xs) ∧ RpL K H' (al.map .tup) xs) ⟨Sv.new nl, hP7.new nl, [], [], rfl, fun r hr => by simp at hr, upd_same, rfl⟩ (fun i H8 hi h => ?_) fun H8 h => ?_
      · obtain ⟨g1, g2, xs, al, e1, e2, e3, e4⟩ := h
        refine ⟨rfl, .ref p, rfl, _, rfl, p, nth, rfl, h4, g2, fun H9 v ds s9 hP9 rv pr => ?_⟩
        have hl9 := s9 _ _ (by simpa using pl.symm) e3
        have isl : IsL H9 l := ⟨_, hl9⟩
        refine ⟨xs, hl9, by rw [e4.len, List.length_map, e1]; omega, (g1.trans (s9.mono (by simp))).trans (Sv.set (by simp)), ?_, xs ++ [v], al ++ [ds], by rw [List.length_append, e1]; rfl, ?_, upd_same, ?_⟩
        · obtain ⟨x1, x2, x3, e⟩ := hP9
          exact ⟨x1, x2, x3, by rw [upd_ne pl]; exact e⟩
        · intro r hr
          rcases List.mem_append.mp hr with hr | hr
          · exact e2 r hr
          · have : r = ds := by simpa using hr
            exact this ▸ pr
        · rw [List.map_append]
          exact RpL.app ((e4.keep (pool_tk g2 s9)).keep (tk_set isl)) ⟨v, [], rfl, rv.keep (tk_set isl), rfl⟩
      · obtain ⟨g1, g2, xs, al, e1, e2, e3, e4⟩ := h
        exact hn _ _ ⟨l, xs, al, by rw [e1]; omega, e2, rfl, s7.trans (Sv.drop nl (g1.mono (by simp [or_comm]))), g2, e3, pl.symm, e4⟩
    rintro _ H8 ⟨r, xs, al, hal, hR, rfl, s8, hP8, hr8, rp8, rl8⟩
    refine cutSeq (fun σ' H' => σ' = [some (.ref a), some (.ref p), some (.int (nth : Int)), some (.str top), some (.int (m3 : Int)), some (.ref r), some (.int 8), none, none, none, none, none, none] ∧ H8 = H') (fun nx hn => hn _ _ ⟨rfl, rfl⟩) ?_
    rintro _ _ ⟨rfl, rfl⟩
    refine cutSeq (fun σ' H' => ∃ (r : Addr) (xs : List V) (al : List (List D)) (turns : Nat), turns ≤ 8 ∧ RowsP nth al ∧ (nth = 4 → al.length = 1) ∧ (nth < 4 → al.length ≤ 500) ∧ σ' = [some (.ref a), some (.ref p), some (.int (nth : Int)), some (.str top), some (.int (m3 : Int)), some (.ref r), some (.int (turns : Int)), none, none, none, none, none, none] ∧ Sv [p] H1 H' ∧ Pool H' p ∧ H' r = some (.lst xs) ∧ RpL K H' (al.map .tup) xs) (fun nx hn => ?_) ?_
    · have stay : ∀ {H' : Hp}, Sv [p] H8 H' → Pool H' p → nx [some (.ref a), some (.ref p), some (.int (nth : Int)), some (.str top), some (.int (m3 : Int)), some (.ref r), some (.int 8), none, none, none, none, none, none] H' := fun s hP => hn _ _ ⟨r, xs, al, 8, by decide, hR, fun e => by rw [hal]; exact hm4 e, fun _ => by omega, rfl, s8.trans s, hP, s _ _ (by simpa using rp8) hr8, rl8.keep (pool_tk hP8 s)⟩
      refine ⟨_, rfl, _, _, rfl, rfl, _, rfl, ?_⟩
      refine ite2 (fun e1 => ?_) (fun e1 => iteF (stay (Sv.refl _ _) hP8))
      refine ⟨.ref p, rfl, p, 24, rfl, hP8, by decide, by decide, fun H9 k s9 hP9 k0 k1 => ⟨rfl, _, rfl, ?_⟩⟩
      refine ite2 (fun e2 => ?_) (fun e2 => stay s9 hP9)
      have hr9 := s9 _ _ (by simpa using rp8) hr8
      have rl9 := rl8.keep (pool_tk hP8 s9)
      have lxs : xs.length = m3 := by rw [rl9.len, List.length_map, hal]
      refine cutSeq (fun σ' H' => ∃ r2 : Addr, σ' = [some (.ref a), some (.ref p), some (.int (nth : Int)), some (.str top), some (.int (m3 : Int)), some (.ref r2), some (.int 8), none, none, none, none, none, none] ∧ Sv [p] H9 H' ∧ Pool H' p ∧ H' r2 = some (.lst (List.replicate 20 xs).flatten) ∧ RpL K H' (al.map .tup) xs) (fun nx hn => ?_) ?_
      · refine ⟨.ref r, rfl, r, 20, xs, rfl, rfl, hr9, by decide, by decide, by rw [lxs]; clear hn; first | omega | (show m3 * 20 ≤ _; omega) | (have : (20:Int).toNat = 20 := rfl; omega), fun r2 n2 => ?_⟩
        exact hn _ _ ⟨r2, rfl, Sv.new n2, hP9.new n2, upd_same, rl9.keep (TK.same (Sv.nil (Sv.new n2)))⟩
      rintro _ Ha ⟨r2, rfl, sa, hPa, hra, rla⟩
      refine hn _ _ ⟨r2, _, (List.replicate 20 al).flatten, 2, by decide, fun x hx => hR x (rep_mem hx), fun e => ?_, fun _ => ?_, rfl, (s8.trans s9).trans sa, hPa, hra, ?_⟩
      · exact absurd (of_decide_eq_true e1) (by omega)
      · rw [flat_rep_len, hal]; omega
      · rw [List.map_flatten, List.map_replicate]
        exact RpL.rep rla 20
    rintro _ H9 ⟨r, xs, al, turns, htn, hR, hl4, hl500, rfl, s9, hP9, hr9, rl9⟩
    have okR := rows_okR hR
    have due := rows_due ht hR hl4
    have hsum : wsum (top :: al.map rowT) ≤ 2001000 := by
      have tl' : top.length ≤ 20 := by
        have := (word_letters ht).2.2
        rw [len_tl]; omega
      rw [wsum_cons]
      by_cases n4 : nth = 4
      · have := rows_size (nth := nth) (top := top) (n := 5000) (al := al) fun r hr => ⟨(hR r hr).1.1, (hR r hr).1.2.2⟩
        rw [hl4 n4] at this
        omega
      · have := rows_size (nth := nth) (top := top) (n := 4000) (al := al) fun r hr => ⟨(hR r hr).1.1, (hR r hr).2.1 (by omega)⟩
        have := hl500 (by omega)
        have : al.length * (4000 + 1) ≤ 500 * (4000 + 1) := Nat.mul_le_mul_right _ this
        omega
    have tlen : (wrRows top al).length ≤ 2001000 := by
      have e : (wrRows top al).length = wsum (top :: al.map rowT) := len_catnl (top :: al.map rowT)
      omega
    refine cutSeq (fun σ' H' => σ' = [some (.ref a), some (.ref p), some (.int (nth : Int)), some (.str top), some (.int (m3 : Int)), some (.ref r), some (.int (turns : Int)), some (.str (wrRows top al)), none, none, none, none, none] ∧ Same H H') (fun nx hn => ?_) ?_
    · exact ⟨_, rfl, .ref r, rfl, top, r, xs, al, rfl, ht, hr9, rl9, okR, by omega, fun H' s' => hn _ _ ⟨rfl, (smp s9).trans s'⟩⟩
    rintro _ H10 ⟨rfl, s10⟩
    generalize wrRows top al = text at *
    refine cutIfSR false (fun H' => Same H10 H') (fun Q' h' => ?_) (fun H11 s11 => iteF ?_)
    · refine ⟨_, rfl, _, rfl, .str text, rfl, nth, top, text, rfl, by omega, fun H11 u s11 ru => ?_⟩
      unfold dueD at ru
      rw [due] at ru
      obtain ⟨pu, us, rfl, su, x, ys, rfl, rfl, ry⟩ := ru
      refine ⟨pu, _, 0, _, rfl, rfl, su, atI_nat (j := 0) rfl, rfl, _, rfl, ?_⟩
      refine ifF (by decide +kernel) ?_
      exact ⟨_, rfl, _, rfl, .str text, rfl, nth, top, text, rfl, hk, h4, by omega, fun H12 s12 => ⟨_, rfl, h' _ (s11.trans s12)⟩⟩
    dsimp only [tNext]
    refine ⟨_, rfl, (turns : Int), rfl, by omega, by omega, for_range (lo := 0) (n := ((turns : Int)).toNat) (fun i σ' H' => ∃ y1 y8 y9 y10 y11, σ' = [some (.ref a), some y1, some (.int (nth : Int)), some (.str top), some (.int (m3 : Int)), some (.ref r), some (.int (turns : Int)), some (.str text), y8, y9, y10, y11, none] ∧ Same H H') ⟨_, none, none, none, none, rfl, s10.trans s11⟩ ?_ ?_⟩
    · rintro i σ' H12 hi ⟨y1, y8, y9, y10, y11, rfl, S12⟩
      have hi8 : i < 8 := by omega
      refine cutSeq (fun σ' H' => ∃ p : Addr, σ' = [some (.ref a), some (.ref p), some (.int (nth : Int)), some (.str top), some (.int (m3 : Int)), some (.ref r), some (.int (turns : Int)), some (.str text), some (.int (0 + (i : Int))), y9, y10, y11, none] ∧ Same H12 H' ∧ H12 p = none ∧ Pool H' p) (fun nx hn => ?_) ?_
      · refine ⟨.ref a, rfl, _, rfl, _, _, rfl, rfl, a, ns, 1 + i, ?_, seqL_same S12 hS, by omega, fun H13 p s13 np hP => hn _ _ ⟨p, rfl, s13, np, hP⟩⟩
        rw [show ((1 + i : Nat) : Int) = 1 + (0 + (i : Int)) by omega]
        rfl
      rintro _ H13 ⟨pp, rfl, s13, np13, hP13⟩
      have smq : ∀ {H' : Hp}, Sv [pp] H13 H' → Same H H' := fun h => S12.trans (Sv.nil (Sv.drop np13 ((Sv.same s13).trans h)))
      refine cutSeq (fun σ' H' => ∃ z : Str, z.length ≤ 4002400 ∧ σ' = [some (.ref a), some (.ref pp), some (.int (nth : Int)), some (.str top), some (.int (m3 : Int)), some (.ref r), some (.int (turns : Int)), some (.str text), some (.int (0 + (i : Int))), some (.str z), y10, y11, none] ∧ Sv [pp] H13 H' ∧ Pool H' pp) (fun nx hn => ?_) ?_
      · exact ⟨.ref pp, rfl, .str text, rfl, pp, text, rfl, hP13, by omega, fun H14 z s14 hP14 hz => hn _ _ ⟨z, by omega, rfl, s14, hP14⟩⟩
      rintro _ H14 ⟨z, hz, rfl, s14, hP14⟩
      refine cutSeq (fun σ' H' => ∃ z : Str, z.length ≤ 8500000 ∧ σ' = [some (.ref a), some (.ref pp), some (.int (nth : Int)), some (.str top), some (.int (m3 : Int)), some (.ref r), some (.int (turns : Int)), some (.str text), some (.int (0 + (i : Int))), some (.str z), y10, y11, none] ∧ Sv [pp] H13 H' ∧ Pool H' pp) (fun nx hn => ?_) ?_
      · refine ⟨.ref pp, rfl, pp, 3, rfl, hP14, by decide, by decide, fun H15 k s15 hP15 k0 k1 => ⟨rfl, _, rfl, ?_⟩⟩
        refine ite2 (fun e1 => ?_) (fun e1 => hn _ _ ⟨z, by omega, rfl, s14.trans s15, hP15⟩)
        exact ⟨.ref pp, rfl, .str z, rfl, pp, z, rfl, hP15, by omega, fun H16 y s16 hP16 hy => hn _ _ ⟨y, by omega, rfl, (s14.trans s15).trans s16, hP16⟩⟩
      rintro _ H15 ⟨z2, hz2, rfl, s15, hP15⟩
      refine cutSeq (fun σ' H' => σ' = [some (.ref a), some (.ref pp), some (.int (nth : Int)), some (.str top), some (.int (m3 : Int)), some (.ref r), some (.int (turns : Int)), some (.str text), some (.int (0 + (i : Int))), some (.str z2), some (.int (nth : Int)), y11, none] ∧ H15 = H') (fun nx hn => ⟨_, rfl, hn _ _ ⟨rfl, rfl⟩⟩) ?_
      rintro _ _ ⟨rfl, rfl⟩
      refine cutSeq (fun σ' H' => ∃ ot : Nat, ot ≤ 4 ∧ (ot = 0 → True) ∧ σ' = [some (.ref a), some (.ref pp), some (.int (nth : Int)), some (.str top), some (.int (m3 : Int)), some (.ref r), some (.int (turns : Int)), some (.str text), some (.int (0 + (i : Int))), some (.str z2), some (.int (ot : Int)), y11, none] ∧ Sv [pp] H13 H' ∧ Pool H' pp) (fun nx hn => ?_) ?_
      · refine ⟨.ref pp, rfl, pp, 5, rfl, hP15, by decide, by decide, fun H16 k s16 hP16 k0 k1 => ⟨rfl, _, rfl, ?_⟩⟩
        refine ite2 (fun e1 => ?_) (fun e1 => hn _ _ ⟨nth, h4, fun _ => trivial, rfl, s15.trans s16, hP16⟩)
        refine ⟨.ref pp, rfl, pp, 5, rfl, hP16, by decide, by decide, fun H17 k s17 hP17 k0 k1 => ?_⟩
        obtain ⟨n, rfl⟩ := Int.eq_ofNat_of_zero_le k0
        exact hn _ _ ⟨n, by omega, fun _ => trivial, rfl, (s15.trans s16).trans s17, hP17⟩
      rintro _ H16 ⟨ot, hot, _, rfl, s16, hP16⟩
      refine cutSeq (fun σ' H' => σ' = [some (.ref a), some (.ref pp), some (.int (nth : Int)), some (.str top), some (.int (m3 : Int)), some (.ref r), some (.int (turns : Int)), some (.str text), some (.int (0 + (i : Int))), some (.str z2), some (.int (ot : Int)), some (.str top), none] ∧ H16 = H') (fun nx hn => ⟨_, rfl, hn _ _ ⟨rfl, rfl⟩⟩) ?_
      rintro _ _ ⟨rfl, rfl⟩
      refine cutSeq (fun σ' H' => ∃ hd : Str, kindOk ot hd ∧ σ' = [some (.ref a), some (.ref pp), some (.int (nth : Int)), some (.str top), some (.int (m3 : Int)), some (.ref r), some (.int (turns : Int)), some (.str text), some (.int (0 + (i : Int))), some (.str z2), some (.int (ot : Int)), some (.str hd), none] ∧ Sv [pp] H13 H') (fun nx hn => ?_) ?_
      · refine ⟨_, rfl, _, _, rfl, rfl, _, rfl, ?_⟩
        refine ite2 (fun e1 => ?_) (fun e1 => ?_)
        · refine ⟨by show 4 ≤ sizeLine; omega, fun t nt => ?_⟩
          have ht : (upd H16 t (.tup [.str "log", .str "run", .str "journal", .str "paper"])) t = some (.tup (kinds4.map V.str)) := upd_same
          have o1 : (ot : Int) > 0 := of_decide_eq_true e1
          obtain ⟨hd, hk2, e⟩ : ∃ hd, kindOk ot hd ∧ atI (kinds4.map V.str) ((ot : Int) - 1) = some (.str hd) := by
            have four : ot = 1 ∨ ot = 2 ∨ ot = 3 ∨ ot = 4 := by omega
            rcases four with rfl | rfl | rfl | rfl
            · exact ⟨"log", ⟨fun _ => rfl, fun h => by omega, fun h => by omega, fun h => by omega⟩, atI_nat (j := 0) rfl⟩
            · exact ⟨"run", ⟨fun h => by omega, fun _ => rfl, fun h => by omega, fun h => by omega⟩, atI_nat (j := 1) rfl⟩
            · exact ⟨"journal", ⟨fun h => by omega, fun h => by omega, fun _ => rfl, fun h => by omega⟩, atI_nat (j := 2) rfl⟩
            · exact ⟨"paper", ⟨fun h => by omega, fun h => by omega, fun h => by omega, fun _ => rfl⟩, atI_nat (j := 3) rfl⟩
          exact ⟨_, rfl, _, _, rfl, rfl, t, _, _, _, rfl, rfl, .inl (.inl ht), e, hn _ _ ⟨hd, hk2, rfl, s16.trans (Sv.new nt)⟩⟩
        · have : ot = 0 := by
            by_cases h : ot = 0
            · exact h
            · exact absurd (decide_eq_true (show (ot : Int) > 0 by omega)) e1
          subst this
          exact hn _ _ ⟨top, ⟨fun e => by omega, fun e => by omega, fun e => by omega, fun e => by omega⟩, rfl, s16⟩
      rintro _ H17 ⟨hd, hk2, rfl, s17⟩
      refine ⟨_, rfl, _, rfl, .str z2, rfl, ot, hd, z2, rfl, hk2, hot, hz2, fun H18 s18 => ⟨_, rfl, ?_⟩⟩
      refine iteF ?_
      exact ⟨_, _, _, _, _, rfl, (smq s17).trans s18⟩
    · rintro σ' H12 ⟨y1, y8, y9, y10, y11, rfl, S12⟩
      exact ⟨_, rfl, _, rfl, .str text, rfl, nth, top, text, rfl, hk, h4, by omega, fun H13 s13 => q _ (S12.trans s13)⟩
end
end RS

namespace RS
open PySem PySem.Spec PyProof.Rows L2 TL

def p_we : Nat → Pos
  | 0 => ⟨20, 8, 20, 13⟩
  | 1 => ⟨20, 8, 20, 15⟩
  | 2 => ⟨20, 8, 20, 24⟩
  | 3 => ⟨20, 27, 20, 32⟩
  | 4 => ⟨20, 33, 20, 37⟩
  | 5 => ⟨20, 32, 20, 38⟩
  | 6 => ⟨20, 38, 20, 50⟩
  | 7 => ⟨20, 25, 20, 51⟩
  | 8 => ⟨20, 8, 20, 52⟩
  | 9 => ⟨20, 8, 20, 52⟩
  | 10 => ⟨21, 8, 21, 12⟩
  | 11 => ⟨21, 8, 21, 17⟩
  | 12 => ⟨21, 20, 21, 24⟩
  | _ => ⟨21, 8, 21, 24⟩
theorem all_of {w : World} {K : PySem.W.Frag} {h : Heap} {mg : Str → Option Value} {fa : Addr} (X : K.In h) (G : h.Ns mainGlobals mg) (hfa : mg "law" = some (.ref fa))
    {f_whole : Addr} {oc_whole kV_whole dc_whole pm_whole cd_whole ct_whole : Value} {od_whole an_whole : Option Addr} {sl_whole : Array (Option Value)}
    {f_is_row : Addr} {oc_is_row kV_is_row dc_is_row pm_is_row cd_is_row ct_is_row : Value} {od_is_row an_is_row : Option Addr} {sl_is_row : Array (Option Value)}
    {f_tokens_of : Addr} {oc_tokens_of kV_tokens_of dc_tokens_of pm_tokens_of cd_tokens_of ct_tokens_of : Value} {od_tokens_of an_tokens_of : Option Addr} {sl_tokens_of : Array (Option Value)}
    {f_write_value : Addr} {oc_write_value kV_write_value dc_write_value pm_write_value cd_write_value ct_write_value : Value} {od_write_value an_write_value : Option Addr} {sl_write_value : Array (Option Value)}
    {f_is_word : Addr} {oc_is_word kV_is_word dc_is_word pm_is_word cd_is_word ct_is_word : Value} {od_is_word an_is_word : Option Addr} {sl_is_word : Array (Option Value)}
    {f_is_number : Addr} {oc_is_number kV_is_number dc_is_number pm_is_number cd_is_number ct_is_number : Value} {od_is_number an_is_number : Option Addr} {sl_is_number : Array (Option Value)}
    {f_read_token : Addr} {oc_read_token kV_read_token dc_read_token pm_read_token cd_read_token ct_read_token : Value} {od_read_token an_read_token : Option Addr} {sl_read_token : Array (Option Value)}
    {f_read_values : Addr} {oc_read_values kV_read_values dc_read_values pm_read_values cd_read_values ct_read_values : Value} {od_read_values an_read_values : Option Addr} {sl_read_values : Array (Option Value)}
    {f_write_rows : Addr} {oc_write_rows kV_write_rows dc_write_rows pm_write_rows cd_write_rows ct_write_rows : Value} {od_write_rows an_write_rows : Option Addr} {sl_write_rows : Array (Option Value)}
    {f_read_row : Addr} {oc_read_row kV_read_row dc_read_row pm_read_row cd_read_row ct_read_row : Value} {od_read_row an_read_row : Option Addr} {sl_read_row : Array (Option Value)}
    {f_read_rows : Addr} {oc_read_rows kV_read_rows dc_read_rows pm_read_rows cd_read_rows ct_read_rows : Value} {od_read_rows an_read_rows : Option Addr} {sl_read_rows : Array (Option Value)}
    {f_begins_with_word : Addr} {oc_begins_with_word kV_begins_with_word dc_begins_with_word pm_begins_with_word cd_begins_with_word ct_begins_with_word : Value} {od_begins_with_word an_begins_with_word : Option Addr} {sl_begins_with_word : Array (Option Value)}
    {f_write_log : Addr} {oc_write_log kV_write_log dc_write_log pm_write_log cd_write_log ct_write_log : Value} {od_write_log an_write_log : Option Addr} {sl_write_log : Array (Option Value)}
    {f_read_log : Addr} {oc_read_log kV_read_log dc_read_log pm_read_log cd_read_log ct_read_log : Value} {od_read_log an_read_log : Option Addr} {sl_read_log : Array (Option Value)}
    {f_write_run : Addr} {oc_write_run kV_write_run dc_write_run pm_write_run cd_write_run ct_write_run : Value} {od_write_run an_write_run : Option Addr} {sl_write_run : Array (Option Value)}
    {f_read_run : Addr} {oc_read_run kV_read_run dc_read_run pm_read_run cd_read_run ct_read_run : Value} {od_read_run an_read_run : Option Addr} {sl_read_run : Array (Option Value)}
    {f_write_journal : Addr} {oc_write_journal kV_write_journal dc_write_journal pm_write_journal cd_write_journal ct_write_journal : Value} {od_write_journal an_write_journal : Option Addr} {sl_write_journal : Array (Option Value)}
    {f_read_journal : Addr} {oc_read_journal kV_read_journal dc_read_journal pm_read_journal cd_read_journal ct_read_journal : Value} {od_read_journal an_read_journal : Option Addr} {sl_read_journal : Array (Option Value)}
    {f_write_paper : Addr} {oc_write_paper kV_write_paper dc_write_paper pm_write_paper cd_write_paper ct_write_paper : Value} {od_write_paper an_write_paper : Option Addr} {sl_write_paper : Array (Option Value)}
    {f_read_paper : Addr} {oc_read_paper kV_read_paper dc_read_paper pm_read_paper cd_read_paper ct_read_paper : Value} {od_read_paper an_read_paper : Option Addr} {sl_read_paper : Array (Option Value)}
    {f_law_pool : Addr} {oc_law_pool kV_law_pool dc_law_pool pm_law_pool cd_law_pool ct_law_pool : Value} {od_law_pool an_law_pool : Option Addr} {sl_law_pool : Array (Option Value)}
    {f_law_draw : Addr} {oc_law_draw kV_law_draw dc_law_draw pm_law_draw cd_law_draw ct_law_draw : Value} {od_law_draw an_law_draw : Option Addr} {sl_law_draw : Array (Option Value)}
    {f_law_same : Addr} {oc_law_same kV_law_same dc_law_same pm_law_same cd_law_same ct_law_same : Value} {od_law_same an_law_same : Option Addr} {sl_law_same : Array (Option Value)}
    {f_law_write : Addr} {oc_law_write kV_law_write dc_law_write pm_law_write cd_law_write ct_law_write : Value} {od_law_write an_law_write : Option Addr} {sl_law_write : Array (Option Value)}
    {f_law_word_in : Addr} {oc_law_word_in kV_law_word_in dc_law_word_in pm_law_word_in cd_law_word_in ct_law_word_in : Value} {od_law_word_in an_law_word_in : Option Addr} {sl_law_word_in : Array (Option Value)}
    {f_law_read : Addr} {oc_law_read kV_law_read dc_law_read pm_law_read cd_law_read ct_law_read : Value} {od_law_read an_law_read : Option Addr} {sl_law_read : Array (Option Value)}
    {f_law_read_rows : Addr} {oc_law_read_rows kV_law_read_rows dc_law_read_rows pm_law_read_rows cd_law_read_rows ct_law_read_rows : Value} {od_law_read_rows an_law_read_rows : Option Addr} {sl_law_read_rows : Array (Option Value)}
    {f_law_run : Addr} {oc_law_run kV_law_run dc_law_run pm_law_run cd_law_run ct_law_run : Value} {od_law_run an_law_run : Option Addr} {sl_law_run : Array (Option Value)}
    {f_law_number : Addr} {oc_law_number kV_law_number dc_law_number pm_law_number cd_law_number ct_law_number : Value} {od_law_number an_law_number : Option Addr} {sl_law_number : Array (Option Value)}
    {f_law_letters : Addr} {oc_law_letters kV_law_letters dc_law_letters pm_law_letters cd_law_letters ct_law_letters : Value} {od_law_letters an_law_letters : Option Addr} {sl_law_letters : Array (Option Value)}
    {f_law_parts : Addr} {oc_law_parts kV_law_parts dc_law_parts pm_law_parts cd_law_parts ct_law_parts : Value} {od_law_parts an_law_parts : Option Addr} {sl_law_parts : Array (Option Value)}
    {f_law_small : Addr} {oc_law_small kV_law_small dc_law_small pm_law_small cd_law_small ct_law_small : Value} {od_law_small an_law_small : Option Addr} {sl_law_small : Array (Option Value)}
    {f_law_rising : Addr} {oc_law_rising kV_law_rising dc_law_rising pm_law_rising cd_law_rising ct_law_rising : Value} {od_law_rising an_law_rising : Option Addr} {sl_law_rising : Array (Option Value)}
    {f_law_item : Addr} {oc_law_item kV_law_item dc_law_item pm_law_item cd_law_item ct_law_item : Value} {od_law_item an_law_item : Option Addr} {sl_law_item : Array (Option Value)}
    {f_law_deed : Addr} {oc_law_deed kV_law_deed dc_law_deed pm_law_deed cd_law_deed ct_law_deed : Value} {od_law_deed an_law_deed : Option Addr} {sl_law_deed : Array (Option Value)}
    {f_law_record : Addr} {oc_law_record kV_law_record dc_law_record pm_law_record cd_law_record ct_law_record : Value} {od_law_record an_law_record : Option Addr} {sl_law_record : Array (Option Value)}
    {f_law_sheet : Addr} {oc_law_sheet kV_law_sheet dc_law_sheet pm_law_sheet cd_law_sheet ct_law_sheet : Value} {od_law_sheet an_law_sheet : Option Addr} {sl_law_sheet : Array (Option Value)}
    {f_law_row : Addr} {oc_law_row kV_law_row dc_law_row pm_law_row cd_law_row ct_law_row : Value} {od_law_row an_law_row : Option Addr} {sl_law_row : Array (Option Value)}
    {f_law_text : Addr} {oc_law_text kV_law_text dc_law_text pm_law_text cd_law_text ct_law_text : Value} {od_law_text an_law_text : Option Addr} {sl_law_text : Array (Option Value)}
    {f_law_sign : Addr} {oc_law_sign kV_law_sign dc_law_sign pm_law_sign cd_law_sign ct_law_sign : Value} {od_law_sign an_law_sign : Option Addr} {sl_law_sign : Array (Option Value)}
    {f_law_token : Addr} {oc_law_token kV_law_token dc_law_token pm_law_token cd_law_token ct_law_token : Value} {od_law_token an_law_token : Option Addr} {sl_law_token : Array (Option Value)}
    {f_law_bent : Addr} {oc_law_bent kV_law_bent dc_law_bent pm_law_bent cd_law_bent ct_law_bent : Value} {od_law_bent an_law_bent : Option Addr} {sl_law_bent : Array (Option Value)}
    {f_law_due : Addr} {oc_law_due kV_law_due dc_law_due pm_law_due cd_law_due ct_law_due : Value} {od_law_due an_law_due : Option Addr} {sl_law_due : Array (Option Value)}
    {f_law_ask : Addr} {oc_law_ask kV_law_ask dc_law_ask pm_law_ask cd_law_ask ct_law_ask : Value} {od_law_ask an_law_ask : Option Addr} {sl_law_ask : Array (Option Value)}
    {f_law_back : Addr} {oc_law_back kV_law_back dc_law_back pm_law_back cd_law_back ct_law_back : Value} {od_law_back an_law_back : Option Addr} {sl_law_back : Array (Option Value)}
    {f_law_told : Addr} {oc_law_told kV_law_told dc_law_told pm_law_told cd_law_told ct_law_told : Value} {od_law_told an_law_told : Option Addr} {sl_law_told : Array (Option Value)}
    {f_law_marks : Addr} {oc_law_marks kV_law_marks dc_law_marks pm_law_marks cd_law_marks ct_law_marks : Value} {od_law_marks an_law_marks : Option Addr} {sl_law_marks : Array (Option Value)}
    {f_law_holds : Addr} {oc_law_holds kV_law_holds dc_law_holds pm_law_holds cd_law_holds ct_law_holds : Value} {od_law_holds an_law_holds : Option Addr} {sl_law_holds : Array (Option Value)}
    {f_law : Addr} {oc_law kV_law dc_law pm_law cd_law ct_law : Value} {od_law an_law : Option Addr} {sl_law : Array (Option Value)}
    {t1 : Tok}
    {t2 : Tok}
    {t3 : Tok}
    {t4 : Tok}
    {t5 : Tok}
    {t6 : Tok}
    {R : Addr}
    {C : Addr}
    {Bk : Addr}
    {De : Addr}
    {Qu : Addr}
    {Tm : Addr}
    {fI : Addr} {nm_we q_we : Str} {N_we : Addr} {bs_we bm_we : List Value} {sn_we : List Str} {sub_we : List Value} {ab_we : Bool} {col_we : Option Bool} {dd_we : Option Addr} {x0_we x1_we x2_we x3_we x5_we : Option Value} {oc_we dc_we pm_we ct_we : Value} {od_we an_we : Option Addr} {sl_we : Array (Option Value)} {cda_we cc_we : Addr} {ccl_we : Value} {cdd_we : Option Addr} {vs_we : Array Value} {ccs_we : Array (Option Value)} {tf_we : Tok} {cl_we : Value} {cld_we : Option Addr} {csl_we : Array (Option Value)}
    (a_whole : PySem.W.nsIn K mainGlobals "whole" = some (some (.ref f_whole))) (l_whole : K.lookup f_whole = some ⟨oc_whole, od_whole, .func (PySem.W.fnOf "whole" "whole" (defArgs s_whole) (defBody s_whole) (defScope s_whole) .none kV_whole dc_whole pm_whole an_whole cd_whole ct_whole), sl_whole⟩) (c_whole : PySem.W.codeIn K cd_whole "whole" = true) (k_whole : PySem.W.keepIn K (.ref f_whole) = true)
    (a_is_row : PySem.W.nsIn K mainGlobals "is_row" = some (some (.ref f_is_row))) (l_is_row : K.lookup f_is_row = some ⟨oc_is_row, od_is_row, .func (PySem.W.fnOf "is_row" "is_row" (defArgs s_is_row) (defBody s_is_row) (defScope s_is_row) .none kV_is_row dc_is_row pm_is_row an_is_row cd_is_row ct_is_row), sl_is_row⟩) (c_is_row : PySem.W.codeIn K cd_is_row "is_row" = true) (k_is_row : PySem.W.keepIn K (.ref f_is_row) = true)
    (a_tokens_of : PySem.W.nsIn K mainGlobals "tokens_of" = some (some (.ref f_tokens_of))) (l_tokens_of : K.lookup f_tokens_of = some ⟨oc_tokens_of, od_tokens_of, .func (PySem.W.fnOf "tokens_of" "tokens_of" (defArgs s_tokens_of) (defBody s_tokens_of) (defScope s_tokens_of) .none kV_tokens_of dc_tokens_of pm_tokens_of an_tokens_of cd_tokens_of ct_tokens_of), sl_tokens_of⟩) (c_tokens_of : PySem.W.codeIn K cd_tokens_of "tokens_of" = true) (k_tokens_of : PySem.W.keepIn K (.ref f_tokens_of) = true)
    (a_write_value : PySem.W.nsIn K mainGlobals "write_value" = some (some (.ref f_write_value))) (l_write_value : K.lookup f_write_value = some ⟨oc_write_value, od_write_value, .func (PySem.W.fnOf "write_value" "write_value" (defArgs s_write_value) (defBody s_write_value) (defScope s_write_value) .none kV_write_value dc_write_value pm_write_value an_write_value cd_write_value ct_write_value), sl_write_value⟩) (c_write_value : PySem.W.codeIn K cd_write_value "write_value" = true) (k_write_value : PySem.W.keepIn K (.ref f_write_value) = true)
    (a_is_word : PySem.W.nsIn K mainGlobals "is_word" = some (some (.ref f_is_word))) (l_is_word : K.lookup f_is_word = some ⟨oc_is_word, od_is_word, .func (PySem.W.fnOf "is_word" "is_word" (defArgs s_is_word) (defBody s_is_word) (defScope s_is_word) .none kV_is_word dc_is_word pm_is_word an_is_word cd_is_word ct_is_word), sl_is_word⟩) (c_is_word : PySem.W.codeIn K cd_is_word "is_word" = true) (k_is_word : PySem.W.keepIn K (.ref f_is_word) = true)
    (a_is_number : PySem.W.nsIn K mainGlobals "is_number" = some (some (.ref f_is_number))) (l_is_number : K.lookup f_is_number = some ⟨oc_is_number, od_is_number, .func (PySem.W.fnOf "is_number" "is_number" (defArgs s_is_number) (defBody s_is_number) (defScope s_is_number) .none kV_is_number dc_is_number pm_is_number an_is_number cd_is_number ct_is_number), sl_is_number⟩) (c_is_number : PySem.W.codeIn K cd_is_number "is_number" = true) (k_is_number : PySem.W.keepIn K (.ref f_is_number) = true)
    (a_read_token : PySem.W.nsIn K mainGlobals "read_token" = some (some (.ref f_read_token))) (l_read_token : K.lookup f_read_token = some ⟨oc_read_token, od_read_token, .func (PySem.W.fnOf "read_token" "read_token" (defArgs s_read_token) (defBody s_read_token) (defScope s_read_token) .none kV_read_token dc_read_token pm_read_token an_read_token cd_read_token ct_read_token), sl_read_token⟩) (c_read_token : PySem.W.codeIn K cd_read_token "read_token" = true) (k_read_token : PySem.W.keepIn K (.ref f_read_token) = true)
    (a_read_values : PySem.W.nsIn K mainGlobals "read_values" = some (some (.ref f_read_values))) (l_read_values : K.lookup f_read_values = some ⟨oc_read_values, od_read_values, .func (PySem.W.fnOf "read_values" "read_values" (defArgs s_read_values) (defBody s_read_values) (defScope s_read_values) .none kV_read_values dc_read_values pm_read_values an_read_values cd_read_values ct_read_values), sl_read_values⟩) (c_read_values : PySem.W.codeIn K cd_read_values "read_values" = true) (k_read_values : PySem.W.keepIn K (.ref f_read_values) = true)
    (a_write_rows : PySem.W.nsIn K mainGlobals "write_rows" = some (some (.ref f_write_rows))) (l_write_rows : K.lookup f_write_rows = some ⟨oc_write_rows, od_write_rows, .func (PySem.W.fnOf "write_rows" "write_rows" (defArgs s_write_rows) (defBody s_write_rows) (defScope s_write_rows) .none kV_write_rows dc_write_rows pm_write_rows an_write_rows cd_write_rows ct_write_rows), sl_write_rows⟩) (c_write_rows : PySem.W.codeIn K cd_write_rows "write_rows" = true) (k_write_rows : PySem.W.keepIn K (.ref f_write_rows) = true)
    (a_read_row : PySem.W.nsIn K mainGlobals "read_row" = some (some (.ref f_read_row))) (l_read_row : K.lookup f_read_row = some ⟨oc_read_row, od_read_row, .func (PySem.W.fnOf "read_row" "read_row" (defArgs s_read_row) (defBody s_read_row) (defScope s_read_row) .none kV_read_row dc_read_row pm_read_row an_read_row cd_read_row ct_read_row), sl_read_row⟩) (c_read_row : PySem.W.codeIn K cd_read_row "read_row" = true) (k_read_row : PySem.W.keepIn K (.ref f_read_row) = true)
    (a_read_rows : PySem.W.nsIn K mainGlobals "read_rows" = some (some (.ref f_read_rows))) (l_read_rows : K.lookup f_read_rows = some ⟨oc_read_rows, od_read_rows, .func (PySem.W.fnOf "read_rows" "read_rows" (defArgs s_read_rows) (defBody s_read_rows) (defScope s_read_rows) .none kV_read_rows dc_read_rows pm_read_rows an_read_rows cd_read_rows ct_read_rows), sl_read_rows⟩) (c_read_rows : PySem.W.codeIn K cd_read_rows "read_rows" = true) (k_read_rows : PySem.W.keepIn K (.ref f_read_rows) = true)
    (a_begins_with_word : PySem.W.nsIn K mainGlobals "begins_with_word" = some (some (.ref f_begins_with_word))) (l_begins_with_word : K.lookup f_begins_with_word = some ⟨oc_begins_with_word, od_begins_with_word, .func (PySem.W.fnOf "begins_with_word" "begins_with_word" (defArgs s_begins_with_word) (defBody s_begins_with_word) (defScope s_begins_with_word) .none kV_begins_with_word dc_begins_with_word pm_begins_with_word an_begins_with_word cd_begins_with_word ct_begins_with_word), sl_begins_with_word⟩) (c_begins_with_word : PySem.W.codeIn K cd_begins_with_word "begins_with_word" = true) (k_begins_with_word : PySem.W.keepIn K (.ref f_begins_with_word) = true)
    (a_write_log : PySem.W.nsIn K mainGlobals "write_log" = some (some (.ref f_write_log))) (l_write_log : K.lookup f_write_log = some ⟨oc_write_log, od_write_log, .func (PySem.W.fnOf "write_log" "write_log" (defArgs s_write_log) (defBody s_write_log) (defScope s_write_log) .none kV_write_log dc_write_log pm_write_log an_write_log cd_write_log ct_write_log), sl_write_log⟩) (c_write_log : PySem.W.codeIn K cd_write_log "write_log" = true) (k_write_log : PySem.W.keepIn K (.ref f_write_log) = true)
    (a_read_log : PySem.W.nsIn K mainGlobals "read_log" = some (some (.ref f_read_log))) (l_read_log : K.lookup f_read_log = some ⟨oc_read_log, od_read_log, .func (PySem.W.fnOf "read_log" "read_log" (defArgs s_read_log) (defBody s_read_log) (defScope s_read_log) .none kV_read_log dc_read_log pm_read_log an_read_log cd_read_log ct_read_log), sl_read_log⟩) (c_read_log : PySem.W.codeIn K cd_read_log "read_log" = true) (k_read_log : PySem.W.keepIn K (.ref f_read_log) = true)
    (a_write_run : PySem.W.nsIn K mainGlobals "write_run" = some (some (.ref f_write_run))) (l_write_run : K.lookup f_write_run = some ⟨oc_write_run, od_write_run, .func (PySem.W.fnOf "write_run" "write_run" (defArgs s_write_run) (defBody s_write_run) (defScope s_write_run) .none kV_write_run dc_write_run pm_write_run an_write_run cd_write_run ct_write_run), sl_write_run⟩) (c_write_run : PySem.W.codeIn K cd_write_run "write_run" = true) (k_write_run : PySem.W.keepIn K (.ref f_write_run) = true)
    (a_read_run : PySem.W.nsIn K mainGlobals "read_run" = some (some (.ref f_read_run))) (l_read_run : K.lookup f_read_run = some ⟨oc_read_run, od_read_run, .func (PySem.W.fnOf "read_run" "read_run" (defArgs s_read_run) (defBody s_read_run) (defScope s_read_run) .none kV_read_run dc_read_run pm_read_run an_read_run cd_read_run ct_read_run), sl_read_run⟩) (c_read_run : PySem.W.codeIn K cd_read_run "read_run" = true) (k_read_run : PySem.W.keepIn K (.ref f_read_run) = true)
    (a_write_journal : PySem.W.nsIn K mainGlobals "write_journal" = some (some (.ref f_write_journal))) (l_write_journal : K.lookup f_write_journal = some ⟨oc_write_journal, od_write_journal, .func (PySem.W.fnOf "write_journal" "write_journal" (defArgs s_write_journal) (defBody s_write_journal) (defScope s_write_journal) .none kV_write_journal dc_write_journal pm_write_journal an_write_journal cd_write_journal ct_write_journal), sl_write_journal⟩) (c_write_journal : PySem.W.codeIn K cd_write_journal "write_journal" = true) (k_write_journal : PySem.W.keepIn K (.ref f_write_journal) = true)
    (a_read_journal : PySem.W.nsIn K mainGlobals "read_journal" = some (some (.ref f_read_journal))) (l_read_journal : K.lookup f_read_journal = some ⟨oc_read_journal, od_read_journal, .func (PySem.W.fnOf "read_journal" "read_journal" (defArgs s_read_journal) (defBody s_read_journal) (defScope s_read_journal) .none kV_read_journal dc_read_journal pm_read_journal an_read_journal cd_read_journal ct_read_journal), sl_read_journal⟩) (c_read_journal : PySem.W.codeIn K cd_read_journal "read_journal" = true) (k_read_journal : PySem.W.keepIn K (.ref f_read_journal) = true)
    (a_write_paper : PySem.W.nsIn K mainGlobals "write_paper" = some (some (.ref f_write_paper))) (l_write_paper : K.lookup f_write_paper = some ⟨oc_write_paper, od_write_paper, .func (PySem.W.fnOf "write_paper" "write_paper" (defArgs s_write_paper) (defBody s_write_paper) (defScope s_write_paper) .none kV_write_paper dc_write_paper pm_write_paper an_write_paper cd_write_paper ct_write_paper), sl_write_paper⟩) (c_write_paper : PySem.W.codeIn K cd_write_paper "write_paper" = true) (k_write_paper : PySem.W.keepIn K (.ref f_write_paper) = true)
    (a_read_paper : PySem.W.nsIn K mainGlobals "read_paper" = some (some (.ref f_read_paper))) (l_read_paper : K.lookup f_read_paper = some ⟨oc_read_paper, od_read_paper, .func (PySem.W.fnOf "read_paper" "read_paper" (defArgs s_read_paper) (defBody s_read_paper) (defScope s_read_paper) .none kV_read_paper dc_read_paper pm_read_paper an_read_paper cd_read_paper ct_read_paper), sl_read_paper⟩) (c_read_paper : PySem.W.codeIn K cd_read_paper "read_paper" = true) (k_read_paper : PySem.W.keepIn K (.ref f_read_paper) = true)
    (a_law_pool : PySem.W.nsIn K mainGlobals "_law_pool" = some (some (.ref f_law_pool))) (l_law_pool : K.lookup f_law_pool = some ⟨oc_law_pool, od_law_pool, .func (PySem.W.fnOf "_law_pool" "_law_pool" (defArgs s_law_pool) (defBody s_law_pool) (defScope s_law_pool) .none kV_law_pool dc_law_pool pm_law_pool an_law_pool cd_law_pool ct_law_pool), sl_law_pool⟩) (c_law_pool : PySem.W.codeIn K cd_law_pool "_law_pool" = true) (k_law_pool : PySem.W.keepIn K (.ref f_law_pool) = true)
    (a_law_draw : PySem.W.nsIn K mainGlobals "_law_draw" = some (some (.ref f_law_draw))) (l_law_draw : K.lookup f_law_draw = some ⟨oc_law_draw, od_law_draw, .func (PySem.W.fnOf "_law_draw" "_law_draw" (defArgs s_law_draw) (defBody s_law_draw) (defScope s_law_draw) .none kV_law_draw dc_law_draw pm_law_draw an_law_draw cd_law_draw ct_law_draw), sl_law_draw⟩) (c_law_draw : PySem.W.codeIn K cd_law_draw "_law_draw" = true) (k_law_draw : PySem.W.keepIn K (.ref f_law_draw) = true)
    (a_law_same : PySem.W.nsIn K mainGlobals "_law_same" = some (some (.ref f_law_same))) (l_law_same : K.lookup f_law_same = some ⟨oc_law_same, od_law_same, .func (PySem.W.fnOf "_law_same" "_law_same" (defArgs s_law_same) (defBody s_law_same) (defScope s_law_same) .none kV_law_same dc_law_same pm_law_same an_law_same cd_law_same ct_law_same), sl_law_same⟩) (c_law_same : PySem.W.codeIn K cd_law_same "_law_same" = true) (k_law_same : PySem.W.keepIn K (.ref f_law_same) = true)
    (a_law_write : PySem.W.nsIn K mainGlobals "_law_write" = some (some (.ref f_law_write))) (l_law_write : K.lookup f_law_write = some ⟨oc_law_write, od_law_write, .func (PySem.W.fnOf "_law_write" "_law_write" (defArgs s_law_write) (defBody s_law_write) (defScope s_law_write) .none kV_law_write dc_law_write pm_law_write an_law_write cd_law_write ct_law_write), sl_law_write⟩) (c_law_write : PySem.W.codeIn K cd_law_write "_law_write" = true) (k_law_write : PySem.W.keepIn K (.ref f_law_write) = true)
    (a_law_word_in : PySem.W.nsIn K mainGlobals "_law_word_in" = some (some (.ref f_law_word_in))) (l_law_word_in : K.lookup f_law_word_in = some ⟨oc_law_word_in, od_law_word_in, .func (PySem.W.fnOf "_law_word_in" "_law_word_in" (defArgs s_law_word_in) (defBody s_law_word_in) (defScope s_law_word_in) .none kV_law_word_in dc_law_word_in pm_law_word_in an_law_word_in cd_law_word_in ct_law_word_in), sl_law_word_in⟩) (c_law_word_in : PySem.W.codeIn K cd_law_word_in "_law_word_in" = true) (k_law_word_in : PySem.W.keepIn K (.ref f_law_word_in) = true)
    (a_law_read : PySem.W.nsIn K mainGlobals "_law_read" = some (some (.ref f_law_read))) (l_law_read : K.lookup f_law_read = some ⟨oc_law_read, od_law_read, .func (PySem.W.fnOf "_law_read" "_law_read" (defArgs s_law_read) (defBody s_law_read) (defScope s_law_read) .none kV_law_read dc_law_read pm_law_read an_law_read cd_law_read ct_law_read), sl_law_read⟩) (c_law_read : PySem.W.codeIn K cd_law_read "_law_read" = true) (k_law_read : PySem.W.keepIn K (.ref f_law_read) = true)
    (a_law_read_rows : PySem.W.nsIn K mainGlobals "_law_read_rows" = some (some (.ref f_law_read_rows))) (l_law_read_rows : K.lookup f_law_read_rows = some ⟨oc_law_read_rows, od_law_read_rows, .func (PySem.W.fnOf "_law_read_rows" "_law_read_rows" (defArgs s_law_read_rows) (defBody s_law_read_rows) (defScope s_law_read_rows) .none kV_law_read_rows dc_law_read_rows pm_law_read_rows an_law_read_rows cd_law_read_rows ct_law_read_rows), sl_law_read_rows⟩) (c_law_read_rows : PySem.W.codeIn K cd_law_read_rows "_law_read_rows" = true) (k_law_read_rows : PySem.W.keepIn K (.ref f_law_read_rows) = true)
    (a_law_run : PySem.W.nsIn K mainGlobals "_law_run" = some (some (.ref f_law_run))) (l_law_run : K.lookup f_law_run = some ⟨oc_law_run, od_law_run, .func (PySem.W.fnOf "_law_run" "_law_run" (defArgs s_law_run) (defBody s_law_run) (defScope s_law_run) .none kV_law_run dc_law_run pm_law_run an_law_run cd_law_run ct_law_run), sl_law_run⟩) (c_law_run : PySem.W.codeIn K cd_law_run "_law_run" = true) (k_law_run : PySem.W.keepIn K (.ref f_law_run) = true)
    (a_law_number : PySem.W.nsIn K mainGlobals "_law_number" = some (some (.ref f_law_number))) (l_law_number : K.lookup f_law_number = some ⟨oc_law_number, od_law_number, .func (PySem.W.fnOf "_law_number" "_law_number" (defArgs s_law_number) (defBody s_law_number) (defScope s_law_number) .none kV_law_number dc_law_number pm_law_number an_law_number cd_law_number ct_law_number), sl_law_number⟩) (c_law_number : PySem.W.codeIn K cd_law_number "_law_number" = true) (k_law_number : PySem.W.keepIn K (.ref f_law_number) = true)
    (a_law_letters : PySem.W.nsIn K mainGlobals "_law_letters" = some (some (.ref f_law_letters))) (l_law_letters : K.lookup f_law_letters = some ⟨oc_law_letters, od_law_letters, .func (PySem.W.fnOf "_law_letters" "_law_letters" (defArgs s_law_letters) (defBody s_law_letters) (defScope s_law_letters) .none kV_law_letters dc_law_letters pm_law_letters an_law_letters cd_law_letters ct_law_letters), sl_law_letters⟩) (c_law_letters : PySem.W.codeIn K cd_law_letters "_law_letters" = true) (k_law_letters : PySem.W.keepIn K (.ref f_law_letters) = true)
    (a_law_parts : PySem.W.nsIn K mainGlobals "_law_parts" = some (some (.ref f_law_parts))) (l_law_parts : K.lookup f_law_parts = some ⟨oc_law_parts, od_law_parts, .func (PySem.W.fnOf "_law_parts" "_law_parts" (defArgs s_law_parts) (defBody s_law_parts) (defScope s_law_parts) .none kV_law_parts dc_law_parts pm_law_parts an_law_parts cd_law_parts ct_law_parts), sl_law_parts⟩) (c_law_parts : PySem.W.codeIn K cd_law_parts "_law_parts" = true) (k_law_parts : PySem.W.keepIn K (.ref f_law_parts) = true)
    (a_law_small : PySem.W.nsIn K mainGlobals "_law_small" = some (some (.ref f_law_small))) (l_law_small : K.lookup f_law_small = some ⟨oc_law_small, od_law_small, .func (PySem.W.fnOf "_law_small" "_law_small" (defArgs s_law_small) (defBody s_law_small) (defScope s_law_small) .none kV_law_small dc_law_small pm_law_small an_law_small cd_law_small ct_law_small), sl_law_small⟩) (c_law_small : PySem.W.codeIn K cd_law_small "_law_small" = true) (k_law_small : PySem.W.keepIn K (.ref f_law_small) = true)
    (a_law_rising : PySem.W.nsIn K mainGlobals "_law_rising" = some (some (.ref f_law_rising))) (l_law_rising : K.lookup f_law_rising = some ⟨oc_law_rising, od_law_rising, .func (PySem.W.fnOf "_law_rising" "_law_rising" (defArgs s_law_rising) (defBody s_law_rising) (defScope s_law_rising) .none kV_law_rising dc_law_rising pm_law_rising an_law_rising cd_law_rising ct_law_rising), sl_law_rising⟩) (c_law_rising : PySem.W.codeIn K cd_law_rising "_law_rising" = true) (k_law_rising : PySem.W.keepIn K (.ref f_law_rising) = true)
    (a_law_item : PySem.W.nsIn K mainGlobals "_law_item" = some (some (.ref f_law_item))) (l_law_item : K.lookup f_law_item = some ⟨oc_law_item, od_law_item, .func (PySem.W.fnOf "_law_item" "_law_item" (defArgs s_law_item) (defBody s_law_item) (defScope s_law_item) .none kV_law_item dc_law_item pm_law_item an_law_item cd_law_item ct_law_item), sl_law_item⟩) (c_law_item : PySem.W.codeIn K cd_law_item "_law_item" = true) (k_law_item : PySem.W.keepIn K (.ref f_law_item) = true)
    (a_law_deed : PySem.W.nsIn K mainGlobals "_law_deed" = some (some (.ref f_law_deed))) (l_law_deed : K.lookup f_law_deed = some ⟨oc_law_deed, od_law_deed, .func (PySem.W.fnOf "_law_deed" "_law_deed" (defArgs s_law_deed) (defBody s_law_deed) (defScope s_law_deed) .none kV_law_deed dc_law_deed pm_law_deed an_law_deed cd_law_deed ct_law_deed), sl_law_deed⟩) (c_law_deed : PySem.W.codeIn K cd_law_deed "_law_deed" = true) (k_law_deed : PySem.W.keepIn K (.ref f_law_deed) = true)
    (a_law_record : PySem.W.nsIn K mainGlobals "_law_record" = some (some (.ref f_law_record))) (l_law_record : K.lookup f_law_record = some ⟨oc_law_record, od_law_record, .func (PySem.W.fnOf "_law_record" "_law_record" (defArgs s_law_record) (defBody s_law_record) (defScope s_law_record) .none kV_law_record dc_law_record pm_law_record an_law_record cd_law_record ct_law_record), sl_law_record⟩) (c_law_record : PySem.W.codeIn K cd_law_record "_law_record" = true) (k_law_record : PySem.W.keepIn K (.ref f_law_record) = true)
    (a_law_sheet : PySem.W.nsIn K mainGlobals "_law_sheet" = some (some (.ref f_law_sheet))) (l_law_sheet : K.lookup f_law_sheet = some ⟨oc_law_sheet, od_law_sheet, .func (PySem.W.fnOf "_law_sheet" "_law_sheet" (defArgs s_law_sheet) (defBody s_law_sheet) (defScope s_law_sheet) .none kV_law_sheet dc_law_sheet pm_law_sheet an_law_sheet cd_law_sheet ct_law_sheet), sl_law_sheet⟩) (c_law_sheet : PySem.W.codeIn K cd_law_sheet "_law_sheet" = true) (k_law_sheet : PySem.W.keepIn K (.ref f_law_sheet) = true)
    (a_law_row : PySem.W.nsIn K mainGlobals "_law_row" = some (some (.ref f_law_row))) (l_law_row : K.lookup f_law_row = some ⟨oc_law_row, od_law_row, .func (PySem.W.fnOf "_law_row" "_law_row" (defArgs s_law_row) (defBody s_law_row) (defScope s_law_row) .none kV_law_row dc_law_row pm_law_row an_law_row cd_law_row ct_law_row), sl_law_row⟩) (c_law_row : PySem.W.codeIn K cd_law_row "_law_row" = true) (k_law_row : PySem.W.keepIn K (.ref f_law_row) = true)
    (a_law_text : PySem.W.nsIn K mainGlobals "_law_text" = some (some (.ref f_law_text))) (l_law_text : K.lookup f_law_text = some ⟨oc_law_text, od_law_text, .func (PySem.W.fnOf "_law_text" "_law_text" (defArgs s_law_text) (defBody s_law_text) (defScope s_law_text) .none kV_law_text dc_law_text pm_law_text an_law_text cd_law_text ct_law_text), sl_law_text⟩) (c_law_text : PySem.W.codeIn K cd_law_text "_law_text" = true) (k_law_text : PySem.W.keepIn K (.ref f_law_text) = true)
    (a_law_sign : PySem.W.nsIn K mainGlobals "_law_sign" = some (some (.ref f_law_sign))) (l_law_sign : K.lookup f_law_sign = some ⟨oc_law_sign, od_law_sign, .func (PySem.W.fnOf "_law_sign" "_law_sign" (defArgs s_law_sign) (defBody s_law_sign) (defScope s_law_sign) .none kV_law_sign dc_law_sign pm_law_sign an_law_sign cd_law_sign ct_law_sign), sl_law_sign⟩) (c_law_sign : PySem.W.codeIn K cd_law_sign "_law_sign" = true) (k_law_sign : PySem.W.keepIn K (.ref f_law_sign) = true)
    (a_law_token : PySem.W.nsIn K mainGlobals "_law_token" = some (some (.ref f_law_token))) (l_law_token : K.lookup f_law_token = some ⟨oc_law_token, od_law_token, .func (PySem.W.fnOf "_law_token" "_law_token" (defArgs s_law_token) (defBody s_law_token) (defScope s_law_token) .none kV_law_token dc_law_token pm_law_token an_law_token cd_law_token ct_law_token), sl_law_token⟩) (c_law_token : PySem.W.codeIn K cd_law_token "_law_token" = true) (k_law_token : PySem.W.keepIn K (.ref f_law_token) = true)
    (a_law_bent : PySem.W.nsIn K mainGlobals "_law_bent" = some (some (.ref f_law_bent))) (l_law_bent : K.lookup f_law_bent = some ⟨oc_law_bent, od_law_bent, .func (PySem.W.fnOf "_law_bent" "_law_bent" (defArgs s_law_bent) (defBody s_law_bent) (defScope s_law_bent) .none kV_law_bent dc_law_bent pm_law_bent an_law_bent cd_law_bent ct_law_bent), sl_law_bent⟩) (c_law_bent : PySem.W.codeIn K cd_law_bent "_law_bent" = true) (k_law_bent : PySem.W.keepIn K (.ref f_law_bent) = true)
    (a_law_due : PySem.W.nsIn K mainGlobals "_law_due" = some (some (.ref f_law_due))) (l_law_due : K.lookup f_law_due = some ⟨oc_law_due, od_law_due, .func (PySem.W.fnOf "_law_due" "_law_due" (defArgs s_law_due) (defBody s_law_due) (defScope s_law_due) .none kV_law_due dc_law_due pm_law_due an_law_due cd_law_due ct_law_due), sl_law_due⟩) (c_law_due : PySem.W.codeIn K cd_law_due "_law_due" = true) (k_law_due : PySem.W.keepIn K (.ref f_law_due) = true)
    (a_law_ask : PySem.W.nsIn K mainGlobals "_law_ask" = some (some (.ref f_law_ask))) (l_law_ask : K.lookup f_law_ask = some ⟨oc_law_ask, od_law_ask, .func (PySem.W.fnOf "_law_ask" "_law_ask" (defArgs s_law_ask) (defBody s_law_ask) (defScope s_law_ask) .none kV_law_ask dc_law_ask pm_law_ask an_law_ask cd_law_ask ct_law_ask), sl_law_ask⟩) (c_law_ask : PySem.W.codeIn K cd_law_ask "_law_ask" = true) (k_law_ask : PySem.W.keepIn K (.ref f_law_ask) = true)
    (a_law_back : PySem.W.nsIn K mainGlobals "_law_back" = some (some (.ref f_law_back))) (l_law_back : K.lookup f_law_back = some ⟨oc_law_back, od_law_back, .func (PySem.W.fnOf "_law_back" "_law_back" (defArgs s_law_back) (defBody s_law_back) (defScope s_law_back) .none kV_law_back dc_law_back pm_law_back an_law_back cd_law_back ct_law_back), sl_law_back⟩) (c_law_back : PySem.W.codeIn K cd_law_back "_law_back" = true) (k_law_back : PySem.W.keepIn K (.ref f_law_back) = true)
    (a_law_told : PySem.W.nsIn K mainGlobals "_law_told" = some (some (.ref f_law_told))) (l_law_told : K.lookup f_law_told = some ⟨oc_law_told, od_law_told, .func (PySem.W.fnOf "_law_told" "_law_told" (defArgs s_law_told) (defBody s_law_told) (defScope s_law_told) .none kV_law_told dc_law_told pm_law_told an_law_told cd_law_told ct_law_told), sl_law_told⟩) (c_law_told : PySem.W.codeIn K cd_law_told "_law_told" = true) (k_law_told : PySem.W.keepIn K (.ref f_law_told) = true)
    (a_law_marks : PySem.W.nsIn K mainGlobals "_law_marks" = some (some (.ref f_law_marks))) (l_law_marks : K.lookup f_law_marks = some ⟨oc_law_marks, od_law_marks, .func (PySem.W.fnOf "_law_marks" "_law_marks" (defArgs s_law_marks) (defBody s_law_marks) (defScope s_law_marks) .none kV_law_marks dc_law_marks pm_law_marks an_law_marks cd_law_marks ct_law_marks), sl_law_marks⟩) (c_law_marks : PySem.W.codeIn K cd_law_marks "_law_marks" = true) (k_law_marks : PySem.W.keepIn K (.ref f_law_marks) = true)
    (a_law_holds : PySem.W.nsIn K mainGlobals "_law_holds" = some (some (.ref f_law_holds))) (l_law_holds : K.lookup f_law_holds = some ⟨oc_law_holds, od_law_holds, .func (PySem.W.fnOf "_law_holds" "_law_holds" (defArgs s_law_holds) (defBody s_law_holds) (defScope s_law_holds) .none kV_law_holds dc_law_holds pm_law_holds an_law_holds cd_law_holds ct_law_holds), sl_law_holds⟩) (c_law_holds : PySem.W.codeIn K cd_law_holds "_law_holds" = true) (k_law_holds : PySem.W.keepIn K (.ref f_law_holds) = true)
    (a_law : PySem.W.nsIn K mainGlobals "law" = some (some (.ref f_law))) (l_law : K.lookup f_law = some ⟨oc_law, od_law, .func (PySem.W.fnOf "law" "law" (defArgs s_law) (defBody s_law) (defScope s_law) .none kV_law dc_law pm_law an_law cd_law ct_law), sl_law⟩) (c_law : PySem.W.codeIn K cd_law "law" = true) (k_law : PySem.W.keepIn K (.ref f_law) = true)
    (g_LETTERS : PySem.W.nsIn K mainGlobals "LETTERS" = some (some (.str lets t1)))
    (g_DIGITS : PySem.W.nsIn K mainGlobals "DIGITS" = some (some (.str digs t2)))
    (g_MOST_LETTERS : PySem.W.nsIn K mainGlobals "MOST_LETTERS" = some (some (.int 20 t3)))
    (g_MOST_DIGITS : PySem.W.nsIn K mainGlobals "MOST_DIGITS" = some (some (.int 60 t4)))
    (g_MOST_NESTED : PySem.W.nsIn K mainGlobals "MOST_NESTED" = some (some (.int 12 t5)))
    (g_FIRST_LINE : PySem.W.nsIn K mainGlobals "FIRST_LINE" = some (some (.int 2 t6)))
    (m_isinstance : PySem.W.nsIn K mainGlobals "isinstance" = some none)
    (m_int : PySem.W.nsIn K mainGlobals "int" = some none)
    (m_bool : PySem.W.nsIn K mainGlobals "bool" = some none)
    (m_tuple : PySem.W.nsIn K mainGlobals "tuple" = some none)
    (m_str : PySem.W.nsIn K mainGlobals "str" = some none)
    (m_len : PySem.W.nsIn K mainGlobals "len" = some none)
    (m_all : PySem.W.nsIn K mainGlobals "all" = some none)
    (m_range : PySem.W.nsIn K mainGlobals "range" = some none)
    (m_max : PySem.W.nsIn K mainGlobals "max" = some none)
    (m_ValueError : PySem.W.nsIn K mainGlobals "ValueError" = some none)
    (m_super : PySem.W.nsIn K mainGlobals "super" = some none)
    (m_enumerate : PySem.W.nsIn K mainGlobals "enumerate" = some none)
    (m_min : PySem.W.nsIn K mainGlobals "min" = some none)
    (m_list : PySem.W.nsIn K mainGlobals "list" = some none)
    (z_RightsteadError : PySem.W.nsIn K mainGlobals "RightsteadError" = some (some (.ref R)))
    (z_WordError : PySem.W.nsIn K mainGlobals "WordError" = some (some (.ref C)))
    (z_BookError : PySem.W.nsIn K mainGlobals "BookError" = some (some (.ref Bk)))
    (z_DeedError : PySem.W.nsIn K mainGlobals "DeedError" = some (some (.ref De)))
    (z_QuestionError : PySem.W.nsIn K mainGlobals "QuestionError" = some (some (.ref Qu)))
    (z_TooMany : PySem.W.nsIn K mainGlobals "TooMany" = some (some (.ref Tm)))
    (xL_we : K.lookup C = some (excClassObj nm_we q_we C N_we bs_we bm_we true sn_we sub_we ab_we col_we dd_we x0_we x1_we x2_we x3_we x5_we "ValueError.__new__"))
    (ve_we : PySem.HandSPX.refsVE bm_we = true)
    (sa_we : PySem.W.findIn K (.ref C) "__setattr__" = some (some (.builtin "object.__setattr__")))
    (ga_we : PySem.W.findIn K (.ref C) "__getattribute__" = some (some (.builtin "BaseException.__getattribute__")))
    (gg_we : PySem.W.findIn K (.ref C) "__getattr__" = some none)
    (no_we : PySem.W.findIn K (.ref C) "line" = some none)
    (iC_we : PySem.W.findIn K (.ref C) "__init__" = some (some (.ref fI)))
    (tC_we : PySem.W.typeIn K (.ref fI) = some (.type "function"))
    (kC_we : PySem.W.keepIn K (.ref C) = true)
    (eC_we : PySem.W.subIn K (.ref C) (.type "BaseException") = some true)
    (vC_we : PySem.W.subIn K (.ref C) (.type "ValueError") = some true)
    (yC_we : PySem.W.typeIn K (.ref C) = some (.type "type"))
    (hC_we : PySem.W.hasDictIn K C = true)
    (mC_we : PySem.W.mroIn K C (.ref C) = some true)
    (tp_we : PySem.W.nsIn K PySem.cStatics "thirdparty.any" = some none)
    (di_we : PySem.W.ks_superIn K C C "__init__" = some (some (.builtin "ValueError.__init__")))
    (l_we : K.lookup fI = some ⟨oc_we, od_we, .func (PySem.W.ksFn "__init__" "WordError.__init__" (PySem.SupX.iA "line" ⟨19, 17, 19, 21⟩ ⟨19, 23, 19, 27⟩) (PySem.SupX.iB "line" "line " (some " is at fault") p_we) (PySem.SupX.iS "line") .none .none dc_we pm_we an_we (.ref cda_we) ct_we cc_we), sl_we⟩)
    (c_we : PySem.W.codeIn K (.ref cda_we) "WordError.__init__" = true)
    (r_we : K.lookup cda_we = some ⟨ccl_we, cdd_we, .fields vs_we, ccs_we⟩)
    (v_we : vs_we[2]? = some (.str PySem.Challenge.pw_rightstead_k76_rows_of_logs_and_runs.main.file tf_we))
    (cc_we : K.lookup cc_we = some ⟨cl_we, cld_we, .cell (some (.ref C)), csl_we⟩)
    (i_ha : PySem.W.findIn K (.ref C) "__class__" = some (some (.builtin "object.__class__")))
    (i_hn : PySem.W.specialIn K (.builtin "object.__class__") "__get__" = some (some (.builtin "getset_descriptor.__get__")))
    (i_ht : PySem.W.takesIn K (.builtin "object.__class__") = some true)
    (i_hm : PySem.W.mroIn K C (.type "object") = some true)
    (iR : PySem.W.isClsIn K R = true)
    (yR : PySem.W.typeIn K (.ref R) = some (.type "type"))
    (sR : PySem.W.subIn K (.ref C) (.ref R) = some true)
    (iC : PySem.W.isClsIn K C = true)
    (sC : PySem.W.subIn K (.ref C) (.ref C) = some true)
    (iBk : PySem.W.isClsIn K Bk = true)
    (yBk : PySem.W.typeIn K (.ref Bk) = some (.type "type"))
    (sBk : PySem.W.subIn K (.ref C) (.ref Bk) = some false)
    (iDe : PySem.W.isClsIn K De = true)
    (yDe : PySem.W.typeIn K (.ref De) = some (.type "type"))
    (sDe : PySem.W.subIn K (.ref C) (.ref De) = some false)
    (iQu : PySem.W.isClsIn K Qu = true)
    (yQu : PySem.W.typeIn K (.ref Qu) = some (.type "type"))
    (sQu : PySem.W.subIn K (.ref C) (.ref Qu) = some false)
    (iTm : PySem.W.isClsIn K Tm = true)
    (yTm : PySem.W.typeIn K (.ref Tm) = some (.type "type"))
    (sTm : PySem.W.subIn K (.ref C) (.ref Tm) = some false)
    (eR : PySem.W.subIn K (.ref R) (.type "BaseException") = some true)
    : ∃ fd : FuncData, (∀ (s : Shared) (u : Value), BindsTo s fd ⟨[u], []⟩ [("script", u)]) ∧ ∀ base : Heap, K.In base → base.Ns mainGlobals mg → FnOk PySem.Challenge.pw_rightstead_k76_rows_of_logs_and_runs w K mg base CX0 27 fa fd ["script"] (spLaw K) := by
  cases hfa.symm.trans (PySem.W.mg_of X G a_law)
  have sx_we : PySem.SupX.SupTxt PySem.Challenge.pw_rightstead_k76_rows_of_logs_and_runs K mg "WordError" "line" "line " (some " is at fault") C fI :=
    { gC := PySem.W.mg_of X G z_WordError, cls := ⟨_, _, _, _, _, _, _, _, _, _, _, _, _, _, _, xL_we, ve_we⟩, sa := sa_we, ga := ga_we, gg := gg_we, noN := no_we, iC := iC_we, tC := tC_we, kC := kC_we, exC := eC_we, veC := vC_we, tyC := yC_we, hdC := hC_we, sup := PySem.W.mg_none_of X G m_super, self := mC_we, tp := tp_we, dia := di_we,
      fn := ⟨_, _, _, _, _, _, _, _, _, _, p_we, _, _, _, _, _, _, _, _, _, _, l_we, c_we, r_we, v_we, cc_we, by decide +kernel⟩ }
  have D_whole : HasDef K mg "whole" s_whole ["x"] := ⟨_, _, fun_mk (st := s_whole) l_whole c_whole k_whole, PySem.W.mg_of X G a_whole, Fun.binds (fun_mk (st := s_whole) l_whole c_whole k_whole) fun _ _ _ _ _ _ us hl => match us, hl with | [_], _ => rfl⟩
  have D_is_row : HasDef K mg "is_row" s_is_row ["x"] := ⟨_, _, fun_mk (st := s_is_row) l_is_row c_is_row k_is_row, PySem.W.mg_of X G a_is_row, Fun.binds (fun_mk (st := s_is_row) l_is_row c_is_row k_is_row) fun _ _ _ _ _ _ us hl => match us, hl with | [_], _ => rfl⟩
  have D_tokens_of : HasDef K mg "tokens_of" s_tokens_of ["value"] := ⟨_, _, fun_mk (st := s_tokens_of) l_tokens_of c_tokens_of k_tokens_of, PySem.W.mg_of X G a_tokens_of, Fun.binds (fun_mk (st := s_tokens_of) l_tokens_of c_tokens_of k_tokens_of) fun _ _ _ _ _ _ us hl => match us, hl with | [_], _ => rfl⟩
  have D_write_value : HasDef K mg "write_value" s_write_value ["value"] := ⟨_, _, fun_mk (st := s_write_value) l_write_value c_write_value k_write_value, PySem.W.mg_of X G a_write_value, Fun.binds (fun_mk (st := s_write_value) l_write_value c_write_value k_write_value) fun _ _ _ _ _ _ us hl => match us, hl with | [_], _ => rfl⟩
  have D_is_word : HasDef K mg "is_word" s_is_word ["token"] := ⟨_, _, fun_mk (st := s_is_word) l_is_word c_is_word k_is_word, PySem.W.mg_of X G a_is_word, Fun.binds (fun_mk (st := s_is_word) l_is_word c_is_word k_is_word) fun _ _ _ _ _ _ us hl => match us, hl with | [_], _ => rfl⟩
  have D_is_number : HasDef K mg "is_number" s_is_number ["token"] := ⟨_, _, fun_mk (st := s_is_number) l_is_number c_is_number k_is_number, PySem.W.mg_of X G a_is_number, Fun.binds (fun_mk (st := s_is_number) l_is_number c_is_number k_is_number) fun _ _ _ _ _ _ us hl => match us, hl with | [_], _ => rfl⟩
  have D_read_token : HasDef K mg "read_token" s_read_token ["token"] := ⟨_, _, fun_mk (st := s_read_token) l_read_token c_read_token k_read_token, PySem.W.mg_of X G a_read_token, Fun.binds (fun_mk (st := s_read_token) l_read_token c_read_token k_read_token) fun _ _ _ _ _ _ us hl => match us, hl with | [_], _ => rfl⟩
  have D_read_values : HasDef K mg "read_values" s_read_values ["text"] := ⟨_, _, fun_mk (st := s_read_values) l_read_values c_read_values k_read_values, PySem.W.mg_of X G a_read_values, Fun.binds (fun_mk (st := s_read_values) l_read_values c_read_values k_read_values) fun _ _ _ _ _ _ us hl => match us, hl with | [_], _ => rfl⟩
  have D_write_rows : HasDef K mg "write_rows" s_write_rows ["head", "rows"] := ⟨_, _, fun_mk (st := s_write_rows) l_write_rows c_write_rows k_write_rows, PySem.W.mg_of X G a_write_rows, Fun.binds (fun_mk (st := s_write_rows) l_write_rows c_write_rows k_write_rows) fun _ _ _ _ _ _ us hl => match us, hl with | [_, _], _ => rfl⟩
  have D_read_row : HasDef K mg "read_row" s_read_row ["text", "line"] := ⟨_, _, fun_mk (st := s_read_row) l_read_row c_read_row k_read_row, PySem.W.mg_of X G a_read_row, Fun.binds (fun_mk (st := s_read_row) l_read_row c_read_row k_read_row) fun _ _ _ _ _ _ us hl => match us, hl with | [_, _], _ => rfl⟩
  have D_read_rows : HasDef K mg "read_rows" s_read_rows ["head", "text"] := ⟨_, _, fun_mk (st := s_read_rows) l_read_rows c_read_rows k_read_rows, PySem.W.mg_of X G a_read_rows, Fun.binds (fun_mk (st := s_read_rows) l_read_rows c_read_rows k_read_rows) fun _ _ _ _ _ _ us hl => match us, hl with | [_, _], _ => rfl⟩
  have D_begins_with_word : HasDef K mg "begins_with_word" s_begins_with_word ["row"] := ⟨_, _, fun_mk (st := s_begins_with_word) l_begins_with_word c_begins_with_word k_begins_with_word, PySem.W.mg_of X G a_begins_with_word, Fun.binds (fun_mk (st := s_begins_with_word) l_begins_with_word c_begins_with_word k_begins_with_word) fun _ _ _ _ _ _ us hl => match us, hl with | [_], _ => rfl⟩
  have D_write_log : HasDef K mg "write_log" s_write_log ["log"] := ⟨_, _, fun_mk (st := s_write_log) l_write_log c_write_log k_write_log, PySem.W.mg_of X G a_write_log, Fun.binds (fun_mk (st := s_write_log) l_write_log c_write_log k_write_log) fun _ _ _ _ _ _ us hl => match us, hl with | [_], _ => rfl⟩
  have D_read_log : HasDef K mg "read_log" s_read_log ["text"] := ⟨_, _, fun_mk (st := s_read_log) l_read_log c_read_log k_read_log, PySem.W.mg_of X G a_read_log, Fun.binds (fun_mk (st := s_read_log) l_read_log c_read_log k_read_log) fun _ _ _ _ _ _ us hl => match us, hl with | [_], _ => rfl⟩
  have D_write_run : HasDef K mg "write_run" s_write_run ["run"] := ⟨_, _, fun_mk (st := s_write_run) l_write_run c_write_run k_write_run, PySem.W.mg_of X G a_write_run, Fun.binds (fun_mk (st := s_write_run) l_write_run c_write_run k_write_run) fun _ _ _ _ _ _ us hl => match us, hl with | [_], _ => rfl⟩
  have D_read_run : HasDef K mg "read_run" s_read_run ["text"] := ⟨_, _, fun_mk (st := s_read_run) l_read_run c_read_run k_read_run, PySem.W.mg_of X G a_read_run, Fun.binds (fun_mk (st := s_read_run) l_read_run c_read_run k_read_run) fun _ _ _ _ _ _ us hl => match us, hl with | [_], _ => rfl⟩
  have D_write_journal : HasDef K mg "write_journal" s_write_journal ["journal"] := ⟨_, _, fun_mk (st := s_write_journal) l_write_journal c_write_journal k_write_journal, PySem.W.mg_of X G a_write_journal, Fun.binds (fun_mk (st := s_write_journal) l_write_journal c_write_journal k_write_journal) fun _ _ _ _ _ _ us hl => match us, hl with | [_], _ => rfl⟩
  have D_read_journal : HasDef K mg "read_journal" s_read_journal ["text"] := ⟨_, _, fun_mk (st := s_read_journal) l_read_journal c_read_journal k_read_journal, PySem.W.mg_of X G a_read_journal, Fun.binds (fun_mk (st := s_read_journal) l_read_journal c_read_journal k_read_journal) fun _ _ _ _ _ _ us hl => match us, hl with | [_], _ => rfl⟩
  have D_write_paper : HasDef K mg "write_paper" s_write_paper ["paper"] := ⟨_, _, fun_mk (st := s_write_paper) l_write_paper c_write_paper k_write_paper, PySem.W.mg_of X G a_write_paper, Fun.binds (fun_mk (st := s_write_paper) l_write_paper c_write_paper k_write_paper) fun _ _ _ _ _ _ us hl => match us, hl with | [_], _ => rfl⟩
  have D_read_paper : HasDef K mg "read_paper" s_read_paper ["text"] := ⟨_, _, fun_mk (st := s_read_paper) l_read_paper c_read_paper k_read_paper, PySem.W.mg_of X G a_read_paper, Fun.binds (fun_mk (st := s_read_paper) l_read_paper c_read_paper k_read_paper) fun _ _ _ _ _ _ us hl => match us, hl with | [_], _ => rfl⟩
  have D_law_pool : HasDef K mg "_law_pool" s_law_pool ["script", "at"] := ⟨_, _, fun_mk (st := s_law_pool) l_law_pool c_law_pool k_law_pool, PySem.W.mg_of X G a_law_pool, Fun.binds (fun_mk (st := s_law_pool) l_law_pool c_law_pool k_law_pool) fun _ _ _ _ _ _ us hl => match us, hl with | [_, _], _ => rfl⟩
  have D_law_draw : HasDef K mg "_law_draw" s_law_draw ["pool", "many"] := ⟨_, _, fun_mk (st := s_law_draw) l_law_draw c_law_draw k_law_draw, PySem.W.mg_of X G a_law_draw, Fun.binds (fun_mk (st := s_law_draw) l_law_draw c_law_draw k_law_draw) fun _ _ _ _ _ _ us hl => match us, hl with | [_, _], _ => rfl⟩
  have D_law_same : HasDef K mg "_law_same" s_law_same ["got", "due"] := ⟨_, _, fun_mk (st := s_law_same) l_law_same c_law_same k_law_same, PySem.W.mg_of X G a_law_same, Fun.binds (fun_mk (st := s_law_same) l_law_same c_law_same k_law_same) fun _ _ _ _ _ _ us hl => match us, hl with | [_, _], _ => rfl⟩
  have D_law_write : HasDef K mg "_law_write" s_law_write ["x"] := ⟨_, _, fun_mk (st := s_law_write) l_law_write c_law_write k_law_write, PySem.W.mg_of X G a_law_write, Fun.binds (fun_mk (st := s_law_write) l_law_write c_law_write k_law_write) fun _ _ _ _ _ _ us hl => match us, hl with | [_], _ => rfl⟩
  have D_law_word_in : HasDef K mg "_law_word_in" s_law_word_in ["word"] := ⟨_, _, fun_mk (st := s_law_word_in) l_law_word_in c_law_word_in k_law_word_in, PySem.W.mg_of X G a_law_word_in, Fun.binds (fun_mk (st := s_law_word_in) l_law_word_in c_law_word_in k_law_word_in) fun _ _ _ _ _ _ us hl => match us, hl with | [_], _ => rfl⟩
  have D_law_read : HasDef K mg "_law_read" s_law_read ["text"] := ⟨_, _, fun_mk (st := s_law_read) l_law_read c_law_read k_law_read, PySem.W.mg_of X G a_law_read, Fun.binds (fun_mk (st := s_law_read) l_law_read c_law_read k_law_read) fun _ _ _ _ _ _ us hl => match us, hl with | [_], _ => rfl⟩
  have D_law_read_rows : HasDef K mg "_law_read_rows" s_law_read_rows ["head", "text"] := ⟨_, _, fun_mk (st := s_law_read_rows) l_law_read_rows c_law_read_rows k_law_read_rows, PySem.W.mg_of X G a_law_read_rows, Fun.binds (fun_mk (st := s_law_read_rows) l_law_read_rows c_law_read_rows k_law_read_rows) fun _ _ _ _ _ _ us hl => match us, hl with | [_, _], _ => rfl⟩
  have D_law_run : HasDef K mg "_law_run" s_law_run ["pool", "signs", "size"] := ⟨_, _, fun_mk (st := s_law_run) l_law_run c_law_run k_law_run, PySem.W.mg_of X G a_law_run, Fun.binds (fun_mk (st := s_law_run) l_law_run c_law_run k_law_run) fun _ _ _ _ _ _ us hl => match us, hl with | [_, _, _], _ => rfl⟩
  have D_law_number : HasDef K mg "_law_number" s_law_number ["pool"] := ⟨_, _, fun_mk (st := s_law_number) l_law_number c_law_number k_law_number, PySem.W.mg_of X G a_law_number, Fun.binds (fun_mk (st := s_law_number) l_law_number c_law_number k_law_number) fun _ _ _ _ _ _ us hl => match us, hl with | [_], _ => rfl⟩
  have D_law_letters : HasDef K mg "_law_letters" s_law_letters ["pool"] := ⟨_, _, fun_mk (st := s_law_letters) l_law_letters c_law_letters k_law_letters, PySem.W.mg_of X G a_law_letters, Fun.binds (fun_mk (st := s_law_letters) l_law_letters c_law_letters k_law_letters) fun _ _ _ _ _ _ us hl => match us, hl with | [_], _ => rfl⟩
  have D_law_parts : HasDef K mg "_law_parts" s_law_parts ["pool", "many"] := ⟨_, _, fun_mk (st := s_law_parts) l_law_parts c_law_parts k_law_parts, PySem.W.mg_of X G a_law_parts, Fun.binds (fun_mk (st := s_law_parts) l_law_parts c_law_parts k_law_parts) fun _ _ _ _ _ _ us hl => match us, hl with | [_, _], _ => rfl⟩
  have D_law_small : HasDef K mg "_law_small" s_law_small ["pool"] := ⟨_, _, fun_mk (st := s_law_small) l_law_small c_law_small k_law_small, PySem.W.mg_of X G a_law_small, Fun.binds (fun_mk (st := s_law_small) l_law_small c_law_small k_law_small) fun _ _ _ _ _ _ us hl => match us, hl with | [_], _ => rfl⟩
  have D_law_rising : HasDef K mg "_law_rising" s_law_rising ["pool"] := ⟨_, _, fun_mk (st := s_law_rising) l_law_rising c_law_rising k_law_rising, PySem.W.mg_of X G a_law_rising, Fun.binds (fun_mk (st := s_law_rising) l_law_rising c_law_rising k_law_rising) fun _ _ _ _ _ _ us hl => match us, hl with | [_], _ => rfl⟩
  have D_law_item : HasDef K mg "_law_item" s_law_item ["pool"] := ⟨_, _, fun_mk (st := s_law_item) l_law_item c_law_item k_law_item, PySem.W.mg_of X G a_law_item, Fun.binds (fun_mk (st := s_law_item) l_law_item c_law_item k_law_item) fun _ _ _ _ _ _ us hl => match us, hl with | [_], _ => rfl⟩
  have D_law_deed : HasDef K mg "_law_deed" s_law_deed ["pool"] := ⟨_, _, fun_mk (st := s_law_deed) l_law_deed c_law_deed k_law_deed, PySem.W.mg_of X G a_law_deed, Fun.binds (fun_mk (st := s_law_deed) l_law_deed c_law_deed k_law_deed) fun _ _ _ _ _ _ us hl => match us, hl with | [_], _ => rfl⟩
  have D_law_record : HasDef K mg "_law_record" s_law_record ["pool"] := ⟨_, _, fun_mk (st := s_law_record) l_law_record c_law_record k_law_record, PySem.W.mg_of X G a_law_record, Fun.binds (fun_mk (st := s_law_record) l_law_record c_law_record k_law_record) fun _ _ _ _ _ _ us hl => match us, hl with | [_], _ => rfl⟩
  have D_law_sheet : HasDef K mg "_law_sheet" s_law_sheet ["pool"] := ⟨_, _, fun_mk (st := s_law_sheet) l_law_sheet c_law_sheet k_law_sheet, PySem.W.mg_of X G a_law_sheet, Fun.binds (fun_mk (st := s_law_sheet) l_law_sheet c_law_sheet k_law_sheet) fun _ _ _ _ _ _ us hl => match us, hl with | [_], _ => rfl⟩
  have D_law_row : HasDef K mg "_law_row" s_law_row ["pool", "nth"] := ⟨_, _, fun_mk (st := s_law_row) l_law_row c_law_row k_law_row, PySem.W.mg_of X G a_law_row, Fun.binds (fun_mk (st := s_law_row) l_law_row c_law_row k_law_row) fun _ _ _ _ _ _ us hl => match us, hl with | [_, _], _ => rfl⟩
  have D_law_text : HasDef K mg "_law_text" s_law_text ["top", "rows"] := ⟨_, _, fun_mk (st := s_law_text) l_law_text c_law_text k_law_text, PySem.W.mg_of X G a_law_text, Fun.binds (fun_mk (st := s_law_text) l_law_text c_law_text k_law_text) fun _ _ _ _ _ _ us hl => match us, hl with | [_, _], _ => rfl⟩
  have D_law_sign : HasDef K mg "_law_sign" s_law_sign ["pool"] := ⟨_, _, fun_mk (st := s_law_sign) l_law_sign c_law_sign k_law_sign, PySem.W.mg_of X G a_law_sign, Fun.binds (fun_mk (st := s_law_sign) l_law_sign c_law_sign k_law_sign) fun _ _ _ _ _ _ us hl => match us, hl with | [_], _ => rfl⟩
  have D_law_token : HasDef K mg "_law_token" s_law_token ["pool"] := ⟨_, _, fun_mk (st := s_law_token) l_law_token c_law_token k_law_token, PySem.W.mg_of X G a_law_token, Fun.binds (fun_mk (st := s_law_token) l_law_token c_law_token k_law_token) fun _ _ _ _ _ _ us hl => match us, hl with | [_], _ => rfl⟩
  have D_law_bent : HasDef K mg "_law_bent" s_law_bent ["pool", "text"] := ⟨_, _, fun_mk (st := s_law_bent) l_law_bent c_law_bent k_law_bent, PySem.W.mg_of X G a_law_bent, Fun.binds (fun_mk (st := s_law_bent) l_law_bent c_law_bent k_law_bent) fun _ _ _ _ _ _ us hl => match us, hl with | [_, _], _ => rfl⟩
  have D_law_due : HasDef K mg "_law_due" s_law_due ["nth", "top", "text"] := ⟨_, _, fun_mk (st := s_law_due) l_law_due c_law_due k_law_due, PySem.W.mg_of X G a_law_due, Fun.binds (fun_mk (st := s_law_due) l_law_due c_law_due k_law_due) fun _ _ _ _ _ _ us hl => match us, hl with | [_, _, _], _ => rfl⟩
  have D_law_ask : HasDef K mg "_law_ask" s_law_ask ["nth", "top", "text"] := ⟨_, _, fun_mk (st := s_law_ask) l_law_ask c_law_ask k_law_ask, PySem.W.mg_of X G a_law_ask, Fun.binds (fun_mk (st := s_law_ask) l_law_ask c_law_ask k_law_ask) fun _ _ _ _ _ _ us hl => match us, hl with | [_, _, _], _ => rfl⟩
  have D_law_back : HasDef K mg "_law_back" s_law_back ["nth", "top", "thing"] := ⟨_, _, fun_mk (st := s_law_back) l_law_back c_law_back k_law_back, PySem.W.mg_of X G a_law_back, Fun.binds (fun_mk (st := s_law_back) l_law_back c_law_back k_law_back) fun _ _ _ _ _ _ us hl => match us, hl with | [_, _, _], _ => rfl⟩
  have D_law_told : HasDef K mg "_law_told" s_law_told ["nth", "top", "text"] := ⟨_, _, fun_mk (st := s_law_told) l_law_told c_law_told k_law_told, PySem.W.mg_of X G a_law_told, Fun.binds (fun_mk (st := s_law_told) l_law_told c_law_told k_law_told) fun _ _ _ _ _ _ us hl => match us, hl with | [_, _, _], _ => rfl⟩
  have D_law_marks : HasDef K mg "_law_marks" s_law_marks ["nth", "top", "text"] := ⟨_, _, fun_mk (st := s_law_marks) l_law_marks c_law_marks k_law_marks, PySem.W.mg_of X G a_law_marks, Fun.binds (fun_mk (st := s_law_marks) l_law_marks c_law_marks k_law_marks) fun _ _ _ _ _ _ us hl => match us, hl with | [_, _, _], _ => rfl⟩
  have D_law_holds : HasDef K mg "_law_holds" s_law_holds ["nth", "top", "text"] := ⟨_, _, fun_mk (st := s_law_holds) l_law_holds c_law_holds k_law_holds, PySem.W.mg_of X G a_law_holds, Fun.binds (fun_mk (st := s_law_holds) l_law_holds c_law_holds k_law_holds) fun _ _ _ _ _ _ us hl => match us, hl with | [_, _, _], _ => rfl⟩
  have B : Bl mg := ⟨PySem.W.mg_none_of X G m_isinstance, PySem.W.mg_none_of X G m_int, PySem.W.mg_none_of X G m_bool, PySem.W.mg_none_of X G m_tuple, PySem.W.mg_none_of X G m_str, PySem.W.mg_none_of X G m_len, PySem.W.mg_none_of X G m_all, PySem.W.mg_none_of X G m_range, PySem.W.mg_none_of X G m_max, PySem.W.mg_none_of X G m_ValueError⟩
  have T0 : CnT mg t1 t2 t3 t4 t5 := { B with c_LETTERS := PySem.W.mg_of X G g_LETTERS, c_DIGITS := PySem.W.mg_of X G g_DIGITS, c_MOST_LETTERS := PySem.W.mg_of X G g_MOST_LETTERS, c_MOST_DIGITS := PySem.W.mg_of X G g_MOST_DIGITS, c_MOST_NESTED := PySem.W.mg_of X G g_MOST_NESTED }
  have T : CnF mg t1 t2 t3 t4 t5 t6 := { T0 with c_FIRST_LINE := PySem.W.mg_of X G g_FIRST_LINE, m_enumerate := PySem.W.mg_none_of X G m_enumerate }
  have I : PySem.SupX.IsTxt K C := ⟨ga_we, gg_we, eC_we, hC_we, i_ha, i_hn, i_ht, i_hm⟩
  have Z0 : Ex PySem.Challenge.pw_rightstead_k76_rows_of_logs_and_runs K mg C fI := ⟨sx_we, nm_line⟩
  have Z : ExL PySem.Challenge.pw_rightstead_k76_rows_of_logs_and_runs K mg C fI R Bk De Qu Tm := { Z0 with g_RightsteadError := PySem.W.mg_of X G z_RightsteadError, g_BookError := PySem.W.mg_of X G z_BookError, g_DeedError := PySem.W.mg_of X G z_DeedError, g_QuestionError := PySem.W.mg_of X G z_QuestionError, g_TooMany := PySem.W.mg_of X G z_TooMany, is_WordError := I, is_RightsteadError := I, ex_R := exm_asks eR iR yR sR, ex_W := exm_asks eC_we iC yC_we sC, k_V := kit_yes (by decide +kernel) vC_we, k_W := kit_self, k_B := kit_not iBk yBk sBk sC, k_D := kit_not iDe yDe sDe sC, k_Q := kit_not iQu yQu sQu sC, k_T := kit_not iTm yTm sTm sC }
  refine ⟨PySem.W.fnOf "law" "law" (defArgs s_law) (defBody s_law) (defScope s_law) .none kV_law dc_law pm_law an_law cd_law ct_law, fun s u => .of_eq rfl, fun base _ _ => ?_⟩
  have H_whole := ok_whole (P := PySem.Challenge.pw_rightstead_k76_rows_of_logs_and_runs) (w := w) (base := base) B D_whole
  have H_is_row := ok_is_row (P := PySem.Challenge.pw_rightstead_k76_rows_of_logs_and_runs) (w := w) (base := base) B D_is_row
  have H_tok := ok_tokens_of (P := PySem.Challenge.pw_rightstead_k76_rows_of_logs_and_runs) (w := w) (base := base) B D_tokens_of H_whole H_is_row 20
  have H_wv := ok_write_value (P := PySem.Challenge.pw_rightstead_k76_rows_of_logs_and_runs) (w := w) (base := base) B D_write_value H_tok
  have H_isw := ok_is_word (P := PySem.Challenge.pw_rightstead_k76_rows_of_logs_and_runs) (w := w) (base := base) T0 D_is_word
  have H_isn := ok_is_number (P := PySem.Challenge.pw_rightstead_k76_rows_of_logs_and_runs) (w := w) (base := base) T0 D_is_number
  have H_rt := ok_read_token (P := PySem.Challenge.pw_rightstead_k76_rows_of_logs_and_runs) (w := w) (base := base) T0 Z0 D_read_token H_isw H_isn
  have H_rv := ok_read_values (P := PySem.Challenge.pw_rightstead_k76_rows_of_logs_and_runs) (w := w) (base := base) T0 Z0 D_read_values H_rt
  have H_rr := ok_read_row (P := PySem.Challenge.pw_rightstead_k76_rows_of_logs_and_runs) (w := w) (base := base) T0 Z0 (exm_asks eC_we iC yC_we sC) D_read_row H_rv
  have H_rrs := ok_read_rows (P := PySem.Challenge.pw_rightstead_k76_rows_of_logs_and_runs) (w := w) (base := base) T0 Z0 D_read_rows H_rr
  have H_wrs := ok_write_rows (P := PySem.Challenge.pw_rightstead_k76_rows_of_logs_and_runs) (w := w) (base := base) T0 D_write_rows H_wv
  have H_beg := ok_begins (P := PySem.Challenge.pw_rightstead_k76_rows_of_logs_and_runs) (w := w) (base := base) T D_begins_with_word
  have H_wrun := ok_write_run (P := PySem.Challenge.pw_rightstead_k76_rows_of_logs_and_runs) (w := w) (base := base) T D_write_run H_wrs
  have H_wjou := ok_write_journal (P := PySem.Challenge.pw_rightstead_k76_rows_of_logs_and_runs) (w := w) (base := base) T D_write_journal H_wrs
  have H_wpap := ok_write_paper (P := PySem.Challenge.pw_rightstead_k76_rows_of_logs_and_runs) (w := w) (base := base) T D_write_paper H_wrs
  have H_wlog := ok_write_log (P := PySem.Challenge.pw_rightstead_k76_rows_of_logs_and_runs) (w := w) (base := base) T D_write_log H_wrs
  have H_rjou := ok_read_journal (P := PySem.Challenge.pw_rightstead_k76_rows_of_logs_and_runs) (w := w) (base := base) T D_read_journal H_rrs
  have H_rpap := ok_read_paper (P := PySem.Challenge.pw_rightstead_k76_rows_of_logs_and_runs) (w := w) (base := base) T Z0 D_read_paper H_rrs
  have H_rrun := ok_read_run (P := PySem.Challenge.pw_rightstead_k76_rows_of_logs_and_runs) (w := w) (base := base) T Z0 D_read_run H_rrs H_beg
  have H_rlog := ok_read_log (P := PySem.Challenge.pw_rightstead_k76_rows_of_logs_and_runs) (w := w) (base := base) T Z0 D_read_log H_rrs H_whole H_beg
  have H_pool := ok_law_pool (P := PySem.Challenge.pw_rightstead_k76_rows_of_logs_and_runs) (w := w) (base := base) T0 D_law_pool
  have H_draw := ok_law_draw (P := PySem.Challenge.pw_rightstead_k76_rows_of_logs_and_runs) (w := w) (base := base) T0 D_law_draw
  have H_run := ok_law_run (P := PySem.Challenge.pw_rightstead_k76_rows_of_logs_and_runs) (w := w) (base := base) T0 D_law_run H_draw
  have H_number := ok_law_number (P := PySem.Challenge.pw_rightstead_k76_rows_of_logs_and_runs) (w := w) (base := base) T0 D_law_number H_draw
  have H_letters := ok_law_letters (P := PySem.Challenge.pw_rightstead_k76_rows_of_logs_and_runs) (w := w) (base := base) T0 D_law_letters H_draw H_run
  have H_parts := ok_law_parts (P := PySem.Challenge.pw_rightstead_k76_rows_of_logs_and_runs) (w := w) (base := base) T0 D_law_parts H_draw H_letters H_number
  have H_wordin := ok_law_word_in (P := PySem.Challenge.pw_rightstead_k76_rows_of_logs_and_runs) (w := w) (base := base) T0 D_law_word_in
  have H_lread := ok_law_read (P := PySem.Challenge.pw_rightstead_k76_rows_of_logs_and_runs) (w := w) (base := base) T0 D_law_read H_wordin
  have H_lrows := ok_law_read_rows (P := PySem.Challenge.pw_rightstead_k76_rows_of_logs_and_runs) (w := w) (base := base) T D_law_read_rows H_lread
  have H_due := ok_law_due (P := PySem.Challenge.pw_rightstead_k76_rows_of_logs_and_runs) (w := w) (base := base) T D_law_due H_lrows
  have H_ask := ok_law_ask (P := PySem.Challenge.pw_rightstead_k76_rows_of_logs_and_runs) (w := w) (base := base) T D_law_ask H_rrs H_rlog H_rrun H_rjou H_rpap
  have H_back := ok_law_back (P := PySem.Challenge.pw_rightstead_k76_rows_of_logs_and_runs) (w := w) (base := base) T D_law_back H_wrs H_wlog H_wrun H_wjou H_wpap
  have H_told := ok_law_told (P := PySem.Challenge.pw_rightstead_k76_rows_of_logs_and_runs) (w := w) (base := base) T Z D_law_told H_ask
  have H_marks := ok_law_marks (P := PySem.Challenge.pw_rightstead_k76_rows_of_logs_and_runs) (w := w) (base := base) T Z D_law_marks H_ask
  have H_same := ok_law_same (P := PySem.Challenge.pw_rightstead_k76_rows_of_logs_and_runs) (w := w) (base := base) T0 D_law_same 17
  have H_holds := ok_law_holds (P := PySem.Challenge.pw_rightstead_k76_rows_of_logs_and_runs) (w := w) (base := base) T D_law_holds H_due H_told H_marks H_back H_same
  have H_small := ok_law_small (P := PySem.Challenge.pw_rightstead_k76_rows_of_logs_and_runs) (w := w) (base := base) T D_law_small H_draw H_number
  have H_rising := ok_law_rising (P := PySem.Challenge.pw_rightstead_k76_rows_of_logs_and_runs) (w := w) (base := base) T D_law_rising H_draw
  have H_item := ok_law_item (P := PySem.Challenge.pw_rightstead_k76_rows_of_logs_and_runs) (w := w) (base := base) T D_law_item H_draw
  have H_deed := ok_law_deed (P := PySem.Challenge.pw_rightstead_k76_rows_of_logs_and_runs) (w := w) (base := base) T D_law_deed H_draw H_small H_rising
  have H_record := ok_law_record (P := PySem.Challenge.pw_rightstead_k76_rows_of_logs_and_runs) (w := w) (base := base) T D_law_record H_draw H_small H_rising H_item
  have H_sheet := ok_law_sheet (P := PySem.Challenge.pw_rightstead_k76_rows_of_logs_and_runs) (w := w) (base := base) T D_law_sheet H_draw H_small H_rising H_item
  have H_row := ok_law_row (P := PySem.Challenge.pw_rightstead_k76_rows_of_logs_and_runs) (w := w) (base := base) T (PySem.W.mg_none_of X G m_min) D_law_row H_draw H_small H_number H_letters H_parts H_deed H_record H_sheet
  have H_lwrite := ok_law_write (P := PySem.Challenge.pw_rightstead_k76_rows_of_logs_and_runs) (w := w) (base := base) T0 D_law_write 14
  have H_text := ok_law_text (P := PySem.Challenge.pw_rightstead_k76_rows_of_logs_and_runs) (w := w) (base := base) T (PySem.W.mg_none_of X G m_list) D_law_text H_lwrite
  have H_sign := ok_law_sign (P := PySem.Challenge.pw_rightstead_k76_rows_of_logs_and_runs) (w := w) (base := base) T0 D_law_sign H_draw
  have H_token := ok_law_token (P := PySem.Challenge.pw_rightstead_k76_rows_of_logs_and_runs) (w := w) (base := base) T0 D_law_token H_draw H_run H_number
  have H_bent := ok_law_bent (P := PySem.Challenge.pw_rightstead_k76_rows_of_logs_and_runs) (w := w) (base := base) T D_law_bent H_draw H_sign H_token H_letters
  exact ok_law T H_pool H_draw H_letters H_row H_text H_due H_holds H_bent _ _ (fun_mk (st := s_law) l_law c_law k_law)
end RS
open PySem PySem.W PyProof.Rows
set_option maxRecDepth 100000 in
set_option maxHeartbeats 0 in
theorem PySem.Challenge.cw_rightstead_k76_rows_of_logs_and_runs_holds : PySem.Challenge.rw_rightstead_k76_rows_of_logs_and_runs.Holds := by
  w_on; o_law; k_head; (case hw => w_witness2)
  k_fill
  refine L2.walk_of (l := PySem.Challenge.rw_rightstead_k76_rows_of_logs_and_runs) (n := 63) (k := 27) (x := "script") (CX := fun _ => L2.CX0) (sp := fun w => RS.spLaw _) rfl (by decide) rfl ⟨rfl, by decide, by decide⟩ (fun w h Y => PySem.W.kIn_of Y) ?F (fun w H a ns hl _ hS => ⟨a, ns, rfl, hS, fun _ _ => rfl⟩) (fun _ _ _ _ _ z => z)
  case F =>
    intro w mg fa h KX G hmg
    refine' RS.all_of KX G hmg ?a_whole ?l_whole ?c_whole ?k_whole ?a_is_row ?l_is_row ?c_is_row ?k_is_row ?a_tokens_of ?l_tokens_of ?c_tokens_of ?k_tokens_of ?a_write_value ?l_write_value ?c_write_value ?k_write_value ?a_is_word ?l_is_word ?c_is_word ?k_is_word ?a_is_number ?l_is_number ?c_is_number ?k_is_number ?a_read_token ?l_read_token ?c_read_token ?k_read_token ?a_read_values ?l_read_values ?c_read_values ?k_read_values ?a_write_rows ?l_write_rows ?c_write_rows ?k_write_rows ?a_read_row ?l_read_row ?c_read_row ?k_read_row ?a_read_rows ?l_read_rows ?c_read_rows ?k_read_rows ?a_begins_with_word ?l_begins_with_word ?c_begins_with_word ?k_begins_with_word ?a_write_log ?l_write_log ?c_write_log ?k_write_log ?a_read_log ?l_read_log ?c_read_log ?k_read_log ?a_write_run ?l_write_run ?c_write_run ?k_write_run ?a_read_run ?l_read_run ?c_read_run ?k_read_run ?a_write_journal ?l_write_journal ?c_write_journal ?k_write_journal ?a_read_journal ?l_read_journal ?c_read_journal ?k_read_journal ?a_write_paper ?l_write_paper ?c_write_paper ?k_write_paper ?a_read_paper ?l_read_paper ?c_read_paper ?k_read_paper ?a_law_pool ?l_law_pool ?c_law_pool ?k_law_pool ?a_law_draw ?l_law_draw ?c_law_draw ?k_law_draw ?a_law_same ?l_law_same ?c_law_same ?k_law_same ?a_law_write ?l_law_write ?c_law_write ?k_law_write ?a_law_word_in ?l_law_word_in ?c_law_word_in ?k_law_word_in ?a_law_read ?l_law_read ?c_law_read ?k_law_read ?a_law_read_rows ?l_law_read_rows ?c_law_read_rows ?k_law_read_rows ?a_law_run ?l_law_run ?c_law_run ?k_law_run ?a_law_number ?l_law_number ?c_law_number ?k_law_number ?a_law_letters ?l_law_letters ?c_law_letters ?k_law_letters ?a_law_parts ?l_law_parts ?c_law_parts ?k_law_parts ?a_law_small ?l_law_small ?c_law_small ?k_law_small ?a_law_rising ?l_law_rising ?c_law_rising ?k_law_rising ?a_law_item ?l_law_item ?c_law_item ?k_law_item ?a_law_deed ?l_law_deed ?c_law_deed ?k_law_deed ?a_law_record ?l_law_record ?c_law_record ?k_law_record ?a_law_sheet ?l_law_sheet ?c_law_sheet ?k_law_sheet ?a_law_row ?l_law_row ?c_law_row ?k_law_row ?a_law_text ?l_law_text ?c_law_text ?k_law_text ?a_law_sign ?l_law_sign ?c_law_sign ?k_law_sign ?a_law_token ?l_law_token ?c_law_token ?k_law_token ?a_law_bent ?l_law_bent ?c_law_bent ?k_law_bent ?a_law_due ?l_law_due ?c_law_due ?k_law_due ?a_law_ask ?l_law_ask ?c_law_ask ?k_law_ask ?a_law_back ?l_law_back ?c_law_back ?k_law_back ?a_law_told ?l_law_told ?c_law_told ?k_law_told ?a_law_marks ?l_law_marks ?c_law_marks ?k_law_marks ?a_law_holds ?l_law_holds ?c_law_holds ?k_law_holds ?a_law ?l_law ?c_law ?k_law ?g_LETTERS ?g_DIGITS ?g_MOST_LETTERS ?g_MOST_DIGITS ?g_MOST_NESTED ?g_FIRST_LINE ?m_isinstance ?m_int ?m_bool ?m_tuple ?m_str ?m_len ?m_all ?m_range ?m_max ?m_ValueError ?m_super ?m_enumerate ?m_min ?m_list ?z_RightsteadError ?z_WordError ?z_BookError ?z_DeedError ?z_QuestionError ?z_TooMany ?xL_we ?ve_we ?sa_we ?ga_we ?gg_we ?no_we ?iC_we ?tC_we ?kC_we ?eC_we ?vC_we ?yC_we ?hC_we ?mC_we ?tp_we ?di_we ?l_we ?c_we ?r_we ?v_we ?cc_we ?i_ha ?i_hn ?i_ht ?i_hm ?iR ?yR ?sR ?iC ?sC ?iBk ?yBk ?sBk ?iDe ?yDe ?sDe ?iQu ?yQu ?sQu ?iTm ?yTm ?sTm ?eR
    (case a_whole => k_is)
    (case l_whole => k_is)
    (case c_whole => k_is)
    (case k_whole => k_is)
    (case a_is_row => k_is)
    (case l_is_row => k_is)
    (case c_is_row => k_is)
    (case k_is_row => k_is)
    (case a_tokens_of => k_is)
    (case l_tokens_of => k_is)
    (case c_tokens_of => k_is)
    (case k_tokens_of => k_is)
    (case a_write_value => k_is)
    (case l_write_value => k_is)
    (case c_write_value => k_is)
    (case k_write_value => k_is)
    (case a_is_word => k_is)
    (case l_is_word => k_is)
    (case c_is_word => k_is)
    (case k_is_word => k_is)
    (case a_is_number => k_is)
    (case l_is_number => k_is)
    (case c_is_number => k_is)
    (case k_is_number => k_is)
    (case a_read_token => k_is)
    (case l_read_token => k_is)
    (case c_read_token => k_is)
    (case k_read_token => k_is)
    (case a_read_values => k_is)
    (case l_read_values => k_is)
    (case c_read_values => k_is)
    (case k_read_values => k_is)
    (case a_write_rows => k_is)
    (case l_write_rows => k_is)
    (case c_write_rows => k_is)
    (case k_write_rows => k_is)
    (case a_read_row => k_is)
    (case l_read_row => k_is)
    (case c_read_row => k_is)
    (case k_read_row => k_is)
    (case a_read_rows => k_is)
    (case l_read_rows => k_is)
    (case c_read_rows => k_is)
    (case k_read_rows => k_is)
    (case a_begins_with_word => k_is)
    (case l_begins_with_word => k_is)
    (case c_begins_with_word => k_is)
    (case k_begins_with_word => k_is)
    (case a_write_log => k_is)
    (case l_write_log => k_is)
    (case c_write_log => k_is)
    (case k_write_log => k_is)
    (case a_read_log => k_is)
    (case l_read_log => k_is)
    (case c_read_log => k_is)
    (case k_read_log => k_is)
    (case a_write_run => k_is)
    (case l_write_run => k_is)
    (case c_write_run => k_is)
    (case k_write_run => k_is)
    (case a_read_run => k_is)
    (case l_read_run => k_is)
    (case c_read_run => k_is)
    (case k_read_run => k_is)
    (case a_write_journal => k_is)
    (case l_write_journal => k_is)
    (case c_write_journal => k_is)
    (case k_write_journal => k_is)
    (case a_read_journal => k_is)
    (case l_read_journal => k_is)
    (case c_read_journal => k_is)
    (case k_read_journal => k_is)
    (case a_write_paper => k_is)
    (case l_write_paper => k_is)
    (case c_write_paper => k_is)
    (case k_write_paper => k_is)
    (case a_read_paper => k_is)
    (case l_read_paper => k_is)
    (case c_read_paper => k_is)
    (case k_read_paper => k_is)
    (case a_law_pool => k_is)
    (case l_law_pool => k_is)
    (case c_law_pool => k_is)
    (case k_law_pool => k_is)
    (case a_law_draw => k_is)
    (case l_law_draw => k_is)
    (case c_law_draw => k_is)
    (case k_law_draw => k_is)
    (case a_law_same => k_is)
    (case l_law_same => k_is)
    (case c_law_same => k_is)
    (case k_law_same => k_is)
    (case a_law_write => k_is)
    (case l_law_write => k_is)
    (case c_law_write => k_is)
    (case k_law_write => k_is)
    (case a_law_word_in => k_is)
    (case l_law_word_in => k_is)
    (case c_law_word_in => k_is)
    (case k_law_word_in => k_is)
    (case a_law_read => k_is)
    (case l_law_read => k_is)
    (case c_law_read => k_is)
    (case k_law_read => k_is)
    (case a_law_read_rows => k_is)
    (case l_law_read_rows => k_is)
    (case c_law_read_rows => k_is)
    (case k_law_read_rows => k_is)
    (case a_law_run => k_is)
    (case l_law_run => k_is)
    (case c_law_run => k_is)
    (case k_law_run => k_is)
    (case a_law_number => k_is)
    (case l_law_number => k_is)
    (case c_law_number => k_is)
    (case k_law_number => k_is)
    (case a_law_letters => k_is)
    (case l_law_letters => k_is)
    (case c_law_letters => k_is)
    (case k_law_letters => k_is)
    (case a_law_parts => k_is)
    (case l_law_parts => k_is)
    (case c_law_parts => k_is)
    (case k_law_parts => k_is)
    (case a_law_small => k_is)
    (case l_law_small => k_is)
    (case c_law_small => k_is)
    (case k_law_small => k_is)
    (case a_law_rising => k_is)
    (case l_law_rising => k_is)
    (case c_law_rising => k_is)
    (case k_law_rising => k_is)
    (case a_law_item => k_is)
    (case l_law_item => k_is)
    (case c_law_item => k_is)
    (case k_law_item => k_is)
    (case a_law_deed => k_is)
    (case l_law_deed => k_is)
    (case c_law_deed => k_is)
    (case k_law_deed => k_is)
    (case a_law_record => k_is)
    (case l_law_record => k_is)
    (case c_law_record => k_is)
    (case k_law_record => k_is)
    (case a_law_sheet => k_is)
    (case l_law_sheet => k_is)
    (case c_law_sheet => k_is)
    (case k_law_sheet => k_is)
    (case a_law_row => k_is)
    (case l_law_row => k_is)
    (case c_law_row => k_is)
    (case k_law_row => k_is)
    (case a_law_text => k_is)
    (case l_law_text => k_is)
    (case c_law_text => k_is)
    (case k_law_text => k_is)
    (case a_law_sign => k_is)
    (case l_law_sign => k_is)
    (case c_law_sign => k_is)
    (case k_law_sign => k_is)
    (case a_law_token => k_is)
    (case l_law_token => k_is)
    (case c_law_token => k_is)
    (case k_law_token => k_is)
    (case a_law_bent => k_is)
    (case l_law_bent => k_is)
    (case c_law_bent => k_is)
    (case k_law_bent => k_is)
    (case a_law_due => k_is)
    (case l_law_due => k_is)
    (case c_law_due => k_is)
    (case k_law_due => k_is)
    (case a_law_ask => k_is)
    (case l_law_ask => k_is)
    (case c_law_ask => k_is)
    (case k_law_ask => k_is)
    (case a_law_back => k_is)
    (case l_law_back => k_is)
    (case c_law_back => k_is)
    (case k_law_back => k_is)
    (case a_law_told => k_is)
    (case l_law_told => k_is)
    (case c_law_told => k_is)
    (case k_law_told => k_is)
    (case a_law_marks => k_is)
    (case l_law_marks => k_is)
    (case c_law_marks => k_is)
    (case k_law_marks => k_is)
    (case a_law_holds => k_is)
    (case l_law_holds => k_is)
    (case c_law_holds => k_is)
    (case k_law_holds => k_is)
    (case a_law => k_is)
    (case l_law => k_is)
    (case c_law => k_is)
    (case k_law => k_is)
    (case g_LETTERS => k_is)
    (case g_DIGITS => k_is)
    (case g_MOST_LETTERS => k_is)
    (case g_MOST_DIGITS => k_is)
    (case g_MOST_NESTED => k_is)
    (case g_FIRST_LINE => k_is)
    (case m_isinstance => k_is)
    (case m_int => k_is)
    (case m_bool => k_is)
    (case m_tuple => k_is)
    (case m_str => k_is)
    (case m_len => k_is)
    (case m_all => k_is)
    (case m_range => k_is)
    (case m_max => k_is)
    (case m_ValueError => k_is)
    (case m_super => k_is)
    (case m_enumerate => k_is)
    (case m_min => k_is)
    (case m_list => k_is)
    (case z_RightsteadError => k_is)
    (case z_WordError => k_is)
    (case z_BookError => k_is)
    (case z_DeedError => k_is)
    (case z_QuestionError => k_is)
    (case z_TooMany => k_is)
    (case xL_we => k_is)
    (case ve_we => decide +kernel)
    (case sa_we => k_is)
    (case ga_we => k_is)
    (case gg_we => k_is)
    (case no_we => k_is)
    (case iC_we => k_is)
    (case tC_we => k_is)
    (case kC_we => k_is)
    (case eC_we => k_is)
    (case vC_we => k_is)
    (case yC_we => k_is)
    (case hC_we => k_is)
    (case mC_we => k_is)
    (case tp_we => k_is)
    (case di_we => first | ks_is | k_is)
    (case l_we => k_is)
    (case c_we => k_is)
    (case r_we => k_is)
    (case v_we => rfl)
    (case cc_we => k_is)
    (case i_ha => k_is)
    (case i_hn => k_is)
    (case i_ht => k_is)
    (case i_hm => k_is)
    (case iR => k_is)
    (case yR => k_is)
    (case sR => k_is)
    (case iC => k_is)
    (case sC => first | rfl | k_is)
    (case iBk => k_is)
    (case yBk => k_is)
    (case sBk => k_is)
    (case iDe => k_is)
    (case yDe => k_is)
    (case sDe => k_is)
    (case iQu => k_is)
    (case yQu => k_is)
    (case sQu => k_is)
    (case iTm => k_is)
    (case yTm => k_is)
    (case sTm => k_is)
    (case eR => k_is)
#print axioms PySem.Challenge.cw_rightstead_k76_rows_of_logs_and_runs_holds
