import PyProof.Rows.All
import Wide.All
import OpenK.AllK
import Wide.FinOn
import KE.KExcSuper
import KE.KIsAll
import KE.KTryMore
import HandS.ForMost
import HandS.ForExc
import HandS.FStr
import HandS.IsInst
import HandS.TupAny
import HandS.RaiseMore
import PySem.Challenge.RW_rightstead_k75_values_as_text
set_option Elab.async false
set_option linter.all false
set_option maxRecDepth 100000
set_option maxHeartbeats 8000000

/-! An own exception over an own exception over ValueError, whose __init__ says super().__init__(f'..{x}..') and self.x = x. -/
namespace PySem
namespace SupX
open PySem.W PySem.Calls PyProof.Rows PySem.HandSPX

/-- the text of __init__: one parameter x, super().__init__(f'pre{x}suf'), self.x = x -/
def iA (x : Str) (p1 p2 : Pos) : Arguments := { posonlyargs := [], args := [{ arg := "self", annotation := none, pos := p1 }, { arg := x, annotation := none, pos := p2 }], vararg := none, kwonlyargs := [], kw_defaults := [], kwarg := none, defaults := [] }
def iS (x : Str) : Scope := { kind := .function, names := [(PySem.Str.ofString "self", .local), (x, .local), (PySem.Str.ofString "__class__", .free), (PySem.Str.ofString "super", .globalImplicit)], isGenerator := false, isCoroutine := false, more := [] }
def iSuf (suf : Option Str) (a4 : Pos) : List Expr := match suf with | some t => [.Constant (.str t) 0 a4] | none => []
/-- the f-string's parts: a text, the parameter, then a text or nothing -/
def iParts (x pre : Str) (suf : Option Str) (a1 a2 a3 a4 : Pos) : List Expr := (.Constant (.str pre) 0 a1) :: (.FormattedValue (.Name x a2) (-1) none a3) :: iSuf suf a4
def iB (x pre : Str) (suf : Option Str) (q : Nat → Pos) : List Stmt := [
  .Expr (.Call (.Attribute (.Call (.Name "super" (q 0)) [] [] (q 1)) "__init__" (q 2)) [.JoinedStr (iParts x pre suf (q 3) (q 4) (q 5) (q 6)) (q 7)] [] (q 8)) (q 9),
  .Assign [.Attribute (.Name "self" (q 10)) x (q 11)] (.Name x (q 12)) (q 13)]

/-- what the written part says of the class at C, of its __init__ at fI -/
structure SupTxt (prog : Program) (K : Frag) (mg : Str → Option Value) (nm x pre : Str) (suf : Option Str) (C fI : Addr) : Prop where
  gC : mg nm = some (.ref C)
  cls : ∃ nm q N bs bm sn sub ab col dd k0 k1 k2 k3 k5, K.lookup C = some (excClassObj nm q C N bs bm true sn sub ab col dd k0 k1 k2 k3 k5 "ValueError.__new__") ∧ refsVE bm = true
  sa : findIn K (.ref C) "__setattr__" = some (some (.builtin "object.__setattr__"))
  ga : findIn K (.ref C) "__getattribute__" = some (some (.builtin "BaseException.__getattribute__"))
  gg : findIn K (.ref C) "__getattr__" = some none
  noN : findIn K (.ref C) x = some none
  iC : findIn K (.ref C) "__init__" = some (some (.ref fI))
  tC : typeIn K (.ref fI) = some (.type "function")
  kC : keepIn K (.ref C) = true
  exC : subIn K (.ref C) (.type "BaseException") = some true
  veC : subIn K (.ref C) (.type "ValueError") = some true
  tyC : typeIn K (.ref C) = some (.type "type")
  hdC : hasDictIn K C = true
  sup : mg "super" = none
  self : mroIn K C (.ref C) = some true
  tp : nsIn K cStatics "thirdparty.any" = some none
  dia : ks_superIn K C C "__init__" = some (some (.builtin "ValueError.__init__"))
  fn : ∃ (oc : Value) (od : Option Addr) (doc pm : Value) (an : Option Addr) (cda : Addr) (ct : Value) (osl : Array (Option Value)) (p1 p2 : Pos) (q : Nat → Pos) (cc : Addr) (qual : Str)
      (ccl : Value) (cdd : Option Addr) (vs : Array Value) (ccs : Array (Option Value)) (tf : Tok) (cl : Value) (cld : Option Addr) (csl : Array (Option Value)),
    K.lookup fI = some ⟨oc, od, .func (ksFn "__init__" qual (iA x p1 p2) (iB x pre suf q) (iS x) .none .none doc pm an (.ref cda) ct cc), osl⟩ ∧ codeIn K (.ref cda) qual = true ∧
    K.lookup cda = some ⟨ccl, cdd, .fields vs, ccs⟩ ∧ vs[2]? = some (.str prog.main.file tf) ∧
    K.lookup cc = some ⟨cl, cld, .cell (some (.ref C)), csl⟩ ∧ ((q 2).endLine == (q 8).line) = true

theorem one_size (v : Value) : [v].length ≤ sizeLine := by
  rw [sizeLine_eq]
  exact (by decide : 1 ≤ 16777216)

/-- what may be told: a text, an int -/
def Fmt (v : Value) (y : Str) : Prop := (∃ t, v = .str y t ∧ y.length ≤ 1000) ∨ ∃ i t, v = .int i t ∧ i.natAbs.log2 < 1920 ∧ y = toString i ∧ y.length ≤ 1000

/-- what __init__ leaves of a fresh exception at x -/
structure InitEnd (h h' : Heap) (e C dx : Addr) (x : Str) (v : Value) : Prop where
  keep : ∀ b o, b ≠ e → h.get? b = some o → h'.get? b = some o
  obj : ∃ t1 : Addr, h'.get? e = some { cls := .ref C, dict := some dx, data := .fields #[.ref t1, .none, .none, .none, .bool false, .none] }
  dbig : h.objs.size ≤ dx
  dne : dx ≠ e
  ns : h'.Ns1 dx (fun y => if y = x then some v else none)
structure OwnMade (h h' : Heap) (e C d : Addr) (x : Str) (v : Value) : Prop where
  keep : ∀ b o, h.get? b = some o → h'.get? b = some o
  new : h.objs.size ≤ e
  obj : ∃ oe vs, h'.get? e = some oe ∧ oe.cls = .ref C ∧ oe.dict = some d ∧ oe.data = .fields vs ∧ vs[1]? = some .none
  dbig : h.objs.size ≤ d
  dne : d ≠ e
  ns : h'.Ns1 d (fun y => if y = x then some v else none)

/-- how the two arguments bind -/
def BindX (x pre : Str) (suf : Option Str) : Prop := ∀ (qual : Str) (p1 p2 : Pos) (q : Nat → Pos) (doc pm : Value) (an : Option Addr) (cda : Value) (ct : Value) (cc : Addr) (u v : Value),
  bindArgs (ksFn "__init__" qual (iA x p1 p2) (iB x pre suf q) (iS x) .none .none doc pm an cda ct cc) ⟨[u, v], []⟩ = pure [(PySem.Str.ofString "self", u), (x, v)]
theorem bind_line : BindX "line" "line " (some " is at fault") := by intro _ _ _ _ _ _ _ _ _ _ _ _; first | rfl | with_unfolding_all rfl
theorem bind_part : BindX "part" "the book is refused: " none := by intro _ _ _ _ _ _ _ _ _ _ _ _; first | rfl | with_unfolding_all rfl

section
variable {prog : Program} {w : World} {A : Around} {E : Value → Shared → Prop} {R : Result → Shared → Prop} {s : Shared} {K : Frag} {mg mb : Str → Option Value} {C fI : Addr} {nm x pre : Str} {suf : Option Str}

theorem ldC {M : Model} {s : Shared} {env : Env} {m : Str → Option Value} {x : Str} {pos : Pos} {v : Value} {Q : Value → Shared → Prop} {A : Around} {E : Value → Shared → Prop} (hn : s.heap.Ns env.locals m) (hv : m x = some v) (h : Q v s)
    (hk : env.scope.kind = .function) (hl : env.kindOf x = some .local) (hd : (x == ("__debug__" : Str)) = false) : wpAny M A (eval (.Name x pos) env) Q E s := wpAny_Name (wpAny_loadName_local hk hl hn hv h) hd

/-- the f-string -/
theorem fstr_run {env : Env} {m : Str → Option Value} {q : Nat → Pos} {v : Value} {y : Str} {Q : Value → Shared → Prop} (hpre : pre.length ≤ 1000) (hsuf : ∀ t, suf = some t → t.length ≤ 1000)
    (hv : Fmt v y) (hn : s.heap.Ns env.locals m) (hm : m x = some v) (hk : env.scope.kind = .function) (hl : env.kindOf x = some .local) (hd : (x == ("__debug__" : Str)) = false)
    (h : ∀ (z : Str) (tk tk' : Tok), Q (.str z tk) { s with toks := tk' }) : wpAny (model prog w) A (eval (.JoinedStr (iParts x pre suf (q 3) (q 4) (q 5) (q 6)) (q 7)) env) Q E s := by
  have sz : ∀ (a b : Str), (a ++ b).length = a.length + b.length := fun a b => by
    show (a.cps ++ b.cps).size = a.cps.size + b.cps.size
    exact Array.size_append
  have e0 : Str.empty.length = 0 := rfl
  have yl : y.length ≤ 1000 := by rcases hv with ⟨t, _, h⟩ | ⟨i, t, _, _, _, h⟩ <;> exact h
  have ln : (16777216 : Nat) = sizeLine := sizeLine_eq.symm
  have tl : ∀ acc : Str, acc.length ≤ 2000 → ∀ s' : Shared, (∃ tk, s' = { s with toks := tk }) → Joins (model prog w) A E (evalEach (iSuf suf (q 6)) env) acc
      (fun out s₁ => out.length ≤ sizeLine ∧ Q (.str out s₁.toks) { s₁ with toks := s₁.toks + 1 }) s' := by
    intro acc ha s' ⟨tk, es⟩
    subst es
    cases suf with
    | none => exact ⟨by omega, h _ _ _⟩
    | some t =>
      have ht := hsuf t rfl
      show wpAny _ _ (eval (.Constant (.str t) 0 (q 6)) env) _ _ _
      refine wpAny_Constant_str ?_
      exact ⟨t, _, rfl, by rw [sz]; omega, by rw [sz]; omega, h _ _ _⟩
  refine wpAny_JoinedStr ?_
  show wpAny _ _ (eval (.Constant (.str pre) 0 (q 3)) env) _ _ _
  refine wpAny_Constant_str ?_
  refine ⟨pre, _, rfl, by rw [sz]; omega, ?_⟩
  show wpAny _ _ (eval (.FormattedValue (.Name x (q 4)) (-1) none (q 5)) env) _ _ _
  refine wpAny_FormattedValue_plain (ldC hn hm ?_ hk hl hd)
  rcases hv with ⟨t, rfl, _⟩ | ⟨i, t, rfl, hi, rfl, _⟩
  · exact wpAny_formatField_str ⟨y, _, rfl, by rw [sz, sz]; omega, tl (Str.empty ++ pre ++ y) (by rw [sz, sz]; omega) _ ⟨_, rfl⟩⟩ ⟨y, _, rfl, by rw [sz, sz]; omega, tl (Str.empty ++ pre ++ y) (by rw [sz, sz]; omega) _ ⟨_, rfl⟩⟩ (by omega)
  · exact wpAny_formatField_int hi ⟨_, _, rfl, by rw [sz, sz]; omega, tl (Str.empty ++ pre ++ _) (by rw [sz, sz]; omega) _ ⟨_, rfl⟩⟩

theorem sup_init {nm : Str} (T : SupTxt prog K mg nm x pre suf C fI) {e t0 : Addr} {v : Value} {y : Str} (hpre : pre.length ≤ 1000) (hsuf : ∀ t, suf = some t → t.length ≤ 1000) (hv : Fmt v y) (hbd : BindX x pre suf)
    (xs : (x == ("__debug__" : Str)) = false) (x1 : x ≠ "self") (x2 : x ≠ "__class__") (x3 : x ≠ "super")
    (hg : s.heap.Ns mainGlobals mg) (hb : s.heap.Ns builtinsNs mb) (hbs : mb "super" = some (.type "super")) (htop : (prog.main.scope.names.lookup ("super" : Str)).isSome = false)
    (X : K.In s.heap) (hlim : s.heap.NoLimit) (hx : s.heap.get? e = some (excO C t0)) (hnx : K.lookup e = none) (hroom : A.depth < recursionLimit)
    (hq : ∀ h' tk dx, InitEnd s.heap h' e C dx x v → R (.ok (.ret .none)) { s with heap := h', toks := tk }) :
    codeAny (model prog w) A (.call (.ref fI) ⟨[.ref e, v], []⟩) R s := by
  obtain ⟨oc, od, doc, pm, an, cda, ct, osl, p1, p2, q, cc, qual, ccl, cdd, vs, ccs, tf, cl, cld, csl, ho, hcd, hcode, hvs, hcell, hline⟩ := T.fn
  obtain ⟨nm', q', N, bs, bm, sn, sub, ab, col, dd, k0, k1, k2, k3, k5, hC, hbm⟩ := T.cls
  have hcl : clsIn K C = some { name := nm', bases := bs, mro := .ref C :: bm, ns := N, qualname := q', hasDict := true, slotNames := sn, subclasses := sub, abstract := ab, collection := col, hasDel := false } := by unfold clsIn; rw [hC] <;> rfl
  have b1 : (x == PySem.Str.ofString "self") = false := by simpa using x1
  have b2 : (x == PySem.Str.ofString "__class__") = false := by simpa using x2
  have b3 : (x == PySem.Str.ofString "super") = false := by simpa using x3
  have b4 : (PySem.Str.ofString "super" == x) = false := by simpa using fun z => x3 z.symm
  have b5 : (PySem.Str.ofString "__class__" == x) = false := by simpa using fun z => x2 z.symm
  have b6 : (PySem.Str.ofString "self" == x) = false := by simpa using fun z => x1 z.symm
  have kSelf : (iS x).names.lookup (PySem.Str.ofString "self") = some .local := rfl
  have kX : (iS x).names.lookup x = some .local := by
    show List.lookup x ((PySem.Str.ofString "self", NameKind.local) :: (x, NameKind.local) :: _) = _
    simp only [List.lookup, b1, beq_self_eq_true]
  have kC : (iS x).names.lookup (PySem.Str.ofString "__class__") = some .free := by
    show List.lookup _ ((PySem.Str.ofString "self", NameKind.local) :: (x, NameKind.local) :: (PySem.Str.ofString "__class__", NameKind.free) :: _) = _
    have z : (PySem.Str.ofString "__class__" == PySem.Str.ofString "self") = false := by decide
    simp only [List.lookup, z, b5, beq_self_eq_true]
  have kS : (iS x).names.lookup (PySem.Str.ofString "super") = some .globalImplicit := by
    show List.lookup _ ((PySem.Str.ofString "self", NameKind.local) :: (x, NameKind.local) :: (PySem.Str.ofString "__class__", NameKind.free) :: (PySem.Str.ofString "super", NameKind.globalImplicit) :: _) = _
    have z : (PySem.Str.ofString "super" == PySem.Str.ofString "self") = false := by decide
    have z2 : (PySem.Str.ofString "super" == PySem.Str.ofString "__class__") = false := by decide
    simp only [List.lookup, z, z2, b4, beq_self_eq_true]
  refine ks_codeAny_call_defAt (fd := ksFn "__init__" qual (iA x p1 p2) (iB x pre suf q) (iS x) .none .none doc pm an (.ref cda) ct cc) (body := iB x pre suf q) (binds := [(PySem.Str.ofString "self", .ref e), (x, v)]) hroom (X _ _ ho) rfl hlim (codeRec_of X hcd) rfl ?bind ?cell ?loc (fun h₁ hns k₁ => ?_) rfl rfl rfl
  case bind => exact BindsTo.of_eq (hbd _ _ _ _ _ _ _ _ _ _ _ _)
  case cell => intro y hy; simp [iS] at hy; rcases hy with rfl | rfl | rfl | rfl <;> (intro z; cases z)
  case loc =>
    intro y hy
    simp only [List.mem_cons, List.not_mem_nil, or_false] at hy
    rcases hy with rfl | rfl
    · exact kSelf
    · exact kX
  have X₁ : K.In h₁ := X.keeps k₁
  have hx₁ := k₁ _ _ hx
  have hg₁ : h₁.Ns mainGlobals mg := hg.keeps k₁
  have hb₁ : h₁.Ns builtinsNs mb := hb.keeps k₁
  have X₁ := X₁
  have hD := hC
  have hss : (h₁.objs.size) = h₁.objs.size := rfl
  have hne : e ≠ C := fun z => by rw [z, hC] at hnx; cases hnx
  have hp : ∀ (few : Bool) (o : Expr) (env : Env), methodCallPos few o env (q 2) (q 8) = pure (q 8) := fun few o env => by unfold methodCallPos; simp [hline]
  refine ks_wpAt_execs_cons (ks_wpAt_Expr_any (ks_wpAt_MethodCall (pl := (do return (← importBound (.Call (.Name "super" (q 0)) [] [] (q 1)) (ksEnv qual (iS x) s.heap.objs.size fI (.ref cda) cc)).getD true)) ?_ (by
    show (attributeBase _ _ _ _ >>= fun ov => standAt _ >>= fun _ => methodCall _ _ _ _ _ _ _ _ _) = _
    unfold methodCall
    simp only [hp]
    rfl)) rfl rfl)
  refine ks_wpAt_super_base (env := ksEnv qual (iS x) s.heap.objs.size fI (.ref cda) cc) kS kC rfl rfl (X₁ _ _ ho) rfl rfl rfl (X₁ _ _ hcode) rfl hvs (by simp) htop ?_
  refine ks_loadName_global rfl kS (loadGlobal_builtin hg₁ T.sup hb₁ hbs ⟨rfl, ?_⟩)
  refine wpAny_loadName_free rfl kC (by simp [ksEnv, envX]) ⟨_, X₁ _ _ hcell, rfl⟩ ?_
  refine wpAny_loadName_local rfl kSelf hns (v := .ref e) (by simp [List.lookup, b6]) ?_
  refine ks_wpAny_isType_cls (X₁ _ _ hC) rfl ⟨rfl, ?_⟩
  refine ks_wpAny_call_super (X₁ _ _ hC) rfl hx₁ rfl (fun c z => by cases z) (looks_mroIn X₁ T.self) (fun h₂ e₂ k₂ => ?_)
  have X₂ : K.In h₂ := X₁.keeps k₂
  have hx₂ := k₂ _ _ hx₁
  have dia := T.dia
  unfold ks_superIn at dia
  rw [hcl, Option.bind_some] at dia
  have I₂ : InstAt h₂ e (excO C t0) C none := ⟨hx₂, rfl, rfl, trivial⟩
  have hI : Looks (model prog w) h₂ (isInstance (.ref e) (.type "ValueError")) true := I₂.type.andThen (looks_subIn X₂ T.veC)
  refine kxs_getMethod kxs_ValueError e₂ (looks_opaque X₂ T.tp) (l₀ := .ref C :: bm) (fun A Q E s k q => wpAny_bind ((looks_clsIn X₂ hcl) A _ E s k (wpAny_pure q))) rfl X₂ dia hI hne rfl ?_
  have X₃ : K.In (h₂.push (kxs_mw "ValueError.__init__" e)) := X₂.keeps fun b o z => Heap.get?_push_of_some _ z
  have k₃ : ∀ b o, h₂.get? b = some o → (h₂.push (kxs_mw "ValueError.__init__" e)).get? b = some o := fun b o z => Heap.get?_push_of_some _ z
  have hu₃ : (h₂.push (kxs_mw "ValueError.__init__" e)).get? h₂.objs.size = some (kxs_mw "ValueError.__init__" e) := Heap.get?_push_at rfl rfl
  have kk : ∀ b o, h₁.get? b = some o → (h₂.push (kxs_mw "ValueError.__init__" e)).get? b = some o := fun b o z => k₃ b o (k₂ b o z)
  have hx₃ := kk _ _ hx₁
  have hns₃ := hns.keeps kk
  have lx : List.lookup x [(PySem.Str.ofString "self", Value.ref e), (x, v)].reverse = some v := by simp [List.lookup]
  refine kxs_callWith (i := "ValueError.__init__") (x := e) rfl (evalArgs_plain (spliced_cons ?_))
  refine fstr_run hpre hsuf hv hns₃ lx rfl kX xs fun z tk tk' => ?_
  refine spliced_nil ?_
  refine ⟨hu₃, ?_⟩
  refine wpAny_call (codeAny_of_tree ?_)
  show wpAny _ _ (callAny (.ref h₂.objs.size) ⟨[.str z tk], []⟩) _ _ _
  simp only [callAny]
  refine wpAny_bind (wpAny_load hu₃ ?_)
  simp only [kxs_mw, show (Value.type "method-wrapper" == Value.type "method" || Value.type "method-wrapper" == Value.type "builtin_function_or_method" || Value.type "method-wrapper" == Value.type "method-wrapper") = true by decide, if_true]
  refine KFB.if_so (by decide) ?_
  refine wpAny_bind (check_bound_init F.excBase_ValueError.toExcCallFacts (X₃ _ _ hC) hx₃ rfl ?_)
  refine wpAny_bind (wpAny_pure (wpAny_pure ?_))
  refine ⟨plainId_quiet F.excBase_ValueError.init.plain _, codeAny_builtin F.excBase_ValueError.initEntry ?_⟩
  refine exc_init_tree (cls := .ref C) (t0 := t0) (dv := none) (c2 := .none) (c3 := .none) (b4 := .bool false) hx₃ (one_size _) (fun h₄ k₄ hx₄ _ => ?_)
  show wpAt _ _ _ (execs _ _) _ _ _
  have X₄ : K.In h₄ := fun b o z => k₄ b o (fun ez => by rw [ez, hnx] at z; cases z) (X₃ _ _ z)
  have hlm : s.heap.objs.size ≠ e := Nat.ne_of_gt (Heap.lt_size hx)
  have hns₄ : h₄.Ns s.heap.objs.size (fun y => List.lookup y [(PySem.Str.ofString "self", Value.ref e), (x, v)].reverse) := hns₃.at fun o q => k₄ _ _ hlm q
  refine wpAt_of_wpAny (wpAny_execs_cons (plainObj_wpAny_Assign_Attribute ?_))
  have ls : List.lookup (PySem.Str.ofString "self") [(PySem.Str.ofString "self", Value.ref e), (x, v)].reverse = some (.ref e) := by simp [List.lookup, b6]
  refine ldC hns₄ lx (ldC hns₄ ls ?_ rfl kSelf rfl) rfl kX xs
  refine set_plain X₄ (ox := excRec (.ref C) (h₂.push (kxs_mw "ValueError.__init__" e)).objs.size none .none .none (.bool false)) (od := none) ⟨hx₄, rfl, rfl, trivial⟩ T.sa ?_
  refine exc_osa X₄ hx₄ hcl (show refsVE (.ref C :: bm) = true from hbm) rfl T.noN (fun h₅ tk₅ dx k₅ dn dne hx₅ hn₅ => ?_)
  show wpAny _ _ (execs _ _) _ _ _
  have old : ∀ b o, b ≠ e → s.heap.get? b = some o → h₅.get? b = some o := fun b o hb q => k₅ b o hb (k₄ b o hb (kk b o (k₁ b o q)))
  have d5 : s.heap.objs.size ≤ dx := by
    have z1 : s.heap.objs.size < h₄.objs.size := hns₄.lt
    exact Nat.le_of_lt (Nat.lt_of_lt_of_le z1 dn)
  exact wpAny_execs_nil (hq h₅ tk₅ dx ⟨old, ⟨_, hx₅⟩, d5, dne, hn₅⟩)
theorem sup_made {nm : Str} (T : SupTxt prog K mg nm x pre suf C fI) {v : Value} {y : Str} (hpre : pre.length ≤ 1000) (hsuf : ∀ t, suf = some t → t.length ≤ 1000) (hv : Fmt v y) (hbd : BindX x pre suf)
    (xs : (x == ("__debug__" : Str)) = false) (x1 : x ≠ "self") (x2 : x ≠ "__class__") (x3 : x ≠ "super")
    (hg : s.heap.Ns mainGlobals mg) (hb : s.heap.Ns builtinsNs mb) (hbs : mb "super" = some (.type "super")) (htop : (prog.main.scope.names.lookup ("super" : Str)).isSome = false)
    (X : K.In s.heap) (hlim : s.heap.NoLimit) (hroom : A.depth + 1 < recursionLimit)
    (hq : ∀ h' tk e d, OwnMade s.heap h' e C d x v → R (.ok (.ret (.ref e))) { s with heap := h', toks := tk }) :
    codeAny (model prog w) A (.call (.ref C) ⟨[v], []⟩) R s := by
  obtain ⟨nm', q, N, bs, bm, sn, sub, ab, col, dd, k0, k1, k2, k3, k5, hC, hbm⟩ := T.cls
  obtain ⟨hp, g, dr, tk, os⟩ := s
  have k : ∀ b o, hp.get? b = some o → ((hp.push (kdv_tup [v])).push (excO C hp.objs.size)).get? b = some o := fun b o e => Heap.get?_push_of_some _ (Heap.get?_push_of_some _ e)
  have hget : ((hp.push (kdv_tup [v])).push (excO C hp.objs.size)).get? (hp.objs.size + 1) = some (excO C hp.objs.size) := by heap_get
  have hnx : K.lookup (hp.objs.size + 1) = none := by
    cases e : K.lookup (hp.objs.size + 1) with
    | none => rfl
    | some o =>
      have z : hp.get? (hp.objs.size + 1) = some o := X _ _ e
      exact absurd (Nat.lt_of_succ_lt (Heap.lt_size z)) (Nat.lt_irrefl _)
  refine call_own F.excBase_ValueError (fun X => refsVE_contains X bm hbm) (X _ _ hC) (looks_findIn X T.iC) (fun self => bind_fn X self T.tC) (one_size v) ?_
  refine sup_init (s := ⟨(hp.push (kdv_tup [v])).push (excO C hp.objs.size), g, dr, tk, os⟩) T hpre hsuf hv hbd xs x1 x2 x3 (hg.keeps k) (hb.keeps k) hbs htop (X.keeps k) (hlim.keeps k) hget hnx ?_ fun h' tk' dx ⟨k', ⟨t1, hx⟩, dn, dne, hns⟩ => ?_
  · show A.depth + 1 < recursionLimit
    exact hroom
  · have old : ∀ b o, hp.get? b = some o → h'.get? b = some o := fun b o e => k' b o (Nat.ne_of_lt (Nat.lt_succ_of_lt (Heap.lt_size e))) (k b o e)
    have z : hp.objs.size + 1 + 1 ≤ dx := by
      first
        | (simpa only [Heap.size_push] using dn)
        | exact dn
        | (have q := dn; rw [Heap.size_push, Heap.size_push] at q; exact q)
    exact ⟨rfl, hq h' tk' (hp.objs.size + 1) dx ⟨old, Nat.le_succ _, ⟨_, _, hx, rfl, rfl, rfl, rfl⟩, Nat.le_trans (Nat.le_trans (Nat.le_succ _) (Nat.le_succ _)) z, dne, hns⟩⟩
end
end SupX
end PySem

namespace L2
open PySem PySem.Spec PyProof.Rows
theorem relO_one {x : Str} {v : V} {v' : Value} (r : RelV v v') (f : Str) : RelO (List.lookup f [(x, v)]) (if f = x then some v' else none) := by
  by_cases hw : f = x
  · subst hw
    rw [if_pos rfl]
    have q : List.lookup f [(f, v)] = some v := by simp [List.lookup]
    rw [q]
    exact r
  · rw [if_neg hw]
    have qw : (f == x) = false := by simpa using hw
    have q2 : List.lookup f [(x, v)] = none := by simp [List.lookup, qw]
    rw [q2]
    trivial
/-- what an error may be told of -/
def FmtV (v : V) : Prop := (∃ y : Str, v = .str y ∧ y.length ≤ 1000) ∨ ∃ i : Int, v = .int i ∧ i.natAbs.log2 < 1920 ∧ (PySem.Str.ofString (toString i)).length ≤ 1000
theorem FmtV.to {v : V} {u : Value} (h : FmtV v) (r : RelV v u) : ∃ y, PySem.SupX.Fmt u y := by
  rcases h with ⟨y, rfl, hl⟩ | ⟨i, rfl, hi, hl⟩
  · obtain ⟨t, rfl⟩ := r
    exact ⟨y, .inl ⟨t, rfl, hl⟩⟩
  · obtain ⟨t, rfl⟩ := r
    exact ⟨_, .inr ⟨i, t, rfl, hi, rfl, hl⟩⟩
/-- facts of the names -/
structure SupNm (prog : Program) (x pre : Str) (suf : Option Str) : Prop where
  hpre : pre.length ≤ 1000
  hsuf : ∀ t, suf = some t → t.length ≤ 1000
  hbd : PySem.SupX.BindX x pre suf
  xs : (x == ("__debug__" : Str)) = false
  x1 : x ≠ "self"
  x2 : x ≠ "__class__"
  x3 : x ≠ "super"
  htop : (prog.main.scope.names.lookup ("super" : Str)).isSome = false
section
variable {X : Cx} {C fI : Addr} {nm x pre : Str} {suf : Option Str}
/-- X(e) -/
def tMkSup (x : Str) (C : Addr) (ta : TA) : St → Hp → XK → Prop := fun σ H Q => ta σ H fun vs H1 => ∃ v, vs = [v] ∧ FmtV v ∧ ∀ d, H1 d = none → Q (.ref C) (some d) (upd H1 d (.xd [(x, v)]))
theorem pmk_sup {a : Expr} {ta : TA} {p pos : Pos} {k : Nat} (T : PySem.SupX.SupTxt X.prog X.K X.mg nm x pre suf C fI) (S : SupNm X.prog x pre suf) (hr : Room k X.A) (ha : PA X [a] ta) (hg : Gl X nm := by rfl) (hdb : (nm == ("__debug__" : Str)) = false := by decide)
    (he : starEach (a :: []) X.env = (false, eval a X.env) :: starEach [] X.env := by rfl) (hpl : (backTo pos (starEach [] X.env)).any (·.1) = false := by rfl) :
    PMk X (.Call (.Name nm p) [a] [] pos) (tMkSup x C ta) := by
  intro pins s σ H Q I h
  refine wpAny_Call_Name_kw (ld_glob I hg T.gC ?_ hdb)
  refine PySem.W.callWith_K (h₀ := X.base) I.ok.mod.kin T.kC (thn (ha.run pos pins s σ H _ I h) fun us s1 hh => ?_) he hpl
  obtain ⟨vs, H1, I1, r1, v, ev, fv, q1⟩ := hh
  subst ev
  refine ⟨I1.kIn, ?_⟩
  cases r1 with
  | cons rv rn =>
    rename_i v' us'
    cases rn
    show wpAny _ _ (call (.ref C) [v']) _ _ _
    have hlim := I1.nolimit
    have hgl := I1.ok.mod.glob.keeps I1.bk
    obtain ⟨mb, hmb, hbt⟩ := I1.ok.mod.blt
    have hbl := hmb.keeps I1.bk
    obtain ⟨y, fy⟩ := fv.to rv
    obtain ⟨hp, g, dr, tk, os⟩ := s1
    refine wpAny_call (PySem.SupX.sup_made T S.hpre S.hsuf fy S.hbd S.xs S.x1 S.x2 S.x3 hgl hbl ((hbt _ (by decide)).trans (by decide +kernel)) S.htop I1.kIn hlim (by have := hr.dp; omega) fun h' tk' e d M => ?_)
    show MkP X pins σ Q (.ref e) ⟨h', g, dr, tk', os⟩
    obtain ⟨oe, fv, hoe, hc, hd, hdat, h1⟩ := M.obj
    have hns := M.ns
    obtain ⟨G', g1, g2⟩ := restrict h' fun b => decide (b ≠ e)
    have gk : ∀ b, b ≠ e → G'.get? b = h'.get? b := fun b hb => g1 b (decide_eq_true hb)
    have ge : G'.get? e = none := g2 e (by simp)
    have old : ∀ b o, hp.get? b = some o → G'.get? b = some o := fun b o q => (gk b (Nat.ne_of_lt (Nat.lt_of_lt_of_le (Heap.lt_size q) M.new))).trans (M.keep b o q)
    have ob : ObjOk X.prog X.w (upd H1 d (.xd [(x, v)])) G' d (.xd [(x, v)]) :=
      ⟨_, hns.at (fun o q => (gk d M.dne).trans q), fun f => relO_one rv f⟩
    have J : Inv X pins σ (upd H1 d (.xd [(x, v)])) ⟨G', g, dr, tk', os⟩ := I1.laid (t' := tk') old M.dbig ob
    refine ⟨e, oe, fv, ⟨G', g, dr, tk', os⟩, _, .ref C, some d, rfl, J, fun b o q => ?_, ge, hoe, ⟨hc, hd⟩, hdat, h1, ?_, rfl, I1.bare, raises_own T.exC T.tyC, q1 d (I1.hok.fresh M.dbig)⟩
    · by_cases hb : b = e
      · have q' : G'.get? b = some o := q
        rw [hb, ge] at q'; cases q'
      · exact (gk b hb).symm.trans q
    · rw [upd_ne (Ne.symm M.dne)]
      exact I1.hok.fresh M.new
/-- raise X(e) -/
def tRaiseSup (x : Str) (C : Addr) (W : WX) (ta : TA) : TS := fun _ σ H => tMkSup x C ta σ H fun cls d H' => W cls d σ H'
theorem ps_raiseSup {a : Expr} {ta : TA} {W : WX} {p pos pos2 : Pos} {k : Nat} (hc : X.calm = true) (T : PySem.SupX.SupTxt X.prog X.K X.mg nm x pre suf C fI) (S : SupNm X.prog x pre suf) (hr : Room k X.A) (tk : Takes X W) (ha : PA X [a] ta) (hg : Gl X nm := by rfl) (hdb : (nm == ("__debug__" : Str)) = false := by decide)
    (he : starEach (a :: []) X.env = (false, eval a X.env) :: starEach [] X.env := by rfl) (hpl : (backTo pos (starEach [] X.env)).any (·.1) = false := by rfl) :
    PS X (.Raise (some (.Call (.Name nm p) [a] [] pos)) none pos2) (tRaiseSup x C W ta) := ps_raise hc tk (pmk_sup T S hr ha hg hdb he hpl)
/-- e.x, e the exception that the suite holds (at a; its class cls, its dict d) -/
def tBySup (x : Str) (C : Addr) (a : Addr) (cls : Value) (d : Option Addr) (te : TE) : TE := fun σ H Q => te σ H fun z H1 => z = .ref a ∧ cls = .ref C ∧ ∃ (dd : Addr) (v : V), d = some dd ∧ H1 dd = some (.xd [(x, v)]) ∧ Q v H1
theorem pe_bySup {a : Addr} {oe : Obj} {cls : Value} {d : Option Addr} {pn : List (Addr × Obj)} {e : Expr} {te : TE} {pos : Pos} (T : PySem.SupX.SupTxt X.prog X.K X.mg nm x pre suf C fI) (hz : Zc cls d oe) (hf : ∃ vs, oe.data = .fields vs) (he : PE (X.suite a ((a, oe) :: pn)) e te)
    (hb : attributeBase e x X.env (eval e X.env) = eval e X.env := by rfl) :
    PE (X.suite a ((a, oe) :: pn)) (.Attribute e x pos) (tBySup x C a cls d te) := by
  refine ⟨fun pins s σ H Q I h => ?_⟩
  refine attr_of hb (thn (he.run pins s σ H _ I h) fun u s1 hh => ?_)
  obtain ⟨z, H1, I1, rx, ex, ec, dd, v, ed, ea, q⟩ := hh
  subst ex
  obtain rfl : u = Value.ref a := rx
  subst ec
  subst ed
  obtain ⟨ha, _⟩ := I1.pin (a, oe) (List.mem_append_left _ List.mem_cons_self)
  obtain ⟨vs, hd⟩ := hf
  have hx : ObjOk X.prog X.w H1 s1.heap dd (.xd [(x, v)]) := I1.hok dd _ ea
  obtain ⟨mA, hns, hr⟩ := hx
  obtain ⟨od, ho, hl⟩ := lookIn_ns hns
  have l : List.lookup x [(x, v)] = some v := by simp [List.lookup]
  obtain ⟨u, hu, ru⟩ := RelO.some_of (v := v) (o := mA x) (by rw [← l]; exact hr x)
  have J : PySem.W.InstAt s1.heap a oe C (some od) := ⟨ha, hz.1, by unfold PySem.W.notCls; rw [hd] <;> rfl, by rw [hz.2]; exact ho⟩
  exact HandSPX.exc_get I1.kIn J T.ga T.gg T.exC (PySem.W.findObj_own T.hdC T.noN rfl (by rw [hl, hu])) (handed_of ru) ⟨v, H1, I1.tok _, ru, q⟩
end
end L2

namespace PySem.SupX
open PySem PySem.W PySem.Spec PySem.Calls PyProof.Rows
section
variable {prog : Program} {w : World} {A : Around} {E : Value → Shared → Prop} {s : Shared} {K : Frag} {x D : Addr} {ox od : Obj}
/-- what the class says so that isinstance asks its instances rightly, an own dict or none -/
structure IsTxt (K : Frag) (D : Addr) : Prop where
  ga : findIn K (.ref D) "__getattribute__" = some (some (.builtin "BaseException.__getattribute__"))
  gt : findIn K (.ref D) "__getattr__" = some none
  sub : subIn K (.ref D) (.type "BaseException") = some true
  hd : hasDictIn K D = true
  ha : findIn K (.ref D) "__class__" = some (some (.builtin "object.__class__"))
  hn : specialIn K (.builtin "object.__class__") "__get__" = some (some (.builtin "getset_descriptor.__get__"))
  ht : takesIn K (.builtin "object.__class__") = some true
  hm : mroIn K D (.type "object") = some true
theorem found_class (T : IsTxt K D) (o : Option Obj) : findObj K D o "__class__" = some (.bind (.builtin "getset_descriptor.__get__") (.builtin "object.__class__")) := by
  obtain ⟨cd, hc, _⟩ := any_some T.hd
  unfold findObj
  rw [hc, Option.bind_some, T.ha, Option.bind_some]
  simp [T.hn, T.ht]
theorem cls_asked {o : Option Obj} {Q : Option Value → Shared → Prop} (T : IsTxt K D) (X : K.In s.heap) (I : InstAt s.heap x ox D o) (h : Q (some (.ref D)) { s with toks := s.toks + 1 }) :
    wpAny (model prog w) A (getAttr? (.ref x) "__class__") Q E s := by
  obtain ⟨hp, g, d, t, os⟩ := s
  have L0 := I.type (M := model prog w)
  have L1 := looks_findIn (M := model prog w) X T.ga
  have L2 := looks_findIn (M := model prog w) X T.gt
  have L3 := looks_find (M := model prog w) X I (found_class T o)
  have isB : Looks (model prog w) hp (isInstance (.ref x) (.type "BaseException")) true := L0.andThen (looks_subIn X T.sub)
  have ne : (Value.builtin "BaseException.__getattribute__" == Value.builtin "object.__getattribute__") = false := by decide +kernel
  have q1 : (onTheHeap (Value.ref D) && Value.builtin "BaseException.__getattribute__" == Value.builtin "object.__getattribute__") = false := by rw [ne]; rfl
  have q0 : (false && onTheHeap (Value.builtin "BaseException.__getattribute__")) = false := rfl
  unfold getAttr? getAttrBy? getAttrBy
  refine wpAny_bind (wpAny_mkText (wpAny_bind (wpAny_attempt (wpAny_holding (wpAny_bind (L0.at (wpAny_bind (L1.at ?_))))))))
  show wpAny _ _ (if (onTheHeap (Value.ref D) && Value.builtin "BaseException.__getattribute__" == Value.builtin "object.__getattribute__") = true then _ else _) _ _ _
  rw [q1, if_neg Bool.false_ne_true]
  unfold getAttrByItsOwn hookBefore
  refine wpAny_bind ?_
  rw [if_pos (show onTheHeap (Value.ref D) = true from rfl)]
  refine L2.at ?_
  refine wpAny_bind (wpAny_attempt (wpAny_holding ?_))
  unfold callGetattribute
  rw [q0, if_neg Bool.false_ne_true]
  unfold boundAndCalled
  rw [PySem.F.excAttr_ValueError.ga.bind (.ref x)]
  refine wpAny_bind (wpAny_pure ?_)
  show wpAny _ _ (call (.builtin "BaseException.__getattribute__") [.ref x, .str "__class__" t]) _ _ _
  refine wpAny_call (codeAny_call_builtin PySem.F.excAttr_ValueError.ga.plain PySem.F.entry_bexc_ga ?_)
  refine @check_slot (model prog w) _ _ ⟨hp, g, d, t + 1, os⟩ "BaseException.__getattribute__" "BaseException" "__getattribute__" (.ref x) [.str "__class__" t] [] _ (by decide +kernel) (by decide +kernel) isB (PySem.F.args_bexc_ga (.ref x) (.str "__class__" t)) ?_
  unfold Builtin.«object.__getattribute__»
  refine wpAny_bind (wpAny_of_eq (a := ((Value.ref x : Value), [Value.str "__class__" t])) (by first | rfl | (simp only [slotArgs]; rfl)) ?_)
  refine wpAny_bind (wpAny_pure (wpAny_bind (L0.at (wpAny_bind (L3.at ?_)))))
  show wpAny _ _ (holding [Value.builtin "object.__class__"] (call (.builtin "getset_descriptor.__get__") [.builtin "object.__class__", .ref x, .ref D]) >>= ret) _ _ _
  refine wpAny_bind (wpAny_holding (wpAny_call (class_get (s := ⟨hp, g, d, t + 1, os⟩) (ox := ox) (od := o) X I T.hm ?_)))
  refine wpAny_pure ?_
  show wpAny _ _ (handedOut (.ref D)) _ _ _
  rw [handedOut_of (v := .ref D) rfl]
  first
    | exact wpAny_pure (wpAny_pure h)
    | exact wpAny_pure h
    | exact wpAny_pure (wpAny_bind (wpAny_pure (wpAny_pure h)))
theorem kit_sup (T : IsTxt K D) : KitX K (.ref x) (.ref D) (fun h => ∃ ox o, InstAt h x ox D o) where
  ty := fun _ _ _ ⟨_, _, I⟩ => I.type
  it := fun _ _ X _ => by
    obtain ⟨cdD, hcD, _⟩ := any_some T.hd
    unfold clsIn at hcD
    split at hcD
    · rename_i c' d' cd' sl' ho
      intro A' Q' E' s' k q
      unfold isType loadHead
      exact wpAny_bind (wpAny_loadPart (k _ _ (X _ _ ho)) (wpAny_pure q))
    · cases hcD
  ne := fun h tp dd its n sl X htp => by
    obtain ⟨cdD, hcD, _⟩ := any_some T.hd
    refine Bool.eq_false_iff.mpr fun q => ?_
    have e : D = tp := Value.ref.inj (beq_iff_eq.mp q)
    subst e
    unfold clsIn at hcD
    split at hcD
    · rename_i c' d' cd' sl' ho
      have z := (X _ _ ho).symm.trans htp
      cases z
    · cases hcD
  ca := fun X ⟨_, _, I⟩ k => cls_asked T X I k
end
end PySem.SupX
namespace L2
open PySem PySem.Spec PyProof.Rows
/-- isinstance(e, c), e the exception that the suite holds, its own dict at dd -/
def rIsSup (K : PySem.W.Frag) (D a dd : Addr) : List V → Hp → VK → Prop := fun xs H Q => ∃ (c : V) (cv : Value) (b : Bool) (fs : List (Str × V)), xs = [.ref a, c] ∧ (∀ u, RelV c u → u = cv) ∧ H dd = some (.xd fs) ∧ PySem.W.kitOne K (.ref D) cv = some b ∧ Q (.bl b) H
theorem call_isSup {X : Cx} {a D dd : Addr} {oe : Obj} {pn : List (Addr × Obj)} (C : PySem.SupX.IsTxt X.K D) (hz : Zc (.ref D) (some dd) oe) (hf : ∃ vs, oe.data = .fields vs) : CallR (X.suite a ((a, oe) :: pn)) (.builtin "isinstance") (rIsSup X.K D a dd) := by
  intro pins s σ H xs us Q I r h
  obtain ⟨c, cv, b, fs, rfl, hcv, hdd, e, q⟩ := h
  cases r with
  | cons rx rr =>
    cases rr with
    | cons rt rr =>
      cases rr
      cases rx
      have ec := hcv _ rt
      subst ec
      obtain ⟨hget, _⟩ := I.pin (a, oe) (List.mem_append.mpr (.inl List.mem_cons_self))
      obtain ⟨vs, hv⟩ := hf
      have hx : ObjOk X.prog X.w H s.heap dd (.xd fs) := I.hok dd _ hdd
      obtain ⟨mA, ⟨od, es, ep, ho, _⟩, _⟩ := hx
      have J : PySem.W.InstAt s.heap a oe D (some od) := by
        obtain ⟨oc, odx, oda, osl⟩ := oe
        obtain ⟨h1, h2⟩ := hz
        dsimp only at h1 h2 hv
        subst h1 h2 hv
        exact ⟨hget, rfl, rfl, ho⟩
      exact PySem.W.kia_one (PySem.SupX.kit_sup C) I.kIn ⟨_, _, J⟩ e (fun z => nomatch z) fun tk => ⟨.bl b, H, I.kept (t' := tk) fun _ _ z => z, rfl, q⟩
end L2

/-! Values as texts: what is written, what is read, and that the two belong together. No program in sight. -/
namespace RS
open PySem PySem.Spec PyProof.Rows TL
open PySem.NumText (AllDigits digitsVal)

/-- a value: a number, a flag, a text, a tuple of values -/
inductive D where
  | int (i : Int)
  | bl (b : Bool)
  | str (s : Str)
  | tup (ds : List D)

def lb : Str := "["
def rb : Str := "]"
def sp : Str := " "
def lets : Str := "abcdefghijklmnopqrstuvwxyz"
def digs : Str := "0123456789"
theorem tl_lb : tl lb = [91] := by decide +kernel
theorem tl_rb : tl rb = [93] := by decide +kernel
theorem tl_sp : tl sp = [32] := by decide +kernel
theorem tl_lets : tl lets = (List.range 26).map (97 + ·) := by decide +kernel
theorem tl_digs : tl digs = (List.range 10).map (48 + ·) := by decide +kernel
theorem mem_lets {c : Nat} : c ∈ tl lets ↔ 97 ≤ c ∧ c ≤ 122 := by
  rw [tl_lets]
  simp only [List.mem_map, List.mem_range]
  constructor
  · rintro ⟨k, hk, rfl⟩; omega
  · intro h; exact ⟨c - 97, by omega, by omega⟩
theorem mem_digs {c : Nat} : c ∈ tl digs ↔ 48 ≤ c ∧ c ≤ 57 := by
  rw [tl_digs]
  simp only [List.mem_map, List.mem_range]
  constructor
  · rintro ⟨k, hk, rfl⟩; omega
  · intro h; exact ⟨c - 48, by omega, by omega⟩

mutual
/-- the tokens of a value -/
def toks : D → List Str
  | .int i => [Str.ofString (toString i)]
  | .bl _ => []
  | .str s => [s]
  | .tup ds => lb :: (toksL ds ++ [rb])
def toksL : List D → List Str
  | [] => []
  | d :: r => toks d ++ toksL r
end
mutual
/-- how deep tuples are nested -/
def dep : D → Nat
  | .int _ => 0
  | .bl _ => 0
  | .str _ => 0
  | .tup ds => 1 + depL ds
def depL : List D → Nat
  | [] => 0
  | d :: r => max (dep d) (depL r)
end
theorem toksL_append : ∀ (a b : List D), toksL (a ++ b) = toksL a ++ toksL b
  | [], _ => rfl
  | d :: r, b => by
    show toks d ++ toksL (r ++ b) = (toks d ++ toksL r) ++ toksL b
    rw [toksL_append r b, List.append_assoc]
theorem toksL_one (d : D) : toksL [d] = toks d := by show toks d ++ [] = _; rw [List.append_nil]
theorem depL_le {n : Nat} : ∀ {ds : List D}, depL ds ≤ n ↔ ∀ d ∈ ds, dep d ≤ n
  | [] => by simp [depL]
  | d :: r => by
    have ih := depL_le (n := n) (ds := r)
    show max (dep d) (depL r) ≤ n ↔ _
    rw [Nat.max_le, ih]
    simp

/-! ### one token -/
def isWord (s : Str) : Bool := (decide (1 ≤ s.length) && decide (s.length ≤ 20)) && (tl s).all fun c => decide (c ∈ tl lets)
/-- a number's token without its minus -/
def body (s : Str) : Str := if (tl s).head? = some 45 then ⟨(tl s).tail.toArray⟩ else s
def isNum (s : Str) : Bool := ((decide (1 ≤ (body s).length) && decide ((body s).length ≤ 60)) && (tl (body s)).all fun c => decide (c ∈ tl digs)) && (!decide ((tl (body s)).head? = some 48) || decide (s = ("0" : Str)))
def numV (s : Str) : Int := if (tl s).head? = some 45 then -((digitsVal (tl s).tail : Nat) : Int) else ((digitsVal (tl s) : Nat) : Int)
def tokIn (s : Str) : Option D := if isWord s = true then some (.str s) else if isNum s = true then some (.int (numV s)) else none

theorem digitsVal_snoc (l : List Nat) (c : Nat) : digitsVal (l ++ [c]) = digitsVal l * 10 + (c - 48) := by
  unfold digitsVal
  rw [List.foldl_append]
  rfl
/-- digits without a leading zero are the signs of their number -/
theorem num_back : ∀ (n : Nat) (ds : List Nat), ds.length = n → AllDigits ds → ds ≠ [] → (ds.head? ≠ some 48 ∨ ds = [48]) → numL (digitsVal ds) = ds
  | 0, ds, hl, _, hne, _ => absurd (List.length_eq_zero_iff.mp hl) hne
  | n + 1, ds, hl, hd, hne, hz => by
    rcases List.eq_nil_or_concat ds with e | ⟨L, c, e⟩
    · exact absurd e hne
    · have e : ds = L ++ [c] := by simpa using e
      subst e
      have hc : 48 ≤ c ∧ c ≤ 57 := hd c (by simp)
      rw [digitsVal_snoc]
      by_cases hL : L = []
      · subst hL
        show numL (0 * 10 + (c - 48)) = [c]
        rw [numL_lt (by omega)]
        have : 48 + (0 * 10 + (c - 48)) = c := by omega
        rw [this]
      · have hz' : L.head? ≠ some 48 := by
          rcases hz with hz | hz
          · cases L with
            | nil => exact absurd rfl hL
            | cons a r => simpa using hz
          · cases L with
            | nil => exact absurd rfl hL
            | cons a r =>
              have := congrArg List.length hz
              simp at this
        have ih := num_back n L (by simpa using hl) (fun d h => hd d (List.mem_append_left _ h)) hL (.inl hz')
        have pos : 1 ≤ digitsVal L := by
          rcases Nat.eq_zero_or_pos (digitsVal L) with e0 | e0
          · rw [e0] at ih
            exfalso
            apply hz'
            rw [← ih, numL_lt (by decide)]
            rfl
          · exact e0
        rw [numL_step (by omega)]
        have e1 : (digitsVal L * 10 + (c - 48)) / 10 = digitsVal L := by omega
        have e2 : 48 + (digitsVal L * 10 + (c - 48)) % 10 = c := by omega
        rw [e1, e2, ih]
theorem numL_head : ∀ n : Nat, 1 ≤ n → (numL n).head? ≠ some 48 := by
  intro n
  induction n using Nat.strongRecOn with
  | _ n ih =>
    intro h
    by_cases hn : n < 10
    · rw [numL_lt hn]
      simp
      omega
    · rw [numL_step (by omega)]
      have := ih (n / 10) (by omega) (by omega)
      have hne := numL_ne (n / 10)
      cases hq : numL (n / 10) with
      | nil => exact absurd hq hne
      | cons a r => rw [hq] at this; simpa using this
theorem all_digs {l : List Nat} (h : (l.all fun c => decide (c ∈ tl digs)) = true) : AllDigits l := fun c hc => mem_digs.mp (of_decide_eq_true (List.all_eq_true.mp h c hc))
theorem digs_all {l : List Nat} (h : AllDigits l) : (l.all fun c => decide (c ∈ tl digs)) = true := List.all_eq_true.mpr fun c hc => decide_eq_true (mem_digs.mpr (h c hc))
theorem tl_zero : tl ("0" : Str) = [48] := by decide +kernel
theorem tl_dash : tl ("-" : Str) = [45] := by decide +kernel

/-- what a token that is a number says -/
theorem num_cases {s : Str} (h : isNum s = true) : ((tl s).head? ≠ some 45 ∧ AllDigits (tl s) ∧ tl s ≠ [] ∧ (tl s).length ≤ 60 ∧ ((tl s).head? ≠ some 48 ∨ tl s = [48])) ∨
    (∃ ds, tl s = 45 :: ds ∧ AllDigits ds ∧ ds ≠ [] ∧ ds.length ≤ 60 ∧ ds.head? ≠ some 48) := by
  unfold isNum at h
  simp only [Bool.and_eq_true, decide_eq_true_eq, Bool.or_eq_true, Bool.not_eq_true', decide_eq_false_iff_not] at h
  obtain ⟨⟨⟨h1, h2⟩, h3⟩, h4⟩ := h
  by_cases hm : (tl s).head? = some 45
  · right
    have eb : body s = ⟨(tl s).tail.toArray⟩ := if_pos hm
    cases hs : tl s with
    | nil => rw [hs] at hm; cases hm
    | cons a r =>
      rw [hs] at hm
      have ea : a = 45 := by simpa using hm
      subst ea
      have er : tl (body s) = r := by rw [eb, tl_mk, hs]; rfl
      rw [er] at h3 h4
      rw [len_tl, er] at h1 h2
      refine ⟨r, rfl, all_digs h3, ?_, h2, ?_⟩
      · intro e; rw [e] at h1; simp at h1
      · rcases h4 with h4 | h4
        · exact h4
        · rw [h4] at hs; rw [tl_zero] at hs; cases hs
  · left
    have eb : body s = s := if_neg hm
    rw [eb] at h1 h2 h3 h4
    rw [len_tl] at h1 h2
    refine ⟨hm, all_digs h3, ?_, h2, ?_⟩
    · intro e; rw [e] at h1; simp at h1
    · rcases h4 with h4 | h4
      · exact .inl h4
      · exact .inr (by rw [h4]; exact tl_zero)
theorem num_text {s : Str} (h : isNum s = true) : intText? s = some (numV s) ∧ s.length ≤ 61 := by
  rcases num_cases h with ⟨h1, h2, h3, h4, _⟩ | ⟨ds, e, h2, h3, h4, _⟩
  · have hl : s.length ≤ 61 := by rw [len_tl]; omega
    have := intText_digits h2 h3 (by omega)
    refine ⟨?_, hl⟩
    unfold numV
    rw [if_neg h1]
    exact this
  · have hl : s.length ≤ 61 := by rw [len_tl, e, List.length_cons]; omega
    have := intText_neg e h2 h3 (by omega)
    refine ⟨?_, hl⟩
    unfold numV
    rw [e]
    exact this
theorem tl_neg {n : Nat} (h : 1 ≤ n) : tl (Str.ofString (toString (-(n : Int)))) = 45 :: numL n := by
  rw [PyProof.Rows.toString_neg (show -(n : Int) < 0 by omega)]
  have e : (0 - -(n : Int)) = ((n : Nat) : Int) := by omega
  rw [e]
  have := tl_num n
  rw [tl_ofString] at this
  rw [tl_ofString, String.toList_append, List.map_append, this]
  rfl
theorem num_write {s : Str} (h : isNum s = true) : Str.ofString (toString (numV s)) = s := by
  apply ext_tl
  rcases num_cases h with ⟨h1, h2, h3, h4, h5⟩ | ⟨ds, e, h2, h3, h4, h5⟩
  · unfold numV
    rw [if_neg h1, tl_num]
    exact num_back _ _ rfl h2 h3 h5
  · have nb := num_back _ _ rfl h2 h3 (.inl h5)
    have pos : 1 ≤ digitsVal ds := by
      rcases Nat.eq_zero_or_pos (digitsVal ds) with e0 | e0
      · rw [e0, numL_lt (by decide)] at nb
        exact absurd (by rw [← nb]; rfl) h5
      · exact e0
    unfold numV
    rw [e, if_pos (by rfl)]
    show tl (Str.ofString (toString (-((digitsVal ds : Nat) : Int)))) = 45 :: ds
    rw [tl_neg pos, nb]
theorem tok_write {s : Str} {d : D} (h : tokIn s = some d) : toks d = [s] ∧ dep d = 0 := by
  unfold tokIn at h
  split at h
  · cases h; exact ⟨rfl, rfl⟩
  · split at h
    · rename_i hn
      cases h
      refine ⟨?_, rfl⟩
      show [Str.ofString (toString (numV s))] = [s]
      rw [num_write hn]
    · cases h

/-! ### what is right -/
mutual
def ok : D → Prop
  | .int i => i.natAbs < 10 ^ 60
  | .bl _ => False
  | .str s => isWord s = true
  | .tup ds => okL ds
def okL : List D → Prop
  | [] => True
  | d :: r => ok d ∧ okL r
end
theorem okL_append : ∀ {a b : List D}, okL (a ++ b) ↔ okL a ∧ okL b
  | [], b => by simp [okL]
  | d :: r, b => by
    have ih := okL_append (a := r) (b := b)
    show ok d ∧ okL (r ++ b) ↔ (ok d ∧ okL r) ∧ okL b
    rw [ih, and_assoc]
theorem word_letters {s : Str} (h : isWord s = true) : (∀ c ∈ tl s, 97 ≤ c ∧ c ≤ 122) ∧ 1 ≤ (tl s).length ∧ (tl s).length ≤ 20 := by
  unfold isWord at h
  simp only [Bool.and_eq_true, decide_eq_true_eq] at h
  obtain ⟨⟨h1, h2⟩, h3⟩ := h
  rw [len_tl] at h1 h2
  exact ⟨fun c hc => mem_lets.mp (of_decide_eq_true (List.all_eq_true.mp h3 c hc)), h1, h2⟩
/-- the signs of a number -/
theorem int_signs (i : Int) : (∃ n : Nat, i = (n : Int) ∧ tl (Str.ofString (toString i)) = numL n) ∨ (∃ n : Nat, 1 ≤ n ∧ i = -(n : Int) ∧ tl (Str.ofString (toString i)) = 45 :: numL n) := by
  by_cases h : 0 ≤ i
  · obtain ⟨n, rfl⟩ := Int.eq_ofNat_of_zero_le h
    exact .inl ⟨n, rfl, tl_num n⟩
  · refine .inr ⟨i.natAbs, by omega, by omega, ?_⟩
    have e : i = -((i.natAbs : Nat) : Int) := by omega
    have := tl_neg (n := i.natAbs) (by omega)
    rw [← e] at this
    exact this
theorem tokIn_int {i : Int} (h : i.natAbs < 10 ^ 60) : tokIn (Str.ofString (toString i)) = some (.int i) := by
  rcases int_signs i with ⟨n, rfl, e⟩ | ⟨n, hn, rfl, e⟩
  · have hl : (numL n).length ≤ 60 := numL_len (by decide) (by simpa using h)
    generalize hs : Str.ofString (toString ((n : Nat) : Int)) = s at e
    have hne := numL_ne n
    have hd := numL_digits n
    have hw : isWord s ≠ true := fun hw => by
      obtain ⟨a, _, _⟩ := word_letters hw
      rw [e] at a
      cases q : numL n with
      | nil => exact hne q
      | cons c r =>
        rw [q] at a hd
        have := a c (List.mem_cons_self ..)
        have := hd.head
        omega
    have hm : (tl s).head? ≠ some 45 := by
      rw [e]
      cases q : numL n with
      | nil => simp
      | cons c r => rw [q] at hd; have := hd.head; simp; omega
    have eb : body s = s := if_neg hm
    have l1 : 1 ≤ (tl s).length := by
      rw [e]
      cases q : numL n with
      | nil => exact absurd q hne
      | cons c r => simp
    have hz : (!decide ((tl s).head? = some 48) || decide (s = ("0" : Str))) = true := by
      rcases Nat.eq_zero_or_pos n with z | z
      · subst z
        have : s = ("0" : Str) := by rw [← hs]; decide +kernel
        rw [decide_eq_true this, Bool.or_true]
      · rw [e, decide_eq_false (numL_head n z)]
        rfl
    have hnum : isNum s = true := by
      unfold isNum
      rw [eb, len_tl, decide_eq_true l1, decide_eq_true (show (tl s).length ≤ 60 by rw [e]; exact hl), e, digs_all hd, ← e, hz]
      rfl
    unfold tokIn
    rw [if_neg hw, if_pos hnum]
    unfold numV
    rw [if_neg hm, e, numL_val]
  · have hl : (numL n).length ≤ 60 := numL_len (by decide) (by omega)
    generalize hs : Str.ofString (toString (-((n : Nat) : Int))) = s at e
    have hne := numL_ne n
    have hd := numL_digits n
    have hw : isWord s ≠ true := fun hw => by
      obtain ⟨a, _, _⟩ := word_letters hw
      rw [e] at a
      have := a 45 (List.mem_cons_self ..)
      omega
    have hm : (tl s).head? = some 45 := by rw [e]; rfl
    have eb : tl (body s) = numL n := by unfold body; rw [if_pos hm, tl_mk, e]; rfl
    have l1 : 1 ≤ (numL n).length := by
      cases q : numL n with
      | nil => exact absurd q hne
      | cons c r => simp
    have hnum : isNum s = true := by
      unfold isNum
      rw [len_tl, eb, decide_eq_true l1, decide_eq_true hl, digs_all hd, decide_eq_false (numL_head n hn)]
      rfl
    unfold tokIn
    rw [if_neg hw, if_pos hnum]
    unfold numV
    rw [if_pos hm, e]
    show some (D.int (-((digitsVal (numL n) : Nat) : Int))) = _
    rw [numL_val]
theorem tokIn_word {s : Str} (h : isWord s = true) : tokIn s = some (.str s) := by
  unfold tokIn
  rw [if_pos h]
theorem word_ne {s : Str} (h : isWord s = true) : s ≠ lb ∧ s ≠ rb := by
  obtain ⟨a, _, _⟩ := word_letters h
  constructor
  · rintro rfl
    rw [tl_lb] at a
    have := a 91 (by simp); omega
  · rintro rfl
    rw [tl_rb] at a
    have := a 93 (by simp); omega
theorem int_free (i : Int) : ∀ c ∈ tl (Str.ofString (toString i)), c = 45 ∨ (48 ≤ c ∧ c ≤ 57) := by
  rcases int_signs i with ⟨n, _, e⟩ | ⟨n, _, _, e⟩
  · rw [e]; exact fun c hc => .inr (numL_digits n c hc)
  · rw [e]
    intro c hc
    rcases List.mem_cons.mp hc with rfl | hc
    · exact .inl rfl
    · exact .inr (numL_digits n c hc)
theorem int_ne (i : Int) : Str.ofString (toString i) ≠ lb ∧ Str.ofString (toString i) ≠ rb := by
  have a := int_free i
  constructor
  · intro e
    rw [e, tl_lb] at a
    have := a 91 (by simp); omega
  · intro e
    rw [e, tl_rb] at a
    have := a 93 (by simp); omega

/-! ### reading: the open rows, the innermost first -/
def step (st : List (List D)) (w : Str) : Option (List (List D)) :=
  if w = lb then (if st.length ≤ 12 then some ([] :: st) else none)
  else if w = rb then (match st with
    | top :: b :: r => some ((b ++ [.tup top]) :: r)
    | _ => none)
  else match tokIn w, st with
    | some d, top :: r => some ((top ++ [d]) :: r)
    | _, _ => none
def rdToks (ws : List Str) : Option (List D) := match ws.foldlM step [[]] with
  | some [x] => some x
  | _ => none
/-- the values of a text -/
def rdVals (text : Str) : Option (List D) := rdToks (Txt.split text sp)
/-- the value of a text -/
def rd (text : Str) : Option D := match rdVals text with
  | some [d] => some d
  | _ => none
/-- the text of a value -/
def wr (d : D) : Str := Txt.join sp (toks d)

/-- what has been read so far -/
def flat : List (List D) → List Str
  | [] => []
  | [x] => toksL x
  | x :: y :: r => flat (y :: r) ++ lb :: toksL x
def okDep : List (List D) → Prop
  | [] => True
  | x :: r => (∀ d ∈ x, dep d + (r.length + 1) ≤ 13) ∧ okDep r
theorem flat_snoc (x : List D) (d : D) : ∀ r, flat ((x ++ [d]) :: r) = flat (x :: r) ++ toks d
  | [] => by show toksL (x ++ [d]) = toksL x ++ toks d; rw [toksL_append, toksL_one]
  | y :: r => by
    show flat (y :: r) ++ lb :: toksL (x ++ [d]) = (flat (y :: r) ++ lb :: toksL x) ++ toks d
    rw [toksL_append, toksL_one]
    simp
theorem step_inv {st st' : List (List D)} {w : Str} (h : step st w = some st') (hne : st ≠ []) (hl : st.length ≤ 13) (hd : okDep st) : flat st' = flat st ++ [w] ∧ st' ≠ [] ∧ st'.length ≤ 13 ∧ okDep st' := by
  unfold step at h
  split at h
  · rename_i e
    split at h
    · rename_i hlt
      cases h
      subst e
      refine ⟨?_, by simp, by simp; omega, ?_, hd⟩
      · cases st with
        | nil => exact absurd rfl hne
        | cons x r => rfl
      · intro d hd'; simp at hd'
    · cases h
  · split at h
    · rename_i e
      split at h
      · rename_i top b r
        cases h
        subst e
        obtain ⟨h1, h2, h3⟩ := hd
        simp only [List.length_cons] at hl
        refine ⟨?_, by simp, by simp only [List.length_cons]; omega, ?_, h3⟩
        · rw [flat_snoc]
          show flat (b :: r) ++ (lb :: (toksL top ++ [rb])) = (flat (b :: r) ++ lb :: toksL top) ++ [rb]
          simp
        · intro d hd'
          rcases List.mem_append.mp hd' with hd' | hd'
          · exact h2 d hd'
          · have : d = .tup top := by simpa using hd'
            subst this
            have : depL top ≤ 13 - (r.length + 2) := depL_le.mpr fun d hd => by
              have := h1 d hd
              simp only [List.length_cons] at this
              omega
            show 1 + depL top + (r.length + 1) ≤ 13
            omega
      · cases h
    · split at h
      · rename_i d' top r hk
        cases h
        obtain ⟨h1, h2⟩ := hd
        obtain ⟨e1, e2⟩ := tok_write hk
        refine ⟨by rw [flat_snoc, e1], by simp, hl, ?_, h2⟩
        intro d hd'
        rcases List.mem_append.mp hd' with hd' | hd'
        · exact h1 d hd'
        · have : d = d' := by simpa using hd'
          subst this
          rw [e2]
          simp only [List.length_cons] at hl
          omega
      · cases h
theorem fold_inv : ∀ (ws : List Str) {st st' : List (List D)}, ws.foldlM step st = some st' → st ≠ [] → st.length ≤ 13 → okDep st → flat st' = flat st ++ ws ∧ st' ≠ [] ∧ st'.length ≤ 13 ∧ okDep st'
  | [], st, st', h, hne, hl, hd => by
    cases h
    exact ⟨by simp, hne, hl, hd⟩
  | w :: ws, st, st', h, hne, hl, hd => by
    rw [List.foldlM_cons] at h
    cases hs : step st w with
    | none => rw [hs] at h; cases h
    | some s1 =>
      rw [hs] at h
      obtain ⟨a1, a2, a3, a4⟩ := step_inv hs hne hl hd
      obtain ⟨b1, b2, b3, b4⟩ := fold_inv ws (st := s1) h a2 a3 a4
      exact ⟨by rw [b1, a1]; simp, b2, b3, b4⟩
theorem rdToks_back {ws : List Str} {ds : List D} (h : rdToks ws = some ds) : toksL ds = ws ∧ ∀ d ∈ ds, dep d ≤ 12 := by
  unfold rdToks at h
  split at h
  · rename_i x e
    cases h
    obtain ⟨a, _, _, b⟩ := fold_inv ws e (by simp) (by simp) ⟨fun d hd => by simp at hd, trivial⟩
    refine ⟨by simpa [flat, toksL] using a, fun d hd => ?_⟩
    have := b.1 d hd
    simp at this
    omega
  · cases h
theorem rdVals_back {text : Str} {ds : List D} (h : rdVals text = some ds) : Txt.join sp (toksL ds) = text ∧ ∀ d ∈ ds, dep d ≤ 12 := by
  obtain ⟨a, b⟩ := rdToks_back h
  refine ⟨?_, b⟩
  rw [a, join_eq]
  exact PySem.StrLaws.join_split text sp
theorem rd_back {text : Str} {d : D} (h : rd text = some d) : wr d = text ∧ dep d ≤ 12 ∧ toks d = Txt.split text sp := by
  unfold rd at h
  split at h
  · rename_i x e
    cases h
    obtain ⟨a, b⟩ := rdVals_back e
    rw [toksL_one] at a
    obtain ⟨c, _⟩ := rdToks_back e
    rw [toksL_one] at c
    exact ⟨a, b _ (by simp), c⟩
  · cases h

/-! ### what is right is read back -/
mutual
theorem fold_d : ∀ (d : D) (top : List D) (r : List (List D)), ok d → dep d + (r.length + 1) ≤ 13 → (toks d).foldlM step (top :: r) = some ((top ++ [d]) :: r)
  | .int i, top, r, h, _ => by
    show [Str.ofString (toString i)].foldlM step (top :: r) = _
    rw [List.foldlM_cons]
    have hs : step (top :: r) (Str.ofString (toString i)) = some ((top ++ [.int i]) :: r) := by
      unfold step
      rw [if_neg (int_ne i).1, if_neg (int_ne i).2, tokIn_int h]
    rw [hs]
    rfl
  | .bl _, _, _, h, _ => h.elim
  | .str s, top, r, h, _ => by
    show [s].foldlM step (top :: r) = _
    rw [List.foldlM_cons]
    have hs : step (top :: r) s = some ((top ++ [.str s]) :: r) := by
      unfold step
      rw [if_neg (word_ne h).1, if_neg (word_ne h).2, tokIn_word h]
    rw [hs]
    rfl
  | .tup ds, top, r, h, hd => by
    have hd' : 1 + depL ds + (r.length + 1) ≤ 13 := hd
    show (lb :: (toksL ds ++ [rb])).foldlM step (top :: r) = _
    rw [List.foldlM_cons]
    have hs : step (top :: r) lb = some ([] :: top :: r) := by
      unfold step
      rw [if_pos rfl, if_pos (by simp only [List.length_cons]; omega)]
    rw [hs]
    show (toksL ds ++ [rb]).foldlM step ([] :: top :: r) = _
    rw [List.foldlM_append, fold_ds ds [] (top :: r) h (by simp only [List.length_cons]; omega)]
    show [rb].foldlM step (([] ++ ds) :: top :: r) = _
    rw [List.foldlM_cons]
    have hs : step (([] ++ ds) :: top :: r) rb = some ((top ++ [.tup ds]) :: r) := by
      unfold step
      rw [if_neg (by decide +kernel), if_pos rfl]
      rfl
    rw [hs]
    rfl
theorem fold_ds : ∀ (ds : List D) (top : List D) (r : List (List D)), okL ds → depL ds + (r.length + 1) ≤ 13 → (toksL ds).foldlM step (top :: r) = some ((top ++ ds) :: r)
  | [], top, r, _, _ => by
    show some (top :: r) = _
    rw [List.append_nil]
  | d :: ds, top, r, h, hd => by
    have hd' : max (dep d) (depL ds) + (r.length + 1) ≤ 13 := hd
    show (toks d ++ toksL ds).foldlM step (top :: r) = _
    rw [List.foldlM_append, fold_d d top r h.1 (by omega)]
    show (toksL ds).foldlM step ((top ++ [d]) :: r) = _
    rw [fold_ds ds (top ++ [d]) r h.2 (by omega), List.append_assoc]
    rfl
end
mutual
theorem toks_free : ∀ d, ok d → ∀ w ∈ toks d, 32 ∉ tl w
  | .int i, _, w, hw => by
    have : w = Str.ofString (toString i) := by simpa [toks] using hw
    subst this
    intro h
    have := int_free i 32 h
    omega
  | .bl _, h, _, _ => h.elim
  | .str s, h, w, hw => by
    have : w = s := by simpa [toks] using hw
    subst this
    intro h'
    have := (word_letters h).1 32 h'
    omega
  | .tup ds, h, w, hw => by
    have hw' : w = lb ∨ w ∈ toksL ds ∨ w = rb := by simpa [toks] using hw
    rcases hw' with rfl | hw | rfl
    · rw [tl_lb]; decide
    · exact toksL_free ds h w hw
    · rw [tl_rb]; decide
theorem toksL_free : ∀ ds, okL ds → ∀ w ∈ toksL ds, 32 ∉ tl w
  | [], _, w, hw => by simp [toksL] at hw
  | d :: r, h, w, hw => by
    have hw' : w ∈ toks d ∨ w ∈ toksL r := by simpa [toksL] using hw
    rcases hw' with hw | hw
    · exact toks_free d h.1 w hw
    · exact toksL_free r h.2 w hw
end
theorem toks_ne {d : D} (h : ok d) : toks d ≠ [] := by
  cases d <;> first | exact h.elim | simp [toks]
theorem sp_ok : sp.cps.all (· < 256) = true := by decide +kernel
theorem split_wr {ws : List Str} (hne : ws ≠ []) (hf : ∀ w ∈ ws, 32 ∉ tl w) : Txt.split (Txt.join sp ws) sp = ws := split_join (s := 32) (S := []) tl_sp sp_ok hne hf
theorem rd_wr {d : D} (h : ok d) (hd : dep d ≤ 12) : rd (wr d) = some d := by
  unfold rd rdVals wr
  rw [split_wr (toks_ne h) (toks_free d h)]
  unfold rdToks
  rw [fold_d d [] [] h (by simp; omega)]
  rfl

/-! ### sizes -/
/-- how long the texts are, with one sign more each -/
def wsum (ws : List Str) : Nat := (ws.map (·.length)).sum + ws.length
theorem wsum_append (a b : List Str) : wsum (a ++ b) = wsum a + wsum b := by
  unfold wsum
  simp
  omega
theorem wsum_cons (a : Str) (b : List Str) : wsum (a :: b) = a.length + 1 + wsum b := by
  unfold wsum
  simp
  omega
theorem wsum_nil : wsum [] = 0 := rfl
theorem sp_len : sp.length = 1 := by decide +kernel
theorem len_append (a b : Str) : (a ++ b).length = a.length + b.length := by
  rw [len_tl, len_tl, len_tl, tl_append, List.length_append]
theorem join_len : ∀ (ws : List Str), ws ≠ [] → (Str.join sp ws).length + 1 = wsum ws
  | [], h => absurd rfl h
  | [x], _ => by
    show x.length + 1 = _
    rw [wsum_cons, wsum_nil]
  | x :: y :: r, _ => by
    have ih := join_len (y :: r) (by simp)
    show (x ++ sp ++ Str.join sp (y :: r)).length + 1 = _
    rw [len_append, len_append, sp_len, wsum_cons, ← ih]
    omega
theorem split_ne (text : Str) : Txt.split text sp ≠ [] := fun h => by
  have := split_spl text sp (by rw [tl_sp]; simp) (kind_ok sp_ok)
  rw [h] at this
  have e : ∀ (S : List Nat) (l acc : List Nat), spl S 0 acc l ≠ [] := by
    intro S l
    induction l with
    | nil => intro acc; rw [spl_nil]; simp
    | cons c r ih =>
      intro acc
      cases hp : pre S (c :: r) with
      | true => rw [spl_hit hp]; simp
      | false => rw [spl_miss hp]; exact ih _
  exact e _ _ _ this.symm
theorem split_sum (text : Str) : wsum (Txt.split text sp) = text.length + 1 := by
  rw [← join_len _ (split_ne text), PySem.StrLaws.join_split]
theorem wr_len {d : D} (h : toks d ≠ []) : (wr d).length + 1 = wsum (toks d) := by
  unfold wr
  rw [join_eq]
  exact join_len _ h

/-! ### the law's own writing: bracket by bracket -/
theorem join_app : ∀ {a b : List Str}, a ≠ [] → b ≠ [] → Str.join sp (a ++ b) = Str.join sp a ++ sp ++ Str.join sp b
  | [], _, h, _ => absurd rfl h
  | [x], b, _, hb => by
    cases b with
    | nil => exact absurd rfl hb
    | cons y r => rfl
  | x :: y :: r, b, _, hb => by
    have ih := join_app (a := y :: r) (b := b) (by simp) hb
    show x ++ sp ++ Str.join sp ((y :: r) ++ b) = (x ++ sp ++ Str.join sp (y :: r)) ++ sp ++ Str.join sp b
    rw [ih]
    simp only [Str.append_assoc]
theorem join_flat : ∀ (L : List (List Str)), (∀ l ∈ L, l ≠ []) → Str.join sp (L.map (Str.join sp)) = Str.join sp L.flatten
  | [], _ => rfl
  | [l], _ => by
    show Str.join sp l = Str.join sp (l ++ [])
    rw [List.append_nil]
  | l :: m :: r, h => by
    have ih := join_flat (m :: r) (fun x hx => h x (List.mem_cons_of_mem _ hx))
    have hm : m ≠ [] := h m (by simp)
    show Str.join sp l ++ sp ++ Str.join sp ((m :: r).map (Str.join sp)) = Str.join sp (l ++ (m :: r).flatten)
    rw [ih, join_app (h l (by simp))]
    show m ++ r.flatten ≠ []
    simp [hm]
theorem toksL_flat : ∀ ds, toksL ds = (ds.map toks).flatten
  | [] => rfl
  | d :: r => by
    show toks d ++ toksL r = toks d ++ (r.map toks).flatten
    rw [toksL_flat r]
theorem wr_tup {ds : List D} (h : okL ds) : Txt.join sp ([lb] ++ ds.map wr ++ [rb]) = wr (.tup ds) := by
  have e : [lb] ++ ds.map wr ++ [rb] = ([[lb]] ++ ds.map toks ++ [[rb]]).map (Str.join sp) := by
    rw [List.map_append, List.map_append, List.map_map]
    congr 2
    apply List.map_congr_left
    intro d _
    show Txt.join sp (toks d) = Str.join sp (toks d)
    exact join_eq _ _
  have hne : ∀ d ∈ ds, toks d ≠ [] := by
    intro d hd
    have : ∀ {l : List D}, okL l → ∀ x ∈ l, ok x := by
      intro l
      induction l with
      | nil => intro _ x hx; simp at hx
      | cons a r ih =>
        intro h x hx
        rcases List.mem_cons.mp hx with rfl | hx
        · exact h.1
        · exact ih h.2 x hx
    exact toks_ne (this h d hd)
  rw [join_eq, e, join_flat]
  · unfold wr
    rw [join_eq]
    congr 1
    show _ = lb :: (toksL ds ++ [rb])
    rw [toksL_flat]
    simp
  · intro l hl
    simp at hl
    rcases hl with rfl | ⟨d, hd, rfl⟩ | rfl
    · simp
    · exact hne d hd
    · simp
theorem wr_int (i : Int) : wr (.int i) = Str.ofString (toString i) := rfl
theorem wr_str (s : Str) : wr (.str s) = s := rfl
end RS

/-! How values lie in the heap; what is kept. Defs that stand, by their promises. -/
namespace RS
open PySem PySem.Spec PyProof.Rows L2 TL

/-- all that was tracked is as it was, but at l -/
def Sv (l : List Addr) (H H' : Hp) : Prop := ∀ b o, b ∉ l → H b = some o → H' b = some o
theorem Sv.refl (l : List Addr) (H : Hp) : Sv l H H := fun _ _ _ h => h
theorem Sv.trans {l : List Addr} {H H1 H2 : Hp} (a : Sv l H H1) (b : Sv l H1 H2) : Sv l H H2 := fun c o n h => b c o n (a c o n h)
theorem Sv.mono {l m : List Addr} {H H' : Hp} (a : Sv l H H') (h : ∀ b ∈ l, b ∈ m) : Sv m H H' := fun b o n e => a b o (fun z => n (h b z)) e
theorem Sv.new {l : List Addr} {H : Hp} {p : Addr} {o : HO} (n : H p = none) : Sv l H (upd H p o) := fun b x _ e => by
  rw [upd_ne (ne_of_none e n)]
  exact e
theorem Sv.set {l : List Addr} {H : Hp} {p : Addr} {o : HO} (h : p ∈ l) : Sv l H (upd H p o) := fun b x n e => by
  rw [upd_ne (fun z => n (by rw [z]; exact h))]
  exact e
theorem Sv.get {l : List Addr} {H H' : Hp} (a : Sv l H H') {b : Addr} {o : HO} (n : b ∉ l) (h : H b = some o) : H' b = some o := a b o n h
/-- what was not there when all this began is not there -/
theorem Sv.free {l : List Addr} {H H' : Hp} (a : Sv l H H') {b : Addr} (h : H' b = none) (n : b ∉ l) : H b = none := by
  cases q : H b with
  | none => rfl
  | some o => rw [a b o n q] at h; cases h
theorem Sv.same {l : List Addr} {H H' : Hp} (a : Same H H') : Sv l H H' := fun b o _ e => a b o e
theorem Sv.nil {H H' : Hp} (a : Sv [] H H') : Same H H' := fun b o e => a b o (by simp) e
/-- a thing that is made and then changed alone: from outside nothing was changed -/
theorem Sv.drop {l : List Addr} {H H' : Hp} {p : Addr} (n : H p = none) (a : Sv (p :: l) H H') : Sv l H H' := fun b o m e =>
  a b o (fun z => by
    rcases List.mem_cons.mp z with rfl | z
    · rw [n] at e; cases e
    · exact m z) e

/-- tuples and locked things are kept -/
def TK (H H' : Hp) : Prop := (∀ a xs, H a = some (.tup xs) → H' a = some (.tup xs)) ∧ ∀ a o u, H a = some (.frz o u) → H' a = some (.frz o u)
theorem TK.refl (H : Hp) : TK H H := ⟨fun _ _ e => e, fun _ _ _ e => e⟩
theorem TK.trans {H H1 H2 : Hp} (a : TK H H1) (b : TK H1 H2) : TK H H2 := ⟨fun c xs e => b.1 c xs (a.1 c xs e), fun c o u e => b.2 c o u (a.2 c o u e)⟩
theorem TK.same {H H' : Hp} (a : Same H H') : TK H H' := ⟨fun c xs e => a c _ e, fun c o u e => a c _ e⟩
/-- is a list -/
def IsL (H : Hp) (l : Addr) : Prop := ∃ xs, H l = some (.lst xs)
theorem Sv.tk {l : List Addr} {H H' : Hp} (a : Sv l H H') (h : ∀ b ∈ l, IsL H b) : TK H H' :=
  ⟨fun c xs e => a c _ (fun z => by obtain ⟨ys, q⟩ := h c z; rw [q] at e; cases e) e, fun c o u e => a c _ (fun z => by obtain ⟨ys, q⟩ := h c z; rw [q] at e; cases e) e⟩
theorem TK.seqT {K : PySem.W.Frag} {H H' : Hp} {a : Addr} {xs : List V} (e : TK H H') (h : SqT K H a xs) : SqT K H' a xs := by
  rcases h with (h | ⟨o, h⟩) | h
  · exact .inl (.inl (e.1 _ _ h))
  · exact .inl (.inr ⟨o, e.2 _ _ _ h⟩)
  · exact .inr h
theorem tk_new {H : Hp} {p : Addr} {o : HO} (n : H p = none) : TK H (upd H p o) := TK.same fun b x e => by
  rw [upd_ne (ne_of_none e n)]
  exact e
theorem tk_set {H : Hp} {p : Addr} {o : HO} (h : IsL H p) : TK H (upd H p o) := Sv.tk (l := [p]) (Sv.set (by simp)) fun b hb => by
  have : b = p := by simpa using hb
  exact this ▸ h

mutual
/-- the value d is what v stands for -/
def Rp (K : PySem.W.Frag) (H : Hp) : D → V → Prop
  | .int i, v => v = .int i
  | .bl b, v => v = .bl b
  | .str s, v => v = .str s
  | .tup ds, v => ∃ a xs, v = .ref a ∧ SqT K H a xs ∧ RpL K H ds xs
def RpL (K : PySem.W.Frag) (H : Hp) : List D → List V → Prop
  | [], xs => xs = []
  | d :: r, xs => ∃ x ys, xs = x :: ys ∧ Rp K H d x ∧ RpL K H r ys
end
section
variable {K : PySem.W.Frag} {H H' : Hp}
mutual
theorem Rp.keep (k : TK H H') : ∀ {d : D} {v : V}, Rp K H d v → Rp K H' d v
  | .int _, _, h => h
  | .bl _, _, h => h
  | .str _, _, h => h
  | .tup ds, _, ⟨a, xs, e, s, r⟩ => ⟨a, xs, e, k.seqT s, RpL.keep k r⟩
theorem RpL.keep (k : TK H H') : ∀ {ds : List D} {xs : List V}, RpL K H ds xs → RpL K H' ds xs
  | [], _, h => h
  | d :: r, _, ⟨x, ys, e, h, t⟩ => ⟨x, ys, e, Rp.keep k h, RpL.keep k t⟩
end
theorem RpL.len : ∀ {ds : List D} {xs : List V}, RpL K H ds xs → xs.length = ds.length
  | [], _, h => by
    have h : _ = [] := h
    rw [h]; rfl
  | d :: r, _, ⟨x, ys, e, _, t⟩ => by rw [e, List.length_cons, RpL.len t, List.length_cons]
theorem RpL.get : ∀ {ds : List D} {xs : List V} {i : Nat} {x : V}, RpL K H ds xs → xs[i]? = some x → ∃ d, ds[i]? = some d ∧ Rp K H d x
  | [], _, i, x, h, e => by
    have h : _ = [] := h
    rw [h] at e; simp at e
  | d :: r, _, 0, x, ⟨y, ys, e, h, t⟩, q => by
    rw [e] at q
    have : y = x := by simpa using q
    exact ⟨d, rfl, this ▸ h⟩
  | d :: r, _, i + 1, x, ⟨y, ys, e, h, t⟩, q => by
    rw [e] at q
    obtain ⟨d', e', h'⟩ := RpL.get (i := i) t (by simpa using q)
    exact ⟨d', by simpa using e', h'⟩
theorem RpL.at : ∀ {ds : List D} {xs : List V} {i : Nat} {d : D}, RpL K H ds xs → ds[i]? = some d → ∃ x, xs[i]? = some x ∧ Rp K H d x
  | [], _, i, d, h, e => by simp at e
  | d :: r, _, 0, d', ⟨y, ys, e, h, t⟩, q => by
    have : d = d' := by simpa using q
    exact ⟨y, by rw [e]; rfl, this ▸ h⟩
  | d :: r, _, i + 1, d', ⟨y, ys, e, h, t⟩, q => by
    obtain ⟨x, e', h'⟩ := RpL.at (i := i) (d := d') t (by simpa using q)
    exact ⟨x, by rw [e]; simpa using e', h'⟩
theorem RpL.snoc : ∀ {ds : List D} {xs : List V} {d : D} {x : V}, RpL K H ds xs → Rp K H d x → RpL K H (ds ++ [d]) (xs ++ [x])
  | [], _, d, x, h, r => by
    have h : _ = [] := h
    rw [h]
    exact ⟨x, [], rfl, r, rfl⟩
  | d0 :: r0, _, d, x, ⟨y, ys, e, h, t⟩, r => by
    rw [e]
    exact ⟨y, ys ++ [x], rfl, h, RpL.snoc t r⟩
theorem RpL.nil : RpL K H [] [] := rfl
theorem RpL.cons {d : D} {x : V} {ds : List D} {xs : List V} (h : Rp K H d x) (t : RpL K H ds xs) : RpL K H (d :: ds) (x :: xs) := ⟨x, xs, rfl, h, t⟩
theorem Rp.tup {a : Addr} {ds : List D} {xs : List V} (s : SqT K H a xs) (r : RpL K H ds xs) : Rp K H (.tup ds) (.ref a) := ⟨a, xs, rfl, s, r⟩
theorem Rp.tupH {a : Addr} {ds : List D} {xs : List V} (s : H a = some (.tup xs)) (r : RpL K H ds xs) : Rp K H (.tup ds) (.ref a) := ⟨a, xs, rfl, .inl (.inl s), r⟩
/-- a new tuple -/
theorem Rp.made {p : Addr} {ds : List D} {xs : List V} (n : H p = none) (r : RpL K H ds xs) : Rp K (upd H p (.tup xs)) (.tup ds) (.ref p) := Rp.tupH upd_same (r.keep (tk_new n))
end

/-! ### defs that stand -/
/-- the def of this name stands behind the top as the text has it -/
def HasDef (K : PySem.W.Frag) (mg : Str → Option Value) (x : Str) (st : Stmt) (ps : List Str) : Prop := ∃ f fd, Fun K x x st f fd ∧ mg x = some (.ref f) ∧ Binds K fd ps []
/-- a def of this name keeps the promise sp -/
def Has (P : Program) (w : World) (K : PySem.W.Frag) (mg : Str → Option Value) (base : Heap) (CX : CXT) (k : Nat) (x : Str) (ps : List Str) (sp : Sp) : Prop :=
  ∃ f fd, FnOk P w K mg base CX k f fd ps sp ∧ mg x = some (.ref f) ∧ PySem.W.keepIn K (.ref f) = true ∧ Binds K fd ps []
section
variable {P : Program} {w : World} {K : PySem.W.Frag} {mg : Str → Option Value} {base : Heap} {CX : CXT} {k : Nat} {x : Str} {st : Stmt} {ps : List Str} {sp : Sp}
theorem HasDef.has (D : HasDef K mg x st ps) (h : ∀ f fd, Fun K x x st f fd → FnOk P w K mg base CX k f fd ps sp) : Has P w K mg base CX k x ps sp := by
  obtain ⟨f, fd, F, g, b⟩ := D
  exact ⟨f, fd, h f fd F, g, F.kp, b⟩
theorem Has.mono {j : Nat} (h : Has P w K mg base CX j x ps sp) (hj : j ≤ k) : Has P w K mg base CX k x ps sp := by
  obtain ⟨f, fd, F, r⟩ := h
  exact ⟨f, fd, F.mono hj, r⟩
theorem Has.imp {sp' : Sp} (h : Has P w K mg base CX k x ps sp) (q : ∀ vs H Q E, sp' vs H Q E → sp vs H Q E) : Has P w K mg base CX k x ps sp' := by
  obtain ⟨f, fd, F, r⟩ := h
  exact ⟨f, fd, F.imp q, r⟩
end
section
variable {X : Cx} {CX : CXT} {k : Nat} {x : Str} {ps : List Str} {sp : Sp} {E : XK} {p pos : Pos} {e : Expr} {es : List Expr} {t : TA}
/-- f(e, ..), f of a kept promise -/
theorem pe_has (h : Has X.prog X.w X.K X.mg X.base CX k x ps sp) (hr : Room k X.A) (hx : Passes CX X E) (ha : PA X (e :: es) t) (hg : Gl X x := by rfl) (hdb : (x == ("__debug__" : Str)) = false := by decide)
    (he : starEach (e :: es) X.env = (false, eval e X.env) :: starEach es X.env := by rfl) (hpl : (backTo pos (starEach es X.env)).any (·.1) = false := by rfl) :
    PE X (.Call (.Name x p) (e :: es) [] pos) (tCall sp [] E t) := by
  obtain ⟨f, fd, F, g, kp, b⟩ := h
  exact pe_call F hr hg g kp b .nil hx ha hdb he hpl
/-- f(e, ..) in a try's body, or in a def that may raise: what is raised is wished for at the slots -/
theorem pe_hasS {W : WX} (h : Has X.prog X.w X.K X.mg X.base (L2.CX X.prog X.w) k x ps sp) (hr : Room k X.A) (tk : Takes X W) (ha : PA X (e :: es) t) (hg : Gl X x := by rfl) (hdb : (x == ("__debug__" : Str)) = false := by decide)
    (he : starEach (e :: es) X.env = (false, eval e X.env) :: starEach es X.env := by rfl) (hpl : (backTo pos (starEach es X.env)).any (·.1) = false := by rfl) :
    PE X (.Call (.Name x p) (e :: es) [] pos) (tCallS sp (WE W) t) := by
  obtain ⟨f, fd, F, g, kp, b⟩ := h
  exact pe_callS F hr hg g kp b (fun σ => passAt tk σ) ha hdb he hpl
end
end RS

/-! More readings: comprehensions over a text, slices. -/
namespace RS
open PySem PySem.Spec PyProof.Rows L2 TL

theorem lc_str {z : Str} {g : TG} {tt : TT} {te : TE} {vs : List Nat} {σ : L2.St} {H1 : Hp} {D : Addr} {Qd : Hp → Prop} (Pv : Nat → Hp → Prop) (h0 : Pv 0 (upd H1 D (.lst [])))
    (hs : ∀ (i c : Nat) H, (tl z)[i]? = some c → Pv i H → g (.str ⟨#[c]⟩) (wipe σ vs) H fun σ2 H2 => wipe σ2 vs = wipe σ vs ∧ tt σ2 H2 fun b H3 =>
      if b = true then te σ2 H3 fun y H4 => ∃ acc, H4 D = some (.lst acc) ∧ acc.length < sizeLine ∧ Pv (i + 1) (upd H4 D (.lst (acc ++ [y]))) else Pv (i + 1) H3) (hd : ∀ H, Pv (tl z).length H → Qd H) :
    ∃ W : Nat → Nat → Hp → Prop, (∃ m, W 0 m (upd H1 D (.lst []))) ∧ ∀ i m H, W i m H →
      ((Its z).stop i H ∧ Qd H) ∨ ((Its z).go i H ∧ ∃ Nx : Hp → Prop, (∀ H', Nx H' → ∃ m', m' < m ∧ W (i + 1) m' H') ∧ ∀ x H', (Its z).yld i H x H' → g x (wipe σ vs) H' fun σ2 H2 => wipe σ2 vs = wipe σ vs ∧ tt σ2 H2 fun b H3 =>
        if b = true then te σ2 H3 fun y H4 => ∃ acc, H4 D = some (.lst acc) ∧ acc.length < sizeLine ∧ Nx (upd H4 D (.lst (acc ++ [y]))) else Nx H3) := by
  have hz : (tl z).length = z.cps.size := Array.length_toList
  refine ⟨fun i m H => m = (tl z).length - i ∧ i ≤ (tl z).length ∧ Pv i H, ⟨(tl z).length, by simp, Nat.zero_le _, h0⟩, ?_⟩
  rintro i m H ⟨rfl, hi, p⟩
  by_cases hlt : i < (tl z).length
  · refine .inr ⟨by show i < z.cps.size; omega, Pv (i + 1), fun H' p' => ⟨(tl z).length - (i + 1), by omega, rfl, hlt, p'⟩, fun x H' y => ?_⟩
    obtain ⟨e, c, hc, ex⟩ := y
    subst e
    subst ex
    exact hs i c _ (by rw [← hc]; exact Array.getElem?_toList) p
  · have e : i = (tl z).length := by omega
    subst e
    exact .inl ⟨by show z.cps.size ≤ _; omega, hd H p⟩

/-- [c in S for c in z], then all(..): the reading's way to the answer -/
theorem take_snoc {α : Type} {l : List α} {i : Nat} {c : α} (h : l[i]? = some c) : l.take (i + 1) = l.take i ++ [c] := by
  rw [List.take_add_one, h]
  rfl

/-! ### slices -/
theorem tl_cut0 (z : Str) (k : Nat) : tl (cutS z none (some (k : Int))) = (tl z).take k := by
  show ((tl z).drop 0).take (HT.sIx z.length z.length (some (k : Int)) - 0) = _
  rw [HT.sIx_nat, List.drop_zero, Nat.sub_zero, len_tl]
  by_cases h : k ≤ (tl z).length
  · rw [Nat.min_eq_left h]
  · rw [Nat.min_eq_right (by omega), List.take_length, List.take_of_length_le (by omega)]
theorem tl_cut1 (z : Str) (k : Nat) : tl (cutS z (some (k : Int)) none) = (tl z).drop k := by
  show ((tl z).drop (HT.sIx z.length 0 (some (k : Int)))).take (z.length - HT.sIx z.length 0 (some (k : Int))) = _
  rw [HT.sIx_nat, len_tl]
  rw [List.take_of_length_le (by rw [List.length_drop]; omega)]
  by_cases h : k ≤ (tl z).length
  · rw [Nat.min_eq_left h]
  · rw [Nat.min_eq_right (by omega), List.drop_length, List.drop_of_length_le (by omega)]
/-- the first sign alone -/
theorem cut_dash (z : Str) : cutS z none (some 1) = ("-" : Str) ↔ (tl z).head? = some 45 := by
  have e := tl_cut0 z 1
  constructor
  · intro h
    have h' : tl (cutS z none (some 1)) = tl ("-" : Str) := by rw [h]
    rw [tl_dash] at h'
    have e' : (tl z).take 1 = [45] := e.symm.trans h'
    cases hz : tl z with
    | nil => rw [hz] at e'; simp at e'
    | cons a r => rw [hz] at e'; simp at e'; simp [e']
  · intro h
    apply ext_tl
    rw [tl_dash]
    refine Eq.trans e ?_
    cases hz : tl z with
    | nil => rw [hz] at h; simp at h
    | cons a r => rw [hz] at h; simp at h; simp [h]
theorem cut_body (z : Str) : (if (tl z).head? = some 45 then cutS z (some 1) none else z) = body z := by
  unfold body
  split
  · apply ext_tl
    refine Eq.trans (tl_cut1 z 1) ?_
    rw [tl_mk, List.drop_one]
  · rfl

/-! ### cuts: a part's answers said once -/
theorem cutE {t : TE} {σ : L2.St} {H : Hp} {Q : VK} (R : V → Hp → Prop) (h : ∀ Q' : VK, (∀ v H', R v H' → Q' v H') → t σ H Q') (q : ∀ v H', R v H' → Q v H') : t σ H Q := h Q q
theorem cutT {t : TT} {σ : L2.St} {H : Hp} {Q : Bool → Hp → Prop} (R : Bool → Hp → Prop) (h : ∀ Q' : Bool → Hp → Prop, (∀ v H', R v H' → Q' v H') → t σ H Q') (q : ∀ v H', R v H' → Q v H') : t σ H Q := h Q q
theorem cutTS {t : TS} {D : Ends} {σ : L2.St} {H : Hp} (R : L2.St → Hp → Prop) (h : ∀ nx : L2.St → Hp → Prop, (∀ σ' H', R σ' H' → nx σ' H') → t { D with nx := nx } σ H) (q : ∀ σ' H', R σ' H' → D.nx σ' H') : t D σ H := h D.nx q
/-- behind the first statement -/
theorem cutSeq {s r : TS} {D : Ends} {σ : L2.St} {H : Hp} (R : L2.St → Hp → Prop) (h : ∀ nx : L2.St → Hp → Prop, (∀ σ' H', R σ' H' → nx σ' H') → s { D with nx := nx } σ H) (q : ∀ σ' H', R σ' H' → r D σ' H') : tSeq s r D σ H := h _ q
/-- an if whose test gives b -/
theorem cutIf {c : TT} {t u : TS} {D : Ends} {σ : L2.St} {H : Hp} (b : Bool) (h : ∀ Q' : Bool → Hp → Prop, Q' b H → c σ H Q') (q : if b = true then t D σ H else u D σ H) : tIfS c t u D σ H := h _ q
theorem cutIfS {c : TT} {t u r : TS} {D : Ends} {σ : L2.St} {H : Hp} (b : Bool) (h : ∀ Q' : Bool → Hp → Prop, Q' b H → c σ H Q') (q : if b = true then t { D with nx := r D } σ H else u { D with nx := r D } σ H) : tSeq (tIfS c t u) r D σ H := h _ q
end RS

/-! A list of lists of values: the rows that are open. -/
namespace RS
open PySem PySem.Spec PyProof.Rows L2 TL

/-! ### values for == -/
mutual
def toPy : D → PyData
  | .int i => .int i
  | .bl b => .bool b
  | .str s => .str s
  | .tup ds => .tuple (toPyL ds)
def toPyL : List D → List PyData
  | [] => []
  | d :: r => toPy d :: toPyL r
end
mutual
/-- its texts are texts -/
def pyok : D → Prop
  | .int _ => True
  | .bl _ => True
  | .str s => PySem.PyData.strOk s = true
  | .tup ds => pyokL ds
def pyokL : List D → Prop
  | [] => True
  | d :: r => pyok d ∧ pyokL r
end
theorem pyokL_snoc : ∀ {a : List D} {d : D}, pyokL a → pyok d → pyokL (a ++ [d])
  | [], _, _, h => ⟨h, trivial⟩
  | _ :: _, _, ⟨h1, h2⟩, h => ⟨h1, pyokL_snoc h2 h⟩
mutual
theorem lay_of : ∀ d, pyok d → PyData.canLay0 (toPy d) = true
  | .int _, _ => by simp [toPy, PyData.canLay0]
  | .bl _, _ => by simp [toPy, PyData.canLay0]
  | .str s, h => by simp only [toPy, PyData.canLay0]; exact h
  | .tup ds, h => by simp only [toPy, PyData.canLay0]; exact lay_ofL ds h
theorem lay_ofL : ∀ ds, pyokL ds → PyData.canLayAll0 (toPyL ds) = true
  | [], _ => by simp [toPyL, PyData.canLayAll0]
  | d :: r, h => by simp only [toPyL, PyData.canLayAll0, lay_of d h.1, lay_ofL r h.2, Bool.and_self]
end
mutual
theorem depth_py : ∀ d, PyData.depth (toPy d) = dep d
  | .int _ => by simp [toPy, PyData.depth, dep]
  | .bl _ => by simp [toPy, PyData.depth, dep]
  | .str _ => by simp [toPy, PyData.depth, dep]
  | .tup ds => by simp only [toPy, PyData.depth, dep, depth_pyL ds]; omega
theorem depth_pyL : ∀ ds, PyData.depthAll (toPyL ds) = depL ds
  | [] => by simp [toPyL, PyData.depthAll, depL]
  | d :: r => by simp only [toPyL, PyData.depthAll, depL, depth_py d, depth_pyL r]
end
section
variable {K : PySem.W.Frag} {H H' : Hp}
mutual
theorem Rp.dp : ∀ {d : D} {v : V}, Rp K H d v → Dp K H v (toPy d)
  | .int i, _, h => by cases (show _ = V.int i from h); exact .int i
  | .bl b, _, h => by cases (show _ = V.bl b from h); exact .bl b
  | .str s, _, h => by cases (show _ = V.str s from h); exact .str s
  | .tup ds, _, ⟨a, xs, e, s, r⟩ => by rw [e]; exact .tup s (RpL.dp r)
theorem RpL.dp : ∀ {ds : List D} {xs : List V}, RpL K H ds xs → DpAll K H xs (toPyL ds)
  | [], _, h => by cases (show _ = ([] : List V) from h); exact .nil
  | d :: r, _, ⟨x, ys, e, h, t⟩ => by rw [e]; exact .cons h.dp (RpL.dp t)
end

/-! ### the open rows -/
/-- the lists at rs hold the rows st -/
def Rows (K : PySem.W.Frag) (H : Hp) : List Addr → List (List D) → Prop
  | [], [] => True
  | r :: rs, ds :: st => (∃ xs, H r = some (.lst xs) ∧ RpL K H ds xs) ∧ Rows K H rs st
  | _, _ => False
/-- the list at l holds the lists at rs, the last one first -/
structure Stk (K : PySem.W.Frag) (H : Hp) (l : Addr) (rs : List Addr) (st : List (List D)) : Prop where
  top : H l = some (.lst (rs.reverse.map V.ref))
  nd : (l :: rs).Nodup
  rows : Rows K H rs st
theorem Rows.len : ∀ {rs : List Addr} {st : List (List D)}, Rows K H rs st → rs.length = st.length
  | [], [], _ => rfl
  | r :: rs, ds :: st, h => by rw [List.length_cons, List.length_cons, Rows.len h.2]
  | [], _ :: _, h => h.elim
  | _ :: _, [], h => h.elim
theorem Rows.keep (k : TK H H') : ∀ {rs : List Addr} {st : List (List D)}, (∀ r ∈ rs, H' r = H r) → Rows K H rs st → Rows K H' rs st
  | [], [], _, _ => trivial
  | r :: rs, ds :: st, e, ⟨⟨xs, h, l⟩, t⟩ => ⟨⟨xs, by rw [e r (by simp)]; exact h, l.keep k⟩, Rows.keep k (fun r h => e r (by simp [h])) t⟩
  | [], _ :: _, _, h => h.elim
  | _ :: _, [], _, h => h.elim
theorem Rows.isL : ∀ {rs : List Addr} {st : List (List D)}, Rows K H rs st → ∀ r ∈ rs, IsL H r
  | [], [], _, r, h => by simp at h
  | r :: rs, ds :: st, ⟨⟨xs, h, _⟩, t⟩, b, hb => by
    rcases List.mem_cons.mp hb with rfl | hb
    · exact ⟨xs, h⟩
    · exact Rows.isL t b hb
  | [], _ :: _, h, _, _ => h.elim
  | _ :: _, [], h, _, _ => h.elim
variable {l : Addr} {rs : List Addr} {st : List (List D)}
theorem Stk.isL (S : Stk K H l rs st) : ∀ b ∈ l :: rs, IsL H b := fun b hb => by
  rcases List.mem_cons.mp hb with rfl | hb
  · exact ⟨_, S.top⟩
  · exact S.rows.isL b hb
theorem Stk.len (S : Stk K H l rs st) : rs.length = st.length := S.rows.len
/-- all that was tracked is kept -/
theorem Stk.same (S : Stk K H l rs st) (s : Same H H') : Stk K H' l rs st :=
  ⟨s _ _ S.top, S.nd, S.rows.keep (TK.same s) fun r hr => by
    obtain ⟨xs, h⟩ := S.rows.isL r hr
    rw [h]
    exact s _ _ h⟩
/-- kept but at other places -/
theorem Stk.sv {m : List Addr} (S : Stk K H l rs st) (s : Sv m H H') (k : TK H H') (n : ∀ b ∈ l :: rs, b ∉ m) : Stk K H' l rs st :=
  ⟨s _ _ (n l (by simp)) S.top, S.nd, S.rows.keep k fun r hr => by
    obtain ⟨xs, h⟩ := S.rows.isL r hr
    rw [h]
    exact s _ _ (n r (by simp [hr])) h⟩
/-- a new empty row -/
theorem Stk.push {p : Addr} (S : Stk K H l rs st) (n : H p = none) : Stk K (upd (upd H p (.lst [])) l (.lst ((p :: rs).reverse.map V.ref))) l (p :: rs) ([] :: st) := by
  have pl : p ≠ l := fun e => by rw [e, S.top] at n; cases n
  have pr : ∀ r ∈ rs, p ≠ r := fun r hr e => by
    obtain ⟨xs, h⟩ := S.rows.isL r hr
    rw [e, h] at n; cases n
  have lr : ∀ r ∈ rs, l ≠ r := fun r hr e => (List.nodup_cons.mp S.nd).1 (by rw [e]; exact hr)
  have nd := List.nodup_cons.mp S.nd
  have k : TK H (upd (upd H p (.lst [])) l (.lst ((p :: rs).reverse.map V.ref))) := (tk_new n).trans (tk_set ⟨_, by rw [upd_ne pl.symm]; exact S.top⟩)
  refine ⟨upd_same, ?_, ⟨[], ?_, rfl⟩, S.rows.keep k fun r hr => ?_⟩
  · rw [List.nodup_cons, List.nodup_cons]
    refine ⟨fun h => ?_, fun h => pr p h rfl, nd.2⟩
    rcases List.mem_cons.mp h with e | h
    · exact pl e.symm
    · exact nd.1 h
  · rw [upd_ne pl, upd_same]
  · rw [upd_ne (lr r hr).symm, upd_ne (pr r hr).symm]
/-- a value more in the innermost row -/
theorem Stk.put {r : Addr} {ds : List D} {d : D} {v : V} {xs : List V} (S : Stk K H l (r :: rs) (ds :: st)) (hr : H r = some (.lst xs)) (hv : Rp K H d v) : Stk K (upd H r (.lst (xs ++ [v]))) l (r :: rs) ((ds ++ [d]) :: st) := by
  have nd := List.nodup_cons.mp S.nd
  have nd2 := List.nodup_cons.mp nd.2
  have k : TK H (upd H r (.lst (xs ++ [v]))) := tk_set ⟨_, hr⟩
  obtain ⟨⟨ys, h1, h2⟩, h3⟩ := S.rows
  rw [hr] at h1
  cases h1
  refine ⟨?_, S.nd, ⟨_, upd_same, (h2.keep k).snoc (hv.keep k)⟩, h3.keep k fun b hb => ?_⟩
  · rw [upd_ne (fun e => nd.1 (by rw [e]; simp))]
    exact S.top
  · rw [upd_ne (fun e => nd2.1 (by rw [← e]; exact hb))]
/-- the innermost row is taken off -/
theorem Stk.pop {r : Addr} {ds : List D} (S : Stk K H l (r :: rs) (ds :: st)) : Stk K (upd H l (.lst (rs.reverse.map V.ref))) l rs st ∧ ∃ xs, H r = some (.lst xs) ∧ RpL K H ds xs ∧ (upd H l (.lst (rs.reverse.map V.ref))) r = some (.lst xs) := by
  have nd := List.nodup_cons.mp S.nd
  have nd2 := List.nodup_cons.mp nd.2
  have k : TK H (upd H l (.lst (rs.reverse.map V.ref))) := tk_set ⟨_, S.top⟩
  obtain ⟨⟨ys, h1, h2⟩, h3⟩ := S.rows
  refine ⟨⟨upd_same, ?_, h3.keep k fun b hb => ?_⟩, ys, h1, h2, ?_⟩
  · rw [List.nodup_cons]
    exact ⟨fun h => nd.1 (by simp [h]), nd2.2⟩
  · rw [upd_ne (fun e => nd.1 (by rw [← e]; simp [hb]))]
  · rw [upd_ne (fun e => nd.1 (by rw [← e]; simp))]
    exact h1
/-- the last item of the list of rows -/
theorem Stk.last {r : Addr} {ds : List D} (S : Stk K H l (r :: rs) (ds :: st)) : atI ((r :: rs).reverse.map V.ref) (-1) = some (.ref r) := by
  rw [List.reverse_cons, List.map_append]
  exact atI_last _ _
theorem popped {r : Addr} {rs : List Addr} : ((r :: rs).reverse.map V.ref).dropLast = rs.reverse.map V.ref ∧ ((r :: rs).reverse.map V.ref)[((r :: rs).reverse.map V.ref).length - 1]? = some (.ref r) := by
  rw [List.reverse_cons, List.map_append]
  constructor
  · exact List.dropLast_concat
  · rw [List.length_append]
    show (rs.reverse.map V.ref ++ [V.ref r])[(rs.reverse.map V.ref).length + 1 - 1]? = _
    rw [Nat.add_sub_cancel, List.getElem?_append_right (Nat.le_refl _), Nat.sub_self]
    rfl
theorem DpAll.append : ∀ {xs ys : List V} {as bs : List PyData}, DpAll K H xs as → DpAll K H ys bs → DpAll K H (xs ++ ys) (as ++ bs)
  | _, _, _, _, .nil, h => h
  | _, _, _, _, .cons a b, h => .cons a (DpAll.append b h)
theorem Rows.dp : ∀ {rs : List Addr} {st : List (List D)}, Rows K H rs st → DpAll K H (rs.reverse.map V.ref) (st.reverse.map fun ds => PyData.list (toPyL ds))
  | [], [], _ => .nil
  | r :: rs, ds :: st, ⟨⟨xs, h, q⟩, t⟩ => by
    rw [List.reverse_cons, List.map_append, List.reverse_cons, List.map_append]
    exact DpAll.append (Rows.dp t) (.cons (.lst (.inl (.inl h)) q.dp) .nil)
  | [], _ :: _, h => h.elim
  | _ :: _, [], h => h.elim
theorem canLay_rows : ∀ {st : List (List D)}, (∀ ds ∈ st, pyokL ds) → PyData.canLayAll0 (st.map fun ds => PyData.list (toPyL ds)) = true
  | [], _ => by simp [PyData.canLayAll0]
  | ds :: st, h => by
    simp only [List.map_cons, PyData.canLayAll0, PyData.canLay0, lay_ofL ds (h ds (by simp)), canLay_rows (st := st) (fun x hx => h x (by simp [hx])), Bool.and_self]
theorem depth_rows : ∀ {st : List (List D)}, (∀ ds ∈ st, depL ds ≤ 60) → PyData.depthAll (st.map fun ds => PyData.list (toPyL ds)) ≤ 61
  | [], _ => by simp [PyData.depthAll]
  | ds :: st, h => by
    simp only [List.map_cons, PyData.depthAll, PyData.depth, depth_pyL]
    have := h ds (by simp)
    have := depth_rows (st := st) (fun x hx => h x (by simp [hx]))
    omega
/-- rows == [] -/
theorem Stk.isNil {X : Cx} {Q : VK} {q : Addr} (S : Stk X.K H l rs st) (hp : ∀ ds ∈ st, pyokL ds) (hd : ∀ ds ∈ st, depL ds ≤ 60) (hq : H q = some (.lst [])) (h : Q (.bl st.isEmpty) H) : rEqD X.K (.ref l) (.ref q) H Q := by
  refine ⟨_, _, .lst (.inl (.inl S.top)) S.rows.dp, .lst (.inl (.inl hq)) .nil, ?_, ?_, ?_⟩
  · unfold SeqAt.shaped
    rw [Bool.and_eq_true]
    constructor
    · simp only [PyData.canLay0]
      have := canLay_rows (st := st.reverse) fun ds h => hp ds (List.mem_reverse.mp h)
      exact this
    · apply decide_eq_true
      have := depth_rows (st := st.reverse) fun ds h => hd ds (List.mem_reverse.mp h)
      simp only [PyData.depth]
      omega
  · decide +kernel
  · have e : PyData.eqv (.list (st.reverse.map fun ds => PyData.list (toPyL ds))) (.list []) = st.isEmpty := by
      cases st with
      | nil => simp [PyData.eqv, PyData.eqvAll]
      | cons a r =>
        have : ∃ x y, ((a :: r).reverse.map fun ds => PyData.list (toPyL ds)) = x :: y := by
          cases h : ((a :: r).reverse.map fun ds => PyData.list (toPyL ds)) with
          | nil => simp at h
          | cons x y => exact ⟨x, y, rfl⟩
        obtain ⟨x, y, e⟩ := this
        rw [e]
        simp [PyData.eqv, PyData.eqvAll]
    rw [e]
    exact h
end

/-! ### what reading leaves -/
theorem tok_py {s : Str} {d : D} (h : tokIn s = some d) : pyok d := by
  unfold tokIn at h
  split at h
  · rename_i hw
    cases h
    show PySem.PyData.strOk s = true
    unfold PySem.PyData.strOk
    rw [← Array.all_toList, List.all_eq_true]
    intro c hc
    have := (word_letters hw).1 c hc
    exact decide_eq_true (by omega)
  · split at h
    · cases h; trivial
    · cases h
theorem step_py {st st' : List (List D)} {w : Str} (h : step st w = some st') (hp : ∀ ds ∈ st, pyokL ds) : ∀ ds ∈ st', pyokL ds := by
  unfold step at h
  split at h
  · split at h
    · cases h
      intro ds hd
      rcases List.mem_cons.mp hd with rfl | hd
      · trivial
      · exact hp ds hd
    · cases h
  · split at h
    · split at h
      · rename_i top b r
        cases h
        intro ds hd
        rcases List.mem_cons.mp hd with rfl | hd
        · exact pyokL_snoc (hp b (by simp)) (hp top (by simp))
        · exact hp ds (by simp [hd])
      · cases h
    · split at h
      · rename_i d top r hk
        cases h
        intro ds hd
        rcases List.mem_cons.mp hd with rfl | hd
        · exact pyokL_snoc (hp top (by simp)) (tok_py hk)
        · exact hp ds (by simp [hd])
      · cases h
end RS

/-! What isinstance and except answer, from what the classes say. -/
namespace RS
open PySem PySem.Spec PyProof.Rows L2
theorem kit_self {K : PySem.W.Frag} {C : Addr} : PySem.W.kitOne K (.ref C) (.ref C) = some true := by
  unfold PySem.W.kitOne
  rw [if_pos (beq_self_eq_true _)]
theorem cls_asks {K : PySem.W.Frag} {D : Addr} {t : Value} (i : PySem.W.isClsIn K D = true) (y : PySem.W.typeIn K (.ref D) = some (.type "type")) : PySem.W.kitCls K t (.ref D) = PySem.W.subIn K t (.ref D) := by
  have i' : (PySem.W.clsIn K D).isSome = true := i
  have e : ((PySem.W.clsIn K D).isSome && PySem.W.typeIn K (.ref D) == some (.type "type")) = true := by rw [i', y] <;> rfl
  show (if ((PySem.W.clsIn K D).isSome && PySem.W.typeIn K (.ref D) == some (.type "type")) = true then PySem.W.subIn K t (.ref D) else none) = _
  rw [if_pos e]
theorem kit_not {K : PySem.W.Frag} {C D : Addr} (i : PySem.W.isClsIn K D = true) (y : PySem.W.typeIn K (.ref D) = some (.type "type")) (s : PySem.W.subIn K (.ref C) (.ref D) = some false) (sC : PySem.W.subIn K (.ref C) (.ref C) = some true) : PySem.W.kitOne K (.ref C) (.ref D) = some false := by
  have ne : ((Value.ref C : Value) == .ref D) = false := by
    refine Bool.eq_false_iff.mpr fun q => ?_
    have e : C = D := Value.ref.inj (beq_iff_eq.mp q)
    subst e
    rw [s] at sC
    cases sC
  unfold PySem.W.kitOne
  rw [ne, if_neg Bool.false_ne_true, cls_asks i y, s]
theorem kit_yes {K : PySem.W.Frag} {C : Addr} {T : String} (hm : PySem.W.kitMeta T = true) (s : PySem.W.subIn K (.ref C) (.type T) = some true) : PySem.W.kitOne K (.ref C) (.type T) = some true := by
  unfold PySem.W.kitOne
  by_cases e : ((Value.ref C : Value) == .type T) = true
  · rw [if_pos e]
  · rw [if_neg e]
    show (if PySem.W.kitMeta T = true then PySem.W.subIn K (.ref C) (.type T) else none) = _
    rw [if_pos hm, s]
theorem exm_asks {K : PySem.W.Frag} {C D : Addr} {b : Bool} (e : PySem.W.subIn K (.ref D) (.type "BaseException") = some true) (i : PySem.W.isClsIn K D = true) (y : PySem.W.typeIn K (.ref D) = some (.type "type")) (s : PySem.W.subIn K (.ref C) (.ref D) = some b) : PySem.W.exmOne K (.ref C) (.ref D) = some b := by
  have e1 : (PySem.W.subIn K (.ref D) (.type "BaseException") == some true) = true := by rw [e] <;> rfl
  unfold PySem.W.exmOne
  rw [if_pos e1, cls_asks i y, s]
end RS

namespace RS
open PySem PySem.Spec PyProof.Rows L2 TL
def topS (i : Nat) : Stmt := PySem.Challenge.pw_rightstead_k75_values_as_text.main.body.getD i (.Pass ⟨0, 0, 0, 0⟩)

/-! ### isinstance of values -/
def tyD : D → String
  | .int _ => "int"
  | .bl _ => "bool"
  | .str _ => "str"
  | .tup _ => "tuple"
theorem SqT.ty {K : PySem.W.Frag} {H : Hp} {a : Addr} {xs : List V} (h : SqT K H a xs) : TyX K H (.ref a) (.type "tuple") := by
  rcases h with (h | ⟨o, h⟩) | ⟨o, its, n, h, c, _⟩
  · exact .base (.tup h)
  · exact .fTuple h
  · exact .kTuple h c
theorem Rp.ty {K : PySem.W.Frag} {H : Hp} : ∀ {d : D} {v : V}, Rp K H d v → TyX K H v (.type (tyD d))
  | .int i, _, h => by cases (show _ = V.int i from h); exact .base (.int i)
  | .bl b, _, h => by cases (show _ = V.bl b from h); exact .base (.bl b)
  | .str s, _, h => by cases (show _ = V.str s from h); exact .base (.str s)
  | .tup ds, _, ⟨a, xs, e, s, r⟩ => by rw [e]; exact SqT.ty s
def isIntB : D → Bool
  | .int _ => true
  | .bl _ => true
  | _ => false
def isBl : D → Bool
  | .bl _ => true
  | _ => false
def isStr : D → Bool
  | .str _ => true
  | _ => false
def isTup : D → Bool
  | .tup _ => true
  | _ => false
def isInt : D → Bool
  | .int _ => true
  | _ => false
theorem kb_int : ∀ d : D, kitB (tyD d) "int" = some (isIntB d)
  | .int _ => (by decide +kernel : kitB "int" "int" = some true)
  | .bl _ => (by decide +kernel : kitB "bool" "int" = some true)
  | .str _ => (by decide +kernel : kitB "str" "int" = some false)
  | .tup _ => (by decide +kernel : kitB "tuple" "int" = some false)
theorem kb_bool : ∀ d : D, kitB (tyD d) "bool" = some (isBl d)
  | .int _ => (by decide +kernel : kitB "int" "bool" = some false)
  | .bl _ => (by decide +kernel : kitB "bool" "bool" = some true)
  | .str _ => (by decide +kernel : kitB "str" "bool" = some false)
  | .tup _ => (by decide +kernel : kitB "tuple" "bool" = some false)
theorem kb_str : ∀ d : D, kitB (tyD d) "str" = some (isStr d)
  | .int _ => (by decide +kernel : kitB "int" "str" = some false)
  | .bl _ => (by decide +kernel : kitB "bool" "str" = some false)
  | .str _ => (by decide +kernel : kitB "str" "str" = some true)
  | .tup _ => (by decide +kernel : kitB "tuple" "str" = some false)
theorem kb_tup : ∀ d : D, kitB (tyD d) "tuple" = some (isTup d)
  | .int _ => (by decide +kernel : kitB "int" "tuple" = some false)
  | .bl _ => (by decide +kernel : kitB "bool" "tuple" = some false)
  | .str _ => (by decide +kernel : kitB "str" "tuple" = some false)
  | .tup _ => (by decide +kernel : kitB "tuple" "tuple" = some true)

section
variable {X : Cx}
/-- str(x), x a number or a text -/
theorem call_strD : CallR X (.type "str") (fun xs H Q => (∃ i : Int, xs = [.int i] ∧ i.natAbs.log2 < 1920 ∧ Q (.str (toString i)) H) ∨ ∃ a : Str, xs = [.str a] ∧ Q (.str a) H) := by
  intro pins s σ H xs us Q I r h
  rcases h with h | h
  · exact call_str_int pins s σ H xs us Q I r h
  · exact SkE.call_str_str pins s σ H xs us Q I r h
end
/-! ### what the top has written -/
structure Bl (mg : Str → Option Value) : Prop where
  m_isinstance : mg "isinstance" = none
  m_int : mg "int" = none
  m_bool : mg "bool" = none
  m_tuple : mg "tuple" = none
  m_str : mg "str" = none
  m_len : mg "len" = none
  m_all : mg "all" = none
  m_range : mg "range" = none
  m_max : mg "max" = none
  m_ValueError : mg "ValueError" = none

abbrev s_whole : Stmt := topS 8
theorem sc_whole : FnScope ["x"] ["x"] (defScope s_whole) := ⟨rfl, rfl, rfl, by decide +kernel, rfl, by decide +kernel, by decide +kernel⟩
abbrev s_is_row : Stmt := topS 9
theorem sc_is_row : FnScope ["x"] ["x"] (defScope s_is_row) := ⟨rfl, rfl, rfl, by decide +kernel, rfl, by decide +kernel, by decide +kernel⟩
abbrev s_tokens_of : Stmt := topS 16
theorem sc_tokens_of : FnScope ["value", "tokens", "member"] ["value"] (defScope s_tokens_of) := ⟨rfl, rfl, rfl, by decide +kernel, rfl, by decide +kernel, by decide +kernel⟩
abbrev s_write_value : Stmt := topS 17
theorem sc_write_value : FnScope ["value"] ["value"] (defScope s_write_value) := ⟨rfl, rfl, rfl, by decide +kernel, rfl, by decide +kernel, by decide +kernel⟩

section
variable {P : Program} {w : World} {K : PySem.W.Frag} {mg : Str → Option Value} {base : Heap}

def spWhole (K : PySem.W.Frag) : Sp := fun vs H Q _ => ∃ v d, vs = [v] ∧ Rp K H d v ∧ Q (.bl (isInt d)) H
theorem ok_whole (T : Bl mg) (D : HasDef K mg "whole" s_whole ["x"]) : Has P w K mg base CX0 1 "whole" ["x"] (spWhole K) := by
  refine D.has fun f fd F => F.ok sc_whole (fun vs H Q E h => ?_) (fun cdv A outer s H vs Q E hr h => ?_)
  · obtain ⟨v, d, rfl, _⟩ := h; rfl
  · obtain ⟨v, d, rfl, r, q⟩ := h
    refine ⟨_, (pss_one (ps_ret (pe_and (pe_callB call_isi (by rfl) T.m_isinstance (by decide +kernel) (pa_cons (pv 0) (pa_cons (pe_bltn (v := .ty "int") (u := .type "int") (by rfl) T.m_int (by decide +kernel) rfl) pa_nil))) (pe_one (pe_not (pe_callB call_isi (by rfl) T.m_isinstance (by decide +kernel) (pa_cons (pv 0) (pa_cons (pe_bltn (v := .ty "bool") (u := .type "bool") (by rfl) T.m_bool (by decide +kernel) rfl) pa_nil)))))))), ?_⟩
    refine ⟨v, rfl, _, _, _, _, _, rfl, .ty "int", r.ty, kit_ty (kb_int d), _, rfl, ?_⟩
    cases d with
    | int i => exact iteT ⟨v, rfl, _, _, _, _, _, rfl, .ty "bool", r.ty, kit_ty (kb_bool _), _, rfl, q⟩
    | bl i => exact iteT ⟨v, rfl, _, _, _, _, _, rfl, .ty "bool", r.ty, kit_ty (kb_bool _), _, rfl, q⟩
    | str i => exact iteF q
    | tup i => exact iteF q

def spIsRow (K : PySem.W.Frag) : Sp := fun vs H Q _ => ∃ v d, vs = [v] ∧ Rp K H d v ∧ Q (.bl (isTup d)) H
theorem ok_is_row (T : Bl mg) (D : HasDef K mg "is_row" s_is_row ["x"]) : Has P w K mg base CX0 1 "is_row" ["x"] (spIsRow K) := by
  refine D.has fun f fd F => F.ok sc_is_row (fun vs H Q E h => ?_) (fun cdv A outer s H vs Q E hr h => ?_)
  · obtain ⟨v, d, rfl, _⟩ := h; rfl
  · obtain ⟨v, d, rfl, r, q⟩ := h
    refine ⟨_, (pss_one (ps_ret (pe_callB call_isi (by rfl) T.m_isinstance (by decide +kernel) (pa_cons (pv 0) (pa_cons (pe_bltn (v := .ty "tuple") (u := .type "tuple") (by rfl) T.m_tuple (by decide +kernel) rfl) pa_nil))))), ?_⟩
    exact ⟨v, rfl, _, _, _, _, _, rfl, .ty "tuple", r.ty, kit_ty (kb_tup d), q⟩

/-- numbers are not too long to be written -/
def small : D → Prop
  | .int i => i.natAbs.log2 < 1920
  | _ => True
mutual
def smallD : D → Prop
  | .int i => i.natAbs.log2 < 1920
  | .bl _ => False
  | .str _ => True
  | .tup ds => smallL ds
def smallL : List D → Prop
  | [] => True
  | d :: r => smallD d ∧ smallL r
end
theorem smallL.at : ∀ {ds : List D} {i : Nat} {d : D}, smallL ds → ds[i]? = some d → smallD d
  | [], _, _, _, e => by simp at e
  | d :: r, 0, d', h, e => by
    have : d = d' := by simpa using e
    exact this ▸ h.1
  | d :: r, i + 1, d', h, e => smallL.at (i := i) h.2 (by simpa using e)
theorem toksL_take {ds : List D} {i : Nat} {d : D} (h : ds[i]? = some d) : toksL (ds.take (i + 1)) = toksL (ds.take i) ++ toks d := by
  rw [List.take_add_one, h, toksL_append]
  show _ ++ toksL [d] = _
  rw [toksL_one]
theorem toksL_le {n : Nat} : ∀ (ds : List D), (toksL (ds.take n)).length ≤ (toksL ds).length := fun ds => by
  have := List.take_append_drop n ds
  have e := congrArg (fun l => (toksL l).length) this
  simp only [toksL_append, List.length_append] at e
  omega
theorem toks_at_le {ds : List D} {i : Nat} {d : D} (h : ds[i]? = some d) : (toksL (ds.take i)).length + (toks d).length ≤ (toksL ds).length := by
  have := toksL_le (n := i + 1) ds
  rw [toksL_take h, List.length_append] at this
  exact this
/-- the tokens of values less deep than n -/
def spToks (K : PySem.W.Frag) (n : Nat) : Sp := fun vs H Q _ => ∃ v d, vs = [v] ∧ Rp K H d v ∧ dep d < n ∧ smallD d ∧ (toks d).length ≤ 1000000 ∧ ∀ H' p, Same H H' → H p = none → H' p = some (.lst ((toks d).map V.str)) → Q (.ref p) H'
theorem ok_tokens_of (T : Bl mg) (D : HasDef K mg "tokens_of" s_tokens_of ["value"]) (C_whole : Has P w K mg base CX0 1 "whole" ["x"] (spWhole K)) (C_is_row : Has P w K mg base CX0 1 "is_row" ["x"] (spIsRow K)) :
    ∀ n : Nat, Has P w K mg base CX0 (n + 1) "tokens_of" ["value"] (spToks K n)
  | 0 => D.has fun f fd F => ⟨fun vs H Q E h => by obtain ⟨v, d, _, _, z, _⟩ := h; omega, fun A outer s H args us vs Q E hr he hb hv hs => by obtain ⟨v, d, _, _, z, _⟩ := hs; omega⟩
  | n + 1 => by
    have C_tokens_of := ok_tokens_of T D C_whole C_is_row n
    refine D.has fun f fd F => F.ok sc_tokens_of (fun vs H Q E h => ?_) (fun cdv A outer s H vs Q E hr h => ?_)
    · obtain ⟨v, d, rfl, _⟩ := h; rfl
    · obtain ⟨v, d, rfl, r, hd, hs, hl, q⟩ := h
      refine ⟨_, (pss_cons (ps_if (pt_val (pe_has C_whole (hr.mono (by omega)) pass0 (pa_cons (pv 0) pa_nil)))
  (pss_one (ps_ret (pe_lst (pa_cons (pe_callTy call_strD (by rfl) T.m_str (by decide +kernel) (pa_cons (pv 0) pa_nil)) pa_nil))))
  pss_nil)
  (pss_cons (ps_if (pt_not (pt_val (pe_has C_is_row (hr.mono (by omega)) pass0 (pa_cons (pv 0) pa_nil))))
  (pss_one (ps_ret (pe_lst (pa_cons (pv 0) pa_nil))))
  pss_nil)
  (pss_cons (ps_set (i := 1) sc_tokens_of.nd rfl (Or.inl rfl) (pe_lst (pa_cons pe_str pa_nil)))
  (pss_cons (ps_for PassesOwn.never rfl (pi_tup (pv 0)) (pg_name (i := 2) sc_tokens_of.nd rfl (Or.inl rfl))
  (pss_one (ps_expr (pe_bm PySem.F.plainAttrs_list PySem.F.slot_list_extend PySem.F.type_list_extend mt_extend (pv 1) (pa_cons (pe_has C_tokens_of (hr.mono (by omega)) pass0 (pa_cons (pv 2) pa_nil)) pa_nil)))))
  (pss_cons (ps_expr (pe_bm PySem.F.plainAttrs_list PySem.F.slot_list_append PySem.F.type_list_append mt_append (pv 1) (pa_cons pe_str pa_nil)))
  (pss_one (ps_ret (pv 1)))))))), ?_⟩
      refine ⟨v, rfl, v, d, rfl, r, _, rfl, ?_⟩
      cases d with
      | int i =>
        refine iteT ?_
        cases (show v = V.int i from r)
        exact ⟨_, rfl, .inl ⟨i, rfl, hs, by show 1 ≤ sizeLine; decide, fun p np => q _ p (Sv.nil (Sv.new np)) np upd_same⟩⟩
      | bl i => exact hs.elim
      | str i =>
        refine iteF ⟨v, rfl, v, _, rfl, r, _, rfl, ?_⟩
        refine iteT ?_
        cases (show v = V.str i from r)
        exact ⟨_, rfl, by show 1 ≤ sizeLine; decide, fun p np => q _ p (Sv.nil (Sv.new np)) np upd_same⟩
      | tup ds =>
        refine iteF ⟨v, rfl, v, _, rfl, r, _, rfl, ?_⟩
        refine iteF ?_
        obtain ⟨a, xs, rfl, sq, rl⟩ := r
        refine ⟨by show 1 ≤ sizeLine; decide, fun p np => ?_⟩
        have hl' : (toksL ds).length + 2 ≤ 1000000 := by
          have : (lb :: (toksL ds ++ [rb])).length ≤ 1000000 := hl
          simp at this; omega
        refine ⟨.ref a, rfl, a, rfl, ⟨_, (tk_new np).seqT sq⟩, for_tup (K := K) (a := a) (xs := xs) (fun i σ H' => ∃ y, σ = [some (.ref a), some (.ref p), y] ∧ Sv [p] H H' ∧ H' p = some (.lst ((lb :: toksL (ds.take i)).map V.str)))
          ⟨none, rfl, Sv.new np, by rw [upd_same]; rfl⟩ (fun i σ H' _ ⟨_, _, s1, _⟩ => (Sv.drop np s1 |> Sv.nil |> TK.same).seqT sq) ?_ ?_⟩
        · rintro i x σ H' hi ⟨y, rfl, s1, hp⟩
          obtain ⟨d, hdi, rd⟩ := rl.get hi
          have k1 : TK H H' := (Sv.drop np s1 |> Sv.nil |> TK.same)
          have hle := toks_at_le hdi
          refine ⟨.ref p, rfl, .inl ⟨rfl, _, .inl (.inl hp)⟩, x, rfl, x, d, rfl, rd.keep k1, ?_, smallL.at hs hdi, by omega, fun H2 p2 s2 np2 hp2 => ?_⟩
          · have : dep d ≤ depL ds := depL_le.mp (Nat.le_refl _) d (List.mem_of_getElem? hdi)
            have hd' : 1 + depL ds < n + 1 := hd
            omega
          · refine ⟨p, p2, _, _, rfl, rfl, s2 _ _ hp, hp2, ?_, some x, rfl, ?_, ?_⟩
            · rw [List.length_map, List.length_map, List.length_cons]
              show _ ≤ sizeLine
              rw [sizeLine_eq]; omega
            · exact s1.trans ((Sv.same s2).trans (Sv.set (by simp)))
            · rw [upd_same, ← List.map_append, toksL_take hdi]
              rfl
        · rintro σ H' ⟨y, rfl, s1, hp⟩
          have ef : ds.take xs.length = ds := by rw [rl.len, List.take_length]
          rw [ef] at hp
          refine ⟨.ref p, rfl, .inl ⟨rfl, _, .inl (.inl hp)⟩, p, _, _, rfl, rfl, hp, ?_, .ref p, rfl, ?_⟩
          · rw [List.length_map, List.length_cons]
            show _ < sizeLine
            rw [sizeLine_eq]; omega
          · refine q _ p (Sv.nil (Sv.drop np (s1.trans (Sv.set (by simp))))) np ?_
            rw [upd_same, show toks (.tup ds) = (lb :: toksL ds) ++ [rb] from rfl, List.map_append]
            rfl
/-- the text of a value -/
def spWrite (K : PySem.W.Frag) : Sp := fun vs H Q _ => ∃ v d, vs = [v] ∧ Rp K H d v ∧ dep d < 20 ∧ smallD d ∧ wsum (toks d) ≤ 1000000 ∧ ∀ H', Same H H' → Q (.str (wr d)) H'
theorem len_le_wsum (ws : List Str) : ws.length ≤ wsum ws := by unfold wsum; omega
theorem ok_write_value (T : Bl mg) (D : HasDef K mg "write_value" s_write_value ["value"]) (C_tokens_of : Has P w K mg base CX0 21 "tokens_of" ["value"] (spToks K 20)) :
    Has P w K mg base CX0 22 "write_value" ["value"] (spWrite K) := by
  refine D.has fun f fd F => F.ok sc_write_value (fun vs H Q E h => ?_) (fun cdv A outer s H vs Q E hr h => ?_)
  · obtain ⟨v, d, rfl, _⟩ := h; rfl
  · obtain ⟨v, d, rfl, r, hd, hs, hl, q⟩ := h
    refine ⟨_, (pss_one (ps_ret (pe_join pe_str (pe_has C_tokens_of (hr.mono (by omega)) pass0 (pa_cons (pv 0) pa_nil))))), ?_⟩
    have := len_le_wsum (toks d)
    refine ⟨⟨_, rfl⟩, v, rfl, v, d, rfl, r, hd, hs, by omega, fun H' p s np hp => ?_⟩
    refine ⟨_, p, toks d, rfl, rfl, .inl (.inl (.inl hp)), ?_, q H' s⟩
    have e : (Str.length (" " : Str)) = 1 := sp_len
    rw [e]
    unfold wsum at hl
    omega
end
end RS

namespace RS
open PySem PySem.Spec PyProof.Rows L2 TL

abbrev s_is_word : Stmt := topS 18
theorem sc_is_word : FnScope ["token", "char"] ["token"] (defScope s_is_word) := ⟨rfl, rfl, rfl, by decide +kernel, rfl, by decide +kernel, by decide +kernel⟩
abbrev s_is_number : Stmt := topS 19
theorem sc_is_number : FnScope ["token", "digits", "char"] ["token"] (defScope s_is_number) := ⟨rfl, rfl, rfl, by decide +kernel, rfl, by decide +kernel, by decide +kernel⟩
abbrev s_read_token : Stmt := topS 20
theorem sc_read_token : FnScope ["token"] ["token"] (defScope s_read_token) := ⟨rfl, rfl, rfl, by decide +kernel, rfl, by decide +kernel, by decide +kernel⟩

/-- the constants of tokens.py -/
structure Cn (mg : Str → Option Value) : Prop extends Bl mg where
  c_LETTERS : ∃ t, mg "LETTERS" = some (.str lets t)
  c_DIGITS : ∃ t, mg "DIGITS" = some (.str digs t)
  c_MOST_LETTERS : ∃ t, mg "MOST_LETTERS" = some (.int 20 t)
  c_MOST_DIGITS : ∃ t, mg "MOST_DIGITS" = some (.int 60 t)
  c_MOST_NESTED : ∃ t, mg "MOST_NESTED" = some (.int 12 t)
/-- .. as they stand -/
structure CnT (mg : Str → Option Value) (t1 t2 t3 t4 t5 : Tok) : Prop extends Bl mg where
  c_LETTERS : mg "LETTERS" = some (.str lets t1)
  c_DIGITS : mg "DIGITS" = some (.str digs t2)
  c_MOST_LETTERS : mg "MOST_LETTERS" = some (.int 20 t3)
  c_MOST_DIGITS : mg "MOST_DIGITS" = some (.int 60 t4)
  c_MOST_NESTED : mg "MOST_NESTED" = some (.int 12 t5)

section
variable {P : Program} {w : World} {K : PySem.W.Frag} {mg : Str → Option Value} {base : Heap} {t1 t2 t3 t4 t5 : Tok}

/-- [c in S for c in z] at p, behind i signs -/
def Flags (S : Str) (z : Str) (H : Hp) (p : Addr) (i : Nat) (H' : Hp) : Prop := Sv [p] H H' ∧ H' p = some (.lst (((tl z).take i).map fun c => V.bl (decide (c ∈ tl S))))
theorem all_flags (S z : Str) : (((tl z).map fun c => decide (c ∈ tl S)).all id) = (tl z).all fun c => decide (c ∈ tl S) := by
  rw [List.all_map]
  rfl

def spTest (f : Str → Bool) (n : Nat) : Sp := fun vs H Q _ => ∃ s : Str, vs = [.str s] ∧ s.length ≤ n ∧ ∀ H', Same H H' → Q (.bl (f s)) H'
theorem ok_is_word (T : CnT mg t1 t2 t3 t4 t5) (D : HasDef K mg "is_word" s_is_word ["token"]) : Has P w K mg base CX0 1 "is_word" ["token"] (spTest isWord 1000000) := by
  refine D.has fun f fd F => F.ok sc_is_word (fun vs H Q E h => ?_) (fun cdv A outer s H vs Q E hr h => ?_)
  · obtain ⟨v, rfl, _⟩ := h; rfl
  · obtain ⟨z, rfl, hl, q⟩ := h
    refine ⟨_, (pss_one (ps_ret (pe_and (pe_chain op_le op_le pe_int (pe_callB call_len_str (by rfl) T.m_len (by decide +kernel) (pa_cons (pv 0) pa_nil)) (pe_glob (v := .int 20) (by rfl) T.c_MOST_LETTERS ⟨_, rfl⟩)) (pe_one (pe_callB (cr_all rfl) (by rfl) T.m_all (by decide +kernel) (pa_cons (pe_lc (own := [("char", 1)]) (g := gName 1) (tt := tYes) rfl sc_is_word.nd (pi_str (pv 0)) (blkOk_by (own := [("char", 1)]) (N := ["token", "char"]) (sc := defScope s_is_word) (by decide +kernel)) (fun _ _ _ _ _ => (pg_name (i := 1) sc_is_word.nd rfl (Or.inl rfl))) (fun _ _ _ _ _ => pts_nil) (fun _ _ _ _ _ => (pe_cmpR op_in_sign (pv 1) (pe_glob (v := .str lets) (by rfl) T.c_LETTERS ⟨_, rfl⟩) rfl))) pa_nil)))))), ?_⟩
    have hl' : z.length ≤ sizeLine := by rw [sizeLine_eq]; omega
    refine ⟨.str z, rfl, z, rfl, hl', _, _, rfl, rfl, _, rfl, ?_⟩
    refine ite2 (fun e1 => ?_) (fun e1 => ?_)
    · refine ⟨_, _, rfl, rfl, _, rfl, ?_⟩
      refine ite2 (fun e2 => ?_) (fun e2 => ?_)
      · have h1 : 1 ≤ z.length := by have := of_decide_eq_true e1; omega
        have h2 : z.length ≤ 20 := by have := of_decide_eq_true e2; omega
        refine ⟨.str z, rfl, z, rfl, fun p np => lc_str (Flags lets z H p) ⟨Sv.new np, upd_same⟩ ?_ ?_⟩
        · rintro i c H' hc ⟨s1, hp⟩
          refine ⟨rfl, _, rfl, c, lets, rfl, rfl, _, hp, ?_, s1.trans (Sv.set (by simp)), ?_⟩
          · rw [List.length_map, List.length_take]
            have : (tl z).length = z.length := (len_tl z).symm
            have := sizeLine_eq
            omega
          · rw [upd_same, take_snoc hc, List.map_append]
            rfl
        · rintro H' ⟨s1, hp⟩
          rw [List.take_length] at hp
          refine ⟨p, (tl z).map fun c => decide (c ∈ tl lets), rfl, .inl (.inl (by rw [hp, List.map_map]; rfl)), ?_⟩
          rw [all_flags]
          have e : isWord z = (tl z).all fun c => decide (c ∈ tl lets) := by
            unfold isWord
            rw [decide_eq_true h1, decide_eq_true h2]
            rfl
          rw [← e]
          exact q _ (Sv.nil (Sv.drop np s1))
      · have e : isWord z = false := by
          unfold isWord
          rw [decide_eq_false (show ¬ z.length ≤ 20 by intro h; exact e2 (decide_eq_true (by omega)))]
          simp
        have q' := q H (Same.refl H)
        rw [e] at q'
        exact q'
    · have e : isWord z = false := by
        unfold isWord
        rw [decide_eq_false (show ¬ 1 ≤ z.length by intro h; exact e1 (decide_eq_true (by omega)))]
        simp
      have q' := q H (Same.refl H)
      rw [e] at q'
      exact ⟨_, rfl, iteF q'⟩

theorem len_body (z : Str) : (body z).length ≤ z.length := by
  unfold body
  split
  · rw [len_tl, len_tl, tl_mk, List.length_tail]; omega
  · exact Nat.le_refl _
theorem ok_is_number (T : CnT mg t1 t2 t3 t4 t5) (D : HasDef K mg "is_number" s_is_number ["token"]) : Has P w K mg base CX0 1 "is_number" ["token"] (spTest isNum 1000000) := by
  refine D.has fun f fd F => F.ok sc_is_number (fun vs H Q E h => ?_) (fun cdv A outer s H vs Q E hr h => ?_)
  · obtain ⟨v, rfl, _⟩ := h; rfl
  · obtain ⟨z, rfl, hl, q⟩ := h
    refine ⟨_, (pss_cons (ps_set (i := 1) sc_is_number.nd rfl (Or.inl rfl) (pe_ifExp (pt_cmpR op_eq (pe_slice sl_str (pv 0) po_none (po_some pe_int)) pe_str (nomark _)) (pe_slice sl_str (pv 0) (po_some pe_int) po_none) (pv 0)))
  (pss_cons (ps_if (PW.pt (pw_or (pt_not (pt_chain op_le op_le pe_int (pe_callB call_len_str (by rfl) T.m_len (by decide +kernel) (pa_cons (pv 1) pa_nil)) (pe_glob (v := .int 60) (by rfl) T.c_MOST_DIGITS ⟨_, rfl⟩))) (pw_or1 (pt_not (pt_val (pe_callB (cr_all rfl) (by rfl) T.m_all (by decide +kernel) (pa_cons (pe_lc (own := [("char", 2)]) (g := gName 2) (tt := tYes) rfl sc_is_number.nd (pi_str (pv 1)) (blkOk_by (own := [("char", 2)]) (N := ["token", "digits", "char"]) (sc := defScope s_is_number) (by decide +kernel)) (fun _ _ _ _ _ => (pg_name (i := 2) sc_is_number.nd rfl (Or.inl rfl))) (fun _ _ _ _ _ => pts_nil) (fun _ _ _ _ _ => (pe_cmpR op_in_sign (pv 2) (pe_glob (v := .str digs) (by rfl) T.c_DIGITS ⟨_, rfl⟩) rfl))) pa_nil)))))))
  (pss_one (ps_ret pe_bl))
  pss_nil)
  (pss_one (ps_ret (pe_or (pe_cmpR op_ne (pe_ix ix_str (pv 1) pe_int (fun _ _ => rfl)) pe_str (nomark _)) (pe_one (pe_cmpR op_eq (pv 0) pe_str (nomark _)))))))), ?_⟩
    have hsz := sizeLine_eq
    have hl' : z.length ≤ sizeLine := by omega
    refine cutSeq (fun σ' H' => σ' = [some (.str z), some (.str (body z)), none] ∧ H' = H) (fun nx hn => ?_) ?_
    · refine ⟨.str z, rfl, _, rfl, z, rfl, hl', rfl, _, rfl, ?_⟩
      refine ite2 (fun e => ?_) (fun e => ?_)
      · have hm : (tl z).head? = some 45 := (cut_dash z).mp (V.str.inj (of_decide_eq_true e))
        refine ⟨.str z, rfl, _, rfl, z, rfl, hl', hn _ _ ⟨?_, rfl⟩⟩
        have e := cut_body z
        rw [if_pos hm] at e
        rw [e]
        rfl
      · have hm : ¬ (tl z).head? = some 45 := fun h => e (decide_eq_true (congrArg V.str ((cut_dash z).mpr h)))
        refine ⟨.str z, rfl, hn _ _ ⟨?_, rfl⟩⟩
        have e := cut_body z
        rw [if_neg hm] at e
        rw [← e]
        rfl
    · rintro σ' H0 ⟨rfl, rfl⟩
      have hb := len_body z
      have hbl : (body z).length ≤ sizeLine := by omega
      have no : ∀ H', Same H0 H' → isNum z = false → Q (.bl false) H' := fun H' s e => by
        have := q H' s
        rw [e] at this
        exact this
      refine ⟨.str (body z), rfl, _, rfl, hbl, _, _, rfl, rfl, _, rfl, ?_⟩
      refine ite2 (fun e1 => ?_) (fun e1 => ?_)
      · refine ⟨_, _, rfl, rfl, _, rfl, ?_⟩
        have h1 : 1 ≤ (body z).length := by have := of_decide_eq_true e1; omega
        by_cases h2 : (body z).length ≤ 60
        · have e2 : decide (((body z).length : Int) ≤ 60) = true := decide_eq_true (by omega)
          rw [e2]
          refine ⟨.str (body z), rfl, _, rfl, fun p np => lc_str (Flags digs (body z) H0 p) ⟨Sv.new np, upd_same⟩ ?_ ?_⟩
          · rintro i c H' hc ⟨s1, hp⟩
            refine ⟨rfl, _, rfl, c, digs, rfl, rfl, _, hp, ?_, s1.trans (Sv.set (by simp)), ?_⟩
            · rw [List.length_map, List.length_take]
              have : (tl (body z)).length = (body z).length := (len_tl _).symm
              omega
            · rw [upd_same, take_snoc hc, List.map_append]
              rfl
          · rintro H' ⟨s1, hp⟩
            rw [List.take_length] at hp
            have sm := Sv.nil (Sv.drop np s1)
            refine ⟨p, (tl (body z)).map fun c => decide (c ∈ tl digs), rfl, .inl (.inl (by rw [hp, List.map_map]; rfl)), _, rfl, ?_⟩
            rw [all_flags]
            cases hA : (tl (body z)).all fun c => decide (c ∈ tl digs) with
            | false =>
              refine no _ sm ?_
              unfold isNum
              rw [hA]
              simp
            | true =>
              have l1 : 1 ≤ (tl (body z)).length := by rw [← len_tl]; exact h1
              obtain ⟨c, r, hcr⟩ : ∃ c r, tl (body z) = c :: r := by
                cases hq : tl (body z) with
                | nil => rw [hq] at l1; simp at l1
                | cons c r => exact ⟨c, r, rfl⟩
              refine ⟨.str (body z), rfl, _, 0, c, rfl, rfl, hbl, atI_nat (j := 0) (by show (tl (body z))[0]? = some c; rw [hcr]; rfl), rfl, _, rfl, ?_⟩
              have ez : (V.str ⟨#[c]⟩ = V.str ("0" : Str)) ↔ (tl (body z)).head? = some 48 := by
                rw [hcr]
                constructor
                · intro h
                  have := congrArg tl (V.str.inj h)
                  rw [tl_zero] at this
                  have : [c] = [48] := this
                  simpa using this
                · intro h
                  have : c = 48 := by simpa using h
                  subst this
                  exact congrArg V.str (ext_tl (by rw [tl_zero]))
              by_cases hz : (tl (body z)).head? = some 48
              · rw [decide_eq_true (ez.mpr hz)]
                refine ⟨.str z, rfl, rfl, ?_⟩
                have e : isNum z = decide (V.str z = V.str ("0" : Str)) := by
                  unfold isNum
                  rw [hA, decide_eq_true h1, decide_eq_true h2, decide_eq_true hz]
                  have : decide (V.str z = V.str ("0" : Str)) = decide (z = ("0" : Str)) := by
                    by_cases h : z = ("0" : Str)
                    · rw [decide_eq_true h, decide_eq_true (congrArg V.str h)]
                    · rw [decide_eq_false h, decide_eq_false (fun z => h (V.str.inj z))]
                  rw [this]
                  simp
                rw [← e]
                exact q _ sm
              · rw [decide_eq_false (fun h => hz (ez.mp h))]
                have e : isNum z = true := by
                  unfold isNum
                  rw [hA, decide_eq_true h1, decide_eq_true h2, decide_eq_false hz]
                  rfl
                have := q _ sm
                rw [e] at this
                exact this
        · have e2 : decide (((body z).length : Int) ≤ 60) = false := decide_eq_false (by omega)
          rw [e2]
          refine no _ (Same.refl _) ?_
          unfold isNum
          rw [decide_eq_false h2]
          simp
      · refine ⟨_, rfl, no _ (Same.refl _) ?_⟩
        unfold isNum
        rw [decide_eq_false (show ¬ 1 ≤ (body z).length by intro h; exact e1 (decide_eq_true (by omega)))]
        simp

/-- the error's class, as the text has it: WordError at C -/
structure Ex (P : Program) (K : PySem.W.Frag) (mg : Str → Option Value) (C fI : Addr) : Prop where
  WordError_ : PySem.SupX.SupTxt P K mg "WordError" "line" "line " (some " is at fault") C fI
  WordError_nm : SupNm P "line" "line " (some " is at fault")
/-- an error of the line n -/
def Err (C : Addr) (n : Int) (H : Hp) (E : XK) : Prop := ∀ H' dd, Same H H' → H' dd = some (.xd [("line", .int n)]) → H dd = none → E (.ref C) (some dd) H'
theorem one_fmt : FmtV (.int 1) := .inr ⟨1, rfl, by decide, by decide +kernel⟩
theorem Err.now {C : Addr} {n : Int} {H H1 : Hp} {E : XK} (e : Err C n H E) (s : Same H H1) : ∀ d, H1 d = none → E (.ref C) (some d) (upd H1 d (.xd [("line", .int n)])) := fun d hd =>
  e _ d (s.trans (Sv.nil (Sv.new hd))) upd_same (s.free hd)
theorem Err.on {C : Addr} {n : Int} {H H1 : Hp} {E : XK} (e : Err C n H E) (s : Same H H1) : Err C n H1 E := fun H' dd s' h hn => e H' dd (s.trans s') h (s.free hn)
def spToken (K : PySem.W.Frag) (C : Addr) : Sp := fun vs H Q E => ∃ s : Str, vs = [.str s] ∧ s.length ≤ 1000000 ∧ (∀ d, tokIn s = some d → ∀ H' v, Same H H' → Rp K H' d v → Q v H') ∧ (tokIn s = none → Err C 1 H E)
theorem ok_read_token {C fI : Addr} (T : CnT mg t1 t2 t3 t4 t5) (Z : Ex P K mg C fI) (D : HasDef K mg "read_token" s_read_token ["token"]) (C_is_word : Has P w K mg base CX0 1 "is_word" ["token"] (spTest isWord 1000000)) (C_is_number : Has P w K mg base CX0 1 "is_number" ["token"] (spTest isNum 1000000)) :
    Has P w K mg base (L2.CX P w) 3 "read_token" ["token"] (spToken K C) := by
  refine D.has fun f fd F => F.okX sc_read_token (fun vs H Q E h => ?_) (fun cdv A outer s H vs Q E hr h => ?_)
  · obtain ⟨v, rfl, _⟩ := h; rfl
  · obtain ⟨z, rfl, hl, q, e⟩ := h
    refine ⟨_, (pss_cons (ps_if (pt_val (pe_has C_is_word (hr.mono (by omega)) pass0 (pa_cons (pv 0) pa_nil)))
  (pss_one (ps_ret (pv 0)))
  pss_nil)
  (pss_cons (ps_if (pt_val (pe_has C_is_number (hr.mono (by omega)) pass0 (pa_cons (pv 0) pa_nil)))
  (pss_one (ps_ret (pe_callTy call_int_str (by rfl) T.m_int (by decide +kernel) (pa_cons (pv 0) pa_nil))))
  pss_nil)
  (pss_one (ps_raiseSup rfl Z.WordError_ Z.WordError_nm hr (takes_of rfl rfl rfl rfl) (by exact (pa_cons pe_int pa_nil)))))), ?_⟩
    refine ⟨.str z, rfl, z, rfl, hl, fun H1 s1 => ⟨_, rfl, ?_⟩⟩
    refine ite2 (fun e1 => ?_) (fun e1 => ?_)
    · exact ⟨.str z, rfl, q (.str z) (by unfold tokIn; rw [if_pos e1]) _ _ s1 rfl⟩
    · refine ⟨.str z, rfl, z, rfl, hl, fun H2 s2 => ⟨_, rfl, ?_⟩⟩
      refine ite2 (fun e2 => ?_) (fun e2 => ?_)
      · obtain ⟨hn, h61⟩ := num_text e2
        exact ⟨.str z, rfl, z, numV z, rfl, hn, by omega, q (.int (numV z)) (by unfold tokIn; rw [if_neg e1, if_pos e2]) _ _ (s1.trans s2) rfl⟩
      · have hnone : tokIn z = none := by unfold tokIn; rw [if_neg e1, if_neg e2]
        exact ⟨_, rfl, one_fmt, (e hnone).now (s1.trans s2)⟩
end
end RS

namespace RS
open PySem PySem.Spec PyProof.Rows L2 TL

abbrev s_read_values : Stmt := topS 21
theorem sc_read_values : FnScope ["text", "levels", "token", "row"] ["text"] (defScope s_read_values) := ⟨rfl, rfl, rfl, by decide +kernel, rfl, by decide +kernel, by decide +kernel⟩
abbrev s_read_value : Stmt := topS 22
theorem sc_read_value : FnScope ["text", "values"] ["text"] (defScope s_read_value) := ⟨rfl, rfl, rfl, by decide +kernel, rfl, by decide +kernel, by decide +kernel⟩

theorem sput {H0 H : Hp} {a : Addr} {o : HO} (s : Same H0 H) (n : H0 a = none) : Same H0 (upd H a o) := fun b x e => by
  rw [upd_ne (ne_of_none e n)]
  exact s b x e
theorem fold_none {ws : List Str} {i : Nat} {st : List (List D)} {w : Str} (h : (ws.take i).foldlM step [[]] = some st) (hw : ws[i]? = some w) (hn : step st w = none) : ws.foldlM step [[]] = none := by
  have e : ws = ws.take i ++ w :: ws.drop (i + 1) := by
    obtain ⟨hi, e⟩ := List.getElem?_eq_some_iff.mp hw
    rw [← e, ← List.drop_eq_getElem_cons hi, List.take_append_drop]
  rw [e, List.foldlM_append, h]
  show (w :: ws.drop (i + 1)).foldlM step st = none
  rw [List.foldlM_cons, hn]
  rfl
theorem fold_some {ws : List Str} {i : Nat} {st st' : List (List D)} {w : Str} (h : (ws.take i).foldlM step [[]] = some st) (hw : ws[i]? = some w) (hn : step st w = some st') : (ws.take (i + 1)).foldlM step [[]] = some st' := by
  rw [take_snoc hw, List.foldlM_append, h]
  show [w].foldlM step st = some st'
  rw [List.foldlM_cons, hn]
  rfl
theorem fold_py : ∀ (ws : List Str) {st st' : List (List D)}, ws.foldlM step st = some st' → (∀ ds ∈ st, pyokL ds) → ∀ ds ∈ st', pyokL ds
  | [], st, st', h, hp => by cases h; exact hp
  | w :: ws, st, st', h, hp => by
    rw [List.foldlM_cons] at h
    cases hs : step st w with
    | none => rw [hs] at h; cases h
    | some s1 =>
      rw [hs] at h
      exact fold_py ws (st := s1) h (step_py hs hp)
theorem okDep_le : ∀ {st : List (List D)}, okDep st → ∀ ds ∈ st, depL ds ≤ 60
  | [], _, ds, h => by simp at h
  | x :: r, ⟨h1, h2⟩, ds, h => by
    rcases List.mem_cons.mp h with rfl | h
    · exact depL_le.mpr fun d hd => by have := h1 d hd; omega
    · exact okDep_le h2 ds h
theorem step_rows {st st' : List (List D)} {w : Str} {n : Nat} (h : step st w = some st') (hp : ∀ ds ∈ st, ds.length ≤ n) : ∀ ds ∈ st', ds.length ≤ n + 1 := by
  have up : ∀ ds ∈ st, ds.length ≤ n + 1 := fun ds hd => Nat.le_succ_of_le (hp ds hd)
  unfold step at h
  split at h
  · split at h
    · cases h
      intro ds hd
      rcases List.mem_cons.mp hd with rfl | hd
      · exact Nat.zero_le _
      · exact up ds hd
    · cases h
  · split at h
    · split at h
      · rename_i top b r
        cases h
        intro ds hd
        rcases List.mem_cons.mp hd with rfl | hd
        · rw [List.length_append]
          have := hp b (by simp)
          exact Nat.succ_le_succ this
        · exact up ds (by simp [hd])
      · cases h
    · split at h
      · rename_i d top r hk
        cases h
        intro ds hd
        rcases List.mem_cons.mp hd with rfl | hd
        · rw [List.length_append]
          have := hp top (by simp)
          exact Nat.succ_le_succ this
        · exact up ds (by simp [hd])
      · cases h
theorem fold_rows : ∀ (ws : List Str) {st st' : List (List D)} {n : Nat}, ws.foldlM step st = some st' → (∀ ds ∈ st, ds.length ≤ n) → ∀ ds ∈ st', ds.length ≤ n + ws.length
  | [], st, st', n, h, hp => by cases h; exact hp
  | w :: ws, st, st', n, h, hp => by
    rw [List.foldlM_cons] at h
    cases hs : step st w with
    | none => rw [hs] at h; cases h
    | some s1 =>
      rw [hs] at h
      have := fold_rows ws (st := s1) h (step_rows hs hp)
      intro ds hd
      have := this ds hd
      rw [List.length_cons]
      omega
theorem split_len (s : Str) : (Txt.split s sp).length ≤ s.length + 1 := by
  rw [← split_sum s]
  exact len_le_wsum _

section
variable {P : Program} {w : World} {K : PySem.W.Frag} {mg : Str → Option Value} {base : Heap} {t1 t2 t3 t4 t5 : Tok} {C fI : Addr}

def spValues (K : PySem.W.Frag) (C : Addr) : Sp := fun vs H Q E => ∃ s : Str, vs = [.str s] ∧ s.length ≤ 900000 ∧ (∀ ds, rdVals s = some ds → ∀ H' v, Same H H' → Rp K H' (.tup ds) v → Q v H') ∧ (rdVals s = none → Err C 1 H E)
theorem ok_read_values (T : CnT mg t1 t2 t3 t4 t5) (Z : Ex P K mg C fI) (D : HasDef K mg "read_values" s_read_values ["text"]) (C_read_token : Has P w K mg base (L2.CX P w) 3 "read_token" ["token"] (spToken K C)) :
    Has P w K mg base (L2.CX P w) 4 "read_values" ["text"] (spValues K C) := by
  refine D.has fun f fd F => F.okX sc_read_values (fun vs H Q E h => ?_) (fun cdv A outer s H vs Q E hr h => ?_)
  · obtain ⟨v, rfl, _⟩ := h; rfl
  · obtain ⟨z, rfl, hl, q, e⟩ := h
    refine ⟨_, (pss_cons (ps_set (i := 1) sc_read_values.nd rfl (Or.inl rfl) (pe_lst (pa_cons (pe_lst pa_nil) pa_nil)))
  (pss_cons (ps_for (passes_of rfl) rfl (pi_list (pe_split (pv 0) pe_str)) (pg_name (i := 2) sc_read_values.nd rfl (Or.inl rfl))
  (pss_cons (ps_if (pt_cmpR op_eq (pv 2) pe_str (nomark _))
  (pss_one (ps_expr (pe_bm PySem.F.plainAttrs_list PySem.F.slot_list_append PySem.F.type_list_append mt_append (pv 1) (pa_cons (pe_lst pa_nil) pa_nil))))
  (pss_one (ps_if (pt_cmpR op_eq (pv 2) pe_str (nomark _))
  (pss_cons (ps_set (i := 3) sc_read_values.nd rfl (Or.inl rfl) (pe_callTy call_tuple_of (by rfl) T.m_tuple (by decide +kernel) (pa_cons (pe_bm0 PySem.F.plainAttrs_list PySem.F.slot_list_pop PySem.F.type_list_pop mt_pop (pv 1)) pa_nil)))
  (pss_cons (ps_if (pt_cmpR (op_eqD hr.units) (pv 1) (pe_lst pa_nil) (nomark _))
  (pss_one (ps_raiseSup rfl Z.WordError_ Z.WordError_nm hr (takes_of rfl rfl rfl rfl) (by exact (pa_cons pe_int pa_nil))))
  pss_nil)
  (pss_one (ps_expr (pe_bm PySem.F.plainAttrs_list PySem.F.slot_list_append PySem.F.type_list_append mt_append (pe_ix ix_list (pv 1) (pe_un un_neg pe_int) (fun _ _ => rfl)) (pa_cons (pv 3) pa_nil))))))
  (pss_one (ps_expr (pe_bm PySem.F.plainAttrs_list PySem.F.slot_list_append PySem.F.type_list_append mt_append (pe_ix ix_list (pv 1) (pe_un un_neg pe_int) (fun _ _ => rfl)) (pa_cons (pe_hasS C_read_token (hr.mono (by omega)) (takes_of rfl rfl rfl rfl) (by exact (pa_cons (pv 2) pa_nil))) pa_nil)))))))
  (pss_one (ps_if (pt_cmpR op_gt (pe_callB call_len_seq (by rfl) T.m_len (by decide +kernel) (pa_cons (pv 1) pa_nil)) (pe_op op_add (pe_glob (v := .int 12) (by rfl) T.c_MOST_NESTED ⟨_, rfl⟩) pe_int) (nomark _))
  (pss_one (ps_raiseSup rfl Z.WordError_ Z.WordError_nm hr (takes_of rfl rfl rfl rfl) (by exact (pa_cons pe_int pa_nil))))
  pss_nil))))
  (pss_cons (ps_if (pt_cmpR op_ne (pe_callB call_len_seq (by rfl) T.m_len (by decide +kernel) (pa_cons (pv 1) pa_nil)) pe_int (nomark _))
  (pss_one (ps_raiseSup rfl Z.WordError_ Z.WordError_nm hr (takes_of rfl rfl rfl rfl) (by exact (pa_cons pe_int pa_nil))))
  pss_nil)
  (pss_one (ps_ret (pe_callTy call_tuple_of (by rfl) T.m_tuple (by decide +kernel) (pa_cons (pe_ix ix_list (pv 1) pe_int (fun _ _ => rfl)) pa_nil))))))), ?_⟩
    have hsz := sizeLine_eq
    -- levels = [[]]
    refine ⟨Nat.zero_le _, fun r0 nr0 => ⟨by show 1 ≤ sizeLine; omega, fun l nl => ?_⟩⟩
    have s1 : Same H (upd (upd H r0 (.lst [])) l (.lst [.ref r0])) := (Sv.nil (Sv.new nr0)).trans (Sv.nil (Sv.new nl))
    have r0l : r0 ≠ l := fun e => by rw [e, upd_same] at nl; cases nl
    have S1 : Stk K (upd (upd H r0 (.lst [])) l (.lst [.ref r0])) l [r0] [[]] := by
      refine ⟨upd_same, ?_, ⟨[], ?_, rfl⟩, trivial⟩
      · simp [r0l.symm]
      · rw [upd_ne r0l, upd_same]
    have nl' : H l = none := (Sv.nil (Sv.new nr0)).free nl
    -- text.split(" ")
    refine ⟨.str z, rfl, ⟨z, rfl⟩, z, sp, rfl, rfl, by decide +kernel, by omega, fun a na => ?_⟩
    have na' : H a = none := s1.free na
    have al : a ≠ l := fun e => by rw [e, upd_same] at na; cases na
    have ar : a ≠ r0 := fun e => by rw [e, upd_ne r0l, upd_same] at na; cases na
    have s2 := s1.trans (Sv.nil (Sv.new (o := .lst ((Txt.split z sp).map V.str)) na))
    have S2 := S1.same (Sv.nil (Sv.new (o := .lst ((Txt.split z sp).map V.str)) na))
    have no : ∀ {H1 : Hp}, rdVals z = none → Same H H1 → ∃ v, [V.int 1] = [v] ∧ FmtV v ∧ ∀ d, H1 d = none → E (.ref C) (some d) (upd H1 d (.xd [("line", v)])) := fun hn s => ⟨_, rfl, one_fmt, (e hn).now s⟩
    have hlen := split_len z
    refine ⟨a, rfl, ⟨_, .inl (.inl upd_same)⟩, for_list (K := K) (a := a) (xs := (Txt.split z sp).map V.str) (fun i σ H' => ∃ y2 y3 rs st, σ = [some (.str z), some (.ref l), y2, y3] ∧ Same H H' ∧ (∀ b ∈ l :: rs, H b = none ∧ b ≠ a) ∧
        H' a = some (.lst ((Txt.split z sp).map V.str)) ∧ ((Txt.split z sp).take i).foldlM step [[]] = some st ∧ Stk K H' l rs st) ?_ (fun i σ H' _ ⟨_, _, _, _, _, _, _, ha, _⟩ => .inl (.inl ha)) ?_ ?_⟩
    · refine ⟨none, none, [r0], [[]], rfl, s2, ?_, upd_same, rfl, S2⟩
      intro b hb
      rcases List.mem_cons.mp hb with rfl | hb
      · exact ⟨nl', al.symm⟩
      · have : b = r0 := by simpa using hb
        rw [this]
        exact ⟨nr0, ar.symm⟩
    · rintro i x σ H' hi ⟨y2, y3, rs, st, rfl, sm, fr, ha, hf, S⟩
      obtain ⟨w, hw, rfl⟩ : ∃ w, (Txt.split z sp)[i]? = some w ∧ x = V.str w := by
        rw [List.getElem?_map] at hi
        cases hq : (Txt.split z sp)[i]? with
        | none => rw [hq] at hi; cases hi
        | some w => rw [hq] at hi; exact ⟨w, rfl, (Option.some.inj hi).symm⟩
      obtain ⟨_, hne, hl13, hod⟩ := fold_inv _ hf (by simp) (by simp) ⟨fun d hd => by simp at hd, trivial⟩
      have hpy := fold_py _ hf (fun ds hd => by
        have : ds = [] := by simpa using hd
        rw [this]; trivial)
      have hrow : ∀ ds ∈ st, ds.length ≤ 900001 := fun ds hd => by
        have := fold_rows _ (n := 0) hf (fun ds hd => by
          have : ds = [] := by simpa using hd
          rw [this]; exact Nat.le_refl _) ds hd
        rw [List.length_take] at this
        omega
      have hbad : step st w = none → rdVals z = none := fun hn => by
        unfold rdVals rdToks
        rw [fold_none hf hw hn]
      obtain ⟨ds, st, rfl⟩ : ∃ ds st', st = ds :: st' := by
        cases st with
        | nil => exact absurd rfl hne
        | cons a b => exact ⟨a, b, rfl⟩
      obtain ⟨r, rs, rfl⟩ : ∃ r rs', rs = r :: rs' := by
        have := S.len
        cases rs with
        | nil => simp at this
        | cons a b => exact ⟨a, b, rfl⟩
      have hwl : w.length ≤ z.length := by
        have := split_sum z
        have h2 : w.length + 1 ≤ wsum (Txt.split z sp) := by
          have hm := List.mem_of_getElem? hw
          obtain ⟨A, B, e⟩ := List.append_of_mem hm
          rw [e, wsum_append, wsum_cons]
          omega
        omega
      refine ⟨.str w, rfl, rfl, _, rfl, ?_⟩
      refine ite2 (fun e1 => ?_) (fun e1 => ?_)
      · -- levels.append([])
        have e1 : w = lb := V.str.inj (of_decide_eq_true e1)
        refine ⟨.ref l, rfl, .inl ⟨rfl, _, .inl (.inl S.top)⟩, Nat.zero_le _, fun p np => ?_⟩
        have np' : H p = none := sm.free np
        have pl : l ≠ p := fun e => by rw [e] at S; rw [S.top] at np; cases np
        have hrl := S.len
        refine ⟨l, _, _, rfl, rfl, by rw [upd_ne pl]; exact S.top, ?_, ?_⟩
        · rw [List.length_map, List.length_reverse, hrl]; omega
        have S' := S.push np
        have pa : p ≠ a := fun e => by rw [e, ha] at np; cases np
        have eq : (r :: rs).reverse.map V.ref ++ [V.ref p] = (p :: r :: rs).reverse.map V.ref := by
          rw [List.reverse_cons (a := p), List.map_append]; rfl
        rw [eq]
        have sm' := sput (o := .lst ((p :: r :: rs).reverse.map V.ref)) (sput (o := .lst []) sm np') nl'
        refine ⟨.ref l, rfl, l, _, rfl, .inl (.inl (.inl upd_same)), _, _, rfl, rfl, _, _, rfl, rfl, _, rfl, ?_⟩
        refine ite2 (fun e2 => ?_) (fun e2 => ?_)
        · refine no (hbad ?_) sm'
          have := of_decide_eq_true e2
          rw [List.length_map, List.length_reverse, List.length_cons, hrl] at this
          unfold step
          rw [if_pos e1, if_neg (by omega)]
        · have h12 : (ds :: st).length ≤ 12 := by
            have : ¬ _ := fun z => e2 (decide_eq_true z)
            rw [List.length_map, List.length_reverse, List.length_cons, hrl] at this
            omega
          refine ⟨_, _, p :: r :: rs, _, rfl, sm', ?_, ?_, fold_some hf hw (by unfold step; rw [if_pos e1, if_pos h12]), S'⟩
          · intro b hb
            rcases List.mem_cons.mp hb with rfl | hb
            · exact ⟨nl', al.symm⟩
            · rcases List.mem_cons.mp hb with rfl | hb
              · exact ⟨np', pa⟩
              · exact fr b (by simp [List.mem_cons.mp hb])
          · rw [upd_ne al, upd_ne pa.symm]
            exact ha
      · have e1 : w ≠ lb := fun e => e1 (decide_eq_true (congrArg V.str e))
        refine ⟨.str w, rfl, rfl, _, rfl, ?_⟩
        refine ite2 (fun e2 => ?_) (fun e2 => ?_)
        · -- row = tuple(levels.pop())
          have e2 : w = rb := V.str.inj (of_decide_eq_true e2)
          refine ⟨.ref l, rfl, .inl ⟨rfl, _, .inl (.inl S.top)⟩, l, _, .ref r, rfl, rfl, S.top, popped.2, ?_⟩
          rw [popped.1]
          obtain ⟨Sp, xs, hx, rx, hx'⟩ := S.pop
          have smp := sput (o := .lst (rs.reverse.map V.ref)) sm nl'
          have hpy' : ∀ x ∈ st, pyokL x := fun x hx => hpy x (by simp [hx])
          have hdp' : ∀ x ∈ st, depL x ≤ 60 := fun x hx => okDep_le hod x (by simp [hx])
          have hap : (upd H' l (.lst (rs.reverse.map V.ref))) a = some (.lst ((Txt.split z sp).map V.str)) := by rw [upd_ne al]; exact ha
          refine ⟨r, xs, rfl, .inl ⟨.inl (.inl hx'), fun t nt => ?_⟩⟩
          have nt0 : H t = none := smp.free nt
          have St := Sp.same (Sv.nil (Sv.new (o := .tup xs) nt))
          have smt := smp.trans (Sv.nil (Sv.new (o := .tup xs) nt))
          have ta : a ≠ t := fun e => by rw [e] at hap; rw [hap] at nt; cases nt
          have rt : Rp K (upd (upd H' l (.lst (rs.reverse.map V.ref))) t (.tup xs)) (.tup ds) (.ref t) := Rp.made nt (rx.keep (tk_set ⟨_, S.top⟩))
          -- levels == []
          refine ⟨.ref l, rfl, Nat.zero_le _, fun n0 nn0 => ?_⟩
          have Sn := St.same (Sv.nil (Sv.new (o := .lst []) nn0))
          have smn := smt.trans (Sv.nil (Sv.new (o := .lst []) nn0))
          have hat : (upd (upd H' l (.lst (rs.reverse.map V.ref))) t (.tup xs)) a = some (.lst ((Txt.split z sp).map V.str)) := by rw [upd_ne ta]; exact hap
          have n0a : a ≠ n0 := fun e => by rw [e] at hat; rw [hat] at nn0; cases nn0
          refine Sn.isNil (q := n0) hpy' hdp' upd_same ⟨_, rfl, ?_⟩
          cases st with
          | nil =>
            refine iteT (no (hbad ?_) smn)
            unfold step
            rw [if_neg e1, if_pos e2]
          | cons ds2 st =>
            refine iteF ?_
            obtain ⟨r2, rs, rfl⟩ : ∃ r rs', rs = r :: rs' := by
              have := Sn.len
              cases rs with
              | nil => simp at this
              | cons a b => exact ⟨a, b, rfl⟩
            have ht' := Rp.keep (tk_new (o := .lst []) nn0) rt
            obtain ⟨⟨xs2, hx2, rx2⟩, _⟩ := Sn.rows
            have nr2 : H r2 = none := (fr r2 (by simp)).1
            have S2 := Sn.put hx2 ht'
            have sm2 := sput (o := .lst (xs2 ++ [.ref t])) smn nr2
            have hrl := Sn.len
            refine ⟨.ref l, rfl, 1, rfl, l, _, _, .ref r2, rfl, rfl, .inl (.inl Sn.top), Sn.last, .inl ⟨rfl, _, .inl (.inl hx2)⟩, .ref t, rfl, r2, xs2, _, rfl, rfl, hx2, ?_, ?_⟩
            · have := hrow ds2 (by simp)
              have := rx2.len
              omega
            have hstep : step (ds :: ds2 :: st) w = some ((ds2 ++ [.tup ds]) :: st) := by
              unfold step
              rw [if_neg e1, if_pos e2]
            refine ⟨.ref l, rfl, l, _, rfl, .inl (.inl (.inl S2.top)), _, _, rfl, rfl, _, _, rfl, rfl, _, rfl, ?_⟩
            refine ite2 (fun e3 => ?_) (fun e3 => ?_)
            · exfalso
              have := of_decide_eq_true e3
              rw [List.length_map, List.length_reverse, hrl] at this
              simp only [List.length_cons] at hl13 this
              omega
            · refine ⟨_, _, r2 :: rs, _, rfl, sm2, fun b hb => ?_, ?_, fold_some hf hw hstep, S2⟩
              · rcases List.mem_cons.mp hb with rfl | hb
                · exact ⟨nl', al.symm⟩
                · exact fr b (by simp [List.mem_cons.mp hb])
              · rw [upd_ne (fr r2 (by simp)).2.symm, upd_ne n0a]
                exact hat
        · have e2 : w ≠ rb := fun e => e2 (decide_eq_true (congrArg V.str e))
          obtain ⟨⟨xs, hx, rx⟩, _⟩ := id S.rows
          have nr : H r = none := (fr r (by simp)).1
          have hrl := S.len
          refine ⟨.ref l, rfl, 1, rfl, l, _, _, .ref r, rfl, rfl, .inl (.inl S.top), S.last, .inl ⟨rfl, _, .inl (.inl hx)⟩, .str w, rfl, w, rfl, by omega, fun d hd H1 v s1 rv => ?_, fun hn => ?_⟩
          · have hstep : step (ds :: st) w = some ((ds ++ [d]) :: st) := by
              unfold step
              rw [if_neg e1, if_neg e2, hd]
            have S1 := S.same s1
            have hx1 := s1 _ _ hx
            have S2 := S1.put hx1 rv
            have sm2 := sput (o := .lst (xs ++ [v])) (sm.trans s1) nr
            refine ⟨r, xs, _, rfl, rfl, hx1, ?_, ?_⟩
            · have := hrow ds (by simp)
              have := rx.len
              omega
            refine ⟨.ref l, rfl, l, _, rfl, .inl (.inl (.inl S2.top)), _, _, rfl, rfl, _, _, rfl, rfl, _, rfl, ?_⟩
            refine ite2 (fun e3 => ?_) (fun e3 => ?_)
            · exfalso
              have := of_decide_eq_true e3
              rw [List.length_map, List.length_reverse, hrl] at this
              omega
            · refine ⟨_, _, r :: rs, _, rfl, sm2, fr, ?_, fold_some hf hw hstep, S2⟩
              rw [upd_ne (fr r (by simp)).2.symm]
              exact s1 _ _ ha
          · refine (e (hbad ?_)).on sm
            unfold step
            rw [if_neg e1, if_neg e2, hn]
    · rintro σ H' ⟨y2, y3, rs, st, rfl, sm, fr, ha, hf, S⟩
      rw [List.length_map, List.take_length] at hf
      have hrl := S.len
      refine ⟨.ref l, rfl, l, _, rfl, .inl (.inl (.inl S.top)), rfl, _, rfl, ?_⟩
      refine ite2 (fun e1 => ?_) (fun e1 => ?_)
      · refine no ?_ sm
        have : ¬ st.length = 1 := fun z => by
          have e2 : (!decide (V.int ((rs.reverse.map V.ref).length : Int) = V.int 1)) = true := e1
          rw [List.length_map, List.length_reverse, hrl, z] at e2
          simp at e2
        unfold rdVals rdToks
        rw [hf]
        match st, this with
        | [], _ => rfl
        | [x], h => exact absurd rfl h
        | _ :: _ :: _, _ => rfl
      · have h1 : st.length = 1 := by
          have e2 : ¬ (!decide (V.int ((rs.reverse.map V.ref).length : Int) = V.int 1)) = true := e1
          rw [List.length_map, List.length_reverse, hrl] at e2
          by_cases z : st.length = 1
          · exact z
          · exfalso
            apply e2
            rw [decide_eq_false (fun y => z (by have := V.int.inj y; omega))]
            rfl
        obtain ⟨ds, rfl⟩ : ∃ ds, st = [ds] := by
          match st, h1 with
          | [x], _ => exact ⟨x, rfl⟩
        obtain ⟨r, rfl⟩ : ∃ r, rs = [r] := by
          match rs, hrl with
          | [x], _ => exact ⟨x, rfl⟩
        obtain ⟨⟨xs, hx, rx⟩, _⟩ := S.rows
        have hv : rdVals z = some ds := by unfold rdVals rdToks; rw [hf]
        refine ⟨.ref l, rfl, l, _, 0, .ref r, rfl, rfl, .inl (.inl S.top), atI_nat (j := 0) rfl, r, xs, rfl, .inl ⟨.inl (.inl hx), fun t nt => ?_⟩⟩
        exact q ds hv _ _ (sm.trans (Sv.nil (Sv.new nt))) (Rp.made nt rx)
/-- the value of a text -/
def spRead (K : PySem.W.Frag) (C : Addr) : Sp := fun vs H Q E => ∃ s : Str, vs = [.str s] ∧ s.length ≤ 900000 ∧ (∀ d, rd s = some d → ∀ H' v, Same H H' → Rp K H' d v → Q v H') ∧ (rd s = none → Err C 1 H E)
theorem ok_read_value (T : CnT mg t1 t2 t3 t4 t5) (Z : Ex P K mg C fI) (D : HasDef K mg "read_value" s_read_value ["text"]) (C_read_values : Has P w K mg base (L2.CX P w) 4 "read_values" ["text"] (spValues K C)) :
    Has P w K mg base (L2.CX P w) 5 "read_value" ["text"] (spRead K C) := by
  refine D.has fun f fd F => F.okX sc_read_value (fun vs H Q E h => ?_) (fun cdv A outer s H vs Q E hr h => ?_)
  · obtain ⟨v, rfl, _⟩ := h; rfl
  · obtain ⟨z, rfl, hl, q, e⟩ := h
    refine ⟨_, (pss_cons (ps_set (i := 1) sc_read_value.nd rfl (Or.inl rfl) (pe_hasS C_read_values (hr.mono (by omega)) (takes_of rfl rfl rfl rfl) (by exact (pa_cons (pv 0) pa_nil))))
  (pss_cons (ps_if (pt_cmpR op_ne (pe_callB call_len_seq (by rfl) T.m_len (by decide +kernel) (pa_cons (pv 1) pa_nil)) pe_int (nomark _))
  (pss_one (ps_raiseSup rfl Z.WordError_ Z.WordError_nm hr (takes_of rfl rfl rfl rfl) (by exact (pa_cons pe_int pa_nil))))
  pss_nil)
  (pss_one (ps_ret (pe_ix ix_tup (pv 1) pe_int (fun _ _ => rfl)))))), ?_⟩
    refine ⟨.str z, rfl, z, rfl, hl, fun ds hd H1 v s1 rv => ?_, fun hn => e (by unfold rd; rw [hn])⟩
    obtain ⟨a, xs, rfl, sq, rl⟩ := rv
    refine ⟨.ref a, rfl, a, xs, rfl, .inr sq, rfl, _, rfl, ?_⟩
    refine ite2 (fun e1 => ?_) (fun e1 => ?_)
    · have hn : rd z = none := by
        have e2 : (!decide (V.int (xs.length : Int) = V.int 1)) = true := e1
        rw [rl.len] at e2
        unfold rd
        rw [hd]
        match ds, e2 with
        | [], _ => rfl
        | [x], h => simp at h
        | _ :: _ :: _, _ => rfl
      exact ⟨_, rfl, one_fmt, (e hn).now s1⟩
    · have h1 : ds.length = 1 := by
        have e2 : ¬ (!decide (V.int (xs.length : Int) = V.int 1)) = true := e1
        rw [rl.len] at e2
        by_cases z : ds.length = 1
        · exact z
        · exfalso
          apply e2
          rw [decide_eq_false (fun y => z (by have := V.int.inj y; omega))]
          rfl
      obtain ⟨d, rfl⟩ : ∃ d, ds = [d] := by
        match ds, h1 with
        | [x], _ => exact ⟨x, rfl⟩
      obtain ⟨x, ys, rfl, rx, ry⟩ := rl
      exact ⟨.ref a, rfl, a, _, 0, x, rfl, rfl, sq, atI_nat (j := 0) rfl, q d (by unfold rd; rw [hd]) _ _ s1 rx⟩
end
end RS

namespace RS
open PySem PySem.Spec PyProof.Rows L2 TL

abbrev s_law_pool : Stmt := topS 24
theorem sc_law_pool : FnScope ["script", "at", "cell", "great"] ["script", "at"] (defScope s_law_pool) := ⟨rfl, rfl, rfl, by decide +kernel, rfl, by decide +kernel, by decide +kernel⟩
abbrev s_law_draw : Stmt := topS 25
theorem sc_law_draw : FnScope ["pool", "many", "got", "one"] ["pool", "many"] (defScope s_law_draw) := ⟨rfl, rfl, rfl, by decide +kernel, rfl, by decide +kernel, by decide +kernel⟩

section
variable {P : Program} {w : World} {K : PySem.W.Frag} {mg : Str → Option Value} {base : Heap} {t1 t2 t3 t4 t5 : Tok} {C fI : Addr}

/-- a pool of draws -/
def Pool (H : Hp) (p : Addr) : Prop := ∃ a b c : Int, H p = some (.lst [.int a, .int b, .int c])
theorem Pool.isL {H : Hp} {p : Addr} (h : Pool H p) : IsL H p := by obtain ⟨a, b, c, e⟩ := h; exact ⟨_, e⟩
theorem Pool.same {H H' : Hp} {p : Addr} (h : Pool H p) (s : Same H H') : Pool H' p := by obtain ⟨a, b, c, e⟩ := h; exact ⟨a, b, c, s _ _ e⟩
def spPool (K : PySem.W.Frag) : Sp := fun vs H Q _ => ∃ (a : Addr) (ns : List Int) (i : Nat), vs = [.ref a, .int (i : Int)] ∧ SqL K H a (ns.map V.int) ∧ i ≤ 100 ∧ ∀ H' p, Same H H' → H p = none → Pool H' p → Q (.ref p) H'
theorem ok_law_pool (T : CnT mg t1 t2 t3 t4 t5) (D : HasDef K mg "_law_pool" s_law_pool ["script", "at"]) : Has P w K mg base CX0 1 "_law_pool" ["script", "at"] (spPool K) := by
  refine D.has fun f fd F => F.ok sc_law_pool (fun vs H Q E h => ?_) (fun cdv A outer s H vs Q E hr h => ?_)
  · obtain ⟨a, ns, i, rfl, _⟩ := h; rfl
  · obtain ⟨a, ns, i, rfl, hS, hi, q⟩ := h
    refine ⟨_, (pss_cons (ps_set (i := 2) sc_law_pool.nd rfl (Or.inl rfl) pe_int)
  (pss_cons (ps_if (pt_cmpR op_lt (pv 1) (pe_callB call_len_seq (by rfl) T.m_len (by decide +kernel) (pa_cons (pv 0) pa_nil)) (nomark _))
  (pss_one (ps_set (i := 2) sc_law_pool.nd rfl (Or.inl rfl) (pe_ix ix_list (pv 0) (pv 1) (fun _ _ => rfl))))
  pss_nil)
  (pss_cons (ps_if (pt_cmpR op_lt (pv 2) pe_int (nomark _))
  (pss_one (ps_set (i := 2) sc_law_pool.nd rfl (Or.inl rfl) (pe_op op_sub pe_int (pv 2))))
  pss_nil)
  (pss_cons (ps_set (i := 3) sc_law_pool.nd rfl (Or.inl rfl) pe_int)
  (pss_cons (ps_if (pt_cmpR op_ge (pv 2) (pe_op op_pow pe_int pe_int) (nomark _))
  (pss_one (ps_set (i := 3) sc_law_pool.nd rfl (Or.inl rfl) (pv 2)))
  pss_nil)
  (pss_one (ps_ret (pe_lst (pa_cons (pe_op op_add (pe_op op_modN (pe_callTy call_int1 (by rfl) T.m_int (by decide +kernel) (pa_cons (pv 2) pa_nil)) pe_int) (pe_op op_mul pe_int (pv 1))) (pa_cons (pv 3) (pa_cons pe_int pa_nil))))))))))), ?_⟩
    -- cell = 0; if at < len(script): cell = script[at]
    refine cutSeq (fun σ' H' => ∃ c : Int, σ' = [some (.ref a), some (.int (i : Int)), some (.int c), none] ∧ H = H') (fun nx hn => ?_) ?_
    · exact hn _ _ ⟨0, rfl, rfl⟩
    rintro _ _ ⟨c, rfl, rfl⟩
    refine cutSeq (fun σ' H' => ∃ c : Int, σ' = [some (.ref a), some (.int (i : Int)), some (.int c), none] ∧ H = H') (fun nx hn => ?_) ?_
    · refine ⟨_, rfl, .ref a, rfl, a, _, rfl, .inl hS, _, _, rfl, rfl, _, rfl, ?_⟩
      refine ite2 (fun e => ?_) (fun e => hn _ _ ⟨c, rfl, rfl⟩)
      have hlt : i < ns.length := by
        have := of_decide_eq_true e
        rw [List.length_map] at this
        omega
      exact ⟨.ref a, rfl, _, rfl, a, _, _, .int ns[i], rfl, rfl, hS, atI_nat (j := i) (by simp [hlt]), hn _ _ ⟨_, rfl, rfl⟩⟩
    rintro _ _ ⟨c, rfl, rfl⟩
    refine cutSeq (fun σ' H' => ∃ c : Int, σ' = [some (.ref a), some (.int (i : Int)), some (.int c), none] ∧ H = H') (fun nx hn => ?_) ?_
    · refine ⟨_, rfl, _, _, rfl, rfl, _, rfl, ?_⟩
      refine ite2 (fun e => ?_) (fun e => hn _ _ ⟨c, rfl, rfl⟩)
      exact ⟨_, rfl, _, _, rfl, rfl, hn _ _ ⟨_, rfl, rfl⟩⟩
    rintro _ _ ⟨c, rfl, rfl⟩
    refine cutSeq (fun σ' H' => ∃ g : Int, σ' = [some (.ref a), some (.int (i : Int)), some (.int c), some (.int g)] ∧ H = H') (fun nx hn => ?_) ?_
    · exact hn _ _ ⟨0, rfl, rfl⟩
    rintro _ _ ⟨g, rfl, rfl⟩
    refine cutSeq (fun σ' H' => ∃ g : Int, σ' = [some (.ref a), some (.int (i : Int)), some (.int c), some (.int g)] ∧ H = H') (fun nx hn => ?_) ?_
    · refine ⟨_, rfl, _, _, rfl, rfl, ⟨by decide, by decide, by decide⟩, _, _, rfl, rfl, _, rfl, ?_⟩
      refine ite2 (fun e => ?_) (fun e => hn _ _ ⟨g, rfl, rfl⟩)
      exact ⟨_, rfl, hn _ _ ⟨_, rfl, rfl⟩⟩
    rintro _ _ ⟨g, rfl, rfl⟩
    refine ⟨_, rfl, .inl ⟨_, rfl, _, _, rfl, rfl, (by show (2147483647 : Int) ≠ 0; decide), _, rfl, _, _, rfl, rfl, .inl ⟨by decide, by decide⟩, _, _, rfl, rfl, _, rfl, ?_, fun p np => ?_⟩⟩
    · show 3 ≤ sizeLine
      rw [sizeLine_eq]; decide
    · exact q _ p (Sv.nil (Sv.new np)) np ⟨_, _, _, upd_same⟩

def spDraw : Sp := fun vs H Q _ => ∃ (p : Addr) (m : Int), vs = [.ref p, .int m] ∧ Pool H p ∧ 0 < m ∧ m < 1073741824 ∧ ∀ H' (n : Int), Sv [p] H H' → Pool H' p → 0 ≤ n → n < m → Q (.int n) H'
theorem ok_law_draw (T : CnT mg t1 t2 t3 t4 t5) (D : HasDef K mg "_law_draw" s_law_draw ["pool", "many"]) : Has P w K mg base CX0 1 "_law_draw" ["pool", "many"] spDraw := by
  refine D.has fun f fd F => F.ok sc_law_draw (fun vs H Q E h => ?_) (fun cdv A outer s H vs Q E hr h => ?_)
  · obtain ⟨p, m, rfl, _⟩ := h; rfl
  · obtain ⟨p, m, rfl, ⟨a, b, c, hp⟩, h0, h1, q⟩ := h
    refine ⟨_, (pss_cons (ps_asg (pe_op op_add (pe_ix ix_list (pv 0) pe_int (fun _ _ => rfl)) pe_int) (pg_sub (pv 0) pe_int set_list))
  (pss_cons (ps_if (pt_cmpR op_gt (pe_ix ix_list (pv 0) pe_int (fun _ _ => rfl)) pe_int (nomark _))
  (pss_cons (ps_set (i := 2) sc_law_draw.nd rfl (Or.inl rfl) (pe_op op_modN (pe_callTy call_int1 (by rfl) T.m_int (by decide +kernel) (pa_cons (pe_ix ix_list (pv 0) pe_int (fun _ _ => rfl)) pa_nil)) (pv 1)))
  (pss_cons (ps_asg (pe_op op_fdivN (pe_ix ix_list (pv 0) pe_int (fun _ _ => rfl)) (pv 1)) (pg_sub (pv 0) pe_int set_list))
  (pss_one (ps_ret (pv 2)))))
  pss_nil)
  (pss_cons (ps_set (i := 3) sc_law_draw.nd rfl (Or.inl rfl) (pe_op op_modN (pe_callTy call_int1 (by rfl) T.m_int (by decide +kernel) (pa_cons (pe_op op_add (pe_op op_add (pe_op op_mul (pe_op op_add (pe_ix ix_list (pv 0) pe_int (fun _ _ => rfl)) pe_int) pe_int) (pe_op op_mul (pe_ix ix_list (pv 0) pe_int (fun _ _ => rfl)) pe_int)) pe_int) pa_nil)) pe_int))
  (pss_cons (ps_set (i := 3) sc_law_draw.nd rfl (Or.inl rfl) (pe_op op_modN (pe_callTy call_int1 (by rfl) T.m_int (by decide +kernel) (pa_cons (pe_op op_add (pe_op op_mul (pv 3) (pv 3)) (pe_ix ix_list (pv 0) pe_int (fun _ _ => rfl))) pa_nil)) pe_int))
  (pss_cons (ps_set (i := 3) sc_law_draw.nd rfl (Or.inl rfl) (pe_op op_modN (pe_callTy call_int1 (by rfl) T.m_int (by decide +kernel) (pa_cons (pe_op op_add (pe_op op_mul (pv 3) (pv 3)) (pe_ix ix_list (pv 0) pe_int (fun _ _ => rfl))) pa_nil)) pe_int))
  (pss_one (ps_ret (pe_op op_modN (pe_callTy call_int1 (by rfl) T.m_int (by decide +kernel) (pa_cons (pe_op op_fdivN (pv 3) pe_int) pa_nil)) (pv 1))))))))), ?_⟩
    have L : ∀ {H' : Hp} {xs : List V}, H' p = some (.lst xs) → SqL K H' p xs := fun h => .inl (.inl h)
    refine ⟨.ref p, rfl, p, _, _, .int c, rfl, rfl, L hp, atI_nat (j := 2) rfl, _, _, rfl, rfl, .ref p, rfl, p, _, _, 2, rfl, rfl, hp, rfl, ?_⟩
    show tSeq _ _ _ _ (upd H p (.lst [.int a, .int b, .int (c + 1)]))
    have sv : ∀ o, Sv [p] H (upd H p o) := fun o => Sv.set (by simp)
    generalize hH1 : upd H p (.lst [.int a, .int b, .int (c + 1)]) = H1
    have hp1 : H1 p = some (.lst [.int a, .int b, .int (c + 1)]) := by rw [← hH1]; exact upd_same
    have sv1 : Sv [p] H H1 := by rw [← hH1]; exact sv _
    have fm : ∀ x y : Int, 0 < y → 0 ≤ x.fmod y ∧ x.fmod y < y := fun x y hy => by
      rw [Int.fmod_eq_emod_of_nonneg x (by omega)]
      exact ⟨Int.emod_nonneg _ (by omega), Int.emod_lt_of_pos _ hy⟩
    refine ⟨.ref p, rfl, p, _, _, .int b, rfl, rfl, L hp1, atI_nat (j := 1) rfl, _, _, rfl, rfl, _, rfl, ?_⟩
    refine ite2 (fun e => ?_) (fun e => ?_)
    · refine ⟨.ref p, rfl, p, _, _, .int b, rfl, rfl, L hp1, atI_nat (j := 1) rfl, .inl ⟨_, rfl, .int m, rfl, _, _, rfl, rfl, by omega, ?_⟩⟩
      refine ⟨.ref p, rfl, p, _, _, .int b, rfl, rfl, L hp1, atI_nat (j := 1) rfl, .int m, rfl, _, _, rfl, rfl, ⟨by omega, by omega⟩, .ref p, rfl, p, _, _, 1, rfl, rfl, hp1, rfl, ?_⟩
      refine ⟨_, rfl, q _ _ (sv1.trans (Sv.set (by simp))) ⟨_, _, _, upd_same⟩ (fm b m h0).1 (fm b m h0).2⟩
    · -- one = int((pool[0] + 1) * 48271 + pool[2] * 69621 + 11) % 2147483647
      refine ⟨.ref p, rfl, p, _, _, .int a, rfl, rfl, L hp1, atI_nat (j := 0) rfl, _, _, rfl, rfl, _, _, rfl, rfl, .inr ⟨by decide, by decide⟩, .ref p, rfl, p, _, _, .int (c + 1), rfl, rfl, L hp1, atI_nat (j := 2) rfl,
        _, _, rfl, rfl, .inr ⟨by decide, by decide⟩, _, _, rfl, rfl, _, _, rfl, rfl, .inl ⟨_, rfl, _, _, rfl, rfl, (by show (2147483647 : Int) ≠ 0; decide), ?_⟩⟩
      obtain ⟨f0, f1⟩ := fm ((a + 1) * 48271 + (c + 1) * 69621 + 11) 2147483647 (by decide)
      -- one = int(one * one + pool[2]) % 2147483629
      refine ⟨_, rfl, _, rfl, _, _, rfl, rfl, .inl ⟨by omega, by omega⟩, .ref p, rfl, p, _, _, .int (c + 1), rfl, rfl, L hp1, atI_nat (j := 2) rfl, _, _, rfl, rfl, .inl ⟨_, rfl, _, _, rfl, rfl, (by show (2147483629 : Int) ≠ 0; decide), ?_⟩⟩
      obtain ⟨f2, f3⟩ := fm (Int.fmod ((a + 1) * 48271 + (c + 1) * 69621 + 11) 2147483647 * Int.fmod ((a + 1) * 48271 + (c + 1) * 69621 + 11) 2147483647 + (c + 1)) 2147483629 (by decide)
      refine ⟨_, rfl, _, rfl, _, _, rfl, rfl, .inl ⟨by omega, by omega⟩, .ref p, rfl, p, _, _, .int a, rfl, rfl, L hp1, atI_nat (j := 0) rfl, _, _, rfl, rfl, .inl ⟨_, rfl, _, _, rfl, rfl, (by show (2147483587 : Int) ≠ 0; decide), ?_⟩⟩
      exact ⟨_, rfl, _, _, rfl, rfl, ⟨(by decide), (by decide)⟩, .inl ⟨_, rfl, .int m, rfl, _, _, rfl, rfl, by omega, q _ _ sv1 ⟨_, _, _, hp1⟩ (fm _ m h0).1 (fm _ m h0).2⟩⟩
end
end RS

namespace RS
open PySem PySem.Spec PyProof.Rows L2 TL

abbrev s_law_same : Stmt := topS 26
theorem sc_law_same : FnScope ["got", "due", "k"] ["got", "due"] (defScope s_law_same) := ⟨rfl, rfl, rfl, by decide +kernel, rfl, by decide +kernel, by decide +kernel⟩

/-- by the answer of a test that is known -/
theorem ifT {c : Bool} {A B : Prop} (e : c = true) (h : A) : if c = true then A else B := by rw [if_pos e]; exact h
theorem ifF {c : Bool} {A B : Prop} (e : c = false) (h : B) : if c = true then A else B := by rw [e]; exact iteF h

section
variable {P : Program} {w : World} {K : PySem.W.Frag} {mg : Str → Option Value} {base : Heap} {t1 t2 t3 t4 t5 : Tok} {C fI : Addr}

mutual
/-- rows are not too long -/
def wide : D → Prop
  | .int _ => True
  | .bl _ => True
  | .str _ => True
  | .tup ds => ds.length ≤ 1000000 ∧ wideL ds
def wideL : List D → Prop
  | [] => True
  | d :: r => wide d ∧ wideL r
end
theorem wideL.at : ∀ {ds : List D} {i : Nat} {d : D}, wideL ds → ds[i]? = some d → wide d
  | [], _, _, _, e => by simp at e
  | d :: r, 0, d', h, e => by
    have : d = d' := by simpa using e
    exact this ▸ h.1
  | d :: r, i + 1, d', h, e => wideL.at (i := i) h.2 (by simpa using e)
/-- the same value twice -/
def spSame (K : PySem.W.Frag) (n : Nat) : Sp := fun vs H Q _ => ∃ v1 v2 d, vs = [v1, v2] ∧ Rp K H d v1 ∧ Rp K H d v2 ∧ dep d < n ∧ wide d ∧ Q (.bl true) H
theorem ok_law_same (T : CnT mg t1 t2 t3 t4 t5) (D : HasDef K mg "_law_same" s_law_same ["got", "due"]) : ∀ n : Nat, Has P w K mg base CX0 (n + 1) "_law_same" ["got", "due"] (spSame K n)
  | 0 => D.has fun f fd F => ⟨fun vs H Q E h => by obtain ⟨v, v2, d, _, _, _, z, _⟩ := h; omega, fun A outer s H args us vs Q E hr he hb hv hs => by obtain ⟨v, v2, d, _, _, _, z, _⟩ := hs; omega⟩
  | n + 1 => by
    have C_law_same := ok_law_same T D n
    refine D.has fun f fd F => F.ok sc_law_same (fun vs H Q E h => ?_) (fun cdv A outer s H vs Q E hr h => ?_)
    · obtain ⟨v, v2, d, rfl, _⟩ := h; rfl
    · obtain ⟨v1, v2, d, rfl, r1, r2, hd, hw, q⟩ := h
      refine ⟨_, (pss_cons (ps_if (pt_val (pe_callB call_isi (by rfl) T.m_isinstance (by decide +kernel) (pa_cons (pv 1) (pa_cons (pe_bltn (v := .ty "tuple") (u := .type "tuple") (by rfl) T.m_tuple (by decide +kernel) rfl) pa_nil))))
  (pss_cons (ps_if (PW.pt (pw_or (pt_not (pt_val (pe_callB call_isi (by rfl) T.m_isinstance (by decide +kernel) (pa_cons (pv 0) (pa_cons (pe_bltn (v := .ty "tuple") (u := .type "tuple") (by rfl) T.m_tuple (by decide +kernel) rfl) pa_nil))))) (pw_or1 (pt_cmpR op_ne (pe_callB call_len_seq (by rfl) T.m_len (by decide +kernel) (pa_cons (pv 0) pa_nil)) (pe_callB call_len_seq (by rfl) T.m_len (by decide +kernel) (pa_cons (pv 1) pa_nil)) (nomark _)))))
  (pss_one (ps_ret pe_bl))
  pss_nil)
  (pss_cons (ps_for PassesOwn.never rfl (pi_range1 (by rfl) T.m_range (pa_cons (pe_callB call_len_seq (by rfl) T.m_len (by decide +kernel) (pa_cons (pv 1) pa_nil)) pa_nil)) (pg_name (i := 2) sc_law_same.nd rfl (Or.inl rfl))
  (pss_one (ps_if (pt_not (pt_val (pe_has C_law_same (hr.mono (by omega)) pass0 (pa_cons (pe_ix ix_tup (pv 0) (pv 2) (fun _ _ => rfl)) (pa_cons (pe_ix ix_tup (pv 1) (pv 2) (fun _ _ => rfl)) pa_nil)))))
  (pss_one (ps_ret pe_bl))
  pss_nil)))
  (pss_one (ps_ret pe_bl))))
  pss_nil)
  (pss_cons (ps_if (pt_val (pe_callB call_isi (by rfl) T.m_isinstance (by decide +kernel) (pa_cons (pv 1) (pa_cons (pe_bltn (v := .ty "str") (u := .type "str") (by rfl) T.m_str (by decide +kernel) rfl) pa_nil))))
  (pss_one (ps_ret (pe_and (pe_callB call_isi (by rfl) T.m_isinstance (by decide +kernel) (pa_cons (pv 0) (pa_cons (pe_bltn (v := .ty "str") (u := .type "str") (by rfl) T.m_str (by decide +kernel) rfl) pa_nil))) (pe_one (pe_cmpR op_eq (pv 0) (pv 1) (nomark _))))))
  pss_nil)
  (pss_cons (ps_if (pt_val (pe_callB call_isi (by rfl) T.m_isinstance (by decide +kernel) (pa_cons (pv 1) (pa_cons (pe_bltn (v := .ty "bool") (u := .type "bool") (by rfl) T.m_bool (by decide +kernel) rfl) pa_nil))))
  (pss_one (ps_ret (pe_and (pe_callB call_isi (by rfl) T.m_isinstance (by decide +kernel) (pa_cons (pv 0) (pa_cons (pe_bltn (v := .ty "bool") (u := .type "bool") (by rfl) T.m_bool (by decide +kernel) rfl) pa_nil))) (pe_one (pe_cmpR op_eq (pv 0) (pv 1) (nomark _))))))
  pss_nil)
  (pss_one (ps_ret (pe_and (pe_callB call_isi (by rfl) T.m_isinstance (by decide +kernel) (pa_cons (pv 0) (pa_cons (pe_bltn (v := .ty "int") (u := .type "int") (by rfl) T.m_int (by decide +kernel) rfl) pa_nil))) (pe_and (pe_not (pe_callB call_isi (by rfl) T.m_isinstance (by decide +kernel) (pa_cons (pv 0) (pa_cons (pe_bltn (v := .ty "bool") (u := .type "bool") (by rfl) T.m_bool (by decide +kernel) rfl) pa_nil)))) (pe_one (pe_cmpR op_eq (pv 0) (pv 1) (nomark _)))))))))), ?_⟩
      refine ⟨v2, rfl, _, _, _, _, _, rfl, .ty "tuple", r2.ty, kit_ty (kb_tup d), _, rfl, ?_⟩
      cases d with
      | tup ds =>
        refine iteT ?_
        obtain ⟨a1, xs1, rfl, sq1, rl1⟩ := id r1
        obtain ⟨a2, xs2, rfl, sq2, rl2⟩ := id r2
        refine ⟨.ref a1, rfl, _, _, _, _, _, rfl, .ty "tuple", r1.ty, kit_ty (kb_tup (.tup ds)), _, rfl, ?_⟩
        refine iteF ?_
        refine ⟨.ref a1, rfl, a1, xs1, rfl, .inr sq1, .ref a2, rfl, a2, xs2, rfl, .inr sq2, rfl, _, rfl, ?_⟩
        refine ifF (by rw [rl1.len, rl2.len]; simp) ?_
        obtain ⟨hz, hws⟩ := hw
        refine ⟨.ref a2, rfl, a2, xs2, rfl, .inr sq2, _, rfl, by omega, by rw [rl2.len]; omega, for_range (lo := 0) (n := ((xs2.length : Int)).toNat) (fun i σ H' => (∃ y, σ = [some (.ref a1), some (.ref a2), y]) ∧ H' = H) ⟨⟨none, rfl⟩, rfl⟩ ?_ ?_⟩
        · rintro i σ H' hi ⟨⟨y, rfl⟩, rfl⟩
          have hi2 : i < ds.length := by rw [rl2.len] at hi; omega
          obtain ⟨x1, e1, q1⟩ := rl1.at (List.getElem?_eq_getElem hi2)
          obtain ⟨x2, e2, q2⟩ := rl2.at (List.getElem?_eq_getElem hi2)
          have z : (0 : Int) + (i : Int) = ((i : Nat) : Int) := by omega
          refine ⟨.ref a1, rfl, _, rfl, a1, xs1, _, x1, rfl, rfl, sq1, by rw [z]; exact atI_nat e1, .ref a2, rfl, _, rfl, a2, xs2, _, x2, rfl, rfl, sq2, by rw [z]; exact atI_nat e2, x1, x2, _, rfl, q1, q2, ?_, ?_, _, rfl, ?_⟩
          · have : dep ds[i] ≤ depL ds := depL_le.mp (Nat.le_refl _) _ (List.getElem_mem hi2)
            have hd' : 1 + depL ds < n + 1 := hd
            omega
          · exact hws.at (List.getElem?_eq_getElem hi2)
          · exact iteF ⟨⟨_, rfl⟩, rfl⟩
        · rintro σ H' ⟨⟨y, rfl⟩, rfl⟩
          exact q
      | str z =>
        refine iteF ?_
        cases (show v1 = V.str z from r1)
        cases (show v2 = V.str z from r2)
        refine ⟨_, rfl, _, _, _, _, _, rfl, .ty "str", r2.ty, kit_ty (kb_str (.str z)), _, rfl, ?_⟩
        refine iteT ?_
        refine ⟨_, rfl, _, _, _, _, _, rfl, .ty "str", r1.ty, kit_ty (kb_str (.str z)), _, rfl, ?_⟩
        refine iteT ⟨_, rfl, _, rfl, rfl, ?_⟩
        rw [decide_eq_true rfl]
        exact q
      | bl b =>
        refine iteF ?_
        cases (show v1 = V.bl b from r1)
        cases (show v2 = V.bl b from r2)
        refine ⟨_, rfl, _, _, _, _, _, rfl, .ty "str", r2.ty, kit_ty (kb_str (.bl b)), _, rfl, ?_⟩
        refine iteF ?_
        refine ⟨_, rfl, _, _, _, _, _, rfl, .ty "bool", r2.ty, kit_ty (kb_bool (.bl b)), _, rfl, ?_⟩
        refine iteT ?_
        refine ⟨_, rfl, _, _, _, _, _, rfl, .ty "bool", r1.ty, kit_ty (kb_bool (.bl b)), _, rfl, ?_⟩
        refine iteT ⟨_, rfl, _, rfl, rfl, ?_⟩
        rw [decide_eq_true rfl]
        exact q
      | int b =>
        refine iteF ?_
        cases (show v1 = V.int b from r1)
        cases (show v2 = V.int b from r2)
        refine ⟨_, rfl, _, _, _, _, _, rfl, .ty "str", r2.ty, kit_ty (kb_str (.int b)), _, rfl, ?_⟩
        refine iteF ?_
        refine ⟨_, rfl, _, _, _, _, _, rfl, .ty "bool", r2.ty, kit_ty (kb_bool (.int b)), _, rfl, ?_⟩
        refine iteF ?_
        refine ⟨_, rfl, _, _, _, _, _, rfl, .ty "int", r1.ty, kit_ty (kb_int (.int b)), _, rfl, ?_⟩
        refine iteT ⟨_, rfl, _, _, _, _, _, rfl, .ty "bool", r1.ty, kit_ty (kb_bool (.int b)), _, rfl, _, rfl, ?_⟩
        refine iteT ⟨_, rfl, _, rfl, rfl, ?_⟩
        rw [decide_eq_true rfl]
        exact q
end
end RS

namespace RS
open PySem PySem.Spec PyProof.Rows L2 TL

theorem toks_ne2 {d : D} (h : smallD d) : toks d ≠ [] := by
  cases d <;> first | exact h.elim | simp [toks]
theorem wsum_wr : ∀ {ds : List D}, smallL ds → wsum (ds.map wr) = wsum (toksL ds)
  | [], _ => rfl
  | d :: r, h => by
    show wsum (wr d :: r.map wr) = wsum (toks d ++ toksL r)
    rw [wsum_cons, wsum_append, wsum_wr h.2, wr_len (toks_ne2 h.1)]
theorem len_toksL : ∀ {ds : List D}, smallL ds → ds.length ≤ (toksL ds).length
  | [], _ => Nat.le_refl _
  | d :: r, h => by
    show r.length + 1 ≤ (toks d ++ toksL r).length
    rw [List.length_append]
    have := len_toksL h.2
    have := toks_ne2 h.1
    cases hq : toks d with
    | nil => exact absurd hq this
    | cons a b => simp; omega
theorem smallL_mem : ∀ {ds : List D}, smallL ds → ∀ d ∈ ds, smallD d
  | [], _, d, h => by simp at h
  | a :: r, h, d, hd => by
    rcases List.mem_cons.mp hd with rfl | hd
    · exact h.1
    · exact smallL_mem h.2 d hd
theorem wr_tup2 {ds : List D} (h : smallL ds) : Txt.join sp ([lb] ++ ds.map wr ++ [rb]) = wr (.tup ds) := by
  have e : [lb] ++ ds.map wr ++ [rb] = ([[lb]] ++ ds.map toks ++ [[rb]]).map (Str.join sp) := by
    rw [List.map_append, List.map_append, List.map_map]
    congr 2
    apply List.map_congr_left
    intro d _
    show Txt.join sp (toks d) = Str.join sp (toks d)
    exact join_eq _ _
  rw [join_eq, e, join_flat]
  · unfold wr
    rw [join_eq]
    congr 1
    show _ = lb :: (toksL ds ++ [rb])
    rw [toksL_flat]
    simp
  · intro l hl
    simp at hl
    rcases hl with rfl | ⟨d, hd, rfl⟩ | rfl
    · simp
    · exact toks_ne2 (smallL_mem h d hd)
    · simp
theorem wsum_at {ds : List D} {i : Nat} {d : D} (h : ds[i]? = some d) : wsum (toks d) ≤ wsum (toksL ds) := by
  have e : ds = ds.take i ++ d :: ds.drop (i + 1) := by
    obtain ⟨hi, e⟩ := List.getElem?_eq_some_iff.mp h
    rw [← e, ← List.drop_eq_getElem_cons hi, List.take_append_drop]
  rw [e, toksL_append, wsum_append]
  show _ ≤ _ + wsum (toks d ++ toksL (ds.drop (i + 1)))
  rw [wsum_append]
  omega

abbrev s_law_write : Stmt := topS 27
theorem sc_law_write : FnScope ["x", "y"] ["x"] (defScope s_law_write) := ⟨rfl, rfl, rfl, by decide +kernel, rfl, by decide +kernel, by decide +kernel⟩
abbrev s_law_word_in : Stmt := topS 28
theorem sc_law_word_in : FnScope ["word", "body", "c"] ["word"] (defScope s_law_word_in) := ⟨rfl, rfl, rfl, by decide +kernel, rfl, by decide +kernel, by decide +kernel⟩

section
variable {P : Program} {w : World} {K : PySem.W.Frag} {mg : Str → Option Value} {base : Heap} {t1 t2 t3 t4 t5 : Tok} {C fI : Addr}

def spLWrite (K : PySem.W.Frag) (n : Nat) : Sp := fun vs H Q _ => ∃ v d, vs = [v] ∧ Rp K H d v ∧ dep d < n ∧ smallD d ∧ wsum (toks d) ≤ 1000000 ∧ ∀ H', Same H H' → Q (.str (wr d)) H'
theorem ok_law_write (T : CnT mg t1 t2 t3 t4 t5) (D : HasDef K mg "_law_write" s_law_write ["x"]) : ∀ n : Nat, Has P w K mg base CX0 (n + 1) "_law_write" ["x"] (spLWrite K n)
  | 0 => D.has fun f fd F => ⟨fun vs H Q E h => by obtain ⟨v, d, _, _, z, _⟩ := h; omega, fun A outer s H args us vs Q E hr he hb hv hs => by obtain ⟨v, d, _, _, z, _⟩ := hs; omega⟩
  | n + 1 => by
    have C_law_write := ok_law_write T D n
    refine D.has fun f fd F => F.ok sc_law_write (fun vs H Q E h => ?_) (fun cdv A outer s H vs Q E hr h => ?_)
    · obtain ⟨v, d, rfl, _⟩ := h; rfl
    · obtain ⟨v, d, rfl, r, hd, hs, hl, q⟩ := h
      refine ⟨_, (pss_cons (ps_if (pt_val (pe_callB call_isi (by rfl) T.m_isinstance (by decide +kernel) (pa_cons (pv 0) (pa_cons (pe_bltn (v := .ty "tuple") (u := .type "tuple") (by rfl) T.m_tuple (by decide +kernel) rfl) pa_nil))))
  (pss_one (ps_ret (pe_join pe_str (pe_op op_cat (pe_op op_cat (pe_lst (pa_cons pe_str pa_nil)) (pe_lc (own := [("y", 1)]) (g := gName 1) (tt := tYes) rfl sc_law_write.nd (pi_tup (pv 0)) (blkOk_by (own := [("y", 1)]) (N := ["x", "y"]) (sc := defScope s_law_write) (by decide +kernel)) (fun _ _ _ _ _ => (pg_name (i := 1) sc_law_write.nd rfl (Or.inl rfl))) (fun _ _ _ _ _ => pts_nil) (fun _ _ _ _ _ => (pe_has C_law_write (hr.mono (by omega)) pass0 (pa_cons (pv 1) pa_nil))))) (pe_lst (pa_cons pe_str pa_nil))))))
  pss_nil)
  (pss_one (ps_ret (pe_callTy call_strD (by rfl) T.m_str (by decide +kernel) (pa_cons (pv 0) pa_nil))))), ?_⟩
      have hsz := sizeLine_eq
      refine ⟨v, rfl, _, _, _, _, _, rfl, .ty "tuple", r.ty, kit_ty (kb_tup d), _, rfl, ?_⟩
      cases d with
      | int i =>
        refine iteF ?_
        cases (show v = V.int i from r)
        exact ⟨_, rfl, .inl ⟨i, rfl, hs, q H (Same.refl H)⟩⟩
      | bl i => exact hs.elim
      | str z =>
        refine iteF ?_
        cases (show v = V.str z from r)
        exact ⟨_, rfl, .inr ⟨z, rfl, q H (Same.refl H)⟩⟩
      | tup ds =>
        refine iteT ?_
        obtain ⟨a, xs, rfl, sq, rl⟩ := id r
        have hw : wsum (toks (.tup ds)) = wsum (toksL ds) + 4 := by
          show wsum (lb :: (toksL ds ++ [rb])) = _
          rw [wsum_cons, wsum_append, wsum_cons, wsum_nil, show lb.length = 1 by decide +kernel, show rb.length = 1 by decide +kernel]
          omega
        have hlen := len_toksL hs
        have hlw := len_le_wsum (toksL ds)
        refine ⟨⟨_, rfl⟩, by show 1 ≤ sizeLine; omega, fun p np => ?_⟩
        have s1 : Same H (upd H p (.lst [.str lb])) := Sv.nil (Sv.new np)
        refine ⟨.ref a, rfl, a, rfl, ⟨_, (TK.same s1).seqT sq⟩, fun D nD => lc_tup (K := K) (a := a) (xs := xs) (fun i H' => Sv [D] (upd H p (.lst [.str lb])) H' ∧ H' D = some (.lst (((ds.take i).map wr).map V.str)))
          ⟨Sv.new nD, upd_same⟩ (fun i H' _ ⟨s2, _⟩ => (TK.same (Sv.nil (Sv.drop nD s2))).seqT ((TK.same s1).seqT sq)) ?_ ?_⟩
        · rintro i x H' hi ⟨s2, hD⟩
          obtain ⟨d, hdi, rd⟩ := rl.get hi
          have sm := s1.trans (Sv.nil (Sv.drop nD s2))
          refine ⟨rfl, x, rfl, x, d, rfl, rd.keep (TK.same sm), ?_, smallL.at hs hdi, ?_, fun H2 s3 => ⟨_, s3 _ _ hD, ?_, ?_, ?_⟩⟩
          · have : dep d ≤ depL ds := depL_le.mp (Nat.le_refl _) d (List.mem_of_getElem? hdi)
            have hd' : 1 + depL ds < n + 1 := hd
            omega
          · have := wsum_at hdi
            omega
          · rw [List.length_map, List.length_map, List.length_take]
            omega
          · exact s2.trans ((Sv.same s3).trans (Sv.set (by simp)))
          · rw [upd_same, take_snoc hdi, List.map_append, List.map_append]
            rfl
        · rintro H' ⟨s2, hD⟩
          have ef : ds.take xs.length = ds := by rw [rl.len, List.take_length]
          rw [ef] at hD
          have hp : H' p = some (.lst [.str lb]) := s2 p _ (fun z => by
            have : p = D := by simpa using z
            rw [this] at nD
            rw [upd_same] at nD; cases nD) upd_same
          have sm := s1.trans (Sv.nil (Sv.drop nD s2))
          refine ⟨p, D, _, _, rfl, rfl, hp, hD, by show 1 + _ ≤ _; rw [List.length_map, List.length_map]; omega, fun p2 np2 => ⟨by show 1 ≤ sizeLine; omega, fun p3 np3 => ?_⟩⟩
          have p23 : p2 ≠ p3 := fun e => by rw [e, upd_same] at np3; cases np3
          refine ⟨p2, p3, _, _, rfl, rfl, by rw [upd_ne p23]; exact upd_same, upd_same, ?_, fun p4 np4 => ?_⟩
          · rw [List.length_append, List.length_map, List.length_map]
            show 1 + _ + 1 ≤ _
            omega
          · refine ⟨sp, p4, [lb] ++ ds.map wr ++ [rb], rfl, rfl, .inl (.inl (.inl (by rw [upd_same, List.map_append, List.map_append]; rfl))), ?_, ?_⟩
            · have hw2 : wsum ([lb] ++ ds.map wr ++ [rb]) = wsum (toksL ds) + 4 := by
                rw [wsum_append, wsum_append, wsum_wr hs, show wsum [lb] = 2 by decide +kernel, show wsum [rb] = 2 by decide +kernel]
                omega
              unfold wsum at hw2
              rw [sp_len]
              unfold wsum at hw hl
              omega
            · rw [wr_tup2 hs]
              exact q _ (((sm.trans (Sv.nil (Sv.new np2))).trans (Sv.nil (Sv.new np3))).trans (Sv.nil (Sv.new np4)))

/-! ### the law's own reading of a token -/
theorem filter_nil {α : Type} {l : List α} {p : α → Bool} : (l.filter fun c => !p c).length = 0 ↔ l.all p = true := by
  rw [List.length_eq_zero_iff, List.filter_eq_nil_iff, List.all_eq_true]
  constructor
  · intro h c hc
    have := h c hc
    simpa using this
  · intro h c hc
    have := h c hc
    simpa using this
/-- what the law takes a token for -/
def wordIn (s : Str) : List D := match tokIn s with
  | some d => [d]
  | none => []
theorem wordIn_none {s : Str} (h1 : isWord s = false) (h2 : isNum s = false) : wordIn s = [] := by
  unfold wordIn tokIn
  rw [h1, h2]
  rfl
theorem wordIn_word {s : Str} (h1 : isWord s = true) : wordIn s = [.str s] := by
  unfold wordIn
  rw [tokIn_word h1]
theorem wordIn_num {s : Str} (h1 : isWord s = false) (h2 : isNum s = true) : wordIn s = [.int (numV s)] := by
  unfold wordIn tokIn
  rw [h1, h2]
  rfl
theorem letters_nonum {s : Str} (h : (tl s).all (fun c => decide (c ∈ tl lets)) = true) (h1 : 1 ≤ s.length) : isNum s = false := by
  cases e : isNum s with
  | false => rfl
  | true =>
    exfalso
    have hl : ∀ c ∈ tl s, 97 ≤ c ∧ c ≤ 122 := fun c hc => mem_lets.mp (of_decide_eq_true (List.all_eq_true.mp h c hc))
    rcases num_cases e with ⟨_, h2, h3, _⟩ | ⟨ds, e2, _⟩
    · cases q : tl s with
      | nil => exact h3 q
      | cons a r =>
        rw [q] at hl h2
        have := hl a (by simp)
        have := h2.head
        omega
    · rw [e2] at hl
      have := hl 45 (by simp)
      omega
theorem isNum_empty {s : Str} (h : s.length = 0) : isNum s = false := by
  cases e : isNum s with
  | false => rfl
  | true =>
    exfalso
    rw [len_tl] at h
    rcases num_cases e with ⟨_, h2, h3, _⟩ | ⟨ds, e2, _⟩
    · exact h3 (List.length_eq_zero_iff.mp h)
    · rw [e2] at h; simp at h
def spWordIn (K : PySem.W.Frag) : Sp := fun vs H Q _ => ∃ s : Str, vs = [.str s] ∧ s.length ≤ 1000000 ∧ ∀ H' v, Same H H' → Rp K H' (.tup (wordIn s)) v → Q v H'
/-- [c for c in z if c not in S] at p, behind i signs -/
def Odd (S : Str) (z : Str) (H : Hp) (p : Addr) (i : Nat) (H' : Hp) : Prop := Sv [p] H H' ∧ H' p = some (.lst ((((tl z).take i).filter fun c => !decide (c ∈ tl S)).map fun c => V.str ⟨#[c]⟩))
theorem ok_law_word_in (T : CnT mg t1 t2 t3 t4 t5) (D : HasDef K mg "_law_word_in" s_law_word_in ["word"]) : Has P w K mg base CX0 1 "_law_word_in" ["word"] (spWordIn K) := by
  refine D.has fun f fd F => F.ok sc_law_word_in (fun vs H Q E h => ?_) (fun cdv A outer s H vs Q E hr h => ?_)
  · obtain ⟨v, rfl, _⟩ := h; rfl
  · obtain ⟨z, rfl, hl, q⟩ := h
    refine ⟨_, (pss_cons (ps_if (pt_cmpR op_eq (pe_callB call_len_str (by rfl) T.m_len (by decide +kernel) (pa_cons (pv 0) pa_nil)) pe_int (nomark _))
  (pss_one (ps_ret (pe_tup pa_nil)))
  pss_nil)
  (pss_cons (ps_if (pt_cmpR op_eq (pe_callB call_len_seq (by rfl) T.m_len (by decide +kernel) (pa_cons (pe_lc (own := [("c", 2)]) (g := gName 2) rfl sc_law_word_in.nd (pi_str (pv 0)) (blkOk_by (own := [("c", 2)]) (N := ["word", "body", "c"]) (sc := defScope s_law_word_in) (by decide +kernel)) (fun _ _ _ _ _ => (pg_name (i := 2) sc_law_word_in.nd rfl (Or.inl rfl))) (fun _ _ _ _ _ => (pts_one (pt_cmpR op_notIn_sign (pv 2) pe_str rfl))) (fun _ _ _ _ _ => (pv 2))) pa_nil)) pe_int (nomark _))
  (pss_one (ps_ret (pe_ifExp (pt_cmpR op_le (pe_callB call_len_str (by rfl) T.m_len (by decide +kernel) (pa_cons (pv 0) pa_nil)) pe_int (nomark _)) (pe_tup (pa_cons (pv 0) pa_nil)) (pe_tup pa_nil))))
  pss_nil)
  (pss_cons (ps_set (i := 1) sc_law_word_in.nd rfl (Or.inl rfl) (pe_ifExp (pt_cmpR op_eq (pe_ix ix_str (pv 0) pe_int (fun _ _ => rfl)) pe_str (nomark _)) (pe_slice sl_str (pv 0) (po_some pe_int) po_none) (pv 0)))
  (pss_cons (ps_if (PW.pt (pw_or (pt_cmpR op_eq (pe_callB call_len_str (by rfl) T.m_len (by decide +kernel) (pa_cons (pv 1) pa_nil)) pe_int (nomark _)) (pw_or (pt_cmpR op_gt (pe_callB call_len_str (by rfl) T.m_len (by decide +kernel) (pa_cons (pv 1) pa_nil)) pe_int (nomark _)) (pw_or1 (pt_cmpR op_gt (pe_callB call_len_seq (by rfl) T.m_len (by decide +kernel) (pa_cons (pe_lc (own := [("c", 2)]) (g := gName 2) rfl sc_law_word_in.nd (pi_str (pv 1)) (blkOk_by (own := [("c", 2)]) (N := ["word", "body", "c"]) (sc := defScope s_law_word_in) (by decide +kernel)) (fun _ _ _ _ _ => (pg_name (i := 2) sc_law_word_in.nd rfl (Or.inl rfl))) (fun _ _ _ _ _ => (pts_one (pt_cmpR op_notIn_sign (pv 2) pe_str rfl))) (fun _ _ _ _ _ => (pv 2))) pa_nil)) pe_int (nomark _))))))
  (pss_one (ps_ret (pe_tup pa_nil)))
  pss_nil)
  (pss_cons (ps_if (PW.pt (pw_and (pt_cmpR op_eq (pe_ix ix_str (pv 1) pe_int (fun _ _ => rfl)) pe_str (nomark _)) (pw_and1 (PW.pt (pw_or (pt_cmpR op_gt (pe_callB call_len_str (by rfl) T.m_len (by decide +kernel) (pa_cons (pv 1) pa_nil)) pe_int (nomark _)) (pw_or1 (pt_cmpR op_eq (pe_ix ix_str (pv 0) pe_int (fun _ _ => rfl)) pe_str (nomark _))))))))
  (pss_one (ps_ret (pe_tup pa_nil)))
  pss_nil)
  (pss_one (ps_ret (pe_tup (pa_cons (pe_callTy call_int_str (by rfl) T.m_int (by decide +kernel) (pa_cons (pv 0) pa_nil)) pa_nil))))))))), ?_⟩
    have hsz := sizeLine_eq
    have hl' : z.length ≤ sizeLine := by omega
    have no : ∀ {H'}, Same H H' → wordIn z = [] → ([] : List V).length ≤ sizeLine ∧ ∀ p, H' p = none → Q (.ref p) (upd H' p (.tup [])) := fun s e => ⟨Nat.zero_le _, fun p np => q _ _ (s.trans (Sv.nil (Sv.new np))) (by rw [e]; exact Rp.made np rfl)⟩
    refine ⟨.str z, rfl, z, rfl, hl', rfl, _, rfl, ?_⟩
    refine ite2 (fun e0 => ?_) (fun e0 => ?_)
    · have h0 : z.length = 0 := by have := V.int.inj (of_decide_eq_true e0); omega
      refine no (Same.refl H) (wordIn_none ?_ (isNum_empty h0))
      unfold isWord
      rw [decide_eq_false (by omega)]
      rfl
    have h1 : 1 ≤ z.length := by
      by_cases h : z.length = 0
      · exact absurd (decide_eq_true (by rw [h]; rfl)) e0
      · omega
    refine ⟨.str z, rfl, _, rfl, fun p np => lc_str (Odd lets z H p) ⟨Sv.new np, upd_same⟩ ?_ ?_⟩
    · rintro i c H' hc ⟨s1, hp⟩
      refine ⟨rfl, _, rfl, c, lets, rfl, rfl, _, rfl, ?_⟩
      have e : (((tl z).take (i + 1)).filter fun c => !decide (c ∈ tl lets)) = (((tl z).take i).filter fun c => !decide (c ∈ tl lets)) ++ (if (!decide (c ∈ tl lets)) = true then [c] else []) := by
        rw [take_snoc hc, List.filter_append]
        congr 1
        simp only [List.filter_cons, List.filter_nil]
      refine ite2 (fun e1 => ?_) (fun e1 => ?_)
      · refine ⟨_, rfl, _, hp, ?_, s1.trans (Sv.set (by simp)), ?_⟩
        · rw [List.length_map]
          have h2 := List.length_filter_le (fun c => !decide (c ∈ tl lets)) ((tl z).take i)
          rw [List.length_take] at h2
          have : (tl z).length = z.length := (len_tl z).symm
          omega
        · rw [upd_same, e, if_pos e1, List.map_append]
          rfl
      · refine ⟨s1, ?_⟩
        rw [hp, e, if_neg e1, List.append_nil]
    rintro H1 ⟨sv1, hp⟩
    rw [List.take_length] at hp
    have s1 := Sv.nil (Sv.drop np sv1)
    refine ⟨p, _, rfl, .inl (.inl (.inl hp)), rfl, _, rfl, ?_⟩
    rw [List.length_map]
    refine ite2 (fun e1 => ?_) (fun e1 => ?_)
    · have hA : (tl z).all (fun c => decide (c ∈ tl lets)) = true := filter_nil.mp (by have := V.int.inj (of_decide_eq_true e1); omega)
      refine ⟨.str z, rfl, z, rfl, hl', _, _, rfl, rfl, _, rfl, ?_⟩
      refine ite2 (fun e2 => ?_) (fun e2 => ?_)
      · have h20 : z.length ≤ 20 := by have := of_decide_eq_true e2; omega
        refine ⟨.str z, rfl, by show 1 ≤ sizeLine; omega, fun p2 np2 => q _ _ (s1.trans (Sv.nil (Sv.new np2))) ?_⟩
        rw [wordIn_word (by unfold isWord; rw [decide_eq_true h1, decide_eq_true h20, hA]; rfl)]
        exact Rp.made np2 ⟨_, _, rfl, rfl, rfl⟩
      · have h20 : ¬ z.length ≤ 20 := fun h => e2 (decide_eq_true (by omega))
        refine no s1 (wordIn_none ?_ (letters_nonum hA h1))
        unfold isWord
        rw [decide_eq_false h20]
        simp
    have hW : isWord z = false := by
      cases hA : (tl z).all fun c => decide (c ∈ tl lets) with
      | true =>
        exfalso
        apply e1
        have := filter_nil.mpr hA
        rw [this]
        rfl
      | false =>
        unfold isWord
        rw [hA]
        simp
    obtain ⟨c0, r0, hcr⟩ : ∃ c r, tl z = c :: r := by
      cases hq : tl z with
      | nil => rw [len_tl, hq] at h1; simp at h1
      | cons c r => exact ⟨c, r, rfl⟩
    have z0 : atI z.cps.toList 0 = some c0 := atI_nat (j := 0) (by show (tl z)[0]? = _; rw [hcr]; rfl)
    have dash : (V.str ⟨#[c0]⟩ = V.str ("-" : Str)) ↔ (tl z).head? = some 45 := by
      rw [hcr]
      constructor
      · intro h
        have := congrArg tl (V.str.inj h)
        rw [tl_dash] at this
        have : [c0] = [45] := this
        simpa using this
      · intro h
        have : c0 = 45 := by simpa using h
        subst this
        exact congrArg V.str (ext_tl (by rw [tl_dash]))
    dsimp only [tNext]
    refine cutSeq (fun σ' H' => σ' = [some (.str z), some (.str (body z)), none] ∧ H1 = H') (fun nx hn => ?_) ?_
    · refine ⟨.str z, rfl, _, 0, c0, rfl, rfl, hl', z0, rfl, _, rfl, ?_⟩
      refine ite2 (fun e => ?_) (fun e => ?_)
      · have hm := dash.mp (of_decide_eq_true e)
        refine ⟨.str z, rfl, _, rfl, z, rfl, hl', hn _ _ ⟨?_, rfl⟩⟩
        have e := cut_body z
        rw [if_pos hm] at e
        rw [e]
        rfl
      · have hm : ¬ (tl z).head? = some 45 := fun h => e (decide_eq_true (dash.mpr h))
        refine ⟨.str z, rfl, hn _ _ ⟨?_, rfl⟩⟩
        have e := cut_body z
        rw [if_neg hm] at e
        rw [← e]
        rfl
    rintro _ _ ⟨rfl, rfl⟩
    have hb := len_body z
    have hbl : (body z).length ≤ sizeLine := by omega
    refine ⟨.str (body z), rfl, _, rfl, hbl, rfl, _, rfl, ?_⟩
    refine ite2 (fun e2 => ?_) (fun e2 => ?_)
    · have h0 : (body z).length = 0 := by have := V.int.inj (of_decide_eq_true e2); omega
      refine no s1 (wordIn_none hW ?_)
      unfold isNum
      rw [decide_eq_false (show ¬ 1 ≤ (body z).length by omega)]
      simp
    have hb1 : 1 ≤ (body z).length := by
      by_cases h : (body z).length = 0
      · exact absurd (decide_eq_true (by rw [h]; rfl)) e2
      · omega
    refine ⟨.str (body z), rfl, _, rfl, hbl, _, _, rfl, rfl, _, rfl, ?_⟩
    refine ite2 (fun e3 => ?_) (fun e3 => ?_)
    · have h60 : ¬ (body z).length ≤ 60 := by have := of_decide_eq_true e3; omega
      refine no s1 (wordIn_none hW ?_)
      unfold isNum
      rw [decide_eq_false h60]
      simp
    have hb60 : (body z).length ≤ 60 := by
      by_cases h : (body z).length ≤ 60
      · exact h
      · exact absurd (decide_eq_true (by omega)) e3
    refine ⟨.str (body z), rfl, _, rfl, fun p2 np2 => lc_str (Odd digs (body z) H1 p2) ⟨Sv.new np2, upd_same⟩ ?_ ?_⟩
    · rintro i c H' hc ⟨sv2, hp2⟩
      refine ⟨rfl, _, rfl, c, digs, rfl, rfl, _, rfl, ?_⟩
      have e : (((tl (body z)).take (i + 1)).filter fun c => !decide (c ∈ tl digs)) = (((tl (body z)).take i).filter fun c => !decide (c ∈ tl digs)) ++ (if (!decide (c ∈ tl digs)) = true then [c] else []) := by
        rw [take_snoc hc, List.filter_append]
        congr 1
        simp only [List.filter_cons, List.filter_nil]
      refine ite2 (fun e1 => ?_) (fun e1 => ?_)
      · refine ⟨_, rfl, _, hp2, ?_, sv2.trans (Sv.set (by simp)), ?_⟩
        · rw [List.length_map]
          have h2 := List.length_filter_le (fun c => !decide (c ∈ tl digs)) ((tl (body z)).take i)
          rw [List.length_take] at h2
          have : (tl (body z)).length = (body z).length := (len_tl _).symm
          omega
        · rw [upd_same, e, if_pos e1, List.map_append]
          rfl
      · refine ⟨sv2, ?_⟩
        rw [hp2, e, if_neg e1, List.append_nil]
    rintro H2 ⟨sv2, hp2⟩
    rw [List.take_length] at hp2
    have s2 := s1.trans (Sv.nil (Sv.drop np2 sv2))
    refine ⟨p2, _, rfl, .inl (.inl (.inl hp2)), _, _, rfl, rfl, _, rfl, ?_⟩
    rw [List.length_map]
    refine ite2 (fun e4 => ?_) (fun e4 => ?_)
    · refine no s2 (wordIn_none hW ?_)
      cases hA : (tl (body z)).all fun c => decide (c ∈ tl digs) with
      | true =>
        exfalso
        have := of_decide_eq_true e4
        rw [filter_nil.mpr hA] at this
        simp at this
      | false =>
        unfold isNum
        rw [hA]
        simp
    have hA : (tl (body z)).all (fun c => decide (c ∈ tl digs)) = true := filter_nil.mp (by
      have : ¬ _ := fun h => e4 (decide_eq_true h)
      omega)
    obtain ⟨b0, q0, hbr⟩ : ∃ c r, tl (body z) = c :: r := by
      cases hq : tl (body z) with
      | nil => rw [len_tl, hq] at hb1; simp at hb1
      | cons c r => exact ⟨c, r, rfl⟩
    have zb0 : atI (body z).cps.toList 0 = some b0 := atI_nat (j := 0) (by show (tl (body z))[0]? = _; rw [hbr]; rfl)
    have zero : (V.str ⟨#[b0]⟩ = V.str ("0" : Str)) ↔ (tl (body z)).head? = some 48 := by
      rw [hbr]
      constructor
      · intro h
        have := congrArg tl (V.str.inj h)
        rw [tl_zero] at this
        have : [b0] = [48] := this
        simpa using this
      · intro h
        have : b0 = 48 := by simpa using h
        subst this
        exact congrArg V.str (ext_tl (by rw [tl_zero]))
    have yes : isNum z = true → [V.int (numV z)].length ≤ sizeLine ∧ ∀ p, H2 p = none → Q (.ref p) (upd H2 p (.tup [V.int (numV z)])) := fun e =>
      ⟨by show 1 ≤ sizeLine; omega, fun p np => q _ _ (s2.trans (Sv.nil (Sv.new np))) (by rw [wordIn_num hW e]; exact Rp.made np ⟨_, _, rfl, rfl, rfl⟩)⟩
    have isN : ((tl (body z)).head? = some 48 → z = ("0" : Str)) → isNum z = true := fun h => by
      unfold isNum
      rw [hA, decide_eq_true hb1, decide_eq_true hb60]
      by_cases h48 : (tl (body z)).head? = some 48
      · rw [decide_eq_true (h h48), Bool.or_true]; rfl
      · rw [decide_eq_false h48]; rfl
    refine ⟨.str (body z), rfl, _, 0, b0, rfl, rfl, hbl, zb0, rfl, _, rfl, ?_⟩
    refine ite2 (fun e5 => ?_) (fun e5 => ?_)
    · have h48 := zero.mp (of_decide_eq_true e5)
      refine ⟨.str (body z), rfl, _, rfl, hbl, _, _, rfl, rfl, _, rfl, ?_⟩
      refine ite2 (fun e6 => ?_) (fun e6 => ?_)
      · have h2 : 1 < (body z).length := by have := of_decide_eq_true e6; omega
        refine no s2 (wordIn_none hW ?_)
        have hz : z ≠ ("0" : Str) := fun e => by
          have := len_body z
          rw [e] at h2 hb
          have e0 : ("0" : Str).length = 1 := by decide +kernel
          omega
        unfold isNum
        rw [decide_eq_true h48, decide_eq_false hz]
        simp
      refine ⟨.str z, rfl, _, 0, c0, rfl, rfl, hl', z0, rfl, _, rfl, ?_⟩
      refine ite2 (fun e7 => ?_) (fun e7 => ?_)
      · have hm := dash.mp (of_decide_eq_true e7)
        refine no s2 (wordIn_none hW ?_)
        have hz : z ≠ ("0" : Str) := fun e => by
          rw [e, tl_zero] at hm
          simp at hm
        unfold isNum
        rw [decide_eq_true h48, decide_eq_false hz]
        simp
      · have hm : ¬ (tl z).head? = some 45 := fun h => e7 (decide_eq_true (dash.mpr h))
        have eb : body z = z := if_neg hm
        have hn : isNum z = true := isN fun _ => by
          apply ext_tl
          rw [tl_zero, ← eb]
          have l1 : (body z).length = 1 := by
            have : ¬ _ := fun h => e6 (decide_eq_true h)
            omega
          rw [hbr] at h48
          rw [len_tl, hbr] at l1
          rw [hbr]
          have : q0 = [] := List.length_eq_zero_iff.mp (by simpa using l1)
          rw [this]
          simpa using h48
        obtain ⟨hn', h61⟩ := num_text hn
        exact ⟨.str z, rfl, z, numV z, rfl, hn', by omega, yes hn⟩
    · have hn : isNum z = true := isN fun h => absurd (decide_eq_true (zero.mpr h)) e5
      obtain ⟨hn', h61⟩ := num_text hn
      exact ⟨.str z, rfl, z, numV z, rfl, hn', by omega, yes hn⟩
end
end RS

namespace RS
open PySem PySem.Spec PyProof.Rows L2 TL

abbrev s_law_read : Stmt := topS 29
theorem sc_law_read : FnScope ["text", "rows", "word", "got", "back"] ["text"] (defScope s_law_read) := ⟨rfl, rfl, rfl, by decide +kernel, rfl, by decide +kernel, by decide +kernel⟩
abbrev s_law_run : Stmt := topS 30
theorem sc_law_run : FnScope ["pool", "signs", "size", "k"] ["pool", "signs", "size"] (defScope s_law_run) := ⟨rfl, rfl, rfl, by decide +kernel, rfl, by decide +kernel, by decide +kernel⟩
abbrev s_law_number : Stmt := topS 31
theorem sc_law_number : FnScope ["pool", "size", "number", "k"] ["pool"] (defScope s_law_number) := ⟨rfl, rfl, rfl, by decide +kernel, rfl, by decide +kernel, by decide +kernel⟩
abbrev s_law_letters : Stmt := topS 32
theorem sc_law_letters : FnScope ["pool", "size"] ["pool"] (defScope s_law_letters) := ⟨rfl, rfl, rfl, by decide +kernel, rfl, by decide +kernel, by decide +kernel⟩

section
variable {P : Program} {w : World} {K : PySem.W.Frag} {mg : Str → Option Value} {base : Heap} {t1 t2 t3 t4 t5 : Tok} {C fI : Addr}

def faultD : D := .tup [.str "fault"]
def spLRead (K : PySem.W.Frag) : Sp := fun vs H Q _ => ∃ s : Str, vs = [.str s] ∧ s.length ≤ 900000 ∧ (∀ ds, rdVals s = some ds → ∀ H' p xs, Same H H' → H' p = some (.lst xs) → RpL K H' ds xs → Q (.ref p) H') ∧
  (rdVals s = none → ∀ H' v, Same H H' → Rp K H' faultD v → Q v H')
theorem ok_law_read (T : CnT mg t1 t2 t3 t4 t5) (D : HasDef K mg "_law_read" s_law_read ["text"]) (C_law_word_in : Has P w K mg base CX0 1 "_law_word_in" ["word"] (spWordIn K)) :
    Has P w K mg base CX0 2 "_law_read" ["text"] (spLRead K) := by
  refine D.has fun f fd F => F.ok sc_law_read (fun vs H Q E h => ?_) (fun cdv A outer s H vs Q E hr h => ?_)
  · obtain ⟨v, rfl, _⟩ := h; rfl
  · obtain ⟨z, rfl, hl, q, e⟩ := h
    refine ⟨_, (pss_cons (ps_set (i := 1) sc_law_read.nd rfl (Or.inl rfl) (pe_lst (pa_cons (pe_lst pa_nil) pa_nil)))
  (pss_cons (ps_for PassesOwn.never rfl (pi_list (pe_split (pv 0) pe_str)) (pg_name (i := 2) sc_law_read.nd rfl (Or.inl rfl))
  (pss_cons (ps_set (i := 3) sc_law_read.nd rfl (Or.inl rfl) (pe_has C_law_word_in (hr.mono (by omega)) pass0 (pa_cons (pv 2) pa_nil)))
  (pss_one (ps_if (pt_cmpR op_eq (pv 2) pe_str (nomark _))
  (pss_cons (ps_if (pt_cmpR op_gt (pe_callB call_len_seq (by rfl) T.m_len (by decide +kernel) (pa_cons (pv 1) pa_nil)) pe_int (nomark _))
  (pss_one (ps_ret (pe_tup (pa_cons pe_str pa_nil))))
  pss_nil)
  (pss_one (ps_expr (pe_bm PySem.F.plainAttrs_list PySem.F.slot_list_append PySem.F.type_list_append mt_append (pv 1) (pa_cons (pe_lst pa_nil) pa_nil)))))
  (pss_one (ps_if (pt_cmpR op_eq (pv 2) pe_str (nomark _))
  (pss_cons (ps_if (pt_cmpR op_lt (pe_callB call_len_seq (by rfl) T.m_len (by decide +kernel) (pa_cons (pv 1) pa_nil)) pe_int (nomark _))
  (pss_one (ps_ret (pe_tup (pa_cons pe_str pa_nil))))
  pss_nil)
  (pss_cons (ps_set (i := 4) sc_law_read.nd rfl (Or.inl rfl) (pe_callTy call_tuple_of (by rfl) T.m_tuple (by decide +kernel) (pa_cons (pe_bm0 PySem.F.plainAttrs_list PySem.F.slot_list_pop PySem.F.type_list_pop mt_pop (pv 1)) pa_nil)))
  (pss_one (ps_expr (pe_bm PySem.F.plainAttrs_list PySem.F.slot_list_append PySem.F.type_list_append mt_append (pe_ix ix_list (pv 1) (pe_un un_neg pe_int) (fun _ _ => rfl)) (pa_cons (pv 4) pa_nil))))))
  (pss_one (ps_if (pt_cmpR op_eq (pe_callB call_len_seq (by rfl) T.m_len (by decide +kernel) (pa_cons (pv 3) pa_nil)) pe_int (nomark _))
  (pss_one (ps_ret (pe_tup (pa_cons pe_str pa_nil))))
  (pss_one (ps_expr (pe_bm PySem.F.plainAttrs_list PySem.F.slot_list_append PySem.F.type_list_append mt_append (pe_ix ix_list (pv 1) (pe_un un_neg pe_int) (fun _ _ => rfl)) (pa_cons (pe_ix ix_tup (pv 3) pe_int (fun _ _ => rfl)) pa_nil))))))))))))
  (pss_cons (ps_if (pt_cmpR op_gt (pe_callB call_len_seq (by rfl) T.m_len (by decide +kernel) (pa_cons (pv 1) pa_nil)) pe_int (nomark _))
  (pss_one (ps_ret (pe_tup (pa_cons pe_str pa_nil))))
  pss_nil)
  (pss_one (ps_ret (pe_ix ix_list (pv 1) pe_int (fun _ _ => rfl))))))), ?_⟩
    have hsz := sizeLine_eq
    -- rows = [[]]
    refine ⟨Nat.zero_le _, fun r0 nr0 => ⟨by show 1 ≤ sizeLine; omega, fun l nl => ?_⟩⟩
    have s1 : Same H (upd (upd H r0 (.lst [])) l (.lst [.ref r0])) := (Sv.nil (Sv.new nr0)).trans (Sv.nil (Sv.new nl))
    have r0l : r0 ≠ l := fun e => by rw [e, upd_same] at nl; cases nl
    have S1 : Stk K (upd (upd H r0 (.lst [])) l (.lst [.ref r0])) l [r0] [[]] := by
      refine ⟨upd_same, ?_, ⟨[], ?_, rfl⟩, trivial⟩
      · simp [r0l.symm]
      · rw [upd_ne r0l, upd_same]
    have nl' : H l = none := (Sv.nil (Sv.new nr0)).free nl
    -- text.split(" ")
    refine ⟨.str z, rfl, ⟨z, rfl⟩, z, sp, rfl, rfl, by decide +kernel, by omega, fun a na => ?_⟩
    have na' : H a = none := s1.free na
    have al : a ≠ l := fun e => by rw [e, upd_same] at na; cases na
    have ar : a ≠ r0 := fun e => by rw [e, upd_ne r0l, upd_same] at na; cases na
    have s2 := s1.trans (Sv.nil (Sv.new (o := .lst ((Txt.split z sp).map V.str)) na))
    have S2 := S1.same (Sv.nil (Sv.new (o := .lst ((Txt.split z sp).map V.str)) na))
    have no : ∀ {H1 : Hp}, rdVals z = none → Same H H1 → [V.str "fault"].length ≤ sizeLine ∧ ∀ p, H1 p = none → Q (.ref p) (upd H1 p (.tup [V.str "fault"])) := fun hn s =>
      ⟨by show 1 ≤ sizeLine; omega, fun p np => e hn _ _ (s.trans (Sv.nil (Sv.new np))) (Rp.made np ⟨_, _, rfl, rfl, rfl⟩)⟩
    have hlen := split_len z
    refine ⟨a, rfl, ⟨_, .inl (.inl upd_same)⟩, for_list (K := K) (a := a) (xs := (Txt.split z sp).map V.str) (fun i σ H' => ∃ y2 y3 y4 rs st, σ = [some (.str z), some (.ref l), y2, y3, y4] ∧ Same H H' ∧ (∀ b ∈ l :: rs, H b = none ∧ b ≠ a) ∧
        H' a = some (.lst ((Txt.split z sp).map V.str)) ∧ ((Txt.split z sp).take i).foldlM step [[]] = some st ∧ Stk K H' l rs st) ?_ (fun i σ H' _ ⟨_, _, _, _, _, _, _, _, ha, _⟩ => .inl (.inl ha)) ?_ ?_⟩
    · refine ⟨none, none, none, [r0], [[]], rfl, s2, ?_, upd_same, rfl, S2⟩
      intro b hb
      rcases List.mem_cons.mp hb with rfl | hb
      · exact ⟨nl', al.symm⟩
      · have : b = r0 := by simpa using hb
        rw [this]
        exact ⟨nr0, ar.symm⟩
    · rintro i x σ H0 hi ⟨y2, y3, y4, rs, st, rfl, sm, fr, ha, hf, S⟩
      obtain ⟨w, hw, rfl⟩ : ∃ w, (Txt.split z sp)[i]? = some w ∧ x = V.str w := by
        rw [List.getElem?_map] at hi
        cases hq : (Txt.split z sp)[i]? with
        | none => rw [hq] at hi; cases hi
        | some w => rw [hq] at hi; exact ⟨w, rfl, (Option.some.inj hi).symm⟩
      obtain ⟨_, hne, hl13, hod⟩ := fold_inv _ hf (by simp) (by simp) ⟨fun d hd => by simp at hd, trivial⟩
      have hrow : ∀ ds ∈ st, ds.length ≤ 900001 := fun ds hd => by
        have := fold_rows _ (n := 0) hf (fun ds hd => by
          have : ds = [] := by simpa using hd
          rw [this]; exact Nat.le_refl _) ds hd
        rw [List.length_take] at this
        omega
      have hbad : step st w = none → rdVals z = none := fun hn => by
        unfold rdVals rdToks
        rw [fold_none hf hw hn]
      obtain ⟨ds, st, rfl⟩ : ∃ ds st', st = ds :: st' := by
        cases st with
        | nil => exact absurd rfl hne
        | cons a b => exact ⟨a, b, rfl⟩
      obtain ⟨r, rs, rfl⟩ : ∃ r rs', rs = r :: rs' := by
        have := S.len
        cases rs with
        | nil => simp at this
        | cons a b => exact ⟨a, b, rfl⟩
      have hwl : w.length ≤ z.length := by
        have := split_sum z
        have h2 : w.length + 1 ≤ wsum (Txt.split z sp) := by
          have hm := List.mem_of_getElem? hw
          obtain ⟨A, B, e⟩ := List.append_of_mem hm
          rw [e, wsum_append, wsum_cons]
          omega
        omega
      -- got = _law_word_in(word)
      refine ⟨.str w, rfl, w, rfl, by omega, fun H' g s3 rg => ?_⟩
      have S := S.same s3
      have sm := sm.trans s3
      have ha := s3 _ _ ha
      have hrl := S.len
      obtain ⟨ga, gx, rfl, gsq, gl⟩ := rg
      refine ⟨.str w, rfl, rfl, _, rfl, ?_⟩
      refine ite2 (fun e1 => ?_) (fun e1 => ?_)
      · have e1 : w = lb := V.str.inj (of_decide_eq_true e1)
        refine ⟨.ref l, rfl, l, _, rfl, .inl (.inl (.inl S.top)), _, _, rfl, rfl, _, rfl, ?_⟩
        refine ite2 (fun e2 => ?_) (fun e2 => ?_)
        · refine no (hbad ?_) sm
          have := of_decide_eq_true e2
          rw [List.length_map, List.length_reverse, hrl] at this
          unfold step
          rw [if_pos e1, if_neg (by omega)]
        have h12 : (ds :: st).length ≤ 12 := by
          have : ¬ _ := fun z => e2 (decide_eq_true z)
          rw [List.length_map, List.length_reverse, hrl] at this
          omega
        refine ⟨.ref l, rfl, .inl ⟨rfl, _, .inl (.inl S.top)⟩, Nat.zero_le _, fun p np => ?_⟩
        have np' : H p = none := sm.free np
        have pl : l ≠ p := fun e => by rw [e] at S; rw [S.top] at np; cases np
        refine ⟨l, _, _, rfl, rfl, by rw [upd_ne pl]; exact S.top, ?_, ?_⟩
        · rw [List.length_map, List.length_reverse, hrl]; omega
        have S' := S.push np
        have pa : p ≠ a := fun e => by rw [e, ha] at np; cases np
        have eq : (r :: rs).reverse.map V.ref ++ [V.ref p] = (p :: r :: rs).reverse.map V.ref := by
          rw [List.reverse_cons (a := p), List.map_append]; rfl
        rw [eq]
        have sm' := sput (o := .lst ((p :: r :: rs).reverse.map V.ref)) (sput (o := .lst []) sm np') nl'
        refine ⟨_, _, _, p :: r :: rs, _, rfl, sm', ?_, ?_, fold_some hf hw (by unfold step; rw [if_pos e1, if_pos h12]), S'⟩
        · intro b hb
          rcases List.mem_cons.mp hb with rfl | hb
          · exact ⟨nl', al.symm⟩
          · rcases List.mem_cons.mp hb with rfl | hb
            · exact ⟨np', pa⟩
            · exact fr b (by simp [List.mem_cons.mp hb])
        · rw [upd_ne al, upd_ne pa.symm]
          exact ha
      · have e1 : w ≠ lb := fun e => e1 (decide_eq_true (congrArg V.str e))
        refine ⟨.str w, rfl, rfl, _, rfl, ?_⟩
        refine ite2 (fun e2 => ?_) (fun e2 => ?_)
        · have e2 : w = rb := V.str.inj (of_decide_eq_true e2)
          refine ⟨.ref l, rfl, l, _, rfl, .inl (.inl (.inl S.top)), _, _, rfl, rfl, _, rfl, ?_⟩
          refine ite2 (fun e3 => ?_) (fun e3 => ?_)
          · refine no (hbad ?_) sm
            have := of_decide_eq_true e3
            rw [List.length_map, List.length_reverse, hrl] at this
            unfold step
            rw [if_neg e1, if_pos e2]
            match st, this with
            | [], _ => rfl
            | x :: y, h => simp at h; omega
          have h2 : 2 ≤ (ds :: st).length := by
            have : ¬ _ := fun z => e3 (decide_eq_true z)
            rw [List.length_map, List.length_reverse, hrl] at this
            omega
          obtain ⟨ds2, st, rfl⟩ : ∃ ds st', st = ds :: st' := by
            cases st with
            | nil => simp at h2
            | cons a b => exact ⟨a, b, rfl⟩
          obtain ⟨r2, rs, rfl⟩ : ∃ r rs', rs = r :: rs' := by
            cases rs with
            | nil => simp at hrl
            | cons a b => exact ⟨a, b, rfl⟩
          refine ⟨.ref l, rfl, .inl ⟨rfl, _, .inl (.inl S.top)⟩, l, _, .ref r, rfl, rfl, S.top, popped.2, ?_⟩
          rw [popped.1]
          obtain ⟨Sp, xs, hx, rx, hx'⟩ := S.pop
          have smp := sput (o := .lst ((r2 :: rs).reverse.map V.ref)) sm nl'
          have hap : (upd H' l (.lst ((r2 :: rs).reverse.map V.ref))) a = some (.lst ((Txt.split z sp).map V.str)) := by rw [upd_ne al]; exact ha
          refine ⟨r, xs, rfl, .inl ⟨.inl (.inl hx'), fun t nt => ?_⟩⟩
          have nt0 : H t = none := smp.free nt
          have Sn := Sp.same (Sv.nil (Sv.new (o := .tup xs) nt))
          have smn := smp.trans (Sv.nil (Sv.new (o := .tup xs) nt))
          have ta : a ≠ t := fun e => by rw [e] at hap; rw [hap] at nt; cases nt
          have rt : Rp K (upd (upd H' l (.lst ((r2 :: rs).reverse.map V.ref))) t (.tup xs)) (.tup ds) (.ref t) := Rp.made nt (rx.keep (tk_set ⟨_, S.top⟩))
          have hat : (upd (upd H' l (.lst ((r2 :: rs).reverse.map V.ref))) t (.tup xs)) a = some (.lst ((Txt.split z sp).map V.str)) := by rw [upd_ne ta]; exact hap
          obtain ⟨⟨xs2, hx2, rx2⟩, _⟩ := Sn.rows
          have nr2 : H r2 = none := (fr r2 (by simp)).1
          have S2 := Sn.put hx2 rt
          have sm2 := sput (o := .lst (xs2 ++ [.ref t])) smn nr2
          refine ⟨.ref l, rfl, 1, rfl, l, _, _, .ref r2, rfl, rfl, .inl (.inl Sn.top), Sn.last, .inl ⟨rfl, _, .inl (.inl hx2)⟩, .ref t, rfl, r2, xs2, _, rfl, rfl, hx2, ?_, ?_⟩
          · have := hrow ds2 (by simp)
            have := rx2.len
            omega
          have hstep : step (ds :: ds2 :: st) w = some ((ds2 ++ [.tup ds]) :: st) := by
            unfold step
            rw [if_neg e1, if_pos e2]
          refine ⟨_, _, _, r2 :: rs, _, rfl, sm2, fun b hb => ?_, ?_, fold_some hf hw hstep, S2⟩
          · rcases List.mem_cons.mp hb with rfl | hb
            · exact ⟨nl', al.symm⟩
            · exact fr b (by simp [List.mem_cons.mp hb])
          · rw [upd_ne (fr r2 (by simp)).2.symm]
            exact hat
        · have e2 : w ≠ rb := fun e => e2 (decide_eq_true (congrArg V.str e))
          refine ⟨.ref ga, rfl, ga, gx, rfl, .inr gsq, rfl, _, rfl, ?_⟩
          cases htok : tokIn w with
          | none =>
            have hg : wordIn w = [] := by unfold wordIn; rw [htok]
            rw [hg] at gl
            cases (show gx = [] from gl)
            refine ifT (by decide) (no (hbad ?_) sm)
            unfold step
            rw [if_neg e1, if_neg e2, htok]
          | some d =>
            have hg : wordIn w = [d] := by unfold wordIn; rw [htok]
            rw [hg] at gl
            obtain ⟨g0, gr, rfl, rg0, rgr⟩ := gl
            cases (show gr = [] from rgr)
            refine ifF (show decide (V.int ((1 : Nat) : Int) = V.int 0) = false by decide) ?_
            obtain ⟨⟨xs, hx, rx⟩, _⟩ := id S.rows
            have nr : H r = none := (fr r (by simp)).1
            have hstep : step (ds :: st) w = some ((ds ++ [d]) :: st) := by
              unfold step
              rw [if_neg e1, if_neg e2, htok]
            have S2 := S.put hx rg0
            have sm2 := sput (o := .lst (xs ++ [g0])) sm nr
            refine ⟨.ref l, rfl, 1, rfl, l, _, _, .ref r, rfl, rfl, .inl (.inl S.top), S.last, .inl ⟨rfl, _, .inl (.inl hx)⟩, .ref ga, rfl, ga, _, 0, g0, rfl, rfl, gsq, atI_nat (j := 0) rfl, r, xs, _, rfl, rfl, hx, ?_, ?_⟩
            · have := hrow ds (by simp)
              have := rx.len
              omega
            refine ⟨_, _, _, r :: rs, _, rfl, sm2, fr, ?_, fold_some hf hw hstep, S2⟩
            rw [upd_ne (fr r (by simp)).2.symm]
            exact ha
    · rintro σ H' ⟨y2, y3, y4, rs, st, rfl, sm, fr, ha, hf, S⟩
      rw [List.length_map, List.take_length] at hf
      have hrl := S.len
      obtain ⟨_, hne, _⟩ := fold_inv _ hf (by simp) (by simp) ⟨fun d hd => by simp at hd, trivial⟩
      refine ⟨.ref l, rfl, l, _, rfl, .inl (.inl (.inl S.top)), _, _, rfl, rfl, _, rfl, ?_⟩
      refine ite2 (fun e1 => ?_) (fun e1 => ?_)
      · refine no ?_ sm
        have := of_decide_eq_true e1
        rw [List.length_map, List.length_reverse, hrl] at this
        unfold rdVals rdToks
        rw [hf]
        match st, this with
        | [], _ => rfl
        | [x], h => simp at h
        | _ :: _ :: _, _ => rfl
      · have h1 : st.length = 1 := by
          have : ¬ _ := fun z => e1 (decide_eq_true z)
          rw [List.length_map, List.length_reverse, hrl] at this
          cases st with
          | nil => exact absurd rfl hne
          | cons a b =>
            have h2 : ¬ (1 : Int) < ((a :: b).length : Nat) := this
            have h3 : (a :: b).length = b.length + 1 := rfl
            omega
        obtain ⟨ds, rfl⟩ : ∃ ds, st = [ds] := by
          match st, h1 with
          | [x], _ => exact ⟨x, rfl⟩
        obtain ⟨r, rfl⟩ : ∃ r, rs = [r] := by
          match rs, hrl with
          | [x], _ => exact ⟨x, rfl⟩
        obtain ⟨⟨xs, hx, rx⟩, _⟩ := S.rows
        have hv : rdVals z = some ds := by unfold rdVals rdToks; rw [hf]
        exact ⟨.ref l, rfl, l, _, 0, .ref r, rfl, rfl, .inl (.inl S.top), atI_nat (j := 0) rfl, q ds hv _ _ _ sm hx rx⟩

/-- a run of drawn signs -/
def spRun : Sp := fun vs H Q _ => ∃ (p : Addr) (S : Str) (n : Nat), vs = [.ref p, .str S, .int (n : Int)] ∧ Pool H p ∧ 0 < S.length ∧ S.length ≤ 1000 ∧ n ≤ 1000 ∧
  ∀ H' z, Sv [p] H H' → Pool H' p → z.length = n → (∀ c ∈ tl z, c ∈ tl S) → Q (.str z) H'
theorem join_empty : ∀ (cs : List Nat), tl (Txt.join ("" : Str) (cs.map fun c => ⟨#[c]⟩)) = cs := fun cs => by
  rw [join_eq, tl_join]
  have e : tl ("" : Str) = [] := by decide +kernel
  rw [e, List.map_map]
  induction cs with
  | nil => rfl
  | cons a r ih =>
    cases r with
    | nil => rfl
    | cons b q =>
      show [a] ++ ([] ++ joinL [] ((b :: q).map _)) = _
      rw [ih]
      rfl
theorem ok_law_run (T : CnT mg t1 t2 t3 t4 t5) (D : HasDef K mg "_law_run" s_law_run ["pool", "signs", "size"]) (C_law_draw : Has P w K mg base CX0 1 "_law_draw" ["pool", "many"] spDraw) :
    Has P w K mg base CX0 2 "_law_run" ["pool", "signs", "size"] spRun := by
  refine D.has fun f fd F => F.ok sc_law_run (fun vs H Q E h => ?_) (fun cdv A outer s H vs Q E hr h => ?_)
  · obtain ⟨p, S, n, rfl, _⟩ := h; rfl
  · obtain ⟨p, S, n, rfl, hP, h0, h1, hn, q⟩ := h
    refine ⟨_, (pss_one (ps_ret (pe_join pe_str (pe_lc (own := [("k", 3)]) (g := gName 3) (tt := tYes) rfl sc_law_run.nd (pi_range1 (by rfl) T.m_range (pa_cons (pv 2) pa_nil)) (blkOk_by (own := [("k", 3)]) (N := ["pool", "signs", "size", "k"]) (sc := defScope s_law_run) (by decide +kernel)) (fun _ _ _ _ _ => (pg_name (i := 3) sc_law_run.nd rfl (Or.inl rfl))) (fun _ _ _ _ _ => pts_nil) (fun _ _ _ _ _ => (pe_ix ix_str (pv 1) (pe_has C_law_draw (hr.mono (by omega)) pass0 (pa_cons (pv 0) (pa_cons (pe_callB call_len_str (by rfl) T.m_len (by decide +kernel) (pa_cons (pv 1) pa_nil)) pa_nil))) (fun _ _ => rfl))))))), ?_⟩
    have hsz := sizeLine_eq
    refine ⟨⟨_, rfl⟩, _, rfl, (n : Int), rfl, by omega, by omega, fun D nD => lc_range (lo := 0) (n := ((n : Int)).toNat) (fun i H' => Sv [p, D] H H' ∧ Pool H' p ∧ ∃ cs : List Nat, cs.length = i ∧ (∀ c ∈ cs, c ∈ tl S) ∧ H' D = some (.lst ((cs.map fun c => (⟨#[c]⟩ : Str)).map V.str))) ?_ ?_ ?_⟩
    · exact ⟨Sv.new nD, hP.same (Sv.nil (Sv.new nD)), [], rfl, by simp, upd_same⟩
    · rintro i H' hi ⟨sv, hP', cs, hl, hc, hD⟩
      refine ⟨rfl, .str S, rfl, .ref p, rfl, .str S, rfl, S, rfl, by omega, p, _, rfl, hP', by omega, by omega, fun H2 k sv2 hP2 k0 k1 => ?_⟩
      have pD : D ≠ p := fun e => by
        obtain ⟨a, b, c, e2⟩ := hP
        rw [e, e2] at nD; cases nD
      have hD2 : H2 D = some (.lst ((cs.map fun c => (⟨#[c]⟩ : Str)).map V.str)) := sv2 D _ (by simpa using pD) hD
      obtain ⟨j, rfl⟩ := Int.eq_ofNat_of_zero_le k0
      have hj : j < (tl S).length := by rw [← len_tl]; omega
      refine ⟨S, (j : Int), (tl S)[j], rfl, rfl, by omega, atI_nat (j := j) (by show (tl S)[j]? = _; exact List.getElem?_eq_getElem hj), _, hD2, ?_, ?_, ?_⟩
      · rw [List.length_map, List.length_map]
        omega
      · exact sv.trans ((sv2.mono (by simp)).trans (Sv.set (by simp)))
      · refine ⟨?_, cs ++ [(tl S)[j]], by rw [List.length_append, hl]; rfl, ?_, by rw [upd_same, List.map_append, List.map_append]; rfl⟩
        · obtain ⟨a, b, c, e2⟩ := hP2
          exact ⟨a, b, c, by rw [upd_ne pD.symm]; exact e2⟩
        · intro c hc2
          rcases List.mem_append.mp hc2 with h | h
          · exact hc c h
          · have : c = (tl S)[j] := by simpa using h
            rw [this]
            exact List.getElem_mem hj
    · rintro H' ⟨sv, hP', cs, hl, hc, hD⟩
      have hl' : cs.length = n := by omega
      refine ⟨("" : Str), D, cs.map fun c => (⟨#[c]⟩ : Str), rfl, rfl, .inl (.inl (.inl hD)), ?_, ?_⟩
      · have e0 : ("" : Str).length = 0 := by decide +kernel
        have e1 : ((cs.map fun c => (⟨#[c]⟩ : Str)).map (·.length)).sum = cs.length := by
          clear hl hc hD hl'
          induction cs with
          | nil => rfl
          | cons a r ih =>
            show 1 + ((r.map fun c => (⟨#[c]⟩ : Str)).map (·.length)).sum = r.length + 1
            rw [ih]; omega
        rw [e0, e1]
        omega
      · refine q _ _ (Sv.drop nD (sv.mono (by simp))) hP' ?_ ?_
        · rw [len_tl, join_empty]; exact hl'
        · rw [join_empty]; exact hc
end
end RS

namespace RS
open PySem PySem.Spec PyProof.Rows L2 TL

section
variable {P : Program} {w : World} {K : PySem.W.Frag} {mg : Str → Option Value} {base : Heap} {t1 t2 t3 t4 t5 : Tok} {C fI : Addr}

theorem pick_num {k : Int} (h0 : 0 ≤ k) (h1 : k < 4) : ∃ s : Nat, atI [V.int 1, V.int 1, V.int 2, V.int 60] k = some (.int (s : Int)) ∧ 1 ≤ s ∧ s ≤ 60 := by
  have : k = 0 ∨ k = 1 ∨ k = 2 ∨ k = 3 := by omega
  rcases this with rfl | rfl | rfl | rfl
  · exact ⟨1, atI_nat (j := 0) rfl, by decide, by decide⟩
  · exact ⟨1, atI_nat (j := 1) rfl, by decide, by decide⟩
  · exact ⟨2, atI_nat (j := 2) rfl, by decide, by decide⟩
  · exact ⟨60, atI_nat (j := 3) rfl, by decide, by decide⟩
theorem pick_len {k : Int} (h0 : 0 ≤ k) (h1 : k < 4) : ∃ s : Nat, atI [V.int 1, V.int 2, V.int 4, V.int 20] k = some (.int (s : Int)) ∧ 1 ≤ s ∧ s ≤ 20 := by
  have : k = 0 ∨ k = 1 ∨ k = 2 ∨ k = 3 := by omega
  rcases this with rfl | rfl | rfl | rfl
  · exact ⟨1, atI_nat (j := 0) rfl, by decide, by decide⟩
  · exact ⟨2, atI_nat (j := 1) rfl, by decide, by decide⟩
  · exact ⟨4, atI_nat (j := 2) rfl, by decide, by decide⟩
  · exact ⟨20, atI_nat (j := 3) rfl, by decide, by decide⟩
/-- a draw -/
theorem Pool.new {H : Hp} {p t : Addr} {o : HO} (h : Pool H p) (n : H t = none) : Pool (upd H t o) p := h.same (Sv.nil (Sv.new n))
def spNumber : Sp := fun vs H Q _ => ∃ p : Addr, vs = [.ref p] ∧ Pool H p ∧ ∀ H' (n : Int), Sv [p] H H' → Pool H' p → n.natAbs < 10 ^ 60 → Q (.int n) H'
theorem ok_law_number (T : CnT mg t1 t2 t3 t4 t5) (D : HasDef K mg "_law_number" s_law_number ["pool"]) (C_law_draw : Has P w K mg base CX0 1 "_law_draw" ["pool", "many"] spDraw) :
    Has P w K mg base CX0 2 "_law_number" ["pool"] spNumber := by
  refine D.has fun f fd F => F.ok sc_law_number (fun vs H Q E h => ?_) (fun cdv A outer s H vs Q E hr h => ?_)
  · obtain ⟨p, rfl, _⟩ := h; rfl
  · obtain ⟨p, rfl, hP, q⟩ := h
    refine ⟨_, (pss_cons (ps_set (i := 1) sc_law_number.nd rfl (Or.inl rfl) (pe_ix ix_tup (pe_tup (pa_cons pe_int (pa_cons pe_int (pa_cons pe_int (pa_cons pe_int pa_nil))))) (pe_has C_law_draw (hr.mono (by omega)) pass0 (pa_cons (pv 0) (pa_cons pe_int pa_nil))) (fun _ _ => rfl)))
  (pss_cons (ps_if (pt_cmpR op_eq (pe_has C_law_draw (hr.mono (by omega)) pass0 (pa_cons (pv 0) (pa_cons pe_int pa_nil))) pe_int (nomark _))
  (pss_one (ps_set (i := 1) sc_law_number.nd rfl (Or.inl rfl) (pe_op op_add pe_int (pe_has C_law_draw (hr.mono (by omega)) pass0 (pa_cons (pv 0) (pa_cons pe_int pa_nil))))))
  pss_nil)
  (pss_cons (ps_set (i := 2) sc_law_number.nd rfl (Or.inl rfl) (pe_has C_law_draw (hr.mono (by omega)) pass0 (pa_cons (pv 0) (pa_cons pe_int pa_nil))))
  (pss_cons (ps_if (pt_cmpR op_gt (pv 1) pe_int (nomark _))
  (pss_one (ps_set (i := 2) sc_law_number.nd rfl (Or.inl rfl) (pe_callB (call_max2 rfl) (by rfl) T.m_max (by decide +kernel) (pa_cons (pv 2) (pa_cons pe_int pa_nil)))))
  pss_nil)
  (pss_cons (ps_for PassesOwn.never rfl (pi_range1 (by rfl) T.m_range (pa_cons (pe_op op_sub (pv 1) pe_int) pa_nil)) (pg_name (i := 3) sc_law_number.nd rfl (Or.inl rfl))
  (pss_one (ps_set (i := 2) sc_law_number.nd rfl (Or.inl rfl) (pe_op op_add (pe_op op_mul pe_int (pv 2)) (pe_has C_law_draw (hr.mono (by omega)) pass0 (pa_cons (pv 0) (pa_cons pe_int pa_nil)))))))
  (pss_cons (ps_if (pt_cmpR op_eq (pe_has C_law_draw (hr.mono (by omega)) pass0 (pa_cons (pv 0) (pa_cons pe_int pa_nil))) pe_int (nomark _))
  (pss_one (ps_ret (pe_op op_sub pe_int (pv 2))))
  pss_nil)
  (pss_one (ps_ret (pv 2))))))))), ?_⟩
    have hsz := sizeLine_eq
    refine cutSeq (fun σ' H' => ∃ s : Nat, σ' = [some (.ref p), some (.int (s : Int)), none, none] ∧ 1 ≤ s ∧ s ≤ 60 ∧ Sv [p] H H' ∧ Pool H' p) (fun nx hn => ?_) ?_
    · refine ⟨by show 4 ≤ sizeLine; omega, fun t nt => ⟨.ref p, rfl, p, _, rfl, hP.new nt, by decide, by decide, fun H1 k sv hP1 k0 k1 => ?_⟩⟩
      have pt : p ≠ t := fun e => by obtain ⟨a, b, c, e2⟩ := hP; rw [e] at e2; rw [e2] at nt; cases nt
      have ht : H1 t = some (.tup [.int 1, .int 1, .int 2, .int 60]) := sv t _ (by simpa using pt.symm) upd_same
      obtain ⟨s, e, s1, s2⟩ := pick_num k0 k1
      exact ⟨t, _, k, _, rfl, rfl, .inl (.inl ht), e, hn _ _ ⟨s, rfl, s1, s2, (Sv.new nt).trans sv, hP1⟩⟩
    rintro _ H1 ⟨s, rfl, l1, l2, sv1, hP1⟩
    refine cutSeq (fun σ' H' => ∃ s : Nat, σ' = [some (.ref p), some (.int (s : Int)), none, none] ∧ 1 ≤ s ∧ s ≤ 60 ∧ Sv [p] H H' ∧ Pool H' p) (fun nx hn => ?_) ?_
    · refine ⟨.ref p, rfl, p, _, rfl, hP1, by decide, by decide, fun H2 k sv2 hP2 k0 k1 => ⟨rfl, _, rfl, ?_⟩⟩
      refine ite2 (fun e => ?_) (fun e => hn _ _ ⟨s, rfl, l1, l2, sv1.trans sv2, hP2⟩)
      refine ⟨.ref p, rfl, p, _, rfl, hP2, by decide, by decide, fun H3 k sv3 hP3 k0 k1 => ⟨_, _, rfl, rfl, ?_⟩⟩
      obtain ⟨j, rfl⟩ := Int.eq_ofNat_of_zero_le k0
      exact hn _ _ ⟨1 + j, by rw [show ((1 + j : Nat) : Int) = 1 + (j : Int) by omega]; rfl, by omega, by omega, (sv1.trans sv2).trans sv3, hP3⟩
    rintro _ H1 ⟨s, rfl, l1, l2, sv1, hP1⟩
    refine cutSeq (fun σ' H' => ∃ n : Nat, σ' = [some (.ref p), some (.int (s : Int)), some (.int (n : Int)), none] ∧ n < 10 ∧ Sv [p] H H' ∧ Pool H' p) (fun nx hn => ?_) ?_
    · refine ⟨.ref p, rfl, p, _, rfl, hP1, by decide, by decide, fun H3 k sv3 hP3 k0 k1 => ?_⟩
      obtain ⟨j, rfl⟩ := Int.eq_ofNat_of_zero_le k0
      exact hn _ _ ⟨j, rfl, by omega, sv1.trans sv3, hP3⟩
    rintro _ H1 ⟨n, rfl, n9, sv1, hP1⟩
    refine cutSeq (fun σ' H' => ∃ n : Nat, σ' = [some (.ref p), some (.int (s : Int)), some (.int (n : Int)), none] ∧ n < 10 ∧ Sv [p] H H' ∧ Pool H' p) (fun nx hn => ?_) ?_
    · refine ⟨_, rfl, _, _, rfl, rfl, _, rfl, ?_⟩
      refine ite2 (fun e => ?_) (fun e => hn _ _ ⟨n, rfl, n9, sv1, hP1⟩)
      refine ⟨_, rfl, _, _, rfl, ?_⟩
      by_cases h : (1 : Int) > (n : Int)
      · exact hn _ _ ⟨1, by rw [if_pos h]; rfl, by decide, sv1, hP1⟩
      · exact hn _ _ ⟨n, by rw [if_neg h]; rfl, n9, sv1, hP1⟩
    rintro _ H1 ⟨n, rfl, n9, sv1, hP1⟩
    refine cutSeq (fun σ' H' => ∃ (n : Nat) (y : Option V), σ' = [some (.ref p), some (.int (s : Int)), some (.int (n : Int)), y] ∧ n < 10 ^ 60 ∧ Sv [p] H H' ∧ Pool H' p) (fun nx hn => ?_) ?_
    · refine ⟨_, rfl, _, _, rfl, rfl, _, rfl, by omega, by omega, for_range (lo := 0) (n := ((s : Int) - 1).toNat) (fun i σ H' => ∃ (n : Nat) (y : Option V), σ = [some (.ref p), some (.int (s : Int)), some (.int (n : Int)), y] ∧ n < 10 ^ (i + 1) ∧ Sv [p] H H' ∧ Pool H' p) ⟨n, none, rfl, by simpa using n9, sv1, hP1⟩ ?_ ?_⟩
      · rintro i σ H' hi ⟨n, y, rfl, hb, sv, hP'⟩
        refine ⟨_, rfl, _, _, rfl, rfl, .inl ⟨by decide, by decide⟩, .ref p, rfl, p, _, rfl, hP', by decide, by decide, fun H3 k sv3 hP3 k0 k1 => ⟨_, _, rfl, rfl, ?_⟩⟩
        obtain ⟨j, rfl⟩ := Int.eq_ofNat_of_zero_le k0
        refine ⟨10 * n + j, some (.int (0 + (i : Int))), by rw [show ((10 * n + j : Nat) : Int) = 10 * (n : Int) + (j : Int) by omega]; rfl, ?_, sv.trans sv3, hP3⟩
        rw [Nat.pow_succ]
        omega
      · rintro σ H' ⟨n, y, rfl, hb, sv, hP'⟩
        refine hn _ _ ⟨n, y, rfl, ?_, sv, hP'⟩
        exact Nat.lt_of_lt_of_le hb (Nat.pow_le_pow_right (by decide) (by omega))
    rintro _ H1 ⟨n, y, rfl, hb, sv1, hP1⟩
    refine ⟨.ref p, rfl, p, _, rfl, hP1, by decide, by decide, fun H2 k sv2 hP2 k0 k1 => ⟨rfl, _, rfl, ?_⟩⟩
    refine ite2 (fun e => ?_) (fun e => ?_)
    · exact ⟨_, rfl, _, _, rfl, rfl, q _ _ (sv1.trans sv2) hP2 (by omega)⟩
    · exact ⟨_, rfl, q _ _ (sv1.trans sv2) hP2 (by omega)⟩

def spLetters : Sp := fun vs H Q _ => ∃ p : Addr, vs = [.ref p] ∧ Pool H p ∧ ∀ H' z, Sv [p] H H' → Pool H' p → isWord z = true → Q (.str z) H'
theorem word_of {z : Str} (h1 : 1 ≤ z.length) (h2 : z.length ≤ 20) (h : ∀ c ∈ tl z, c ∈ tl lets) : isWord z = true := by
  unfold isWord
  rw [decide_eq_true h1, decide_eq_true h2, List.all_eq_true.mpr fun c hc => decide_eq_true (h c hc)]
  rfl
theorem ok_law_letters (T : CnT mg t1 t2 t3 t4 t5) (D : HasDef K mg "_law_letters" s_law_letters ["pool"]) (C_law_draw : Has P w K mg base CX0 1 "_law_draw" ["pool", "many"] spDraw) (C_law_run : Has P w K mg base CX0 2 "_law_run" ["pool", "signs", "size"] spRun) :
    Has P w K mg base CX0 3 "_law_letters" ["pool"] spLetters := by
  refine D.has fun f fd F => F.ok sc_law_letters (fun vs H Q E h => ?_) (fun cdv A outer s H vs Q E hr h => ?_)
  · obtain ⟨p, rfl, _⟩ := h; rfl
  · obtain ⟨p, rfl, hP, q⟩ := h
    refine ⟨_, (pss_cons (ps_set (i := 1) sc_law_letters.nd rfl (Or.inl rfl) (pe_ix ix_tup (pe_tup (pa_cons pe_int (pa_cons pe_int (pa_cons pe_int (pa_cons pe_int pa_nil))))) (pe_has C_law_draw (hr.mono (by omega)) pass0 (pa_cons (pv 0) (pa_cons pe_int pa_nil))) (fun _ _ => rfl)))
  (pss_cons (ps_if (pt_cmpR op_eq (pe_has C_law_draw (hr.mono (by omega)) pass0 (pa_cons (pv 0) (pa_cons pe_int pa_nil))) pe_int (nomark _))
  (pss_one (ps_set (i := 1) sc_law_letters.nd rfl (Or.inl rfl) (pe_op op_add pe_int (pe_has C_law_draw (hr.mono (by omega)) pass0 (pa_cons (pv 0) (pa_cons pe_int pa_nil))))))
  pss_nil)
  (pss_one (ps_ret (pe_has C_law_run (hr.mono (by omega)) pass0 (pa_cons (pv 0) (pa_cons pe_str (pa_cons (pv 1) pa_nil)))))))), ?_⟩
    have hsz := sizeLine_eq
    refine cutSeq (fun σ' H' => ∃ s : Nat, σ' = [some (.ref p), some (.int (s : Int))] ∧ 1 ≤ s ∧ s ≤ 20 ∧ Sv [p] H H' ∧ Pool H' p) (fun nx hn => ?_) ?_
    · refine ⟨by show 4 ≤ sizeLine; omega, fun t nt => ⟨.ref p, rfl, p, _, rfl, hP.new nt, by decide, by decide, fun H1 k sv hP1 k0 k1 => ?_⟩⟩
      have pt : p ≠ t := fun e => by obtain ⟨a, b, c, e2⟩ := hP; rw [e] at e2; rw [e2] at nt; cases nt
      have ht : H1 t = some (.tup [.int 1, .int 2, .int 4, .int 20]) := sv t _ (by simpa using pt.symm) upd_same
      obtain ⟨s, e, s1, s2⟩ := pick_len k0 k1
      exact ⟨t, _, k, _, rfl, rfl, .inl (.inl ht), e, hn _ _ ⟨s, rfl, s1, s2, (Sv.new nt).trans sv, hP1⟩⟩
    rintro _ H1 ⟨s, rfl, l1, l2, sv1, hP1⟩
    refine cutSeq (fun σ' H' => ∃ s : Nat, σ' = [some (.ref p), some (.int (s : Int))] ∧ 1 ≤ s ∧ s ≤ 20 ∧ Sv [p] H H' ∧ Pool H' p) (fun nx hn => ?_) ?_
    · refine ⟨.ref p, rfl, p, _, rfl, hP1, by decide, by decide, fun H2 k sv2 hP2 k0 k1 => ⟨rfl, _, rfl, ?_⟩⟩
      refine ite2 (fun e => ?_) (fun e => hn _ _ ⟨s, rfl, l1, l2, sv1.trans sv2, hP2⟩)
      refine ⟨.ref p, rfl, p, _, rfl, hP2, by decide, by decide, fun H3 k sv3 hP3 k0 k1 => ⟨_, _, rfl, rfl, ?_⟩⟩
      obtain ⟨j, rfl⟩ := Int.eq_ofNat_of_zero_le k0
      exact hn _ _ ⟨1 + j, by rw [show ((1 + j : Nat) : Int) = 1 + (j : Int) by omega]; rfl, by omega, by omega, (sv1.trans sv2).trans sv3, hP3⟩
    rintro _ H1 ⟨s, rfl, l1, l2, sv1, hP1⟩
    refine ⟨.ref p, rfl, _, rfl, p, lets, s, rfl, hP1, by decide +kernel, by decide +kernel, by omega, fun H2 z sv2 hP2 hz hc => ?_⟩
    exact q _ _ (sv1.trans sv2) hP2 (word_of (by omega) (by omega) hc)
end
end RS

namespace RS
open PySem PySem.Spec PyProof.Rows L2 TL

abbrev s_law_parts : Stmt := topS 33
theorem sc_law_parts : FnScope ["pool", "many", "rows", "k", "way", "back"] ["pool", "many"] (defScope s_law_parts) := ⟨rfl, rfl, rfl, by decide +kernel, rfl, by decide +kernel, by decide +kernel⟩

/-! ### what is drawn -/
theorem int_len {i : Int} (h : i.natAbs < 10 ^ 60) : (Str.ofString (toString i)).length ≤ 61 := by
  rcases int_signs i with ⟨n, rfl, e⟩ | ⟨n, hn, rfl, e⟩
  · rw [len_tl, e]
    have := numL_len (n := n) (k := 60) (by decide) (by simpa using h)
    omega
  · rw [len_tl, e, List.length_cons]
    have := numL_len (n := n) (k := 60) (by decide) (by omega)
    omega
theorem wsum_one (a : Str) : wsum [a] = a.length + 1 := by rw [wsum_cons, wsum_nil]
/-- the rows are not too deep: n rows at most may be open -/
def okD (n : Nat) : List (List D) → Prop
  | [] => True
  | x :: r => (∀ d ∈ x, dep d + (r.length + 1) ≤ n) ∧ okD n r
/-- all that is in the rows is right -/
def okR : List (List D) → Prop
  | [] => True
  | x :: r => okL x ∧ okR r
def wt : List (List D) → Nat
  | [] => 0
  | x :: r => wsum (toksL x) + 4 + wt r
theorem wsum_tup (ds : List D) : wsum (toks (.tup ds)) = wsum (toksL ds) + 4 := by
  show wsum (lb :: (toksL ds ++ [rb])) = _
  rw [wsum_cons, wsum_append, wsum_one, show lb.length = 1 by decide +kernel, show rb.length = 1 by decide +kernel]
  omega
theorem wt_put {x : List D} {d : D} {r : List (List D)} : wt ((x ++ [d]) :: r) = wt (x :: r) + wsum (toks d) := by
  show wsum (toksL (x ++ [d])) + 4 + wt r = wsum (toksL x) + 4 + wt r + wsum (toks d)
  rw [toksL_append, wsum_append, toksL_one]
  omega
theorem wt_pop {x y : List D} {r : List (List D)} : wt ((y ++ [.tup x]) :: r) = wt (x :: y :: r) := by
  rw [wt_put, wsum_tup]
  show wsum (toksL y) + 4 + wt r + _ = wsum (toksL x) + 4 + (wsum (toksL y) + 4 + wt r)
  omega
theorem okL_one {d : D} (h : ok d) : okL [d] := ⟨h, trivial⟩
theorem ok_toks {d : D} (h : ok d) : 1 ≤ (toks d).length := by
  have := toks_ne h
  cases hq : toks d with
  | nil => exact absurd hq this
  | cons a b => simp
theorem okL_len : ∀ {ds : List D}, okL ds → ds.length ≤ (toksL ds).length
  | [], _ => Nat.le_refl _
  | d :: r, h => by
    show r.length + 1 ≤ (toks d ++ toksL r).length
    rw [List.length_append]
    have := okL_len h.2
    have := ok_toks h.1
    omega
theorem wt_row {x : List D} {r : List (List D)} (h : okL x) : x.length ≤ wt (x :: r) := by
  have := okL_len h
  have := len_le_wsum (toksL x)
  show _ ≤ wsum (toksL x) + 4 + wt r
  omega
theorem okD_put {n : Nat} {x : List D} {d : D} {r : List (List D)} (h : okD n (x :: r)) (hd : dep d + (r.length + 1) ≤ n) : okD n ((x ++ [d]) :: r) := by
  refine ⟨fun e he => ?_, h.2⟩
  rcases List.mem_append.mp he with he | he
  · exact h.1 e he
  · have : e = d := by simpa using he
    rw [this]; exact hd
theorem okD_pop {n : Nat} {x y : List D} {r : List (List D)} (h : okD n (x :: y :: r)) (hn : r.length + 2 ≤ n) : okD n ((y ++ [.tup x]) :: r) := by
  refine okD_put h.2 ?_
  have : depL x ≤ n - (r.length + 2) := depL_le.mpr fun d hd => by
    have := h.1 d hd
    simp only [List.length_cons] at this
    omega
  show 1 + depL x + (r.length + 1) ≤ n
  omega
theorem okD_push {n : Nat} {st : List (List D)} (h : okD n st) : okD n ([] :: st) := ⟨fun d hd => by simp at hd, h⟩
theorem svput {m : List Addr} {H0 H : Hp} {a : Addr} {o : HO} (s : Sv m H0 H) (n : H0 a = none) : Sv m H0 (upd H a o) := fun b x hb e => by
  rw [upd_ne (ne_of_none e n)]
  exact s b x hb e

section
variable {P : Program} {w : World} {K : PySem.W.Frag} {mg : Str → Option Value} {base : Heap} {t1 t2 t3 t4 t5 : Tok} {C fI : Addr}

theorem Pool.upd {H : Hp} {p a : Addr} {o : HO} (h : Pool H p) (n : a ≠ p) : Pool (upd H a o) p := by
  obtain ⟨x, y, z, e⟩ := h
  exact ⟨x, y, z, by rw [upd_ne n.symm]; exact e⟩
theorem Pool.ne {H : Hp} {p a : Addr} (h : Pool H p) (n : H a = none) : a ≠ p := fun e => by
  obtain ⟨x, y, z, q⟩ := h
  rw [e, q] at n; cases n
/-- behind a draw the rows stand -/
theorem Stk.drawn {H H' : Hp} {p l : Addr} {rs : List Addr} {st : List (List D)} (S : Stk K H l rs st) (s : Sv [p] H H') (hP : Pool H p) (n : ∀ b ∈ l :: rs, b ≠ p) : Stk K H' l rs st :=
  S.sv s (s.tk fun b hb => by
    have : b = p := by simpa using hb
    exact this ▸ hP.isL) fun b hb hc => n b hb (by simpa using hc)

structure PartsAt (K : PySem.W.Frag) (n : Nat) (p l : Addr) (H H' : Hp) (rs : List Addr) (st : List (List D)) (c : Nat) : Prop where
  sv : Sv [p] H H'
  pool : Pool H' p
  fr : ∀ b ∈ l :: rs, H b = none
  stk : Stk K H' l rs st
  len : st.length ≤ n
  one : 1 ≤ st.length
  deep : okD n st
  right : okR st
  small : wt st ≤ 4 + 62 * c
section
variable {n : Nat} {p l : Addr} {H H' : Hp} {rs : List Addr} {st : List (List D)} {c : Nat}
theorem PartsAt.ne (A : PartsAt K n p l H H' rs st c) (hP : Pool H p) : ∀ b ∈ l :: rs, b ≠ p := fun b hb => hP.ne (A.fr b hb)
theorem PartsAt.drawn {H2 : Hp} (A : PartsAt K n p l H H' rs st c) (hP : Pool H p) (s : Sv [p] H' H2) (h2 : Pool H2 p) : PartsAt K n p l H H2 rs st c :=
  { A with sv := A.sv.trans s, pool := h2, stk := A.stk.drawn s A.pool (A.ne hP) }
theorem PartsAt.more {d : Nat} (A : PartsAt K n p l H H' rs st c) (h : c ≤ d) : PartsAt K n p l H H' rs st d := { A with small := by have := A.small; omega }
/-- rows.append([]) -/
theorem PartsAt.push {q : Addr} (A : PartsAt K n p l H H' rs st c) (hP : Pool H p) (h : st.length < n) (nq : H' q = none) : PartsAt K n p l H (upd (upd H' q (.lst [])) l (.lst ((q :: rs).reverse.map V.ref))) (q :: rs) ([] :: st) (c + 1) where
  sv := svput (svput A.sv (A.sv.free nq (by simpa using A.pool.ne nq))) (A.fr l (by simp))
  pool := (A.pool.new nq).upd (A.ne hP l (by simp))
  fr := fun b hb => by
    have nq' : H q = none := A.sv.free nq (by simpa using A.pool.ne nq)
    rcases List.mem_cons.mp hb with rfl | hb
    · exact A.fr _ (by simp)
    · rcases List.mem_cons.mp hb with rfl | hb
      · exact nq'
      · exact A.fr b (by simp [hb])
  stk := A.stk.push nq
  len := by simp only [List.length_cons]; omega
  one := by simp
  deep := okD_push A.deep
  right := ⟨trivial, A.right⟩
  small := by
    show wsum (toksL []) + 4 + wt st ≤ _
    have := A.small
    have e : wsum (toksL []) = 0 := rfl
    rw [e]
    omega
/-- rows[-1].append(d) -/
theorem PartsAt.put {r : Addr} {ds : List D} {d : D} {v : V} {xs : List V} (A : PartsAt K n p l H H' (r :: rs) (ds :: st) c) (hP : Pool H p) (hr : H' r = some (.lst xs)) (hv : Rp K H' d v) (hd : ok d) (h0 : dep d = 0) (hw : wsum (toks d) ≤ 62) :
    PartsAt K n p l H (upd H' r (.lst (xs ++ [v]))) (r :: rs) ((ds ++ [d]) :: st) (c + 1) where
  sv := svput A.sv (A.fr r (by simp))
  pool := A.pool.upd (A.ne hP r (by simp))
  fr := A.fr
  stk := A.stk.put hr hv
  len := A.len
  one := by simp
  deep := okD_put A.deep (by
    have := A.len
    simp only [List.length_cons] at this
    omega)
  right := ⟨okL_append.mpr ⟨A.right.1, okL_one hd⟩, A.right.2⟩
  small := by rw [wt_put]; have := A.small; omega
/-- back = tuple(rows.pop()); rows[-1].append(back) -/
theorem PartsAt.pop {r r2 t : Addr} {ds ds2 : List D} {xs xs2 : List V} (A : PartsAt K n p l H H' (r :: r2 :: rs) (ds :: ds2 :: st) c) (hP : Pool H p) (hx : H' r = some (.lst xs)) (rx : RpL K H' ds xs) (hx2 : H' r2 = some (.lst xs2))
    (nt : (upd H' l (.lst ((r2 :: rs).reverse.map V.ref))) t = none) :
    PartsAt K n p l H (upd (upd (upd H' l (.lst ((r2 :: rs).reverse.map V.ref))) t (.tup xs)) r2 (.lst (xs2 ++ [.ref t]))) (r2 :: rs) ((ds2 ++ [.tup ds]) :: st) c := by
  obtain ⟨Sp, ys, hy, ry, hy'⟩ := A.stk.pop
  have Sn := Sp.same (Sv.nil (Sv.new (o := .tup xs) nt))
  have rt : Rp K (upd (upd H' l (.lst ((r2 :: rs).reverse.map V.ref))) t (.tup xs)) (.tup ds) (.ref t) := Rp.made nt (rx.keep (tk_set ⟨_, A.stk.top⟩))
  have fl := A.fr l (by simp)
  have fr2 := A.fr r2 (by simp)
  have svl : Sv [p] H (upd H' l (.lst ((r2 :: rs).reverse.map V.ref))) := svput A.sv fl
  have pl := A.pool.upd (o := .lst ((r2 :: rs).reverse.map V.ref)) (A.ne hP l (by simp))
  have nt' : H t = none := svl.free nt (by simpa using pl.ne nt)
  have nd := List.nodup_cons.mp A.stk.nd
  have rl : r2 ≠ l := fun e => nd.1 (by rw [e]; simp)
  have hx2' : (upd (upd H' l (.lst ((r2 :: rs).reverse.map V.ref))) t (.tup xs)) r2 = some (.lst xs2) := by
    have : (upd H' l (.lst ((r2 :: rs).reverse.map V.ref))) r2 = some (.lst xs2) := by rw [upd_ne rl]; exact hx2
    rw [upd_ne (ne_of_none this nt)]
    exact this
  have hlen := A.len
  simp only [List.length_cons] at hlen
  exact {
    sv := svput (svput svl nt') fr2
    pool := (pl.new nt).upd (A.ne hP r2 (by simp))
    fr := fun b hb => A.fr b (by
      rcases List.mem_cons.mp hb with rfl | hb
      · simp
      · simp [List.mem_cons.mp hb])
    stk := Sn.put hx2' rt
    len := by simp only [List.length_cons]; omega
    one := by simp
    deep := okD_pop A.deep (by omega)
    right := ⟨okL_append.mpr ⟨A.right.2.1, okL_one A.right.1⟩, A.right.2.2⟩
    small := by rw [wt_pop]; exact A.small }
end

def spParts (K : PySem.W.Frag) (n : Nat) : Sp := fun vs H Q _ => ∃ (p : Addr) (m : Nat), vs = [.ref p, .int (m : Int)] ∧ Pool H p ∧ m ≤ 400 ∧
  ∀ H' v ds, Sv [p] H H' → Pool H' p → Rp K H' (.tup ds) v → okL ds → depL ds ≤ n → wsum (toksL ds) ≤ 62 * m → Q v H'
theorem ok_law_parts (T : CnT mg t1 t2 t3 t4 t5) (D : HasDef K mg "_law_parts" s_law_parts ["pool", "many"]) (C_law_draw : Has P w K mg base CX0 1 "_law_draw" ["pool", "many"] spDraw)
    (C_law_letters : Has P w K mg base CX0 3 "_law_letters" ["pool"] spLetters) (C_law_number : Has P w K mg base CX0 2 "_law_number" ["pool"] spNumber) :
    Has P w K mg base CX0 4 "_law_parts" ["pool", "many"] (spParts K 11) := by
  refine D.has fun f fd F => F.ok sc_law_parts (fun vs H Q E h => ?_) (fun cdv A outer s H vs Q E hr h => ?_)
  · obtain ⟨p, m, rfl, _⟩ := h; rfl
  · obtain ⟨p, m, rfl, hP, hm, q⟩ := h
    refine ⟨_, (pss_cons (ps_set (i := 2) sc_law_parts.nd rfl (Or.inl rfl) (pe_lst (pa_cons (pe_lst pa_nil) pa_nil)))
  (pss_cons (ps_for PassesOwn.never rfl (pi_range1 (by rfl) T.m_range (pa_cons (pv 1) pa_nil)) (pg_name (i := 3) sc_law_parts.nd rfl (Or.inl rfl))
  (pss_cons (ps_set (i := 4) sc_law_parts.nd rfl (Or.inl rfl) (pe_has C_law_draw (hr.mono (by omega)) pass0 (pa_cons (pv 0) (pa_cons pe_int pa_nil))))
  (pss_one (ps_if (PW.pt (pw_and (pt_cmpR op_lt (pv 4) pe_int (nomark _)) (pw_and1 (pt_cmpR op_lt (pe_callB call_len_seq (by rfl) T.m_len (by decide +kernel) (pa_cons (pv 2) pa_nil)) pe_int (nomark _)))))
  (pss_one (ps_expr (pe_bm PySem.F.plainAttrs_list PySem.F.slot_list_append PySem.F.type_list_append mt_append (pv 2) (pa_cons (pe_lst pa_nil) pa_nil))))
  (pss_one (ps_if (PW.pt (pw_and (pt_cmpR op_eq (pv 4) pe_int (nomark _)) (pw_and1 (pt_cmpR op_gt (pe_callB call_len_seq (by rfl) T.m_len (by decide +kernel) (pa_cons (pv 2) pa_nil)) pe_int (nomark _)))))
  (pss_cons (ps_set (i := 5) sc_law_parts.nd rfl (Or.inl rfl) (pe_callTy call_tuple_of (by rfl) T.m_tuple (by decide +kernel) (pa_cons (pe_bm0 PySem.F.plainAttrs_list PySem.F.slot_list_pop PySem.F.type_list_pop mt_pop (pv 2)) pa_nil)))
  (pss_one (ps_expr (pe_bm PySem.F.plainAttrs_list PySem.F.slot_list_append PySem.F.type_list_append mt_append (pe_ix ix_list (pv 2) (pe_un un_neg pe_int) (fun _ _ => rfl)) (pa_cons (pv 5) pa_nil)))))
  (pss_one (ps_if (pt_cmpR op_eq (pv 4) pe_int (nomark _))
  (pss_one (ps_expr (pe_bm PySem.F.plainAttrs_list PySem.F.slot_list_append PySem.F.type_list_append mt_append (pe_ix ix_list (pv 2) (pe_un un_neg pe_int) (fun _ _ => rfl)) (pa_cons (pe_has C_law_letters (hr.mono (by omega)) pass0 (pa_cons (pv 0) pa_nil)) pa_nil))))
  (pss_one (ps_expr (pe_bm PySem.F.plainAttrs_list PySem.F.slot_list_append PySem.F.type_list_append mt_append (pe_ix ix_list (pv 2) (pe_un un_neg pe_int) (fun _ _ => rfl)) (pa_cons (pe_has C_law_number (hr.mono (by omega)) pass0 (pa_cons (pv 0) pa_nil)) pa_nil))))))))))))
  (pss_cons (ps_for PassesOwn.never rfl (pi_range1 (by rfl) T.m_range (pa_cons (pe_op op_sub (pe_callB call_len_seq (by rfl) T.m_len (by decide +kernel) (pa_cons (pv 2) pa_nil)) pe_int) pa_nil)) (pg_name (i := 3) sc_law_parts.nd rfl (Or.inl rfl))
  (pss_cons (ps_set (i := 5) sc_law_parts.nd rfl (Or.inl rfl) (pe_callTy call_tuple_of (by rfl) T.m_tuple (by decide +kernel) (pa_cons (pe_bm0 PySem.F.plainAttrs_list PySem.F.slot_list_pop PySem.F.type_list_pop mt_pop (pv 2)) pa_nil)))
  (pss_one (ps_expr (pe_bm PySem.F.plainAttrs_list PySem.F.slot_list_append PySem.F.type_list_append mt_append (pe_ix ix_list (pv 2) (pe_un un_neg pe_int) (fun _ _ => rfl)) (pa_cons (pv 5) pa_nil))))))
  (pss_one (ps_ret (pe_callTy call_tuple_of (by rfl) T.m_tuple (by decide +kernel) (pa_cons (pe_ix ix_list (pv 2) pe_int (fun _ _ => rfl)) pa_nil))))))), ?_⟩
    have hsz := sizeLine_eq
    refine cutSeq (fun σ' H' => ∃ l r0, σ' = [some (.ref p), some (.int (m : Int)), some (.ref l), none, none, none] ∧ PartsAt K 12 p l H H' [r0] [[]] 0) (fun nx hn => ?_) ?_
    · refine ⟨Nat.zero_le _, fun r0 nr0 => ⟨by show 1 ≤ sizeLine; omega, fun l nl => ?_⟩⟩
      have nl' : H l = none := (Sv.nil (Sv.new nr0)).free nl
      have r0l : r0 ≠ l := fun e => by rw [e, upd_same] at nl; cases nl
      have A0 : PartsAt K 12 p l H (upd (upd H r0 (.lst [])) l (.lst [.ref r0])) [r0] [[]] 0 := {
        sv := svput (svput (Sv.refl _ _) nr0) nl'
        pool := (hP.new nr0).new nl
        fr := fun b hb => by
          rcases List.mem_cons.mp hb with rfl | hb
          · exact nl'
          · have : b = r0 := by simpa using hb
            rw [this]; exact nr0
        stk := by
          refine ⟨upd_same, ?_, ⟨[], ?_, rfl⟩, trivial⟩
          · simp [r0l.symm]
          · rw [upd_ne r0l, upd_same]
        len := by simp
        one := by simp
        deep := ⟨fun d hd => by simp at hd, trivial⟩
        right := ⟨trivial, trivial⟩
        small := by decide }
      exact hn _ _ ⟨l, r0, rfl, A0⟩
    rintro _ H9 ⟨l, r0, rfl, A0⟩
    refine cutSeq (fun σ' H' => ∃ y3 y4 y5 rs st, σ' = [some (.ref p), some (.int (m : Int)), some (.ref l), y3, y4, y5] ∧ PartsAt K 12 p l H H' rs st m) (fun nx hn => ?_) ?_
    · refine ⟨_, rfl, _, rfl, by omega, by omega, for_range (lo := 0) (n := ((m : Int)).toNat) (fun i σ' H' => ∃ y3 y4 y5 rs st, σ' = [some (.ref p), some (.int (m : Int)), some (.ref l), y3, y4, y5] ∧ PartsAt K 12 p l H H' rs st i) ⟨none, none, none, [r0], [[]], rfl, A0⟩ ?_ ?_⟩
      · rintro i σ H0 hi ⟨y3, y4, y5, rs, st, rfl, A⟩
        have him : i < m := by omega
        -- way = _law_draw(pool, 6)
        refine cutSeq (fun σ' H' => ∃ k : Int, σ' = [some (.ref p), some (.int (m : Int)), some (.ref l), some (.int (0 + (i : Int))), some (.int k), y5] ∧ PartsAt K 12 p l H H' rs st i) (fun nx hn => ?_) ?_
        · refine ⟨.ref p, rfl, p, _, rfl, A.pool, by decide, by decide, fun H1 k sv1 hP1 k0 k1 => ?_⟩
          exact hn _ _ ⟨k, rfl, A.drawn hP sv1 hP1⟩
        rintro _ H1 ⟨k, rfl, A⟩
        have one := A.one
        have hlen := A.len
        obtain ⟨ds, st, rfl⟩ : ∃ ds st', st = ds :: st' := by
          cases st with
          | nil => simp at one
          | cons a b => exact ⟨a, b, rfl⟩
        obtain ⟨r, rs, rfl⟩ : ∃ r rs', rs = r :: rs' := by
          have := A.stk.len
          cases rs with
          | nil => simp at this
          | cons a b => exact ⟨a, b, rfl⟩
        have hrl := A.stk.len
        have small := A.small
        obtain ⟨⟨xs, hx, rx⟩, hrest⟩ := A.stk.rows
        have hxl : xs.length < sizeLine := by
          have := rx.len
          have := wt_row (r := st) A.right.1
          omega
        have hlr : (((r :: rs).reverse.map V.ref).length : Int) = ((ds :: st).length : Nat) := by rw [List.length_map, List.length_reverse, hrl]
        have late : ∀ (H2 : Hp) (v : V) (d : RS.D), Sv [p] H1 H2 → Pool H2 p → Rp K H2 d v → ok d → dep d = 0 → wsum (toks d) ≤ 62 → ∃ xs : List V, H2 r = some (.lst xs) ∧ xs.length < sizeLine ∧ PartsAt K 12 p l H (upd H2 r (.lst (xs ++ [v]))) (r :: rs) ((ds ++ [d]) :: st) (i + 1) := fun H2 v d sv hP2 rv od d0 dw => by
          have A2 := A.drawn hP sv hP2
          obtain ⟨⟨ys, hy, ry⟩, _⟩ := A2.stk.rows
          refine ⟨ys, hy, ?_, A2.put hP hy rv od d0 dw⟩
          have := ry.len
          have := wt_row (r := st) A.right.1
          omega
        refine cutIf (decide (k < 2 ∧ (ds :: st).length < 12)) (fun Q' h' => ?_) ?_
        · refine ⟨_, rfl, _, _, rfl, rfl, _, rfl, ?_⟩
          refine ite2 (fun e1 => ?_) (fun e1 => ?_)
          · refine ⟨.ref l, rfl, l, _, rfl, .inl (.inl (.inl A.stk.top)), _, _, rfl, rfl, _, rfl, ?_⟩
            rw [hlr]
            have e : decide (((ds :: st).length : Nat) < (12 : Int)) = decide (k < 2 ∧ (ds :: st).length < 12) := by
              have := of_decide_eq_true e1
              by_cases h : (ds :: st).length < 12
              · rw [decide_eq_true (show k < 2 ∧ _ from ⟨this, h⟩), decide_eq_true (by omega)]
              · rw [decide_eq_false (show ¬ (k < 2 ∧ _) from fun z => h z.2), decide_eq_false (by omega)]
            rw [e]
            exact h'
          · have e : decide (k < 2 ∧ (ds :: st).length < 12) = false := decide_eq_false fun z => e1 (decide_eq_true z.1)
            rw [e] at h'
            exact h'
        refine ite2 (fun e1 => ?_) (fun e1 => ?_)
        · -- rows.append([])
          have h12 := (of_decide_eq_true e1).2
          refine ⟨.ref l, rfl, .inl ⟨rfl, _, .inl (.inl A.stk.top)⟩, Nat.zero_le _, fun a na => ?_⟩
          have la : l ≠ a := fun e => by have := A.stk.top; rw [e, na] at this; cases this
          refine ⟨l, _, _, rfl, rfl, by rw [upd_ne la]; exact A.stk.top, ?_, ?_⟩
          · rw [List.length_map, List.length_reverse, hrl]; omega
          have eq : (r :: rs).reverse.map V.ref ++ [V.ref a] = (a :: r :: rs).reverse.map V.ref := by
            rw [List.reverse_cons (a := a), List.map_append]; rfl
          rw [eq]
          exact ⟨_, _, _, _, _, rfl, A.push hP h12 na⟩
        refine cutIf (decide (k = 2 ∧ 1 < (ds :: st).length)) (fun Q' h' => ?_) ?_
        · refine ⟨_, rfl, rfl, _, rfl, ?_⟩
          refine ite2 (fun e2 => ?_) (fun e2 => ?_)
          · refine ⟨.ref l, rfl, l, _, rfl, .inl (.inl (.inl A.stk.top)), _, _, rfl, rfl, _, rfl, ?_⟩
            rw [hlr]
            have e : decide ((1 : Int) < ((ds :: st).length : Nat)) = decide (k = 2 ∧ 1 < (ds :: st).length) := by
              have := V.int.inj (of_decide_eq_true e2)
              by_cases h : 1 < (ds :: st).length
              · rw [decide_eq_true (show k = 2 ∧ _ from ⟨this, h⟩), decide_eq_true (by omega)]
              · rw [decide_eq_false (show ¬ (k = 2 ∧ _) from fun z => h z.2), decide_eq_false (by omega)]
            rw [e]
            exact h'
          · have e : decide (k = 2 ∧ 1 < (ds :: st).length) = false := decide_eq_false fun z => e2 (decide_eq_true (congrArg V.int z.1))
            rw [e] at h'
            exact h'
        refine ite2 (fun e2 => ?_) (fun e2 => ?_)
        · -- back = tuple(rows.pop()); rows[-1].append(back)
          have h2 := (of_decide_eq_true e2).2
          obtain ⟨ds2, st, rfl⟩ : ∃ ds st', st = ds :: st' := by
            cases st with
            | nil => simp at h2
            | cons a b => exact ⟨a, b, rfl⟩
          obtain ⟨r2, rs, rfl⟩ : ∃ r rs', rs = r :: rs' := by
            cases rs with
            | nil => simp at hrl
            | cons a b => exact ⟨a, b, rfl⟩
          obtain ⟨⟨xs2, hx2, rx2⟩, _⟩ := hrest
          refine ⟨.ref l, rfl, .inl ⟨rfl, _, .inl (.inl A.stk.top)⟩, l, _, .ref r, rfl, rfl, A.stk.top, popped.2, ?_⟩
          rw [popped.1]
          obtain ⟨Sp, ys, hy, ry, hy'⟩ := A.stk.pop
          rw [hx] at hy
          cases hy
          refine ⟨r, xs, rfl, .inl ⟨.inl (.inl hy'), fun t nt => ?_⟩⟩
          have A' := A.pop hP hx rx hx2 nt
          have Sn := Sp.same (Sv.nil (Sv.new (o := .tup xs) nt))
          have nd := List.nodup_cons.mp A.stk.nd
          have hx2' : (upd (upd H1 l (.lst ((r2 :: rs).reverse.map V.ref))) t (.tup xs)) r2 = some (.lst xs2) := by
            have : (upd H1 l (.lst ((r2 :: rs).reverse.map V.ref))) r2 = some (.lst xs2) := by rw [upd_ne (fun e => nd.1 (by rw [← e]; simp))]; exact hx2
            rw [upd_ne (ne_of_none this nt)]
            exact this
          refine ⟨.ref l, rfl, 1, rfl, l, _, _, .ref r2, rfl, rfl, .inl (.inl Sn.top), Sn.last, .inl ⟨rfl, _, .inl (.inl hx2')⟩, .ref t, rfl, r2, xs2, _, rfl, rfl, hx2', ?_, ?_⟩
          · have := rx2.len
            have h5 : wt (ds :: ds2 :: st) = wsum (toksL ds) + 4 + wt (ds2 :: st) := rfl
            have := wt_row (r := st) A.right.2.1
            omega
          exact ⟨_, _, _, _, _, rfl, A'.more (Nat.le_succ _)⟩
        refine cutIf (decide (k = 3)) (fun Q' h' => ?_) ?_
        · refine ⟨_, rfl, rfl, _, rfl, ?_⟩
          have e : decide (V.int k = V.int 3) = decide (k = 3) := by
            by_cases h : k = 3
            · rw [decide_eq_true h, decide_eq_true (congrArg V.int h)]
            · rw [decide_eq_false h, decide_eq_false fun z => h (V.int.inj z)]
          rw [e]
          exact h'
        refine ite2 (fun e3 => ?_) (fun e3 => ?_)
        · refine ⟨.ref l, rfl, 1, rfl, l, _, _, .ref r, rfl, rfl, .inl (.inl A.stk.top), A.stk.last, .inl ⟨rfl, _, .inl (.inl hx)⟩, .ref p, rfl, p, rfl, A.pool, fun H2 z sv2 hP2 hz => ?_⟩
          obtain ⟨ys, hy, hyl, A'⟩ := late H2 (.str z) (.str z) sv2 hP2 rfl hz rfl (by
            show wsum [z] ≤ 62
            rw [wsum_one]
            have := (word_letters hz).2.2
            rw [len_tl]
            omega)
          exact ⟨r, ys, _, rfl, rfl, hy, hyl, _, _, _, _, _, rfl, A'⟩
        · refine ⟨.ref l, rfl, 1, rfl, l, _, _, .ref r, rfl, rfl, .inl (.inl A.stk.top), A.stk.last, .inl ⟨rfl, _, .inl (.inl hx)⟩, .ref p, rfl, p, rfl, A.pool, fun H2 z sv2 hP2 hz => ?_⟩
          obtain ⟨ys, hy, hyl, A'⟩ := late H2 (.int z) (.int z) sv2 hP2 rfl hz rfl (by
            show wsum [Str.ofString (toString z)] ≤ 62
            rw [wsum_one]
            have := int_len hz
            omega)
          exact ⟨r, ys, _, rfl, rfl, hy, hyl, _, _, _, _, _, rfl, A'⟩
      · rintro σ H0 ⟨y3, y4, y5, rs, st, rfl, A⟩
        exact hn _ _ ⟨_, _, _, _, _, rfl, A.more (by omega)⟩
    rintro _ H1 ⟨y3, y4, y5, rs0, st0, rfl, A⟩
    have hrl := A.stk.len
    have one := A.one
    refine cutSeq (fun σ' H' => ∃ y3 y4 y5 rs st, σ' = [some (.ref p), some (.int (m : Int)), some (.ref l), y3, y4, y5] ∧ PartsAt K 12 p l H H' rs st m ∧ st.length = 1) (fun nx hn => ?_) ?_
    · have hlen := A.len
      refine ⟨.ref l, rfl, l, _, rfl, .inl (.inl (.inl A.stk.top)), _, _, rfl, rfl, _, rfl, ?_⟩
      rw [List.length_map, List.length_reverse, hrl]
      refine ⟨by omega, by omega, for_range (lo := 0) (n := ((st0.length : Int) - 1).toNat) (fun i σ' H' => ∃ y3 y4 y5 rs st, σ' = [some (.ref p), some (.int (m : Int)), some (.ref l), y3, y4, y5] ∧ PartsAt K 12 p l H H' rs st m ∧ st.length + i = st0.length) ⟨y3, y4, y5, rs0, st0, rfl, A, rfl⟩ ?_ ?_⟩
      · rintro i σ H0 hi ⟨y3, y4, y5, rs, st, rfl, A, hl⟩
        obtain ⟨ds, ds2, st, rfl⟩ : ∃ ds ds2 st', st = ds :: ds2 :: st' := by
          match st, hl with
          | [], h => simp at h; omega
          | [x], h => simp at h; omega
          | x :: y :: z, _ => exact ⟨x, y, z, rfl⟩
        obtain ⟨r, r2, rs, rfl⟩ : ∃ r r2 rs', rs = r :: r2 :: rs' := by
          have := A.stk.len
          match rs, this with
          | [], h => simp at h
          | [x], h => simp at h
          | x :: y :: z, _ => exact ⟨x, y, z, rfl⟩
        obtain ⟨⟨xs, hx, rx⟩, ⟨xs2, hx2, rx2⟩, _⟩ := A.stk.rows
        have small := A.small
        refine ⟨.ref l, rfl, .inl ⟨rfl, _, .inl (.inl A.stk.top)⟩, l, _, .ref r, rfl, rfl, A.stk.top, popped.2, ?_⟩
        rw [popped.1]
        obtain ⟨Sp, ys, hy, ry, hy'⟩ := A.stk.pop
        rw [hx] at hy
        cases hy
        refine ⟨r, xs, rfl, .inl ⟨.inl (.inl hy'), fun t nt => ?_⟩⟩
        have A' := A.pop hP hx rx hx2 nt
        have Sn := Sp.same (Sv.nil (Sv.new (o := .tup xs) nt))
        have nd := List.nodup_cons.mp A.stk.nd
        have hx2' : (upd (upd H0 l (.lst ((r2 :: rs).reverse.map V.ref))) t (.tup xs)) r2 = some (.lst xs2) := by
          have : (upd H0 l (.lst ((r2 :: rs).reverse.map V.ref))) r2 = some (.lst xs2) := by rw [upd_ne (fun e => nd.1 (by rw [← e]; simp))]; exact hx2
          rw [upd_ne (ne_of_none this nt)]
          exact this
        refine ⟨.ref l, rfl, 1, rfl, l, _, _, .ref r2, rfl, rfl, .inl (.inl Sn.top), Sn.last, .inl ⟨rfl, _, .inl (.inl hx2')⟩, .ref t, rfl, r2, xs2, _, rfl, rfl, hx2', ?_, ?_⟩
        · have := rx2.len
          have h5 : wt (ds :: ds2 :: st) = wsum (toksL ds) + 4 + wt (ds2 :: st) := rfl
          have := wt_row (r := st) A.right.2.1
          omega
        · refine ⟨_, _, _, _, _, rfl, A', ?_⟩
          simp only [List.length_cons] at hl ⊢
          omega
      · rintro σ H0 ⟨y3, y4, y5, rs, st, rfl, A, hl⟩
        exact hn _ _ ⟨_, _, _, _, _, rfl, A, by omega⟩
    rintro _ H2 ⟨y3, y4, y5, rs, st, rfl, A, h1⟩
    obtain ⟨ds, rfl⟩ : ∃ ds, st = [ds] := by
      match st, h1 with
      | [x], _ => exact ⟨x, rfl⟩
    obtain ⟨r, rfl⟩ : ∃ r, rs = [r] := by
      have := A.stk.len
      match rs, this with
      | [x], _ => exact ⟨x, rfl⟩
    obtain ⟨⟨xs, hx, rx⟩, _⟩ := A.stk.rows
    refine ⟨.ref l, rfl, l, _, 0, .ref r, rfl, rfl, .inl (.inl A.stk.top), atI_nat (j := 0) rfl, r, xs, rfl, .inl ⟨.inl (.inl hx), fun t nt => ?_⟩⟩
    refine q _ _ ds (A.sv.trans (Sv.new nt)) (A.pool.new nt) (Rp.made nt rx) A.right.1 ?_ ?_
    · refine depL_le.mpr fun d hd => ?_
      have := A.deep.1 d hd
      simp at this
      omega
    · have := A.small
      have e : wt [ds] = wsum (toksL ds) + 4 + 0 := rfl
      omega
end
end RS

namespace RS
open PySem PySem.Spec PyProof.Rows L2 TL

abbrev s_law_depth : Stmt := topS 34
theorem sc_law_depth : FnScope ["value", "inner"] ["value"] (defScope s_law_depth) := ⟨rfl, rfl, rfl, by decide +kernel, rfl, by decide +kernel, by decide +kernel⟩
abbrev s_law_value : Stmt := topS 35
theorem sc_law_value : FnScope ["pool", "way", "many", "value", "k"] ["pool"] (defScope s_law_value) := ⟨rfl, rfl, rfl, by decide +kernel, rfl, by decide +kernel, by decide +kernel⟩
abbrev s_law_sign : Stmt := topS 36
theorem sc_law_sign : FnScope ["pool", "signs"] ["pool"] (defScope s_law_sign) := ⟨rfl, rfl, rfl, by decide +kernel, rfl, by decide +kernel, by decide +kernel⟩
abbrev s_law_token : Stmt := topS 37
theorem sc_law_token : FnScope ["pool", "way", "odd"] ["pool"] (defScope s_law_token) := ⟨rfl, rfl, rfl, by decide +kernel, rfl, by decide +kernel, by decide +kernel⟩

theorem pickS {ss : List Str} {k : Int} (h0 : 0 ≤ k) (h1 : k < ss.length) : ∃ s, s ∈ ss ∧ atI (ss.map V.str) k = some (.str s) := by
  obtain ⟨j, rfl⟩ := Int.eq_ofNat_of_zero_le h0
  have hj : j < ss.length := by omega
  exact ⟨ss[j], List.getElem_mem hj, atI_nat (j := j) (by rw [List.getElem?_map, List.getElem?_eq_getElem hj]; rfl)⟩
theorem pickI {ss : List Int} {k : Int} (h0 : 0 ≤ k) (h1 : k < ss.length) : ∃ s, s ∈ ss ∧ atI (ss.map V.int) k = some (.int s) := by
  obtain ⟨j, rfl⟩ := Int.eq_ofNat_of_zero_le h0
  have hj : j < ss.length := by omega
  exact ⟨ss[j], List.getElem_mem hj, atI_nat (j := j) (by rw [List.getElem?_map, List.getElem?_eq_getElem hj]; rfl)⟩
theorem depL_max {ds : List D} {m : Int} (h : m ∈ (0 : Int) :: ds.map fun d => (dep d : Int)) (hm : ∀ y, y ∈ (0 : Int) :: (ds.map fun d => (dep d : Int)) → y ≤ m) : m = depL ds := by
  have h1 : (depL ds : Int) ≤ m := by
    have m0 := hm 0 (by simp)
    have : depL ds ≤ m.toNat := depL_le.mpr fun d hd => by
      have := hm (dep d) (List.mem_cons_of_mem _ (List.mem_map.mpr ⟨d, hd, rfl⟩))
      omega
    omega
  have h2 : m ≤ depL ds := by
    rcases List.mem_cons.mp h with rfl | h
    · omega
    · obtain ⟨d, hd, rfl⟩ := List.mem_map.mp h
      have := depL_le.mp (Nat.le_refl _) d hd
      omega
  omega

section
variable {P : Program} {w : World} {K : PySem.W.Frag} {mg : Str → Option Value} {base : Heap} {t1 t2 t3 t4 t5 : Tok} {C fI : Addr}

def spDepth (K : PySem.W.Frag) (n : Nat) : Sp := fun vs H Q _ => ∃ v d, vs = [v] ∧ Rp K H d v ∧ dep d < n ∧ wide d ∧ ∀ H', Same H H' → Q (.int (dep d)) H'
theorem ok_law_depth (T : CnT mg t1 t2 t3 t4 t5) (Df : HasDef K mg "_law_depth" s_law_depth ["value"]) : ∀ n : Nat, Has P w K mg base CX0 (n + 1) "_law_depth" ["value"] (spDepth K n)
  | 0 => Df.has fun f fd F => ⟨fun vs H Q E h => by obtain ⟨v, d, _, _, z, _⟩ := h; omega, fun A outer s H args us vs Q E hr he hb hv hs => by obtain ⟨v, d, _, _, z, _⟩ := hs; omega⟩
  | n + 1 => by
    have C_law_depth := ok_law_depth T Df n
    refine Df.has fun f fd F => F.ok sc_law_depth (fun vs H Q E h => ?_) (fun cdv A outer s H vs Q E hr h => ?_)
    · obtain ⟨v, d, rfl, _⟩ := h; rfl
    · obtain ⟨v, d, rfl, r, hd, hw, q⟩ := h
      refine ⟨_, (pss_cons (ps_if (pt_not (pt_val (pe_callB call_isi (by rfl) T.m_isinstance (by decide +kernel) (pa_cons (pv 0) (pa_cons (pe_bltn (v := .ty "tuple") (u := .type "tuple") (by rfl) T.m_tuple (by decide +kernel) rfl) pa_nil)))))
  (pss_one (ps_ret pe_int))
  pss_nil)
  (pss_one (ps_ret (pe_op op_add pe_int (pe_callB (cr_max rfl) (by rfl) T.m_max (by decide +kernel) (pa_cons (pe_op op_cat (pe_lst (pa_cons pe_int pa_nil)) (pe_lc (own := [("inner", 1)]) (g := gName 1) (tt := tYes) rfl sc_law_depth.nd (pi_tup (pv 0)) (blkOk_by (own := [("inner", 1)]) (N := ["value", "inner"]) (sc := defScope s_law_depth) (by decide +kernel)) (fun _ _ _ _ _ => (pg_name (i := 1) sc_law_depth.nd rfl (Or.inl rfl))) (fun _ _ _ _ _ => pts_nil) (fun _ _ _ _ _ => (pe_has C_law_depth (hr.mono (by omega)) pass0 (pa_cons (pv 1) pa_nil))))) pa_nil)))))), ?_⟩
      have hsz := sizeLine_eq
      refine ⟨v, rfl, _, _, _, _, _, rfl, .ty "tuple", r.ty, kit_ty (kb_tup d), _, rfl, ?_⟩
      have flat : isTup d = false → Q (.int 0) H := fun e => by
        have := q H (Same.refl H)
        cases d with
        | tup ds => cases e
        | _ => exact this
      cases hd' : isTup d with
      | false => exact iteT (flat hd')
      | true =>
        obtain ⟨ds, rfl⟩ : ∃ ds, d = .tup ds := by
          cases d with
          | tup ds => exact ⟨ds, rfl⟩
          | _ => cases hd'
        refine iteF ?_
        obtain ⟨a, xs, rfl, sq, rl⟩ := id r
        refine ⟨by show 1 ≤ sizeLine; omega, fun p np => ?_⟩
        have s1 : Same H (upd H p (.lst [.int 0])) := Sv.nil (Sv.new np)
        refine ⟨.ref a, rfl, a, rfl, ⟨_, (TK.same s1).seqT sq⟩, fun D nD => lc_tup (K := K) (a := a) (xs := xs) (fun i H' => Sv [D] (upd H p (.lst [.int 0])) H' ∧ H' D = some (.lst (((ds.take i).map fun d => (dep d : Int)).map V.int)))
          ⟨Sv.new nD, upd_same⟩ (fun i H' _ ⟨s2, _⟩ => (TK.same (Sv.nil (Sv.drop nD s2))).seqT ((TK.same s1).seqT sq)) ?_ ?_⟩
        · rintro i x H' hi ⟨s2, hD⟩
          obtain ⟨d, hdi, rd⟩ := rl.get hi
          have sm := s1.trans (Sv.nil (Sv.drop nD s2))
          refine ⟨rfl, x, rfl, x, d, rfl, rd.keep (TK.same sm), ?_, hw.2.at hdi, fun H2 s3 => ⟨_, s3 _ _ hD, ?_, ?_, ?_⟩⟩
          · have : dep d ≤ depL ds := depL_le.mp (Nat.le_refl _) d (List.mem_of_getElem? hdi)
            have hd' : 1 + depL ds < n + 1 := hd
            omega
          · rw [List.length_map, List.length_map, List.length_take]
            have := hw.1
            omega
          · exact s2.trans ((Sv.same s3).trans (Sv.set (by simp)))
          · rw [upd_same, take_snoc hdi, List.map_append, List.map_append]
            rfl
        · rintro H' ⟨s2, hD⟩
          have ef : ds.take xs.length = ds := by rw [rl.len, List.take_length]
          rw [ef] at hD
          have hp : H' p = some (.lst [.int 0]) := s2 p _ (fun z => by
            have : p = D := by simpa using z
            rw [this] at nD
            rw [upd_same] at nD; cases nD) upd_same
          have sm := s1.trans (Sv.nil (Sv.drop nD s2))
          refine ⟨p, D, _, _, rfl, rfl, hp, hD, by show 1 + _ ≤ _; rw [List.length_map, List.length_map]; have := hw.1; omega, fun p2 np2 => ?_⟩
          refine ⟨p2, (0 : Int) :: ds.map fun d => (dep d : Int), rfl, .inl (.inl upd_same), by simp, fun m hm hmx => ⟨_, _, rfl, rfl, ?_⟩⟩
          have em := depL_max hm hmx
          subst em
          have e1 : ((dep (.tup ds) : Nat) : Int) = 1 + (depL ds : Int) := by show ((1 + depL ds : Nat) : Int) = _; omega
          show Q (.int (1 + (depL ds : Int))) _
          rw [← e1]
          exact q _ (sm.trans (Sv.nil (Sv.new np2)))

mutual
theorem wide_of : ∀ {d : D}, ok d → wsum (toks d) ≤ 900000 → wide d
  | .int _, _, _ => trivial
  | .bl _, _, _ => trivial
  | .str _, _, _ => trivial
  | .tup ds, h, hw => by
    rw [wsum_tup] at hw
    have := okL_len (ds := ds) h
    have := len_le_wsum (toksL ds)
    exact ⟨by omega, wideL_of h (by omega)⟩
theorem wideL_of : ∀ {ds : List D}, okL ds → wsum (toksL ds) ≤ 900000 → wideL ds
  | [], _, _ => trivial
  | d :: r, h, hw => by
    have e : wsum (toksL (d :: r)) = wsum (toks d) + wsum (toksL r) := wsum_append _ _
    rw [e] at hw
    exact ⟨wide_of h.1 (by omega), wideL_of h.2 (by omega)⟩
end
def spValue (K : PySem.W.Frag) : Sp := fun vs H Q _ => ∃ p : Addr, vs = [.ref p] ∧ Pool H p ∧ ∀ H' v d, Sv [p] H H' → Pool H' p → Rp K H' d v → ok d → dep d ≤ 12 → wsum (toks d) ≤ 30000 → Q v H'
theorem ok_law_value (T : CnT mg t1 t2 t3 t4 t5) (Df : HasDef K mg "_law_value" s_law_value ["pool"]) (C_law_draw : Has P w K mg base CX0 1 "_law_draw" ["pool", "many"] spDraw)
    (C_law_letters : Has P w K mg base CX0 3 "_law_letters" ["pool"] spLetters) (C_law_number : Has P w K mg base CX0 2 "_law_number" ["pool"] spNumber)
    (C_law_parts : Has P w K mg base CX0 4 "_law_parts" ["pool", "many"] (spParts K 11)) (C_law_depth : Has P w K mg base CX0 15 "_law_depth" ["value"] (spDepth K 14)) :
    Has P w K mg base CX0 16 "_law_value" ["pool"] (spValue K) := by
  refine Df.has fun f fd F => F.ok sc_law_value (fun vs H Q E h => ?_) (fun cdv A outer s H vs Q E hr h => ?_)
  · obtain ⟨p, rfl, _⟩ := h; rfl
  · obtain ⟨p, rfl, hP, q⟩ := h
    refine ⟨_, (pss_cons (ps_set (i := 1) sc_law_value.nd rfl (Or.inl rfl) (pe_has C_law_draw (hr.mono (by omega)) pass0 (pa_cons (pv 0) (pa_cons pe_int pa_nil))))
  (pss_cons (ps_if (pt_cmpR op_eq (pv 1) pe_int (nomark _))
  (pss_one (ps_ret (pe_has C_law_number (hr.mono (by omega)) pass0 (pa_cons (pv 0) pa_nil))))
  pss_nil)
  (pss_cons (ps_if (pt_cmpR op_eq (pv 1) pe_int (nomark _))
  (pss_one (ps_ret (pe_has C_law_letters (hr.mono (by omega)) pass0 (pa_cons (pv 0) pa_nil))))
  pss_nil)
  (pss_cons (ps_set (i := 2) sc_law_value.nd rfl (Or.inl rfl) (pe_has C_law_draw (hr.mono (by omega)) pass0 (pa_cons (pv 0) (pa_cons pe_int pa_nil))))
  (pss_cons (ps_if (pt_cmpR op_eq (pv 1) pe_int (nomark _))
  (pss_one (ps_set (i := 2) sc_law_value.nd rfl (Or.inl rfl) (pe_op op_add pe_int (pe_has C_law_draw (hr.mono (by omega)) pass0 (pa_cons (pv 0) (pa_cons (pe_ix ix_tup (pe_tup (pa_cons pe_int (pa_cons pe_int (pa_cons pe_int (pa_cons pe_int pa_nil))))) (pe_has C_law_draw (hr.mono (by omega)) pass0 (pa_cons (pv 0) (pa_cons pe_int pa_nil))) (fun _ _ => rfl)) pa_nil))))))
  pss_nil)
  (pss_cons (ps_set (i := 3) sc_law_value.nd rfl (Or.inl rfl) (pe_has C_law_parts (hr.mono (by omega)) pass0 (pa_cons (pv 0) (pa_cons (pv 2) pa_nil))))
  (pss_cons (ps_if (pt_cmpR op_gt (pv 1) pe_int (nomark _))
  (pss_one (ps_for PassesOwn.never rfl (pi_range1 (by rfl) T.m_range (pa_cons (pe_op op_sub pe_int (pe_has C_law_depth (hr.mono (by omega)) pass0 (pa_cons (pv 3) pa_nil))) pa_nil)) (pg_name (i := 4) sc_law_value.nd rfl (Or.inl rfl))
  (pss_one (ps_set (i := 3) sc_law_value.nd rfl (Or.inl rfl) (pe_tup (pa_cons (pv 3) pa_nil))))))
  pss_nil)
  (pss_one (ps_ret (pv 3)))))))))), ?_⟩
    have hsz := sizeLine_eq
    refine cutSeq (fun σ' H' => ∃ k : Int, σ' = [some (.ref p), some (.int k), none, none, none] ∧ Sv [p] H H' ∧ Pool H' p) (fun nx hn => ?_) ?_
    · exact ⟨.ref p, rfl, p, _, rfl, hP, by decide, by decide, fun H1 k sv1 hP1 k0 k1 => hn _ _ ⟨k, rfl, sv1, hP1⟩⟩
    rintro _ H1 ⟨k, rfl, sv1, hP1⟩
    refine ⟨_, rfl, rfl, _, rfl, ?_⟩
    refine ite2 (fun e1 => ?_) (fun e1 => ?_)
    · exact ⟨.ref p, rfl, p, rfl, hP1, fun H2 n sv2 hP2 hn => q _ _ (.int n) (sv1.trans sv2) hP2 rfl hn (Nat.zero_le _) (by
        show wsum [Str.ofString (toString n)] ≤ _
        rw [wsum_one]
        have := int_len hn
        omega)⟩
    refine ⟨_, rfl, rfl, _, rfl, ?_⟩
    refine ite2 (fun e2 => ?_) (fun e2 => ?_)
    · exact ⟨.ref p, rfl, p, rfl, hP1, fun H2 z sv2 hP2 hn => q _ _ (.str z) (sv1.trans sv2) hP2 rfl hn (Nat.zero_le _) (by
        show wsum [z] ≤ _
        rw [wsum_one]
        have := (word_letters hn).2.2
        rw [len_tl]
        omega)⟩
    dsimp only [tNext]
    refine cutSeq (fun σ' H' => ∃ m : Nat, m ≤ 400 ∧ σ' = [some (.ref p), some (.int k), some (.int (m : Int)), none, none] ∧ Sv [p] H H' ∧ Pool H' p) (fun nx hn => ?_) ?_
    · refine ⟨.ref p, rfl, p, _, rfl, hP1, by decide, by decide, fun H2 j sv2 hP2 k0 k1 => ?_⟩
      obtain ⟨j, rfl⟩ := Int.eq_ofNat_of_zero_le k0
      exact hn _ _ ⟨j, by omega, rfl, sv1.trans sv2, hP2⟩
    rintro _ H2 ⟨m, hm, rfl, sv2, hP2⟩
    refine cutSeq (fun σ' H' => ∃ m : Nat, m ≤ 400 ∧ σ' = [some (.ref p), some (.int k), some (.int (m : Int)), none, none] ∧ Sv [p] H H' ∧ Pool H' p) (fun nx hn => ?_) ?_
    · refine ⟨_, rfl, rfl, _, rfl, ?_⟩
      refine ite2 (fun e3 => ?_) (fun e3 => hn _ _ ⟨m, hm, rfl, sv2, hP2⟩)
      refine ⟨.ref p, rfl, by show 4 ≤ sizeLine; omega, fun t nt => ⟨.ref p, rfl, p, _, rfl, hP2.new nt, by decide, by decide, fun H3 j sv hP3 j0 j1 => ?_⟩⟩
      have pt := hP2.ne nt
      have ht : H3 t = some (.tup [.int 30, .int 30, .int 30, .int 300]) := sv t _ (by simpa using pt) upd_same
      obtain ⟨x, hx, e⟩ := pickI (ss := [30, 30, 30, 300]) j0 j1
      have hx' : x = 30 ∨ x = 300 := by simpa using hx
      refine ⟨t, _, j, _, rfl, rfl, .inl (.inl ht), e, p, x, rfl, hP3, by omega, by omega, fun H4 y sv4 hP4 y0 y1 => ⟨_, _, rfl, rfl, ?_⟩⟩
      obtain ⟨y, rfl⟩ := Int.eq_ofNat_of_zero_le y0
      exact hn _ _ ⟨12 + y, by omega, by rw [show ((12 + y : Nat) : Int) = 12 + (y : Int) by omega]; rfl, ((sv2.trans (Sv.new nt)).trans sv).trans sv4, hP4⟩
    rintro _ H3 ⟨m, hm, rfl, sv3, hP3⟩
    refine cutSeq (fun σ' H' => ∃ v d, σ' = [some (.ref p), some (.int k), some (.int (m : Int)), some v, none] ∧ Sv [p] H H' ∧ Pool H' p ∧ Rp K H' d v ∧ ok d ∧ 1 ≤ dep d ∧ dep d ≤ 12 ∧ wsum (toks d) ≤ 62 * 400 + 4) (fun nx hn => ?_) ?_
    · refine ⟨.ref p, rfl, _, rfl, p, m, rfl, hP3, hm, fun H4 v ds sv4 hP4 rv od dd dw => hn _ _ ⟨v, .tup ds, rfl, sv3.trans sv4, hP4, rv, od, ?_, ?_, ?_⟩⟩
      · show 1 ≤ 1 + depL ds; omega
      · show 1 + depL ds ≤ 12; omega
      · rw [wsum_tup]; omega
    rintro _ H4 ⟨v, d, rfl, sv4, hP4, rv, od, d1, d12, dw⟩
    refine cutSeq (fun σ' H' => ∃ v d y, σ' = [some (.ref p), some (.int k), some (.int (m : Int)), some v, y] ∧ Sv [p] H H' ∧ Pool H' p ∧ Rp K H' d v ∧ ok d ∧ dep d ≤ 12 ∧ wsum (toks d) ≤ 30000) (fun nx hn => ?_) ?_
    · refine ⟨_, rfl, _, _, rfl, rfl, _, rfl, ?_⟩
      refine ite2 (fun e3 => ?_) (fun e3 => hn _ _ ⟨v, d, none, rfl, sv4, hP4, rv, od, d12, by omega⟩)
      refine ⟨v, rfl, v, d, rfl, rv, by omega, wide_of od (by omega), fun H5 s5 => ⟨_, _, rfl, rfl, _, rfl, by omega, by omega, for_range (lo := 0) (n := ((12 : Int) - (dep d : Int)).toNat)
        (fun i σ' H' => ∃ v d' y, σ' = [some (.ref p), some (.int k), some (.int (m : Int)), some v, y] ∧ Sv [p] H H' ∧ Pool H' p ∧ Rp K H' d' v ∧ ok d' ∧ dep d' = dep d + i ∧ wsum (toks d') ≤ 62 * 400 + 4 + 4 * i) ⟨v, d, none, rfl, sv4.trans (Sv.same s5), hP4.same s5, rv.keep (TK.same s5), od, rfl, dw⟩ ?_ ?_⟩⟩
      · rintro i σ H6 hi ⟨v, d', y, rfl, sv6, hP6, rv6, od6, de, dw6⟩
        refine ⟨v, rfl, by show 1 ≤ sizeLine; omega, fun t nt => ⟨.ref t, .tup [d'], _, rfl, sv6.trans (Sv.new nt), hP6.new nt, Rp.made nt ⟨_, _, rfl, rv6, rfl⟩, ⟨od6, trivial⟩, ?_, ?_⟩⟩
        · show 1 + max (dep d') 0 = _
          omega
        · rw [wsum_tup, toksL_one]; omega
      · rintro σ H6 ⟨v, d', y, rfl, sv6, hP6, rv6, od6, de, dw6⟩
        exact hn _ _ ⟨v, d', y, rfl, sv6, hP6, rv6, od6, by omega, by omega⟩
    rintro _ H5 ⟨v, d, y, rfl, sv5, hP5, rv5, od5, d5, dw5⟩
    exact ⟨v, rfl, q _ _ d sv5 hP5 rv5 od5 d5 dw5⟩
end
end RS

namespace RS
open PySem PySem.Spec PyProof.Rows L2 TL

theorem log_small {n : Nat} (h : n < 10 ^ 60) : n.log2 < 1920 := by
  by_cases h0 : n = 0
  · subst h0; decide
  · rw [Nat.log2_lt h0]
    exact Nat.lt_of_lt_of_le h (by decide)
theorem cutS_small {z : Str} {lo hi : Option Int} : (cutS z lo hi).length ≤ z.length := cutS_length z lo hi
/-- a slice of a list of texts -/
theorem cutV_strs (ws : List Str) (lo hi : Option Int) : ∃ us : List Str, cutV (ws.map V.str) lo hi = us.map V.str ∧ wsum us ≤ wsum ws ∧ us.length ≤ ws.length := by
  unfold cutV
  rw [← List.map_drop, ← List.map_take]
  refine ⟨_, rfl, ?_, ?_⟩
  · have tk : ∀ (l : List Str) (n : Nat), wsum (l.take n) ≤ wsum l := fun l n => by
      have e := congrArg wsum (List.take_append_drop n l)
      rw [wsum_append] at e
      omega
    have dr : ∀ (l : List Str) (n : Nat), wsum (l.drop n) ≤ wsum l := fun l n => by
      have e := congrArg wsum (List.take_append_drop n l)
      rw [wsum_append] at e
      omega
    exact Nat.le_trans (tk _ _) (dr _ _)
  · rw [List.length_take, List.length_drop]
    omega
theorem joined_len (ws : List Str) : (Txt.join sp ws).length ≤ wsum ws := by
  rw [join_eq]
  cases ws with
  | nil => exact Nat.zero_le _
  | cons a b =>
    have := join_len (a :: b) (by simp)
    omega
theorem join_fits {ws : List Str} (h : wsum ws ≤ 16000000) : (ws.map (·.length)).sum + ws.length * (" " : Str).length ≤ 16777216 := by
  have e : (" " : Str).length = 1 := sp_len
  rw [e]
  unfold wsum at h
  omega

section
variable {P : Program} {w : World} {K : PySem.W.Frag} {mg : Str → Option Value} {base : Heap} {t1 t2 t3 t4 t5 : Tok} {C fI : Addr}

def spSign : Sp := fun vs H Q _ => ∃ p : Addr, vs = [.ref p] ∧ Pool H p ∧ ∀ H' c, Sv [p] H H' → Pool H' p → Q (.str ⟨#[c]⟩) H'
theorem ok_law_sign (T : CnT mg t1 t2 t3 t4 t5) (Df : HasDef K mg "_law_sign" s_law_sign ["pool"]) (C_law_draw : Has P w K mg base CX0 1 "_law_draw" ["pool", "many"] spDraw) :
    Has P w K mg base CX0 2 "_law_sign" ["pool"] spSign := by
  refine Df.has fun f fd F => F.ok sc_law_sign (fun vs H Q E h => ?_) (fun cdv A outer s H vs Q E hr h => ?_)
  · obtain ⟨p, rfl, _⟩ := h; rfl
  · obtain ⟨p, rfl, hP, q⟩ := h
    refine ⟨_, (pss_cons (ps_set (i := 1) sc_law_sign.nd rfl (Or.inl rfl) pe_str)
  (pss_one (ps_ret (pe_ix ix_str (pv 1) (pe_has C_law_draw (hr.mono (by omega)) pass0 (pa_cons (pv 0) (pa_cons (pe_callB call_len_str (by rfl) T.m_len (by decide +kernel) (pa_cons (pv 1) pa_nil)) pa_nil))) (fun _ _ => rfl))))), ?_⟩
    have hsz := sizeLine_eq
    obtain ⟨S, hS, h0, h1⟩ : ∃ S : Str, S = (" !\"#$&'()*+,-./0123456789:;<=>?@ABCDEFGHIJKLMNOPQRSTUVWXYZ[\\]^_`abcdefghijklmnopqrstuvwxyz{|}~\n\t" : Str) ∧ 0 < S.length ∧ S.length ≤ 1000 := ⟨_, rfl, by decide +kernel, by decide +kernel⟩
    rw [← hS]
    refine ⟨.str S, rfl, .ref p, rfl, .str S, rfl, S, rfl, by omega, p, _, rfl, hP, by omega, by omega, fun H2 k sv2 hP2 k0 k1 => ?_⟩
    obtain ⟨j, rfl⟩ := Int.eq_ofNat_of_zero_le k0
    have hj : j < (tl S).length := by rw [← len_tl]; omega
    exact ⟨S, (j : Int), (tl S)[j], rfl, rfl, by omega, atI_nat (j := j) (by show (tl S)[j]? = _; exact List.getElem?_eq_getElem hj), q _ _ sv2 hP2⟩

def spTok : Sp := fun vs H Q _ => ∃ p : Addr, vs = [.ref p] ∧ Pool H p ∧ ∀ H' z, Sv [p] H H' → Pool H' p → z.length ≤ 100 → Q (.str z) H'
def odd1 : List Str := ["", "0", "-0", "00", "01", "-01", "+1", "-", "--1", "1-", "a1", "1a", "A", "aB", "[]", "[", "]", "[1", "1]", "]["]
def odd2 : List Str := ["1.0", "10", "-10",
  "0x1", "1e1", "-a", "a-b",
  "a.b", "\t", "1\n",
  "\n", "None", "(1)",
  "'a'", "a,", "1,2"]
theorem odd_short : ∀ s ∈ odd1 ++ odd2, s.length ≤ 10 := by
  have : ((odd1 ++ odd2).all fun s => decide (s.length ≤ 10)) = true := by decide +kernel
  intro s hs
  exact of_decide_eq_true (List.all_eq_true.mp this s hs)
theorem ok_law_token (T : CnT mg t1 t2 t3 t4 t5) (Df : HasDef K mg "_law_token" s_law_token ["pool"]) (C_law_draw : Has P w K mg base CX0 1 "_law_draw" ["pool", "many"] spDraw)
    (C_law_run : Has P w K mg base CX0 2 "_law_run" ["pool", "signs", "size"] spRun) (C_law_number : Has P w K mg base CX0 2 "_law_number" ["pool"] spNumber) :
    Has P w K mg base CX0 3 "_law_token" ["pool"] spTok := by
  refine Df.has fun f fd F => F.ok sc_law_token (fun vs H Q E h => ?_) (fun cdv A outer s H vs Q E hr h => ?_)
  · obtain ⟨p, rfl, _⟩ := h; rfl
  · obtain ⟨p, rfl, hP, q⟩ := h
    refine ⟨_, (pss_cons (ps_set (i := 1) sc_law_token.nd rfl (Or.inl rfl) (pe_has C_law_draw (hr.mono (by omega)) pass0 (pa_cons (pv 0) (pa_cons pe_int pa_nil))))
  (pss_cons (ps_if (pt_cmpR op_eq (pv 1) pe_int (nomark _))
  (pss_one (ps_ret (pe_op op_add_str (pe_ix (show IxR _ (rIxT K) from ix_tup) (pe_tup (pa_cons pe_str (pa_cons pe_str pa_nil))) (pe_has C_law_draw (hr.mono (by omega)) pass0 (pa_cons (pv 0) (pa_cons pe_int pa_nil))) (fun _ _ => rfl)) (pe_has C_law_run (hr.mono (by omega)) pass0 (pa_cons (pv 0) (pa_cons pe_str (pa_cons (pe_ix (show IxR _ (rIxT K) from ix_tup) (pe_tup (pa_cons pe_int (pa_cons pe_int (pa_cons pe_int (pa_cons pe_int (pa_cons pe_int (pa_cons pe_int pa_nil))))))) (pe_has C_law_draw (hr.mono (by omega)) pass0 (pa_cons (pv 0) (pa_cons pe_int pa_nil))) (fun _ _ => rfl)) pa_nil)))))))
  pss_nil)
  (pss_cons (ps_if (pt_cmpR op_eq (pv 1) pe_int (nomark _))
  (pss_one (ps_ret (pe_has C_law_run (hr.mono (by omega)) pass0 (pa_cons (pv 0) (pa_cons pe_str (pa_cons (pe_ix (show IxR _ (rIxT K) from ix_tup) (pe_tup (pa_cons pe_int (pa_cons pe_int (pa_cons pe_int (pa_cons pe_int (pa_cons pe_int (pa_cons pe_int pa_nil))))))) (pe_has C_law_draw (hr.mono (by omega)) pass0 (pa_cons (pv 0) (pa_cons pe_int pa_nil))) (fun _ _ => rfl)) pa_nil))))))
  pss_nil)
  (pss_cons (ps_set (i := 2) sc_law_token.nd rfl (Or.inl rfl) (pe_lst (pa_cons pe_str (pa_cons pe_str (pa_cons pe_str (pa_cons pe_str (pa_cons pe_str (pa_cons pe_str (pa_cons pe_str (pa_cons pe_str (pa_cons pe_str (pa_cons pe_str (pa_cons pe_str (pa_cons pe_str (pa_cons pe_str (pa_cons pe_str (pa_cons pe_str (pa_cons pe_str (pa_cons pe_str (pa_cons pe_str (pa_cons pe_str (pa_cons pe_str pa_nil))))))))))))))))))))))
  (pss_cons (ps_set (i := 2) sc_law_token.nd rfl (Or.inl rfl) (pe_op op_cat (pv 2) (pe_lst (pa_cons pe_str (pa_cons pe_str (pa_cons pe_str (pa_cons pe_str (pa_cons pe_str (pa_cons pe_str (pa_cons pe_str (pa_cons pe_str (pa_cons pe_str (pa_cons pe_str (pa_cons pe_str (pa_cons pe_str (pa_cons pe_str (pa_cons pe_str (pa_cons pe_str (pa_cons pe_str pa_nil)))))))))))))))))))
  (pss_cons (ps_if (pt_cmpR op_eq (pv 1) pe_int (nomark _))
  (pss_one (ps_ret (pe_ix ix_list (pv 2) (pe_has C_law_draw (hr.mono (by omega)) pass0 (pa_cons (pv 0) (pa_cons (pe_callB call_len_seq (by rfl) T.m_len (by decide +kernel) (pa_cons (pv 2) pa_nil)) pa_nil))) (fun _ _ => rfl))))
  pss_nil)
  (pss_one (ps_ret (pe_op op_add_str (pe_ix (show IxR _ (rIxT K) from ix_tup) (pe_tup (pa_cons pe_str (pa_cons pe_str (pa_cons pe_str (pa_cons pe_str (pa_cons pe_str (pa_cons pe_str pa_nil))))))) (pe_has C_law_draw (hr.mono (by omega)) pass0 (pa_cons (pv 0) (pa_cons pe_int pa_nil))) (fun _ _ => rfl)) (pe_callTy call_str_int (by rfl) T.m_str (by decide +kernel) (pa_cons (pe_has C_law_number (hr.mono (by omega)) pass0 (pa_cons (pv 0) pa_nil)) pa_nil))))))))))), ?_⟩
    have hsz := sizeLine_eq
    refine cutSeq (fun σ' H' => ∃ k : Int, σ' = [some (.ref p), some (.int k), none] ∧ Sv [p] H H' ∧ Pool H' p) (fun nx hn => ?_) ?_
    · exact ⟨.ref p, rfl, p, _, rfl, hP, by decide, by decide, fun H1 k sv1 hP1 k0 k1 => hn _ _ ⟨k, rfl, sv1, hP1⟩⟩
    rintro _ H1 ⟨k, rfl, sv1, hP1⟩
    refine ⟨_, rfl, rfl, _, rfl, ?_⟩
    refine ite2 (fun e1 => ?_) (fun e1 => ?_)
    · refine ⟨by show 2 ≤ sizeLine; omega, fun t nt => ⟨.ref p, rfl, p, _, rfl, hP1.new nt, by decide, by decide, fun H2 j sv2 hP2 j0 j1 => ?_⟩⟩
      have ht : H2 t = some (.tup [.str "", .str "-"]) := sv2 t _ (by simpa using hP1.ne nt) upd_same
      obtain ⟨a, ha, e⟩ := pickS (ss := ["", "-"]) j0 j1
      have hal : a.length ≤ 10 := by
        have : a = ("" : Str) ∨ a = ("-" : Str) := by simpa using ha
        rcases this with rfl | rfl <;> decide +kernel
      refine ⟨t, _, j, _, rfl, rfl, .inl (.inl ht), e, .ref p, rfl, by show 6 ≤ sizeLine; omega, fun t2 nt2 => ⟨.ref p, rfl, p, _, rfl, hP2.new nt2, by decide, by decide, fun H3 i sv3 hP3 i0 i1 => ?_⟩⟩
      have ht2 : H3 t2 = some (.tup [.int 1, .int 2, .int 59, .int 60, .int 61, .int 62]) := sv3 t2 _ (by simpa using hP2.ne nt2) upd_same
      obtain ⟨n, hn, e2⟩ := pickI (ss := [1, 2, 59, 60, 61, 62]) i0 i1
      have hn' : 1 ≤ n ∧ n ≤ 62 := by
        have : n = 1 ∨ n = 2 ∨ n = 59 ∨ n = 60 ∨ n = 61 ∨ n = 62 := by simpa using hn
        omega
      obtain ⟨m, rfl⟩ := Int.eq_ofNat_of_zero_le (show 0 ≤ n by omega)
      refine ⟨t2, _, i, _, rfl, rfl, .inl (.inl ht2), e2, p, digs, m, rfl, hP3, by decide +kernel, by decide +kernel, by omega, fun H4 z sv4 hP4 hz _ => ⟨a, z, rfl, rfl, by omega, ?_⟩⟩
      exact q _ _ (((((sv1.trans (Sv.new nt)).trans sv2).trans (Sv.new nt2)).trans sv3).trans sv4) hP4 (by rw [len_append]; omega)
    refine ⟨_, rfl, rfl, _, rfl, ?_⟩
    refine ite2 (fun e2 => ?_) (fun e2 => ?_)
    · refine ⟨.ref p, rfl, by show 6 ≤ sizeLine; omega, fun t2 nt2 => ⟨.ref p, rfl, p, _, rfl, hP1.new nt2, by decide, by decide, fun H3 i sv3 hP3 i0 i1 => ?_⟩⟩
      have ht2 : H3 t2 = some (.tup [.int 1, .int 19, .int 20, .int 21, .int 22, .int 40]) := sv3 t2 _ (by simpa using hP1.ne nt2) upd_same
      obtain ⟨n, hn, e2⟩ := pickI (ss := [1, 19, 20, 21, 22, 40]) i0 i1
      have hn' : 1 ≤ n ∧ n ≤ 62 := by
        have : n = 1 ∨ n = 19 ∨ n = 20 ∨ n = 21 ∨ n = 22 ∨ n = 40 := by simpa using hn
        omega
      obtain ⟨m, rfl⟩ := Int.eq_ofNat_of_zero_le (show 0 ≤ n by omega)
      refine ⟨t2, _, i, _, rfl, rfl, .inl (.inl ht2), e2, p, lets, m, rfl, hP3, by decide +kernel, by decide +kernel, by omega, fun H4 z sv4 hP4 hz _ => ?_⟩
      exact q _ _ (((sv1.trans (Sv.new nt2)).trans sv3).trans sv4) hP4 (by omega)
    dsimp only [tNext]
    refine cutSeq (fun σ' H' => ∃ a : Addr, σ' = [some (.ref p), some (.int k), some (.ref a)] ∧ Sv [p] H H' ∧ Pool H' p ∧ H' a = some (.lst (odd1.map V.str))) (fun nx hn => ?_) ?_
    · refine ⟨by show 20 ≤ sizeLine; omega, fun t nt => hn _ _ ⟨t, rfl, sv1.trans (Sv.new nt), hP1.new nt, upd_same⟩⟩
    rintro _ H2 ⟨a, rfl, sv2, hP2, ha⟩
    refine cutSeq (fun σ' H' => ∃ a : Addr, σ' = [some (.ref p), some (.int k), some (.ref a)] ∧ Sv [p] H H' ∧ Pool H' p ∧ H' a = some (.lst ((odd1 ++ odd2).map V.str))) (fun nx hn => ?_) ?_
    · refine ⟨.ref a, rfl, by show 16 ≤ sizeLine; omega, fun t nt => ⟨a, t, _, _, rfl, rfl, by rw [upd_ne (ne_of_none ha nt)]; exact ha, upd_same, by show 36 ≤ sizeLine; omega, fun b nb => ?_⟩⟩
      exact hn _ _ ⟨b, rfl, (sv2.trans (Sv.new nt)).trans (Sv.new nb), (hP2.new nt).new nb, upd_same⟩
    rintro _ H3 ⟨a, rfl, sv3, hP3, ha⟩
    refine ⟨_, rfl, rfl, _, rfl, ?_⟩
    refine ite2 (fun e3 => ?_) (fun e3 => ?_)
    · refine ⟨.ref a, rfl, .ref p, rfl, .ref a, rfl, a, _, rfl, .inl (.inl (.inl ha)), p, _, rfl, hP3, by show (0 : Int) < 36; decide, by show (36 : Int) < _; decide, fun H4 j sv4 hP4 j0 j1 => ?_⟩
      have ha4 : H4 a = some (.lst ((odd1 ++ odd2).map V.str)) := sv4 a _ (fun z => by
        have : a = p := by simpa using z
        obtain ⟨x, y, z, e⟩ := hP3
        rw [this, e] at ha
        have := Option.some.inj ha
        cases this) ha
      obtain ⟨z, hz, e⟩ := pickS (ss := odd1 ++ odd2) j0 j1
      refine ⟨a, _, j, _, rfl, rfl, .inl (.inl ha4), e, q _ _ (sv3.trans sv4) hP4 ?_⟩
      have := odd_short z hz
      omega
    · refine ⟨by show 6 ≤ sizeLine; omega, fun t nt => ⟨.ref p, rfl, p, _, rfl, hP3.new nt, by decide, by decide, fun H4 j sv4 hP4 j0 j1 => ?_⟩⟩
      have ht : H4 t = some (.tup [.str "+", .str "-", .str "0", .str "1_", .str "a", .str "A"]) := sv4 t _ (by simpa using hP3.ne nt) upd_same
      obtain ⟨z, hz, e⟩ := pickS (ss := ["+", "-", "0", "1_", "a", "A"]) j0 j1
      have hzl : z.length ≤ 10 := by
        have : z = ("+" : Str) ∨ z = ("-" : Str) ∨ z = ("0" : Str) ∨ z = ("1_" : Str) ∨ z = ("a" : Str) ∨ z = ("A" : Str) := by simpa using hz
        rcases this with rfl | rfl | rfl | rfl | rfl | rfl <;> decide +kernel
      refine ⟨t, _, j, _, rfl, rfl, .inl (.inl ht), e, .ref p, rfl, p, rfl, hP4, fun H5 n sv5 hP5 hn => ?_⟩
      have hl := int_len hn
      refine ⟨n, rfl, log_small hn, z, _, rfl, rfl, by omega, ?_⟩
      exact q _ _ (((sv3.trans (Sv.new nt)).trans sv4).trans sv5) hP5 (by rw [len_append]; omega)
end
end RS

namespace RS
open PySem PySem.Spec PyProof.Rows L2 TL

abbrev s_law_bent : Stmt := topS 38
theorem sc_law_bent : FnScope ["pool", "text", "way", "at", "pieces", "k", "ahead", "behind", "low", "j"] ["pool", "text"] (defScope s_law_bent) := ⟨rfl, rfl, rfl, by decide +kernel, rfl, by decide +kernel, by decide +kernel⟩

/-- a list of texts -/
def Strs (H : Hp) (a : Addr) (ws : List Str) : Prop := H a = some (.lst (ws.map V.str))
theorem Strs.ne {H : Hp} {a p : Addr} {ws : List Str} (h : Strs H a ws) (hP : Pool H p) : a ≠ p := fun e => by
  obtain ⟨x, y, z, q⟩ := hP
  unfold Strs at h
  rw [e, q] at h
  have h2 : HO.lst [V.int x, V.int y, V.int z] = HO.lst (ws.map V.str) := Option.some.inj h
  injection h2 with h2
  cases ws with
  | nil => cases h2
  | cons b c => cases h2
theorem Strs.drawn {H H' : Hp} {a p : Addr} {ws : List Str} (h : Strs H a ws) (hP : Pool H p) (s : Sv [p] H H') : Strs H' a ws := s a _ (by simpa using h.ne hP) h
theorem Strs.same {H H' : Hp} {a : Addr} {ws : List Str} (h : Strs H a ws) (s : Same H H') : Strs H' a ws := s a _ h
theorem Strs.new {H : Hp} {a t : Addr} {o : HO} {ws : List Str} (h : Strs H a ws) (n : H t = none) : Strs (upd H t o) a ws := h.same (Sv.nil (Sv.new n))
theorem wsum_mem {ws : List Str} {s : Str} (h : s ∈ ws) : s.length + 1 ≤ wsum ws := by
  obtain ⟨A, B, e⟩ := List.append_of_mem h
  rw [e, wsum_append, wsum_cons]
  omega

/-- [z for j in range(n)] at p, behind i turns -/
def Reps (z : Str) (H : Hp) (p : Addr) (i : Nat) (H' : Hp) : Prop := Sv [p] H H' ∧ H' p = some (.lst ((List.replicate i z).map V.str))
theorem wsum_rep (n : Nat) (z : Str) : wsum (List.replicate n z) = n * (z.length + 1) := by
  induction n with
  | zero => simp [wsum]
  | succ n ih => rw [List.replicate_succ, wsum_cons, ih, Nat.succ_mul]; omega

section
variable {P : Program} {w : World} {K : PySem.W.Frag} {mg : Str → Option Value} {base : Heap} {t1 t2 t3 t4 t5 : Tok} {C fI : Addr}

def spBent : Sp := fun vs H Q _ => ∃ (p : Addr) (x : Str), vs = [.ref p, .str x] ∧ Pool H p ∧ x.length ≤ 130000 ∧ ∀ H' z, Sv [p] H H' → Pool H' p → z.length ≤ 4 * x.length + 300 → Q (.str z) H'
theorem ok_law_bent (T : CnT mg t1 t2 t3 t4 t5) (Df : HasDef K mg "_law_bent" s_law_bent ["pool", "text"]) (C_law_draw : Has P w K mg base CX0 1 "_law_draw" ["pool", "many"] spDraw)
    (C_law_sign : Has P w K mg base CX0 2 "_law_sign" ["pool"] spSign) (C_law_token : Has P w K mg base CX0 3 "_law_token" ["pool"] spTok) :
    Has P w K mg base CX0 4 "_law_bent" ["pool", "text"] spBent := by
  refine Df.has fun f fd F => F.ok sc_law_bent (fun vs H Q E h => ?_) (fun cdv A outer s H vs Q E hr h => ?_)
  · obtain ⟨p, x, rfl, _⟩ := h; rfl
  · obtain ⟨p, x, rfl, hP, hx, q⟩ := h
    refine ⟨_, (pss_cons (ps_set (i := 2) sc_law_bent.nd rfl (Or.inl rfl) (pe_has C_law_draw (hr.mono (by omega)) pass0 (pa_cons (pv 0) (pa_cons pe_int pa_nil))))
  (pss_cons (ps_set (i := 3) sc_law_bent.nd rfl (Or.inl rfl) (pe_has C_law_draw (hr.mono (by omega)) pass0 (pa_cons (pv 0) (pa_cons (pe_op op_add (pe_callB call_len_str (by rfl) T.m_len (by decide +kernel) (pa_cons (pv 1) pa_nil)) pe_int) pa_nil))))
  (pss_cons (ps_set (i := 4) sc_law_bent.nd rfl (Or.inl rfl) (pe_split (pv 1) pe_str))
  (pss_cons (ps_set (i := 5) sc_law_bent.nd rfl (Or.inl rfl) (pe_has C_law_draw (hr.mono (by omega)) pass0 (pa_cons (pv 0) (pa_cons (pe_callB call_len_seq (by rfl) T.m_len (by decide +kernel) (pa_cons (pv 4) pa_nil)) pa_nil))))
  (pss_cons (ps_set (i := 6) sc_law_bent.nd rfl (Or.inl rfl) (pe_ix ix_tup (pe_tup (pa_cons pe_str (pa_cons pe_str (pa_cons pe_str (pa_cons pe_str (pa_cons pe_str (pa_cons pe_str pa_nil))))))) (pe_has C_law_draw (hr.mono (by omega)) pass0 (pa_cons (pv 0) (pa_cons pe_int pa_nil))) (fun _ _ => rfl)))
  (pss_cons (ps_set (i := 7) sc_law_bent.nd rfl (Or.inl rfl) (pe_ix ix_tup (pe_tup (pa_cons pe_str (pa_cons pe_str (pa_cons pe_str (pa_cons pe_str (pa_cons pe_str (pa_cons pe_str pa_nil))))))) (pe_has C_law_draw (hr.mono (by omega)) pass0 (pa_cons (pv 0) (pa_cons pe_int pa_nil))) (fun _ _ => rfl)))
  (pss_cons (ps_set (i := 8) sc_law_bent.nd rfl (Or.inl rfl) (pe_has C_law_draw (hr.mono (by omega)) pass0 (pa_cons (pv 0) (pa_cons pe_int pa_nil))))
  (pss_cons (ps_if (pt_cmpR op_eq (pv 2) pe_int (nomark _))
  (pss_one (ps_ret (pe_op op_add_str (pe_op op_add_str (pe_slice sl_str (pv 1) po_none (po_some (pv 3))) (pe_has C_law_sign (hr.mono (by omega)) pass0 (pa_cons (pv 0) pa_nil))) (pe_slice sl_str (pv 1) (po_some (pv 3)) po_none))))
  pss_nil)
  (pss_cons (ps_if (pt_cmpR op_eq (pv 2) pe_int (nomark _))
  (pss_one (ps_ret (pe_op op_add_str (pe_op op_add_str (pe_slice sl_str (pv 1) po_none (po_some (pv 3))) (pe_has C_law_sign (hr.mono (by omega)) pass0 (pa_cons (pv 0) pa_nil))) (pe_slice sl_str (pv 1) (po_some (pe_op op_add (pv 3) pe_int)) po_none))))
  pss_nil)
  (pss_cons (ps_if (pt_cmpR op_eq (pv 2) pe_int (nomark _))
  (pss_one (ps_ret (pe_op op_add_str (pe_slice sl_str (pv 1) po_none (po_some (pv 3))) (pe_slice sl_str (pv 1) (po_some (pe_op op_add (pv 3) pe_int)) po_none))))
  pss_nil)
  (pss_cons (ps_if (PW.pt (pw_or (pt_cmpR op_eq (pv 2) pe_int (nomark _)) (pw_or1 (pt_cmpR op_eq (pv 2) pe_int (nomark _)))))
  (pss_one (ps_ret (pe_join pe_str (pe_op op_cat (pe_op op_cat (pe_slice sl_list (pv 4) po_none (po_some (pv 5))) (pe_lst (pa_cons (pe_has C_law_token (hr.mono (by omega)) pass0 (pa_cons (pv 0) pa_nil)) pa_nil))) (pe_slice sl_list (pv 4) (po_some (pe_op op_add (pv 5) pe_int)) po_none)))))
  pss_nil)
  (pss_cons (ps_if (pt_cmpR op_eq (pv 2) pe_int (nomark _))
  (pss_one (ps_ret (pe_join pe_str (pe_op op_cat (pe_slice sl_list (pv 4) po_none (po_some (pv 5))) (pe_slice sl_list (pv 4) (po_some (pe_op op_add (pv 5) pe_int)) po_none)))))
  pss_nil)
  (pss_cons (ps_if (pt_cmpR op_eq (pv 2) pe_int (nomark _))
  (pss_one (ps_ret (pe_join pe_str (pe_op op_cat (pe_op op_cat (pe_slice sl_list (pv 4) po_none (po_some (pv 5))) (pe_lst (pa_cons (pe_ix ix_list (pv 4) (pv 5) (fun _ _ => rfl)) (pa_cons (pe_ix ix_list (pv 4) (pv 5) (fun _ _ => rfl)) pa_nil)))) (pe_slice sl_list (pv 4) (po_some (pe_op op_add (pv 5) pe_int)) po_none)))))
  pss_nil)
  (pss_cons (ps_if (pt_cmpR op_eq (pv 2) pe_int (nomark _))
  (pss_one (ps_ret (pe_join pe_str (pe_op op_cat (pe_op op_cat (pe_op op_cat (pe_slice sl_list (pv 4) po_none (po_some (pv 5))) (pe_slice sl_list (pv 4) (po_some (pe_op op_add (pv 5) pe_int)) (po_some (pe_op op_add (pv 5) pe_int)))) (pe_lst (pa_cons (pe_ix ix_list (pv 4) (pv 5) (fun _ _ => rfl)) pa_nil))) (pe_slice sl_list (pv 4) (po_some (pe_op op_add (pv 5) pe_int)) po_none)))))
  pss_nil)
  (pss_cons (ps_if (pt_cmpR op_eq (pv 2) pe_int (nomark _))
  (pss_one (ps_ret (pe_join pe_str (pe_op op_cat (pe_op op_cat (pe_lc (own := [("j", 9)]) (g := gName 9) (tt := tYes) rfl sc_law_bent.nd (pi_range1 (by rfl) T.m_range (pa_cons (pv 8) pa_nil)) (blkOk_by (own := [("j", 9)]) (N := ["pool", "text", "way", "at", "pieces", "k", "ahead", "behind", "low", "j"]) (sc := defScope s_law_bent) (by decide +kernel)) (fun _ _ _ _ _ => (pg_name (i := 9) sc_law_bent.nd rfl (Or.inl rfl))) (fun _ _ _ _ _ => pts_nil) (fun _ _ _ _ _ => pe_str)) (pv 4)) (pe_lc (own := [("j", 9)]) (g := gName 9) (tt := tYes) rfl sc_law_bent.nd (pi_range1 (by rfl) T.m_range (pa_cons (pv 8) pa_nil)) (blkOk_by (own := [("j", 9)]) (N := ["pool", "text", "way", "at", "pieces", "k", "ahead", "behind", "low", "j"]) (sc := defScope s_law_bent) (by decide +kernel)) (fun _ _ _ _ _ => (pg_name (i := 9) sc_law_bent.nd rfl (Or.inl rfl))) (fun _ _ _ _ _ => pts_nil) (fun _ _ _ _ _ => pe_str))))))
  pss_nil)
  (pss_one (ps_ret (pe_op op_add_str (pe_op op_add_str (pv 6) (pv 1)) (pv 7))))))))))))))))))), ?_⟩
    have hsz := sizeLine_eq
    have hx' : x.length ≤ sizeLine := by omega
    refine cutSeq (fun σ' H' => ∃ k : Int, σ' = [some (.ref p), some (.str x), some (.int k), none, none, none, none, none, none, none] ∧ Sv [p] H H' ∧ Pool H' p) (fun nx hn => ?_) ?_
    · exact ⟨.ref p, rfl, p, _, rfl, hP, by decide, by decide, fun H1 k sv1 hP1 k0 k1 => hn _ _ ⟨k, rfl, sv1, hP1⟩⟩
    rintro _ H1 ⟨way, rfl, sv1, hP1⟩
    refine cutSeq (fun σ' H' => ∃ at_ : Nat, σ' = [some (.ref p), some (.str x), some (.int way), some (.int (at_ : Int)), none, none, none, none, none, none] ∧ Sv [p] H H' ∧ Pool H' p) (fun nx hn => ?_) ?_
    · refine ⟨.ref p, rfl, .str x, rfl, x, rfl, hx', _, _, rfl, rfl, p, _, rfl, hP1, by omega, by omega, fun H2 k sv2 hP2 k0 k1 => ?_⟩
      obtain ⟨j, rfl⟩ := Int.eq_ofNat_of_zero_le k0
      exact hn _ _ ⟨j, rfl, sv1.trans sv2, hP2⟩
    rintro _ H2 ⟨at_, rfl, sv2, hP2⟩
    refine cutSeq (fun σ' H' => ∃ a : Addr, σ' = [some (.ref p), some (.str x), some (.int way), some (.int (at_ : Int)), some (.ref a), none, none, none, none, none] ∧ Sv [p] H H' ∧ Pool H' p ∧ Strs H' a (Txt.split x sp)) (fun nx hn => ?_) ?_
    · exact ⟨.str x, rfl, ⟨x, rfl⟩, x, sp, rfl, rfl, by decide +kernel, by omega, fun a na => hn _ _ ⟨a, rfl, sv2.trans (Sv.new na), hP2.new na, upd_same⟩⟩
    rintro _ H3 ⟨a, rfl, sv3, hP3, ha3⟩
    have hws := split_sum x
    have hwl := split_len x
    have hwn := split_ne x
    generalize Txt.split x sp = ws at *
    have hw1 : 1 ≤ ws.length := by
      cases ws with
      | nil => exact absurd rfl hwn
      | cons a b => simp
    refine cutSeq (fun σ' H' => ∃ k : Nat, k < ws.length ∧ σ' = [some (.ref p), some (.str x), some (.int way), some (.int (at_ : Int)), some (.ref a), some (.int (k : Int)), none, none, none, none] ∧ Sv [p] H H' ∧ Pool H' p ∧ Strs H' a ws) (fun nx hn => ?_) ?_
    · refine ⟨.ref p, rfl, .ref a, rfl, a, _, rfl, .inl (.inl (.inl ha3)), p, _, rfl, hP3, ?_, ?_, fun H4 k sv4 hP4 k0 k1 => ?_⟩
      · rw [List.length_map]; omega
      · rw [List.length_map]; omega
      · rw [List.length_map] at k1
        obtain ⟨j, rfl⟩ := Int.eq_ofNat_of_zero_le k0
        exact hn _ _ ⟨j, by omega, rfl, sv3.trans sv4, hP4, ha3.drawn hP3 sv4⟩
    rintro _ H4 ⟨k, hk, rfl, sv4, hP4, ha4⟩
    refine cutSeq (fun σ' H' => ∃ ah : Str, ah.length ≤ 10 ∧ σ' = [some (.ref p), some (.str x), some (.int way), some (.int (at_ : Int)), some (.ref a), some (.int (k : Int)), some (.str ah), none, none, none] ∧ Sv [p] H H' ∧ Pool H' p ∧ Strs H' a ws) (fun nx hn => ?_) ?_
    · refine ⟨by show 6 ≤ sizeLine; omega, fun t nt => ⟨.ref p, rfl, p, _, rfl, hP4.new nt, by decide, by decide, fun H5 j sv5 hP5 j0 j1 => ?_⟩⟩
      have ht : H5 t = some (.tup [.str "", .str " ", .str "0 ", .str "[ ", .str "\n", .str "[ ] "]) := sv5 t _ (by simpa using hP4.ne nt) upd_same
      obtain ⟨z, hz, e⟩ := pickS (ss := ["", " ", "0 ", "[ ", "\n", "[ ] "]) j0 j1
      have hzl : z.length ≤ 10 := by
        have : z = ("" : Str) ∨ z = (" " : Str) ∨ z = ("0 " : Str) ∨ z = ("[ " : Str) ∨ z = ("\n" : Str) ∨ z = ("[ ] " : Str) := by simpa using hz
        rcases this with rfl | rfl | rfl | rfl | rfl | rfl <;> decide +kernel
      exact ⟨t, _, j, _, rfl, rfl, .inl (.inl ht), e, hn _ _ ⟨z, hzl, rfl, (sv4.trans (Sv.new nt)).trans sv5, hP5, (ha4.new nt).drawn (hP4.new nt) sv5⟩⟩
    rintro _ H5 ⟨ah, hah, rfl, sv5, hP5, ha5⟩
    refine cutSeq (fun σ' H' => ∃ be : Str, be.length ≤ 10 ∧ σ' = [some (.ref p), some (.str x), some (.int way), some (.int (at_ : Int)), some (.ref a), some (.int (k : Int)), some (.str ah), some (.str be), none, none] ∧ Sv [p] H H' ∧ Pool H' p ∧ Strs H' a ws) (fun nx hn => ?_) ?_
    · refine ⟨by show 6 ≤ sizeLine; omega, fun t nt => ⟨.ref p, rfl, p, _, rfl, hP5.new nt, by decide, by decide, fun H6 j sv6 hP6 j0 j1 => ?_⟩⟩
      have ht : H6 t = some (.tup [.str "", .str " ", .str " 0", .str " ]", .str "\n", .str " [ ]"]) := sv6 t _ (by simpa using hP5.ne nt) upd_same
      obtain ⟨z, hz, e⟩ := pickS (ss := ["", " ", " 0", " ]", "\n", " [ ]"]) j0 j1
      have hzl : z.length ≤ 10 := by
        have : z = ("" : Str) ∨ z = (" " : Str) ∨ z = (" 0" : Str) ∨ z = (" ]" : Str) ∨ z = ("\n" : Str) ∨ z = (" [ ]" : Str) := by simpa using hz
        rcases this with rfl | rfl | rfl | rfl | rfl | rfl <;> decide +kernel
      exact ⟨t, _, j, _, rfl, rfl, .inl (.inl ht), e, hn _ _ ⟨z, hzl, rfl, (sv5.trans (Sv.new nt)).trans sv6, hP6, (ha5.new nt).drawn (hP5.new nt) sv6⟩⟩
    rintro _ H6 ⟨be, hbe, rfl, sv6, hP6, ha6⟩
    refine cutSeq (fun σ' H' => ∃ low : Nat, low < 14 ∧ σ' = [some (.ref p), some (.str x), some (.int way), some (.int (at_ : Int)), some (.ref a), some (.int (k : Int)), some (.str ah), some (.str be), some (.int (low : Int)), none] ∧ Sv [p] H H' ∧ Pool H' p ∧ Strs H' a ws) (fun nx hn => ?_) ?_
    · refine ⟨.ref p, rfl, p, _, rfl, hP6, by decide, by decide, fun H7 j sv7 hP7 j0 j1 => ?_⟩
      obtain ⟨j, rfl⟩ := Int.eq_ofNat_of_zero_le j0
      exact hn _ _ ⟨j, by omega, rfl, sv6.trans sv7, hP7, ha6.drawn hP6 sv7⟩
    rintro _ H7 ⟨low, hlow, rfl, sv7, hP7, ha7⟩
    -- the ways
    have c1 : (cutS x none (some (at_ : Int))).length ≤ x.length := cutS_length x _ _
    refine ⟨_, rfl, rfl, _, rfl, ?_⟩
    refine ite2 (fun e0 => ?_) (fun e0 => ?_)
    · have c2 := cutS_length x (some (at_ : Int)) none
      refine ⟨.str x, rfl, _, rfl, _, rfl, x, rfl, hx', .ref p, rfl, p, rfl, hP7, fun H8 c sv8 hP8 => ⟨_, _, rfl, rfl, ?_, .str x, rfl, _, rfl, _, rfl, x, rfl, hx', _, _, rfl, rfl, ?_, ?_⟩⟩
      · show _ + 1 ≤ _; omega
      · rw [len_append]; show _ + 1 + _ ≤ _; omega
      · refine q _ _ (sv7.trans sv8) hP8 ?_
        rw [len_append, len_append]; show _ + 1 + _ ≤ _; omega
    refine ⟨_, rfl, rfl, _, rfl, ?_⟩
    refine ite2 (fun e1 => ?_) (fun e1 => ?_)
    · have c2 := cutS_length x (some ((at_ : Int) + 1)) none
      refine ⟨.str x, rfl, _, rfl, _, rfl, x, rfl, hx', .ref p, rfl, p, rfl, hP7, fun H8 c sv8 hP8 => ⟨_, _, rfl, rfl, ?_, .str x, rfl, _, rfl, _, _, rfl, rfl, _, rfl, x, rfl, hx', _, _, rfl, rfl, ?_, ?_⟩⟩
      · show _ + 1 ≤ _; omega
      · rw [len_append]; show _ + 1 + _ ≤ _; omega
      · refine q _ _ (sv7.trans sv8) hP8 ?_
        rw [len_append, len_append]; show _ + 1 + _ ≤ _; omega
    refine ⟨_, rfl, rfl, _, rfl, ?_⟩
    refine ite2 (fun e2 => ?_) (fun e2 => ?_)
    · have c2 := cutS_length x (some ((at_ : Int) + 1)) none
      refine ⟨.str x, rfl, _, rfl, _, rfl, x, rfl, hx', .str x, rfl, _, rfl, _, _, rfl, rfl, _, rfl, x, rfl, hx', _, _, rfl, rfl, ?_, ?_⟩
      · omega
      · refine q _ _ sv7 hP7 ?_
        rw [len_append]; omega
    -- a slice of the pieces at t
    have j1 : ∀ {us : List Str}, wsum us ≤ 16000000 → (us.map (·.length)).sum + us.length * (" " : Str).length ≤ 16777216 := fun h => join_fits h
    obtain ⟨u1, eu1, wu1, lu1⟩ := cutV_strs ws none (some (k : Int))
    obtain ⟨u2, eu2, wu2, lu2⟩ := cutV_strs ws (some ((k : Int) + 1)) none
    obtain ⟨u3, eu3, wu3, lu3⟩ := cutV_strs ws (some ((k : Int) + 1)) (some ((k : Int) + 2))
    obtain ⟨u4, eu4, wu4, lu4⟩ := cutV_strs ws (some ((k : Int) + 2)) none
    have hkw : ws[k] ∈ ws := List.getElem_mem hk
    have wk := wsum_mem hkw
    have ek : atI (ws.map V.str) (k : Int) = some (.str ws[k]) := atI_nat (by rw [List.getElem?_map, List.getElem?_eq_getElem hk]; rfl)
    dsimp only [tNext]
    refine cutIfS (decide (way = 3 ∨ way = 4)) (fun Q' h' => ?_) ?_
    · refine ⟨_, rfl, rfl, _, rfl, ?_⟩
      refine ite2 (fun e3 => ?_) (fun e3 => ?_)
      · have : decide (way = 3 ∨ way = 4) = true := decide_eq_true (.inl (V.int.inj (of_decide_eq_true e3)))
        rw [this] at h'
        exact h'
      · refine ⟨_, rfl, rfl, _, rfl, ?_⟩
        have : decide (V.int way = V.int 4) = decide (way = 3 ∨ way = 4) := by
          have n3 : way ≠ 3 := fun e => e3 (decide_eq_true (congrArg V.int e))
          by_cases h : way = 4
          · rw [decide_eq_true (congrArg V.int h), decide_eq_true (.inr h)]
          · rw [decide_eq_false (fun e => h (V.int.inj e)), decide_eq_false (fun e => e.elim n3 h)]
        rw [this]
        exact h'
    refine ite2 (fun e3 => ?_) (fun e3 => ?_)
    · refine ⟨⟨_, rfl⟩, .ref a, rfl, _, rfl, _, rfl, a, _, rfl, .inl (.inl ha7), fun s1 ns1 => ?_⟩
      rw [eu1]
      have hs1 : Strs (upd H7 s1 (.lst (u1.map V.str))) s1 u1 := upd_same
      refine ⟨.ref p, rfl, p, rfl, hP7.new ns1, fun H8 z sv8 hP8 hz => ⟨by show 1 ≤ sizeLine; omega, fun s2 ns2 => ?_⟩⟩
      have h8 := hs1.drawn (hP7.new ns1) sv8
      have ha8 := ((ha7.new ns1).drawn (hP7.new ns1) sv8).new (o := .lst [.str z]) ns2
      refine ⟨s1, s2, u1.map V.str, [.str z], rfl, rfl, h8.new ns2, upd_same, by rw [List.length_map]; show _ + 1 ≤ _; omega, fun s3 ns3 => ?_⟩
      refine ⟨.ref a, rfl, _, rfl, _, _, rfl, rfl, _, rfl, a, _, rfl, .inl (.inl (ha8.new ns3)), fun s4 ns4 => ?_⟩
      rw [eu2]
      have h3 : (upd (upd (upd H8 s2 (.lst [.str z])) s3 (.lst (u1.map V.str ++ [.str z]))) s4 (.lst (u2.map V.str))) s3 = some (.lst (u1.map V.str ++ [.str z])) := by
        rw [upd_ne (ne_of_none upd_same ns4), upd_same]
      refine ⟨s3, s4, _, _, rfl, rfl, h3, upd_same, by rw [List.length_append, List.length_map, List.length_map]; show _ + 1 + _ ≤ _; omega, fun s5 ns5 => ?_⟩
      have hw5 : wsum (u1 ++ [z] ++ u2) ≤ 2 * x.length + 200 := by
        rw [wsum_append, wsum_append, wsum_one]; omega
      refine ⟨sp, s5, u1 ++ [z] ++ u2, rfl, rfl, .inl (.inl (.inl (by rw [upd_same, List.map_append, List.map_append]; rfl))), j1 (by omega), ?_⟩
      have := joined_len (u1 ++ [z] ++ u2)
      exact q _ _ ((((((sv7.trans (Sv.new ns1)).trans sv8).trans (Sv.new ns2)).trans (Sv.new ns3)).trans (Sv.new ns4)).trans (Sv.new ns5)) (((((hP8.new ns2).new ns3).new ns4).new ns5)) (by omega)
    refine ⟨_, rfl, rfl, _, rfl, ?_⟩
    refine ite2 (fun e5 => ?_) (fun e5 => ?_)
    · refine ⟨⟨_, rfl⟩, .ref a, rfl, _, rfl, _, rfl, a, _, rfl, .inl (.inl ha7), fun s1 ns1 => ?_⟩
      rw [eu1]
      refine ⟨.ref a, rfl, _, rfl, _, _, rfl, rfl, _, rfl, a, _, rfl, .inl (.inl (ha7.new ns1)), fun s2 ns2 => ?_⟩
      rw [eu2]
      refine ⟨s1, s2, _, _, rfl, rfl, by rw [upd_ne (ne_of_none upd_same ns2), upd_same], upd_same, by rw [List.length_map, List.length_map]; omega, fun s5 ns5 => ?_⟩
      have hw5 : wsum (u1 ++ u2) ≤ 2 * x.length + 200 := by
        rw [wsum_append]; omega
      refine ⟨sp, s5, u1 ++ u2, rfl, rfl, .inl (.inl (.inl (by rw [upd_same, List.map_append]))), j1 (by omega), ?_⟩
      have := joined_len (u1 ++ u2)
      exact q _ _ (((sv7.trans (Sv.new ns1)).trans (Sv.new ns2)).trans (Sv.new ns5)) (((hP7.new ns1).new ns2).new ns5) (by omega)
    refine ⟨_, rfl, rfl, _, rfl, ?_⟩
    refine ite2 (fun e6 => ?_) (fun e6 => ?_)
    · refine ⟨⟨_, rfl⟩, .ref a, rfl, _, rfl, _, rfl, a, _, rfl, .inl (.inl ha7), fun s1 ns1 => ?_⟩
      rw [eu1]
      have ha8 := ha7.new (o := .lst (u1.map V.str)) ns1
      refine ⟨.ref a, rfl, _, rfl, a, _, _, _, rfl, rfl, .inl (.inl ha8), ek, .ref a, rfl, _, rfl, a, _, _, _, rfl, rfl, .inl (.inl ha8), ek, by show 2 ≤ sizeLine; omega, fun s2 ns2 => ?_⟩
      refine ⟨s1, s2, _, _, rfl, rfl, by rw [upd_ne (ne_of_none upd_same ns2), upd_same], upd_same, by rw [List.length_map]; show _ + 2 ≤ _; omega, fun s3 ns3 => ?_⟩
      refine ⟨.ref a, rfl, _, rfl, _, _, rfl, rfl, _, rfl, a, _, rfl, .inl (.inl ((ha8.new ns2).new ns3)), fun s4 ns4 => ?_⟩
      rw [eu2]
      refine ⟨s3, s4, _, _, rfl, rfl, by rw [upd_ne (ne_of_none upd_same ns4), upd_same], upd_same, by rw [List.length_append, List.length_map, List.length_map]; show _ + 2 + _ ≤ _; omega, fun s5 ns5 => ?_⟩
      have hw5 : wsum (u1 ++ [ws[k], ws[k]] ++ u2) ≤ 4 * x.length + 200 := by
        rw [wsum_append, wsum_append, wsum_cons, wsum_one]; omega
      refine ⟨sp, s5, u1 ++ [ws[k], ws[k]] ++ u2, rfl, rfl, .inl (.inl (.inl (by rw [upd_same, List.map_append, List.map_append]; rfl))), j1 (by omega), ?_⟩
      have := joined_len (u1 ++ [ws[k], ws[k]] ++ u2)
      exact q _ _ (((((sv7.trans (Sv.new ns1)).trans (Sv.new ns2)).trans (Sv.new ns3)).trans (Sv.new ns4)).trans (Sv.new ns5)) (((((hP7.new ns1).new ns2).new ns3).new ns4).new ns5) (by omega)
    refine ⟨_, rfl, rfl, _, rfl, ?_⟩
    refine ite2 (fun e7 => ?_) (fun e7 => ?_)
    · refine ⟨⟨_, rfl⟩, .ref a, rfl, _, rfl, _, rfl, a, _, rfl, .inl (.inl ha7), fun s1 ns1 => ?_⟩
      rw [eu1]
      have ha8 := ha7.new (o := .lst (u1.map V.str)) ns1
      refine ⟨.ref a, rfl, _, rfl, _, _, rfl, rfl, _, rfl, _, rfl, _, _, rfl, rfl, _, rfl, a, _, rfl, .inl (.inl ha8), fun s2 ns2 => ?_⟩
      rw [eu3]
      have ha9 := ha8.new (o := .lst (u3.map V.str)) ns2
      refine ⟨s1, s2, _, _, rfl, rfl, by rw [upd_ne (ne_of_none upd_same ns2), upd_same], upd_same, by rw [List.length_map, List.length_map]; omega, fun s3 ns3 => ?_⟩
      have ha10 := ha9.new (o := .lst (u1.map V.str ++ u3.map V.str)) ns3
      refine ⟨.ref a, rfl, _, rfl, a, _, _, _, rfl, rfl, .inl (.inl ha10), ek, by show 1 ≤ sizeLine; omega, fun s4 ns4 => ?_⟩
      refine ⟨s3, s4, _, _, rfl, rfl, by rw [upd_ne (ne_of_none upd_same ns4), upd_same], upd_same, by rw [List.length_append, List.length_map, List.length_map]; show _ + _ + 1 ≤ _; omega, fun s5 ns5 => ?_⟩
      refine ⟨.ref a, rfl, _, rfl, _, _, rfl, rfl, _, rfl, a, _, rfl, .inl (.inl ((ha10.new ns4).new ns5)), fun s6 ns6 => ?_⟩
      rw [eu4]
      refine ⟨s5, s6, _, _, rfl, rfl, by rw [upd_ne (ne_of_none upd_same ns6), upd_same], upd_same, by rw [List.length_append, List.length_append, List.length_map, List.length_map, List.length_map]; show _ + _ + 1 + _ ≤ _; omega, fun s7 ns7 => ?_⟩
      have hw5 : wsum (u1 ++ u3 ++ [ws[k]] ++ u4) ≤ 4 * x.length + 200 := by
        rw [wsum_append, wsum_append, wsum_append, wsum_one]; omega
      refine ⟨sp, s7, u1 ++ u3 ++ [ws[k]] ++ u4, rfl, rfl, .inl (.inl (.inl (by rw [upd_same, List.map_append, List.map_append, List.map_append]; rfl))), j1 (by omega), ?_⟩
      have := joined_len (u1 ++ u3 ++ [ws[k]] ++ u4)
      exact q _ _ (((((((sv7.trans (Sv.new ns1)).trans (Sv.new ns2)).trans (Sv.new ns3)).trans (Sv.new ns4)).trans (Sv.new ns5)).trans (Sv.new ns6)).trans (Sv.new ns7)) (((((((hP7.new ns1).new ns2).new ns3).new ns4).new ns5).new ns6).new ns7) (by omega)
    refine ⟨_, rfl, rfl, _, rfl, ?_⟩
    refine ite2 (fun e8 => ?_) (fun e8 => ?_)
    · have turn : ∀ (z : Str) (H0 : Hp) (s1 : Addr) (i : Nat) (H' : Hp), i < 14 → Reps z H0 s1 i H' → ∃ acc, H' s1 = some (.lst acc) ∧ acc.length < sizeLine ∧ Reps z H0 s1 (i + 1) (upd H' s1 (.lst (acc ++ [.str z]))) := by
        rintro z H0 s1 i H' hi ⟨g1, g2⟩
        refine ⟨_, g2, by rw [List.length_map, List.length_replicate]; omega, g1.trans (Sv.set (by simp)), ?_⟩
        rw [upd_same, List.replicate_succ', List.map_append]
        rfl
      refine ⟨⟨_, rfl⟩, _, rfl, low, rfl, by omega, by omega, fun s1 ns1 => lc_range (lo := 0) (n := low) (Reps "[" H7 s1) ⟨Sv.new ns1, upd_same⟩ ?_ ?_⟩
      · intro i H' hi p'
        exact ⟨rfl, turn _ _ _ _ _ (by omega) p'⟩
      rintro H8 ⟨g8, h8⟩
      have sv8 : Sv [p] H7 H8 := (Sv.drop ns1 g8).mono (by simp)
      have ha8 := ha7.drawn hP7 sv8
      have hP8 : Pool H8 p := hP7.same (Sv.nil (Sv.drop ns1 g8))
      refine ⟨.ref a, rfl, s1, a, _, _, rfl, rfl, h8, ha8, by rw [List.length_map, List.length_map, List.length_replicate]; omega, fun s2 ns2 => ?_⟩
      generalize hH9 : upd H8 s2 (.lst ((List.replicate low ("[" : Str)).map V.str ++ ws.map V.str)) = H9
      have h9 : H9 s2 = some (.lst ((List.replicate low ("[" : Str)).map V.str ++ ws.map V.str)) := by rw [← hH9]; exact upd_same
      have sv9 : Sv [p] H8 H9 := by rw [← hH9]; exact Sv.new ns2
      have hP9 : Pool H9 p := by rw [← hH9]; exact hP8.new ns2
      refine ⟨_, rfl, low, rfl, by omega, by omega, fun s3 ns3 => lc_range (lo := 0) (n := low) (Reps "]" H9 s3) ⟨Sv.new ns3, upd_same⟩ ?_ ?_⟩
      · intro i H' hi p'
        exact ⟨rfl, turn _ _ _ _ _ (by omega) p'⟩
      rintro H10 ⟨g10, h10⟩
      have sm := Sv.nil (Sv.drop ns3 g10)
      refine ⟨s2, s3, _, _, rfl, rfl, sm _ _ h9, h10, by rw [List.length_append, List.length_map, List.length_map, List.length_map, List.length_replicate, List.length_replicate]; omega, fun s4 ns4 => ?_⟩
      have hw5 : wsum (List.replicate low ("[" : Str) ++ ws ++ List.replicate low ("]" : Str)) ≤ x.length + 100 := by
        rw [wsum_append, wsum_append, wsum_rep, wsum_rep]
        have e1 : ("[" : Str).length = 1 := rfl
        have e2 : ("]" : Str).length = 1 := rfl
        rw [e1, e2]
        omega
      refine ⟨sp, s4, List.replicate low ("[" : Str) ++ ws ++ List.replicate low ("]" : Str), rfl, rfl, .inl (.inl (.inl (by rw [upd_same, List.map_append, List.map_append]))), j1 (by omega), ?_⟩
      have := joined_len (List.replicate low ("[" : Str) ++ ws ++ List.replicate low ("]" : Str))
      exact q _ _ ((((sv7.trans sv8).trans sv9).trans (Sv.same sm)).trans (Sv.new ns4)) ((hP9.same sm).new ns4) (by omega)
    refine ⟨_, rfl, _, rfl, _, _, rfl, rfl, by omega, _, rfl, _, _, rfl, rfl, by rw [len_append]; omega, ?_⟩
    exact q _ _ sv7 hP7 (by rw [len_append, len_append]; omega)
end
end RS

namespace RS
open PySem PySem.Spec PyProof.Rows L2 TL
open PySem.NumText (AllDigits digitsVal)

theorem digits_fold : ∀ (l : List Nat) (a : Nat), AllDigits l → l.foldl (fun a c => a * 10 + (c - 48)) a + 1 ≤ (a + 1) * 10 ^ l.length
  | [], a, _ => by simp
  | c :: r, a, h => by
    have hc := h c (by simp)
    have ih := digits_fold r (a * 10 + (c - 48)) (fun x hx => h x (by simp [hx]))
    rw [List.foldl_cons, List.length_cons, Nat.pow_succ]
    refine Nat.le_trans ih ?_
    have e : (a + 1) * (10 ^ r.length * 10) = ((a + 1) * 10) * 10 ^ r.length := by
      rw [Nat.mul_comm (10 ^ r.length) 10, Nat.mul_assoc]
    rw [e]
    exact Nat.mul_le_mul_right _ (by omega)
theorem digits_lt {l : List Nat} (h : AllDigits l) (hl : l.length ≤ 60) : digitsVal l < 10 ^ 60 := by
  have := digits_fold l 0 h
  have e : digitsVal l = l.foldl (fun a c => a * 10 + (c - 48)) 0 := rfl
  have p : 10 ^ l.length ≤ 10 ^ 60 := Nat.pow_le_pow_right (by decide) hl
  rw [e]
  omega
theorem tokIn_ok {s : Str} {d : D} (h : tokIn s = some d) : ok d := by
  unfold tokIn at h
  split at h
  · rename_i e; cases h; exact e
  · split at h
    · rename_i e
      cases h
      show (numV s).natAbs < 10 ^ 60
      unfold numV
      rcases num_cases e with ⟨n1, n2, n3, n4, _⟩ | ⟨ds, n1, n2, n3, n4, _⟩
      · rw [if_neg n1]
        have := digits_lt n2 n4
        omega
      · rw [if_pos (by rw [n1]; rfl), n1]
        have := digits_lt n2 n4
        show (-((digitsVal ds : Nat) : Int)).natAbs < _
        omega
    · cases h
theorem step_ok {st st' : List (List D)} {w : Str} (h : step st w = some st') (hp : ∀ ds ∈ st, okL ds) : ∀ ds ∈ st', okL ds := by
  unfold step at h
  split at h
  · split at h
    · cases h
      intro ds hd
      rcases List.mem_cons.mp hd with rfl | hd
      · exact trivial
      · exact hp ds hd
    · cases h
  · split at h
    · split at h
      · rename_i top b r
        cases h
        intro ds hd
        rcases List.mem_cons.mp hd with rfl | hd
        · exact okL_append.mpr ⟨hp b (by simp), hp top (by simp), trivial⟩
        · exact hp ds (by simp [hd])
      · cases h
    · split at h
      · rename_i d top r hk
        cases h
        intro ds hd
        rcases List.mem_cons.mp hd with rfl | hd
        · exact okL_append.mpr ⟨hp top (by simp), tokIn_ok hk, trivial⟩
        · exact hp ds (by simp [hd])
      · cases h
theorem fold_ok : ∀ (ws : List Str) {st st' : List (List D)}, ws.foldlM step st = some st' → (∀ ds ∈ st, okL ds) → ∀ ds ∈ st', okL ds
  | [], st, st', h, hp => by cases h; exact hp
  | w :: ws, st, st', h, hp => by
    rw [List.foldlM_cons] at h
    cases hs : step st w with
    | none => rw [hs] at h; cases h
    | some s1 =>
      rw [hs] at h
      exact fold_ok ws (st := s1) h (step_ok hs hp)
theorem rdVals_ok {text : Str} {ds : List D} (h : rdVals text = some ds) : okL ds := by
  unfold rdVals rdToks at h
  split at h
  · rename_i x e
    cases h
    exact fold_ok _ e (fun ds hd => by
      have : ds = [] := by simpa using hd
      rw [this]; trivial) _ (by simp)
  · cases h
theorem rd_ok {text : Str} {d : D} (h : rd text = some d) : ok d := by
  unfold rd at h
  split at h
  · rename_i x e
    cases h
    exact (rdVals_ok e).1
  · cases h
mutual
theorem small_of : ∀ {d : D}, ok d → smallD d
  | .int i, h => log_small h
  | .bl _, h => h.elim
  | .str _, _ => trivial
  | .tup ds, h => smallL_of (ds := ds) h
theorem smallL_of : ∀ {ds : List D}, okL ds → smallL ds
  | [], _ => trivial
  | d :: r, h => ⟨small_of h.1, smallL_of h.2⟩
end
/-- a value that was read: its sizes -/
theorem rd_sizes {text : Str} {d : D} (h : rd text = some d) : wr d = text ∧ dep d ≤ 12 ∧ ok d ∧ wsum (toks d) = text.length + 1 := by
  obtain ⟨a, b, c⟩ := rd_back h
  exact ⟨a, b, rd_ok h, by rw [c]; exact split_sum text⟩
end RS

namespace L2
open PySem PySem.Spec PyProof.Rows
/-- isinstance(e, c) in the suite, whatever it caught -/
def rIsSupG (K : PySem.W.Frag) (D a : Addr) (cls : Value) (d : Option Addr) : List V → Hp → VK → Prop := fun xs H Q => cls = .ref D ∧ ∃ dd, d = some dd ∧ rIsSup K D a dd xs H Q
theorem call_isSupG {X : Cx} {a D : Addr} {cls : Value} {d : Option Addr} {oe : Obj} {pn : List (Addr × Obj)} (C : PySem.SupX.IsTxt X.K D) (hz : Zc cls d oe) (hf : ∃ vs, oe.data = .fields vs) : CallR (X.suite a ((a, oe) :: pn)) (.builtin "isinstance") (rIsSupG X.K D a cls d) := by
  intro pins s σ H xs us Q I r h
  obtain ⟨e1, dd, e2, h⟩ := h
  subst e1
  subst e2
  exact call_isSup C hz hf pins s σ H xs us Q I r h
end L2
namespace RS
open PySem PySem.Spec PyProof.Rows L2 TL

abbrev s_law_marks : Stmt := topS 39
theorem sc_law_marks : FnScope ["text", "found", "e"] ["text"] (defScope s_law_marks) := ⟨rfl, rfl, rfl, by decide +kernel, rfl, by decide +kernel, by decide +kernel⟩
abbrev s_law_told : Stmt := topS 40
theorem sc_law_told : FnScope ["text", "caught", "number", "value", "e"] ["text"] (defScope s_law_told) := ⟨rfl, rfl, rfl, by decide +kernel, rfl, by decide +kernel, by decide +kernel⟩
abbrev s_law_due : Stmt := topS 41
theorem sc_law_due : FnScope ["text", "got"] ["text"] (defScope s_law_due) := ⟨rfl, rfl, rfl, by decide +kernel, rfl, by decide +kernel, by decide +kernel⟩
abbrev s_law : Stmt := topS 42
theorem sc_law : FnScope ["script", "pool", "value", "text", "turn", "bent", "due", "k"] ["script"] (defScope s_law) := ⟨rfl, rfl, rfl, by decide +kernel, rfl, by decide +kernel, by decide +kernel⟩

/-- the six errors -/
structure ExL (P : Program) (K : PySem.W.Frag) (mg : Str → Option Value) (C fI R Bk De Qu Tm : Addr) : Prop extends Ex P K mg C fI where
  g_RightsteadError : mg "RightsteadError" = some (.ref R)
  g_WordError : mg "WordError" = some (.ref C)
  g_BookError : mg "BookError" = some (.ref Bk)
  g_DeedError : mg "DeedError" = some (.ref De)
  g_QuestionError : mg "QuestionError" = some (.ref Qu)
  g_TooMany : mg "TooMany" = some (.ref Tm)
  is_WordError : PySem.SupX.IsTxt K C
  is_RightsteadError : PySem.SupX.IsTxt K C
  ex_R : PySem.W.exmOne K (.ref C) (.ref R) = some true
  ex_W : PySem.W.exmOne K (.ref C) (.ref C) = some true
  k_V : PySem.W.kitOne K (.ref C) (.type "ValueError") = some true
  k_W : PySem.W.kitOne K (.ref C) (.ref C) = some true
  k_B : PySem.W.kitOne K (.ref C) (.ref Bk) = some false
  k_D : PySem.W.kitOne K (.ref C) (.ref De) = some false
  k_Q : PySem.W.kitOne K (.ref C) (.ref Qu) = some false
  k_T : PySem.W.kitOne K (.ref C) (.ref Tm) = some false

def markL : List D := [.bl true, .bl true, .bl false, .bl false, .bl false, .bl false]
def toldD (s : Str) : D := match rd s with
  | some d => .tup [.str "read", d]
  | none => .tup (.str "refused" :: .int 1 :: markL)

theorem told_none {K : PySem.W.Frag} {z : Str} {H : Hp} {p : Addr} (h : rd z = none) (e : H p = some (.tup [.str "refused", .int 1, .bl true, .bl true, .bl false, .bl false, .bl false, .bl false])) : Rp K H (toldD z) (.ref p) := by
  unfold toldD
  rw [h]
  exact ⟨p, _, rfl, .inl (.inl e), _, _, rfl, rfl, _, _, rfl, rfl, _, _, rfl, rfl, _, _, rfl, rfl, _, _, rfl, rfl, _, _, rfl, rfl, _, _, rfl, rfl, _, _, rfl, rfl, rfl⟩

theorem nm_line : SupNm PySem.Challenge.pw_rightstead_k75_values_as_text "line" "line " (some " is at fault") :=
  { hpre := by decide +kernel, hsuf := fun t e => by cases e; decide +kernel, hbd := PySem.SupX.bind_line, xs := by decide +kernel, x1 := by decide +kernel, x2 := by decide +kernel, x3 := by decide +kernel, htop := by decide +kernel }

section
variable {P : Program} {w : World} {K : PySem.W.Frag} {mg : Str → Option Value} {base : Heap} {t1 t2 t3 t4 t5 : Tok} {C fI R Bk De Qu Tm : Addr}

def spMarks (K : PySem.W.Frag) : Sp := fun vs H Q _ => ∃ s : Str, vs = [.str s] ∧ s.length ≤ 900000 ∧ rd s = none ∧ ∀ H' v, Same H H' → Rp K H' (.tup markL) v → Q v H'
theorem ok_law_marks (T : CnT mg t1 t2 t3 t4 t5) (Z : ExL P K mg C fI R Bk De Qu Tm) (Df : HasDef K mg "_law_marks" s_law_marks ["text"]) (C_read_value : Has P w K mg base (L2.CX P w) 5 "read_value" ["text"] (spRead K C)) :
    Has P w K mg base CX0 6 "_law_marks" ["text"] (spMarks K) := by
  refine Df.has fun f fd F => F.ok sc_law_marks (fun vs H Q E h => ?_) (fun cdv A outer s H vs Q E hr h => ?_)
  · obtain ⟨x, rfl, _⟩ := h; rfl
  · obtain ⟨z, rfl, hl, hn, q⟩ := h
    refine ⟨_, (pss_cons (ps_set (i := 1) sc_law_marks.nd rfl (Or.inl rfl) (pe_tup pa_nil))
  (pss_cons (ps_try_as (i := 2) rfl rfl sc_law_marks.nd rfl rfl ⟨rfl, by decide, Or.inl Z.g_RightsteadError⟩ takes0 (fun W pn xe tk pas => (pss_one (ps_expr (pe_hasS C_read_value (hr.mono (by omega)) tk (by exact (pa_cons (pv 0) pa_nil)))))) (fun a oe cls d pn hz hf => (pss_cons (ps_set (i := 1) sc_law_marks.nd rfl (Or.inl rfl) (pe_tup (pa_cons (pe_callB (call_isSupG Z.is_RightsteadError hz hf) (by rfl) T.m_isinstance (by decide +kernel) (pa_cons (pv 2) (pa_cons (pe_bltn (v := .ty "ValueError") (u := .type "ValueError") (by rfl) T.m_ValueError (by decide +kernel) rfl) pa_nil))) (pa_cons (pe_callB (call_isSupG Z.is_RightsteadError hz hf) (by rfl) T.m_isinstance (by decide +kernel) (pa_cons (pv 2) (pa_cons (pe_glob (v := .ref C) (by rfl) Z.g_WordError rfl) pa_nil))) (pa_cons (pe_callB (call_isSupG Z.is_RightsteadError hz hf) (by rfl) T.m_isinstance (by decide +kernel) (pa_cons (pv 2) (pa_cons (pe_glob (v := .ref Bk) (by rfl) Z.g_BookError rfl) pa_nil))) (pa_cons (pe_callB (call_isSupG Z.is_RightsteadError hz hf) (by rfl) T.m_isinstance (by decide +kernel) (pa_cons (pv 2) (pa_cons (pe_glob (v := .ref De) (by rfl) Z.g_DeedError rfl) pa_nil))) pa_nil))))))
  (pss_one (ps_set (i := 1) sc_law_marks.nd rfl (Or.inl rfl) (pe_op (show OpR _ _ (rCatA K) from op_catA) (pv 1) (pe_tup (pa_cons (pe_callB (call_isSupG Z.is_RightsteadError hz hf) (by rfl) T.m_isinstance (by decide +kernel) (pa_cons (pv 2) (pa_cons (pe_glob (v := .ref Qu) (by rfl) Z.g_QuestionError rfl) pa_nil))) (pa_cons (pe_callB (call_isSupG Z.is_RightsteadError hz hf) (by rfl) T.m_isinstance (by decide +kernel) (pa_cons (pv 2) (pa_cons (pe_glob (v := .ref Tm) (by rfl) Z.g_TooMany rfl) pa_nil))) pa_nil)))))))))
  (pss_one (ps_ret (pv 1))))), ?_⟩
    have hsz := sizeLine_eq
    refine ⟨by show 0 ≤ sizeLine; omega, fun p0 np0 => ?_⟩
    have s0 : Same H (upd H p0 (.tup [])) := Sv.nil (Sv.new np0)
    refine ⟨.str z, rfl, z, rfl, hl, fun d hd => (by rw [hn] at hd; cases hd), fun _ H1 dd s1 hdd hdn => ?_⟩
    refine ⟨true, Z.ex_R, fun _ a na => ?_, fun q => nomatch q⟩
    have isx : ∀ {c : V} {cv : Value} {b : Bool} {H2 : Hp} {Q2 : VK}, (∀ u, RelV c u → u = cv) → H2 dd = some (.xd [("line", .int 1)]) → PySem.W.kitOne K (.ref C) cv = some b → Q2 (.bl b) H2 → rIsSupG K C a (.ref C) (some dd) [.ref a, c] H2 Q2 :=
      fun h1 h2 h3 h4 => ⟨rfl, dd, rfl, _, _, _, _, rfl, h1, h2, h3, h4⟩
    have sq1 : ∀ {p : Addr} {xs : List V} {H2 : Hp}, H2 p = some (.tup xs) → SqT K H2 p xs := fun h => .inl (.inl h)
    refine ⟨.ref a, rfl, isx (fun _ h => h) hdd Z.k_V ?_⟩
    refine ⟨.ref a, rfl, isx (fun _ h => h) hdd Z.k_W ?_⟩
    refine ⟨.ref a, rfl, isx (fun _ h => h) hdd Z.k_B ?_⟩
    refine ⟨.ref a, rfl, isx (fun _ h => h) hdd Z.k_D ?_⟩
    refine ⟨by show 4 ≤ sizeLine; omega, fun p np => ?_⟩
    have s2 := s0.trans (s1.trans (Sv.nil (Sv.new (o := .tup [.bl true, .bl true, .bl false, .bl false]) np)))
    have hdd2 : (upd H1 p (.tup [.bl true, .bl true, .bl false, .bl false])) dd = some (.xd [("line", .int 1)]) := (Sv.nil (Sv.new np)) _ _ hdd
    refine ⟨.ref p, rfl, .ref a, rfl, isx (fun _ h => h) hdd2 Z.k_Q ?_⟩
    refine ⟨.ref a, rfl, isx (fun _ h => h) hdd2 Z.k_T ?_⟩
    refine ⟨by show 2 ≤ sizeLine; omega, fun p2 np2 => ?_⟩
    have hp2 : (upd (upd H1 p (.tup [.bl true, .bl true, .bl false, .bl false])) p2 (.tup [.bl false, .bl false])) p = some (.tup [.bl true, .bl true, .bl false, .bl false]) := (Sv.nil (Sv.new np2)) _ _ upd_same
    refine ⟨p, p2, _, _, rfl, rfl, sq1 hp2, sq1 upd_same, by show 4 + 2 ≤ sizeLine; omega, fun e => (by cases e), fun _ e => (by cases e), fun _ _ p3 np3 => ?_⟩
    refine ⟨.ref p3, rfl, ?_⟩
    exact q _ _ (s2.trans ((Sv.nil (Sv.new np2)).trans (Sv.nil (Sv.new np3)))) ⟨p3, _, rfl, sq1 upd_same, _, _, rfl, rfl, _, _, rfl, rfl, _, _, rfl, rfl, _, _, rfl, rfl, _, _, rfl, rfl, _, _, rfl, rfl, rfl⟩

def spTold (K : PySem.W.Frag) : Sp := fun vs H Q _ => ∃ s : Str, vs = [.str s] ∧ s.length ≤ 900000 ∧ ∀ H' v, Same H H' → Rp K H' (toldD s) v → Q v H'
theorem ok_law_told (T : CnT mg t1 t2 t3 t4 t5) (Z : ExL P K mg C fI R Bk De Qu Tm) (Df : HasDef K mg "_law_told" s_law_told ["text"]) (C_read_value : Has P w K mg base (L2.CX P w) 5 "read_value" ["text"] (spRead K C))
    (C_law_marks : Has P w K mg base CX0 6 "_law_marks" ["text"] (spMarks K)) :
    Has P w K mg base CX0 7 "_law_told" ["text"] (spTold K) := by
  refine Df.has fun f fd F => F.ok sc_law_told (fun vs H Q E h => ?_) (fun cdv A outer s H vs Q E hr h => ?_)
  · obtain ⟨x, rfl, _⟩ := h; rfl
  · obtain ⟨z, rfl, hl, q⟩ := h
    refine ⟨_, (pss_cons (ps_set (i := 1) sc_law_told.nd rfl (Or.inl rfl) pe_bl)
  (pss_cons (ps_set (i := 2) sc_law_told.nd rfl (Or.inl rfl) pe_int)
  (pss_cons (ps_set (i := 3) sc_law_told.nd rfl (Or.inl rfl) pe_int)
  (pss_cons (ps_try_as (i := 4) rfl rfl sc_law_told.nd rfl rfl ⟨rfl, by decide, Or.inl Z.g_WordError⟩ takes0 (fun W pn xe tk pas => (pss_one (ps_set (i := 3) sc_law_told.nd rfl (Or.inl rfl) (pe_hasS C_read_value (hr.mono (by omega)) tk (by exact (pa_cons (pv 0) pa_nil)))))) (fun a oe cls d pn hz hf => (pss_cons (ps_set (i := 1) sc_law_told.nd rfl (Or.inl rfl) pe_bl)
  (pss_one (ps_set (i := 2) sc_law_told.nd rfl (Or.inl rfl) (pe_bySup Z.WordError_ hz hf (pv 4)))))))
  (pss_cons (ps_if (pt_not (pt_val (pv 1)))
  (pss_one (ps_ret (pe_tup (pa_cons pe_str (pa_cons (pv 3) pa_nil)))))
  pss_nil)
  (pss_one (ps_ret (pe_op (show OpR _ _ (rCatA K) from op_catA) (pe_tup (pa_cons pe_str (pa_cons (pv 2) pa_nil))) (pe_has C_law_marks (hr.mono (by omega)) pass0 (pa_cons (pv 0) pa_nil)))))))))), ?_⟩
    have hsz := sizeLine_eq
    have sq1 : ∀ {p : Addr} {xs : List V} {H2 : Hp}, H2 p = some (.tup xs) → SqT K H2 p xs := fun h => .inl (.inl h)
    refine ⟨.str z, rfl, z, rfl, hl, fun d hd H1 v s1 rv => ?_, fun hn H1 dd s1 hdd hdn => ?_⟩
    · refine ⟨_, rfl, _, rfl, ?_⟩
      refine iteT ?_
      refine ⟨v, rfl, by show 2 ≤ sizeLine; omega, fun p np => ?_⟩
      refine q _ _ (s1.trans (Sv.nil (Sv.new np))) ?_
      unfold toldD
      rw [hd]
      exact ⟨p, _, rfl, sq1 upd_same, _, _, rfl, rfl, _, _, rfl, rv.keep (TK.same (Sv.nil (Sv.new np))), rfl⟩
    · refine ⟨true, Z.ex_W, fun _ a na => ?_, fun q => nomatch q⟩
      refine ⟨.ref a, rfl, rfl, rfl, dd, .int 1, rfl, hdd, ?_⟩
      refine ⟨_, rfl, _, rfl, ?_⟩
      refine iteF ?_
      refine ⟨_, rfl, by show 2 ≤ sizeLine; omega, fun p np => ?_⟩
      refine ⟨.str z, rfl, z, rfl, hl, hn, fun H2 v s2 rv => ?_⟩
      obtain ⟨p2, xs, rfl, sx, rl⟩ := rv
      have hxl : xs.length = 6 := rl.len
      have hp2 : H2 p = some (.tup [.str "refused", .int 1]) := s2 _ _ upd_same
      refine ⟨p, p2, _, _, rfl, rfl, sq1 hp2, sx, by rw [hxl]; show 2 + 6 ≤ sizeLine; omega, fun e => (by cases e), fun _ e => (by rw [e] at hxl; cases hxl), fun _ _ p3 np3 => ?_⟩
      refine q _ _ (s1.trans ((Sv.nil (Sv.new np)).trans (s2.trans (Sv.nil (Sv.new np3))))) ?_
      unfold toldD
      rw [hn]
      exact ⟨p3, _, rfl, sq1 upd_same, _, _, rfl, rfl, _, _, rfl, rfl, rl.keep (TK.same (Sv.nil (Sv.new np3)))⟩

def spDue (K : PySem.W.Frag) : Sp := fun vs H Q _ => ∃ s : Str, vs = [.str s] ∧ s.length ≤ 900000 ∧ ∀ H' v, Same H H' → Rp K H' (toldD s) v → Q v H'
theorem ok_law_due (T : CnT mg t1 t2 t3 t4 t5) (Df : HasDef K mg "_law_due" s_law_due ["text"]) (C_law_read : Has P w K mg base CX0 2 "_law_read" ["text"] (spLRead K)) :
    Has P w K mg base CX0 3 "_law_due" ["text"] (spDue K) := by
  refine Df.has fun f fd F => F.ok sc_law_due (fun vs H Q E h => ?_) (fun cdv A outer s H vs Q E hr h => ?_)
  · obtain ⟨x, rfl, _⟩ := h; rfl
  · obtain ⟨z, rfl, hl, q⟩ := h
    refine ⟨_, (pss_cons (ps_set (i := 1) sc_law_due.nd rfl (Or.inl rfl) (pe_has C_law_read (hr.mono (by omega)) pass0 (pa_cons (pv 0) pa_nil)))
  (pss_cons (ps_if (PW.pt (pw_or (pt_val (pe_callB call_isi (by rfl) T.m_isinstance (by decide +kernel) (pa_cons (pv 1) (pa_cons (pe_bltn (v := .ty "tuple") (u := .type "tuple") (by rfl) T.m_tuple (by decide +kernel) rfl) pa_nil)))) (pw_or1 (pt_cmpR op_ne (pe_callB call_len_seq (by rfl) T.m_len (by decide +kernel) (pa_cons (pv 1) pa_nil)) pe_int (nomark _)))))
  (pss_one (ps_ret (pe_tup (pa_cons pe_str (pa_cons pe_int (pa_cons pe_bl (pa_cons pe_bl (pa_cons pe_bl (pa_cons pe_bl (pa_cons pe_bl (pa_cons pe_bl pa_nil)))))))))))
  pss_nil)
  (pss_one (ps_ret (pe_tup (pa_cons pe_str (pa_cons (pe_ix ix_list (pv 1) pe_int (fun _ _ => rfl)) pa_nil))))))), ?_⟩
    have hsz := sizeLine_eq
    refine ⟨.str z, rfl, z, rfl, hl, fun ds hd H1 p xs s1 hp rl => ?_, fun hn H1 v s1 rv => ?_⟩
    · refine ⟨.ref p, rfl, _, _, _, _, _, rfl, .ty "tuple", .base (.lst hp), kit_ty (by decide +kernel : kitB "list" "tuple" = some false), _, rfl, ?_⟩
      refine iteF ?_
      refine ⟨.ref p, rfl, p, _, rfl, .inl (.inl (.inl hp)), rfl, _, rfl, ?_⟩
      refine ite2 (fun e1 => ?_) (fun e1 => ?_)
      · have hn : rd z = none := by
          have e2 : (!decide (V.int (xs.length : Int) = V.int 1)) = true := e1
          rw [rl.len] at e2
          unfold rd
          rw [hd]
          match ds, e2 with
          | [], _ => rfl
          | [x], h => simp at h
          | _ :: _ :: _, _ => rfl
        refine ⟨by show 8 ≤ sizeLine; omega, fun p2 np2 => q _ _ (s1.trans (Sv.nil (Sv.new np2))) ?_⟩
        exact told_none hn upd_same
      · have h1 : ds.length = 1 := by
          have e2 : ¬ (!decide (V.int (xs.length : Int) = V.int 1)) = true := e1
          rw [rl.len] at e2
          by_cases z : ds.length = 1
          · exact z
          · exfalso
            apply e2
            rw [decide_eq_false (fun y => z (by have := V.int.inj y; omega))]
            rfl
        obtain ⟨d, rfl⟩ : ∃ d, ds = [d] := by
          match ds, h1 with
          | [x], _ => exact ⟨x, rfl⟩
        have hr1 : rd z = some d := by unfold rd; rw [hd]
        obtain ⟨x, ys, rfl, rx, ry⟩ := rl
        refine ⟨.ref p, rfl, p, _, 0, x, rfl, rfl, .inl (.inl hp), atI_nat (j := 0) rfl, by show 2 ≤ sizeLine; omega, fun p2 np2 => q _ _ (s1.trans (Sv.nil (Sv.new np2))) ?_⟩
        unfold toldD
        rw [hr1]
        exact ⟨p2, _, rfl, .inl (.inl upd_same), _, _, rfl, rfl, _, _, rfl, rx.keep (TK.same (Sv.nil (Sv.new np2))), rfl⟩
    · obtain ⟨p, xs, rfl, sx, rl⟩ := rv
      refine ⟨.ref p, rfl, _, _, _, _, _, rfl, .ty "tuple", (show Rp K H1 faultD (.ref p) from ⟨p, xs, rfl, sx, rl⟩).ty, kit_ty (kb_tup faultD), _, rfl, ?_⟩
      refine iteT ?_
      have hr0 : rd z = none := by unfold rd; rw [hn]
      refine ⟨by show 8 ≤ sizeLine; omega, fun p2 np2 => q _ _ (s1.trans (Sv.nil (Sv.new np2))) ?_⟩
      exact told_none hr0 upd_same

theorem seqL_same {H H' : Hp} {a : Addr} {xs : List V} (s : Same H H') (h : SqL K H a xs) : SqL K H' a xs := by
  rcases h with (h | ⟨o, h⟩) | h
  · exact .inl (.inl (s _ _ h))
  · exact .inl (.inr ⟨o, s _ _ h⟩)
  · exact .inr h
theorem told_dep (z : Str) : dep (toldD z) < 15 := by
  unfold toldD
  cases h : rd z with
  | none => decide
  | some d =>
    have := (rd_sizes h).2.1
    show 1 + max 0 (max (dep d) 0) < 15
    omega
theorem told_wide {z : Str} (hz : z.length ≤ 800000) : wide (toldD z) := by
  unfold toldD
  cases h : rd z with
  | none => exact ⟨by decide, trivial, trivial, trivial, trivial, trivial, trivial, trivial, trivial, trivial⟩
  | some d =>
    obtain ⟨_, _, c, e⟩ := rd_sizes h
    exact ⟨by show 2 ≤ 1000000; omega, trivial, wide_of c (by omega), trivial⟩

def spLaw (K : PySem.W.Frag) : Sp := fun vs H Q _ => ∃ (a : Addr) (ns : List Int), vs = [.ref a] ∧ SqL K H a (ns.map V.int) ∧ ∀ H', Same H H' → Q (.bl true) H'
theorem ok_law (T : CnT mg t1 t2 t3 t4 t5)
    (C_write_value : Has P w K mg base CX0 22 "write_value" ["value"] (spWrite K))
    (C_law_pool : Has P w K mg base CX0 1 "_law_pool" ["script", "at"] (spPool K))
    (C_law_draw : Has P w K mg base CX0 1 "_law_draw" ["pool", "many"] spDraw)
    (C_law_same : Has P w K mg base CX0 16 "_law_same" ["got", "due"] (spSame K 15))
    (C_law_write : Has P w K mg base CX0 15 "_law_write" ["x"] (spLWrite K 14))
    (C_law_run : Has P w K mg base CX0 2 "_law_run" ["pool", "signs", "size"] spRun)
    (C_law_value : Has P w K mg base CX0 16 "_law_value" ["pool"] (spValue K))
    (C_law_bent : Has P w K mg base CX0 4 "_law_bent" ["pool", "text"] spBent)
    (C_law_told : Has P w K mg base CX0 7 "_law_told" ["text"] (spTold K))
    (C_law_due : Has P w K mg base CX0 3 "_law_due" ["text"] (spDue K)) :
    ∀ f fd, Fun K "law" "law" s_law f fd → FnOk P w K mg base CX0 23 f fd ["script"] (spLaw K) := by
  intro f fd F
  refine F.ok sc_law (fun vs H Q E h => ?_) (fun cdv A outer s H vs Q E hr h => ?_)
  · obtain ⟨a, ns, rfl, _⟩ := h; rfl
  · obtain ⟨a, ns, rfl, hS, q⟩ := h
    refine ⟨_, (pss_cons (ps_set (i := 1) sc_law.nd rfl (Or.inr rfl) (pe_has C_law_pool (hr.mono (by omega)) pass0 (pa_cons (pv 0) (pa_cons pe_int pa_nil))))
  (pss_cons (ps_set (i := 2) sc_law.nd rfl (Or.inl rfl) (pe_has C_law_value (hr.mono (by omega)) pass0 (pa_cons (pv 1) pa_nil)))
  (pss_cons (ps_set (i := 3) sc_law.nd rfl (Or.inl rfl) (pe_has C_law_write (hr.mono (by omega)) pass0 (pa_cons (pv 2) pa_nil)))
  (pss_cons (ps_if (PW.pt (pw_or (pt_not (pt_val (pe_has C_law_same (hr.mono (by omega)) pass0 (pa_cons (pe_has C_write_value (hr.mono (by omega)) pass0 (pa_cons (pv 2) pa_nil)) (pa_cons (pv 3) pa_nil))))) (pw_or1 (pt_not (pt_val (pe_has C_law_same (hr.mono (by omega)) pass0 (pa_cons (pe_has C_law_told (hr.mono (by omega)) pass0 (pa_cons (pv 3) pa_nil)) (pa_cons (pe_tup (pa_cons pe_str (pa_cons (pv 2) pa_nil))) pa_nil))))))))
  (pss_one (ps_ret pe_bl))
  pss_nil)
  (pss_cons (ps_for PassesOwn.never rfl (pi_range1 (by rfl) T.m_range (pa_cons pe_int pa_nil)) (pg_name (i := 4) sc_law.nd rfl (Or.inl rfl))
  (pss_cons (ps_set (i := 1) sc_law.nd rfl (Or.inr rfl) (pe_has C_law_pool (hr.mono (by omega)) pass0 (pa_cons (pv 0) (pa_cons (pe_op op_add pe_int (pv 4)) pa_nil))))
  (pss_cons (ps_if (pt_cmpR op_lt (pv 4) pe_int (nomark _))
  (pss_cons (ps_set (i := 5) sc_law.nd rfl (Or.inl rfl) (pe_has C_law_bent (hr.mono (by omega)) pass0 (pa_cons (pv 1) (pa_cons (pv 3) pa_nil))))
  (pss_one (ps_if (pt_cmpR op_eq (pe_has C_law_draw (hr.mono (by omega)) pass0 (pa_cons (pv 1) (pa_cons pe_int pa_nil))) pe_int (nomark _))
  (pss_one (ps_set (i := 5) sc_law.nd rfl (Or.inl rfl) (pe_has C_law_bent (hr.mono (by omega)) pass0 (pa_cons (pv 1) (pa_cons (pv 5) pa_nil)))))
  pss_nil)))
  (pss_one (ps_if (pt_cmpR op_eq (pv 4) pe_int (nomark _))
  (pss_one (ps_set (i := 5) sc_law.nd rfl (Or.inl rfl) (pe_has C_law_run (hr.mono (by omega)) pass0 (pa_cons (pv 1) (pa_cons pe_str (pa_cons (pe_has C_law_draw (hr.mono (by omega)) pass0 (pa_cons (pv 1) (pa_cons pe_int pa_nil))) pa_nil))))))
  (pss_one (ps_set (i := 5) sc_law.nd rfl (Or.inl rfl) (pe_join pe_str (pe_lc (own := [("k", 7)]) (g := gName 7) (tt := tYes) rfl sc_law.nd (pi_range1 (by rfl) T.m_range (pa_cons (pe_has C_law_draw (hr.mono (by omega)) pass0 (pa_cons (pv 1) (pa_cons pe_int pa_nil))) pa_nil)) (blkOk_by (own := [("k", 7)]) (N := ["script", "pool", "value", "text", "turn", "bent", "due", "k"]) (sc := defScope s_law) (by decide +kernel)) (fun _ _ _ _ _ => (pg_name (i := 7) sc_law.nd rfl (Or.inl rfl))) (fun _ _ _ _ _ => pts_nil) (fun _ _ _ _ _ => (pe_ix (show IxR _ (rIxT K) from ix_tup) (pe_tup (pa_cons pe_str (pa_cons pe_str (pa_cons pe_str (pa_cons pe_str (pa_cons pe_str (pa_cons pe_str (pa_cons pe_str pa_nil)))))))) (pe_has C_law_draw (hr.mono (by omega)) pass0 (pa_cons (pv 1) (pa_cons pe_int pa_nil))) (fun _ _ => rfl))))))))))
  (pss_cons (ps_set (i := 6) sc_law.nd rfl (Or.inl rfl) (pe_has C_law_due (hr.mono (by omega)) pass0 (pa_cons (pv 5) pa_nil)))
  (pss_cons (ps_if (pt_not (pt_val (pe_has C_law_same (hr.mono (by omega)) pass0 (pa_cons (pe_has C_law_told (hr.mono (by omega)) pass0 (pa_cons (pv 5) pa_nil)) (pa_cons (pv 6) pa_nil)))))
  (pss_one (ps_ret pe_bl))
  pss_nil)
  (pss_one (ps_if (PW.pt (pw_and (pt_cmpR op_eq (pe_ix (show IxR _ (rIxT K) from ix_tup) (pv 6) pe_int (fun _ _ => rfl)) pe_str (nomark _)) (pw_and1 (pt_not (pt_val (pe_has C_law_same (hr.mono (by omega)) pass0 (pa_cons (pe_has C_write_value (hr.mono (by omega)) pass0 (pa_cons (pe_ix (show IxR _ (rIxT K) from ix_tup) (pv 6) pe_int (fun _ _ => rfl)) pa_nil)) (pa_cons (pv 5) pa_nil))))))))
  (pss_one (ps_ret pe_bl))
  pss_nil)))))))
  (pss_one (ps_ret (pe_and (pe_has C_law_same (hr.mono (by omega)) pass0 (pa_cons (pe_has C_write_value (hr.mono (by omega)) pass0 (pa_cons (pv 2) pa_nil)) (pa_cons (pv 3) pa_nil))) (pe_one (pe_has C_law_same (hr.mono (by omega)) pass0 (pa_cons (pe_has C_law_told (hr.mono (by omega)) pass0 (pa_cons (pv 3) pa_nil)) (pa_cons (pe_tup (pa_cons pe_str (pa_cons (pv 2) pa_nil))) pa_nil)))))))))))), ?_⟩
    have hsz := sizeLine_eq
    have sq1 : ∀ {p : Addr} {xs : List V} {H2 : Hp}, H2 p = some (.tup xs) → SqT K H2 p xs := fun h => .inl (.inl h)
    refine ⟨.ref a, rfl, a, ns, 0, rfl, hS, by decide, fun H1 p s1 np hP => ?_⟩
    refine ⟨.ref p, rfl, p, rfl, hP, fun H2 v d sv2 hP2 rv od dd dw => ?_⟩
    have hr0 := rd_wr od dd
    obtain ⟨_, _, _, hwl⟩ := rd_sizes hr0
    have hlen : (wr d).length ≤ 30000 := by omega
    have sd := small_of od
    have S2 : Same H H2 := Sv.nil (Sv.drop np ((Sv.same s1).trans sv2))
    refine ⟨v, rfl, v, d, rfl, rv, by omega, sd, by omega, fun H3 s3 => ?_⟩
    have S3 := S2.trans s3
    have rv3 := rv.keep (TK.same s3)
    have d0 : ∀ z : Str, dep (.str z) < 15 := fun z => by show 0 < 15; omega
    have hdD : toldD (wr d) = .tup [.str "read", d] := by unfold toldD; rw [hr0]
    have wdD : wide (.tup [.str "read", d]) := by rw [← hdD]; exact told_wide (by omega)
    have ddD : dep (.tup [.str "read", d]) < 15 := by rw [← hdD]; exact told_dep _
    -- write_value(value) is the text
    refine ⟨v, rfl, v, d, rfl, rv3, by omega, sd, by omega, fun H4 s4 => ?_⟩
    have S4 := S3.trans s4
    have rv4 := rv3.keep (TK.same s4)
    refine ⟨_, rfl, _, _, .str (wr d), rfl, rfl, rfl, d0 _, trivial, _, rfl, ?_⟩
    refine iteF ?_
    refine ⟨_, rfl, wr d, rfl, by omega, fun H5 v5 s5 r5 => ?_⟩
    rw [hdD] at r5
    have rv5 := rv4.keep (TK.same s5)
    refine ⟨v, rfl, by show 2 ≤ sizeLine; omega, fun p6 np6 => ?_⟩
    have s6 : Same H5 (upd H5 p6 (.tup [.str "read", v])) := Sv.nil (Sv.new np6)
    have S6 := S4.trans (s5.trans s6)
    have rv6 := rv5.keep (TK.same s6)
    refine ⟨_, _, .tup [.str "read", d], rfl, r5.keep (TK.same s6), ⟨p6, _, rfl, sq1 upd_same, _, _, rfl, rfl, _, _, rfl, rv6, rfl⟩, ddD, wdD, _, rfl, ?_⟩
    refine iteF ?_
    dsimp only [tNext]
    refine ⟨7, rfl, by decide, by decide, for_range (lo := 0) (n := ((7 : Int)).toNat)
      (fun i σ' H' => ∃ y1 y4 y5 y6 y7, σ' = [some (.ref a), some y1, some v, some (.str (wr d)), y4, y5, y6, y7] ∧ Same H H' ∧ Rp K H' d v) ⟨_, _, _, _, _, rfl, S6, rv6⟩ ?_ ?_⟩
    · rintro i σ' H7 hi ⟨y1, y4, y5, y6, y7, rfl, S7, rv7⟩
      have hi7 : i < 7 := hi
      refine cutSeq (fun σ' H' => ∃ p : Addr, σ' = [some (.ref a), some (.ref p), some v, some (.str (wr d)), some (.int (0 + (i : Int))), y5, y6, y7] ∧ Same H7 H' ∧ H7 p = none ∧ Pool H' p) (fun nx hn => ?_) ?_
      · refine ⟨.ref a, rfl, _, rfl, _, _, rfl, rfl, a, ns, 1 + i, ?_, seqL_same S7 hS, by omega, fun H8 p s8 np8 hP8 => hn _ _ ⟨p, rfl, s8, np8, hP8⟩⟩
        rw [show ((1 + i : Nat) : Int) = 1 + (0 + (i : Int)) by omega]
        rfl
      rintro _ H8 ⟨p, rfl, s8, np8, hP8⟩
      have rv8 := rv7.keep (TK.same s8)
      refine cutSeq (fun σ' H' => ∃ z : Str, z.length ≤ 700000 ∧ σ' = [some (.ref a), some (.ref p), some v, some (.str (wr d)), some (.int (0 + (i : Int))), some (.str z), y6, y7] ∧ Sv [p] H8 H' ∧ Pool H' p) (fun nx hn => ?_) ?_
      · refine ⟨_, rfl, _, _, rfl, rfl, _, rfl, ?_⟩
        refine ite2 (fun e1 => ?_) (fun e1 => ?_)
        · refine ⟨.ref p, rfl, .str (wr d), rfl, p, wr d, rfl, hP8, by omega, fun H9 z sv9 hP9 hz => ?_⟩
          refine ⟨.ref p, rfl, p, 2, rfl, hP9, by decide, by decide, fun H10 j sv10 hP10 j0 j1 => ⟨rfl, _, rfl, ?_⟩⟩
          refine ite2 (fun e2 => ?_) (fun e2 => ?_)
          · refine ⟨.ref p, rfl, .str z, rfl, p, z, rfl, hP10, by omega, fun H11 z2 sv11 hP11 hz2 => ?_⟩
            exact hn _ _ ⟨z2, by omega, rfl, (sv9.trans sv10).trans sv11, hP11⟩
          · exact hn _ _ ⟨z, by omega, rfl, sv9.trans sv10, hP10⟩
        · refine ⟨_, rfl, rfl, _, rfl, ?_⟩
          refine ite2 (fun e2 => ?_) (fun e2 => ?_)
          · refine ⟨.ref p, rfl, .ref p, rfl, p, 25, rfl, hP8, by decide, by decide, fun H9 j sv9 hP9 j0 j1 => ?_⟩
            obtain ⟨j, rfl⟩ := Int.eq_ofNat_of_zero_le j0
            refine ⟨p, "[]  01-9az", j, rfl, hP9, by decide +kernel, by decide +kernel, by omega, fun H10 z sv10 hP10 hz _ => ?_⟩
            exact hn _ _ ⟨z, by omega, rfl, sv9.trans sv10, hP10⟩
          · refine ⟨⟨_, rfl⟩, .ref p, rfl, p, 13, rfl, hP8, by decide, by decide, fun H9 j sv9 hP9 j0 j1 => ⟨j, rfl, by omega, by omega, fun l nl => lc_range (lo := 0) (n := j.toNat) (fun i H' => Sv [p, l] H9 H' ∧ Pool H' p ∧ ∃ ws : List Str, ws.length = i ∧ wsum ws ≤ 3 * i ∧ H' l = some (.lst (ws.map V.str))) ?_ ?_ ?_⟩⟩
            · exact ⟨Sv.new nl, hP9.new nl, [], rfl, Nat.le_refl _, upd_same⟩
            · rintro i' H10 hi' ⟨sv10, hP10, ws, hwl, hws, hl10⟩
              have plne : p ≠ l := (hP9.ne nl).symm
              refine ⟨rfl, by show 7 ≤ sizeLine; omega, fun t nt => ⟨.ref p, rfl, p, 7, rfl, hP10.new nt, by decide, by decide, fun H11 k sv11 hP11 k0 k1 => ?_⟩⟩
              have ht : H11 t = some (.tup [.str "[", .str "]", .str "[", .str "]", .str "0", .str "-1", .str "ab"]) := sv11 t _ (by simpa using hP10.ne nt) upd_same
              obtain ⟨x, hx, e⟩ := pickS (ss := ["[", "]", "[", "]", "0", "-1", "ab"]) k0 k1
              have hxl : x.length ≤ 2 := by
                have : x = ("[" : Str) ∨ x = ("]" : Str) ∨ x = ("0" : Str) ∨ x = ("-1" : Str) ∨ x = ("ab" : Str) := by
                  have h : x = ("[" : Str) ∨ x = ("]" : Str) ∨ x = ("[" : Str) ∨ x = ("]" : Str) ∨ x = ("0" : Str) ∨ x = ("-1" : Str) ∨ x = ("ab" : Str) := by simpa using hx
                  rcases h with h | h | h | h | h | h | h <;> simp [h]
                rcases this with rfl | rfl | rfl | rfl | rfl <;> decide +kernel
              have lt' : l ≠ t := fun e => by rw [e] at hl10; rw [hl10] at nt; cases nt
              have hl11 : H11 l = some (.lst (ws.map V.str)) := sv11 l _ (by simpa using plne.symm) (by rw [upd_ne lt']; exact hl10)
              refine ⟨t, _, k, _, rfl, rfl, sq1 ht, e, _, hl11, by rw [List.length_map]; omega, ((sv10.trans (Sv.new nt)).trans (sv11.mono (by simp))).trans (Sv.set (by simp)), ?_, ws ++ [x], by rw [List.length_append, hwl]; rfl, by rw [wsum_append, wsum_one]; omega, by rw [upd_same, List.map_append]; rfl⟩
              obtain ⟨x1, x2, x3, hp⟩ := hP11
              exact ⟨x1, x2, x3, by rw [upd_ne plne]; exact hp⟩
            · rintro H10 ⟨sv10, hP10, ws, hwl, hws, hl10⟩
              have plne : p ≠ l := (hP9.ne nl).symm
              refine ⟨sp, l, ws, rfl, rfl, .inl (.inl (.inl hl10)), join_fits (by omega), ?_⟩
              have := joined_len ws
              refine hn _ _ ⟨_, ?_, rfl, sv9.trans ?_, hP10⟩
              · omega
              · exact Sv.drop nl (sv10.mono (by simp))
      rintro _ H9 ⟨z, hz, rfl, sv9, hP9⟩
      have s9 : Same H7 H9 := Sv.nil (Sv.drop np8 ((Sv.same s8).trans sv9))
      have S9 := S7.trans s9
      have rv9 := rv7.keep (TK.same s9)
      refine ⟨.str z, rfl, z, rfl, by omega, fun H10 u s10 ru => ?_⟩
      refine ⟨_, rfl, z, rfl, by omega, fun H11 u2 s11 ru2 => ?_⟩
      have ru11 := ru.keep (TK.same s11)
      refine ⟨u, rfl, _, _, toldD z, rfl, ru2, ru11, told_dep z, told_wide (by omega), _, rfl, ?_⟩
      refine iteF ?_
      have S11 := S9.trans (s10.trans s11)
      have rv11 := rv9.keep (TK.same (s10.trans s11))
      cases hz2 : rd z with
      | none =>
        unfold toldD at ru11
        rw [hz2] at ru11
        obtain ⟨pu, xs, rfl, sx, x, ys, rfl, rfl, ry⟩ := ru11
        dsimp only [tNext]
        refine ⟨.ref pu, rfl, pu, _, 0, _, rfl, rfl, sx, atI_nat (j := 0) rfl, rfl, _, rfl, ?_⟩
        refine ifF (by decide +kernel) ?_
        refine iteF ?_
        exact ⟨_, _, _, _, _, rfl, S11, rv11⟩
      | some d2 =>
        unfold toldD at ru11
        rw [hz2] at ru11
        obtain ⟨pu, xs, rfl, sx, x, ys, rfl, rfl, v2, ys2, rfl, rv2, ry⟩ := ru11
        obtain ⟨e2, b2, c2, w2⟩ := rd_sizes hz2
        dsimp only [tNext]
        refine ⟨.ref pu, rfl, pu, _, 0, _, rfl, rfl, sx, atI_nat (j := 0) rfl, rfl, _, rfl, ?_⟩
        refine ifT (by decide +kernel) ?_
        refine ⟨.ref pu, rfl, pu, _, 1, _, rfl, rfl, sx, atI_nat (j := 1) rfl, v2, d2, rfl, rv2, by omega, small_of c2, by omega, fun H12 s12 => ?_⟩
        rw [e2]
        refine ⟨_, rfl, _, _, .str z, rfl, rfl, rfl, d0 _, trivial, _, rfl, ?_⟩
        refine iteF ?_
        exact ⟨_, _, _, _, _, rfl, S11.trans s12, rv11.keep (TK.same s12)⟩
    · rintro σ' H7 ⟨y1, y4, y5, y6, y7, rfl, S7, rv7⟩
      refine ⟨v, rfl, v, d, rfl, rv7, by omega, sd, by omega, fun H8 s8 => ?_⟩
      have rv8 := rv7.keep (TK.same s8)
      refine ⟨_, rfl, _, _, .str (wr d), rfl, rfl, rfl, d0 _, trivial, ?_⟩
      refine ⟨_, rfl, ?_⟩
      refine iteT ?_
      refine ⟨_, rfl, wr d, rfl, by omega, fun H9 u s9 ru => ?_⟩
      rw [hdD] at ru
      have rv9 := rv8.keep (TK.same s9)
      refine ⟨v, rfl, by show 2 ≤ sizeLine; omega, fun p2 np2 => ?_⟩
      have s10 : Same H9 (upd H9 p2 (.tup [.str "read", v])) := Sv.nil (Sv.new np2)
      refine ⟨_, _, .tup [.str "read", d], rfl, ru.keep (TK.same s10), ⟨p2, _, rfl, sq1 upd_same, _, _, rfl, rfl, _, _, rfl, rv9.keep (TK.same s10), rfl⟩, ddD, wdD, ?_⟩
      exact q _ (S7.trans (s8.trans (s9.trans s10)))
end
end RS

namespace RS
open PySem PySem.Spec PyProof.Rows L2 TL

def p_we : Nat → Pos
  | 0 => ⟨20, 8, 20, 13⟩
  | 1 => ⟨20, 8, 20, 15⟩
  | 2 => ⟨20, 8, 20, 24⟩
  | 3 => ⟨20, 27, 20, 32⟩
  | 4 => ⟨20, 33, 20, 37⟩
  | 5 => ⟨20, 32, 20, 38⟩
  | 6 => ⟨20, 38, 20, 50⟩
  | 7 => ⟨20, 25, 20, 51⟩
  | 8 => ⟨20, 8, 20, 52⟩
  | 9 => ⟨20, 8, 20, 52⟩
  | 10 => ⟨21, 8, 21, 12⟩
  | 11 => ⟨21, 8, 21, 17⟩
  | 12 => ⟨21, 20, 21, 24⟩
  | _ => ⟨21, 8, 21, 24⟩
theorem all_of {w : World} {K : PySem.W.Frag} {h : Heap} {mg : Str → Option Value} {fa : Addr} (X : K.In h) (G : h.Ns mainGlobals mg) (hfa : mg "law" = some (.ref fa))
    {f_whole : Addr} {oc_whole kV_whole dc_whole pm_whole cd_whole ct_whole : Value} {od_whole an_whole : Option Addr} {sl_whole : Array (Option Value)}
    {f_is_row : Addr} {oc_is_row kV_is_row dc_is_row pm_is_row cd_is_row ct_is_row : Value} {od_is_row an_is_row : Option Addr} {sl_is_row : Array (Option Value)}
    {f_tokens_of : Addr} {oc_tokens_of kV_tokens_of dc_tokens_of pm_tokens_of cd_tokens_of ct_tokens_of : Value} {od_tokens_of an_tokens_of : Option Addr} {sl_tokens_of : Array (Option Value)}
    {f_write_value : Addr} {oc_write_value kV_write_value dc_write_value pm_write_value cd_write_value ct_write_value : Value} {od_write_value an_write_value : Option Addr} {sl_write_value : Array (Option Value)}
    {f_is_word : Addr} {oc_is_word kV_is_word dc_is_word pm_is_word cd_is_word ct_is_word : Value} {od_is_word an_is_word : Option Addr} {sl_is_word : Array (Option Value)}
    {f_is_number : Addr} {oc_is_number kV_is_number dc_is_number pm_is_number cd_is_number ct_is_number : Value} {od_is_number an_is_number : Option Addr} {sl_is_number : Array (Option Value)}
    {f_read_token : Addr} {oc_read_token kV_read_token dc_read_token pm_read_token cd_read_token ct_read_token : Value} {od_read_token an_read_token : Option Addr} {sl_read_token : Array (Option Value)}
    {f_read_values : Addr} {oc_read_values kV_read_values dc_read_values pm_read_values cd_read_values ct_read_values : Value} {od_read_values an_read_values : Option Addr} {sl_read_values : Array (Option Value)}
    {f_read_value : Addr} {oc_read_value kV_read_value dc_read_value pm_read_value cd_read_value ct_read_value : Value} {od_read_value an_read_value : Option Addr} {sl_read_value : Array (Option Value)}
    {f_law_pool : Addr} {oc_law_pool kV_law_pool dc_law_pool pm_law_pool cd_law_pool ct_law_pool : Value} {od_law_pool an_law_pool : Option Addr} {sl_law_pool : Array (Option Value)}
    {f_law_draw : Addr} {oc_law_draw kV_law_draw dc_law_draw pm_law_draw cd_law_draw ct_law_draw : Value} {od_law_draw an_law_draw : Option Addr} {sl_law_draw : Array (Option Value)}
    {f_law_same : Addr} {oc_law_same kV_law_same dc_law_same pm_law_same cd_law_same ct_law_same : Value} {od_law_same an_law_same : Option Addr} {sl_law_same : Array (Option Value)}
    {f_law_write : Addr} {oc_law_write kV_law_write dc_law_write pm_law_write cd_law_write ct_law_write : Value} {od_law_write an_law_write : Option Addr} {sl_law_write : Array (Option Value)}
    {f_law_word_in : Addr} {oc_law_word_in kV_law_word_in dc_law_word_in pm_law_word_in cd_law_word_in ct_law_word_in : Value} {od_law_word_in an_law_word_in : Option Addr} {sl_law_word_in : Array (Option Value)}
    {f_law_read : Addr} {oc_law_read kV_law_read dc_law_read pm_law_read cd_law_read ct_law_read : Value} {od_law_read an_law_read : Option Addr} {sl_law_read : Array (Option Value)}
    {f_law_run : Addr} {oc_law_run kV_law_run dc_law_run pm_law_run cd_law_run ct_law_run : Value} {od_law_run an_law_run : Option Addr} {sl_law_run : Array (Option Value)}
    {f_law_number : Addr} {oc_law_number kV_law_number dc_law_number pm_law_number cd_law_number ct_law_number : Value} {od_law_number an_law_number : Option Addr} {sl_law_number : Array (Option Value)}
    {f_law_letters : Addr} {oc_law_letters kV_law_letters dc_law_letters pm_law_letters cd_law_letters ct_law_letters : Value} {od_law_letters an_law_letters : Option Addr} {sl_law_letters : Array (Option Value)}
    {f_law_parts : Addr} {oc_law_parts kV_law_parts dc_law_parts pm_law_parts cd_law_parts ct_law_parts : Value} {od_law_parts an_law_parts : Option Addr} {sl_law_parts : Array (Option Value)}
    {f_law_depth : Addr} {oc_law_depth kV_law_depth dc_law_depth pm_law_depth cd_law_depth ct_law_depth : Value} {od_law_depth an_law_depth : Option Addr} {sl_law_depth : Array (Option Value)}
    {f_law_value : Addr} {oc_law_value kV_law_value dc_law_value pm_law_value cd_law_value ct_law_value : Value} {od_law_value an_law_value : Option Addr} {sl_law_value : Array (Option Value)}
    {f_law_sign : Addr} {oc_law_sign kV_law_sign dc_law_sign pm_law_sign cd_law_sign ct_law_sign : Value} {od_law_sign an_law_sign : Option Addr} {sl_law_sign : Array (Option Value)}
    {f_law_token : Addr} {oc_law_token kV_law_token dc_law_token pm_law_token cd_law_token ct_law_token : Value} {od_law_token an_law_token : Option Addr} {sl_law_token : Array (Option Value)}
    {f_law_bent : Addr} {oc_law_bent kV_law_bent dc_law_bent pm_law_bent cd_law_bent ct_law_bent : Value} {od_law_bent an_law_bent : Option Addr} {sl_law_bent : Array (Option Value)}
    {f_law_marks : Addr} {oc_law_marks kV_law_marks dc_law_marks pm_law_marks cd_law_marks ct_law_marks : Value} {od_law_marks an_law_marks : Option Addr} {sl_law_marks : Array (Option Value)}
    {f_law_told : Addr} {oc_law_told kV_law_told dc_law_told pm_law_told cd_law_told ct_law_told : Value} {od_law_told an_law_told : Option Addr} {sl_law_told : Array (Option Value)}
    {f_law_due : Addr} {oc_law_due kV_law_due dc_law_due pm_law_due cd_law_due ct_law_due : Value} {od_law_due an_law_due : Option Addr} {sl_law_due : Array (Option Value)}
    {f_law : Addr} {oc_law kV_law dc_law pm_law cd_law ct_law : Value} {od_law an_law : Option Addr} {sl_law : Array (Option Value)}
    {t1 : Tok}
    {t2 : Tok}
    {t3 : Tok}
    {t4 : Tok}
    {t5 : Tok}
    {R : Addr}
    {C : Addr}
    {Bk : Addr}
    {De : Addr}
    {Qu : Addr}
    {Tm : Addr}
    {fI : Addr} {nm_we q_we : Str} {N_we : Addr} {bs_we bm_we : List Value} {sn_we : List Str} {sub_we : List Value} {ab_we : Bool} {col_we : Option Bool} {dd_we : Option Addr} {x0_we x1_we x2_we x3_we x5_we : Option Value} {oc_we dc_we pm_we ct_we : Value} {od_we an_we : Option Addr} {sl_we : Array (Option Value)} {cda_we cc_we : Addr} {ccl_we : Value} {cdd_we : Option Addr} {vs_we : Array Value} {ccs_we : Array (Option Value)} {tf_we : Tok} {cl_we : Value} {cld_we : Option Addr} {csl_we : Array (Option Value)}
    (a_whole : PySem.W.nsIn K mainGlobals "whole" = some (some (.ref f_whole))) (l_whole : K.lookup f_whole = some ⟨oc_whole, od_whole, .func (PySem.W.fnOf "whole" "whole" (defArgs s_whole) (defBody s_whole) (defScope s_whole) .none kV_whole dc_whole pm_whole an_whole cd_whole ct_whole), sl_whole⟩) (c_whole : PySem.W.codeIn K cd_whole "whole" = true) (k_whole : PySem.W.keepIn K (.ref f_whole) = true)
    (a_is_row : PySem.W.nsIn K mainGlobals "is_row" = some (some (.ref f_is_row))) (l_is_row : K.lookup f_is_row = some ⟨oc_is_row, od_is_row, .func (PySem.W.fnOf "is_row" "is_row" (defArgs s_is_row) (defBody s_is_row) (defScope s_is_row) .none kV_is_row dc_is_row pm_is_row an_is_row cd_is_row ct_is_row), sl_is_row⟩) (c_is_row : PySem.W.codeIn K cd_is_row "is_row" = true) (k_is_row : PySem.W.keepIn K (.ref f_is_row) = true)
    (a_tokens_of : PySem.W.nsIn K mainGlobals "tokens_of" = some (some (.ref f_tokens_of))) (l_tokens_of : K.lookup f_tokens_of = some ⟨oc_tokens_of, od_tokens_of, .func (PySem.W.fnOf "tokens_of" "tokens_of" (defArgs s_tokens_of) (defBody s_tokens_of) (defScope s_tokens_of) .none kV_tokens_of dc_tokens_of pm_tokens_of an_tokens_of cd_tokens_of ct_tokens_of), sl_tokens_of⟩) (c_tokens_of : PySem.W.codeIn K cd_tokens_of "tokens_of" = true) (k_tokens_of : PySem.W.keepIn K (.ref f_tokens_of) = true)
    (a_write_value : PySem.W.nsIn K mainGlobals "write_value" = some (some (.ref f_write_value))) (l_write_value : K.lookup f_write_value = some ⟨oc_write_value, od_write_value, .func (PySem.W.fnOf "write_value" "write_value" (defArgs s_write_value) (defBody s_write_value) (defScope s_write_value) .none kV_write_value dc_write_value pm_write_value an_write_value cd_write_value ct_write_value), sl_write_value⟩) (c_write_value : PySem.W.codeIn K cd_write_value "write_value" = true) (k_write_value : PySem.W.keepIn K (.ref f_write_value) = true)
    (a_is_word : PySem.W.nsIn K mainGlobals "is_word" = some (some (.ref f_is_word))) (l_is_word : K.lookup f_is_word = some ⟨oc_is_word, od_is_word, .func (PySem.W.fnOf "is_word" "is_word" (defArgs s_is_word) (defBody s_is_word) (defScope s_is_word) .none kV_is_word dc_is_word pm_is_word an_is_word cd_is_word ct_is_word), sl_is_word⟩) (c_is_word : PySem.W.codeIn K cd_is_word "is_word" = true) (k_is_word : PySem.W.keepIn K (.ref f_is_word) = true)
    (a_is_number : PySem.W.nsIn K mainGlobals "is_number" = some (some (.ref f_is_number))) (l_is_number : K.lookup f_is_number = some ⟨oc_is_number, od_is_number, .func (PySem.W.fnOf "is_number" "is_number" (defArgs s_is_number) (defBody s_is_number) (defScope s_is_number) .none kV_is_number dc_is_number pm_is_number an_is_number cd_is_number ct_is_number), sl_is_number⟩) (c_is_number : PySem.W.codeIn K cd_is_number "is_number" = true) (k_is_number : PySem.W.keepIn K (.ref f_is_number) = true)
    (a_read_token : PySem.W.nsIn K mainGlobals "read_token" = some (some (.ref f_read_token))) (l_read_token : K.lookup f_read_token = some ⟨oc_read_token, od_read_token, .func (PySem.W.fnOf "read_token" "read_token" (defArgs s_read_token) (defBody s_read_token) (defScope s_read_token) .none kV_read_token dc_read_token pm_read_token an_read_token cd_read_token ct_read_token), sl_read_token⟩) (c_read_token : PySem.W.codeIn K cd_read_token "read_token" = true) (k_read_token : PySem.W.keepIn K (.ref f_read_token) = true)
    (a_read_values : PySem.W.nsIn K mainGlobals "read_values" = some (some (.ref f_read_values))) (l_read_values : K.lookup f_read_values = some ⟨oc_read_values, od_read_values, .func (PySem.W.fnOf "read_values" "read_values" (defArgs s_read_values) (defBody s_read_values) (defScope s_read_values) .none kV_read_values dc_read_values pm_read_values an_read_values cd_read_values ct_read_values), sl_read_values⟩) (c_read_values : PySem.W.codeIn K cd_read_values "read_values" = true) (k_read_values : PySem.W.keepIn K (.ref f_read_values) = true)
    (a_read_value : PySem.W.nsIn K mainGlobals "read_value" = some (some (.ref f_read_value))) (l_read_value : K.lookup f_read_value = some ⟨oc_read_value, od_read_value, .func (PySem.W.fnOf "read_value" "read_value" (defArgs s_read_value) (defBody s_read_value) (defScope s_read_value) .none kV_read_value dc_read_value pm_read_value an_read_value cd_read_value ct_read_value), sl_read_value⟩) (c_read_value : PySem.W.codeIn K cd_read_value "read_value" = true) (k_read_value : PySem.W.keepIn K (.ref f_read_value) = true)
    (a_law_pool : PySem.W.nsIn K mainGlobals "_law_pool" = some (some (.ref f_law_pool))) (l_law_pool : K.lookup f_law_pool = some ⟨oc_law_pool, od_law_pool, .func (PySem.W.fnOf "_law_pool" "_law_pool" (defArgs s_law_pool) (defBody s_law_pool) (defScope s_law_pool) .none kV_law_pool dc_law_pool pm_law_pool an_law_pool cd_law_pool ct_law_pool), sl_law_pool⟩) (c_law_pool : PySem.W.codeIn K cd_law_pool "_law_pool" = true) (k_law_pool : PySem.W.keepIn K (.ref f_law_pool) = true)
    (a_law_draw : PySem.W.nsIn K mainGlobals "_law_draw" = some (some (.ref f_law_draw))) (l_law_draw : K.lookup f_law_draw = some ⟨oc_law_draw, od_law_draw, .func (PySem.W.fnOf "_law_draw" "_law_draw" (defArgs s_law_draw) (defBody s_law_draw) (defScope s_law_draw) .none kV_law_draw dc_law_draw pm_law_draw an_law_draw cd_law_draw ct_law_draw), sl_law_draw⟩) (c_law_draw : PySem.W.codeIn K cd_law_draw "_law_draw" = true) (k_law_draw : PySem.W.keepIn K (.ref f_law_draw) = true)
    (a_law_same : PySem.W.nsIn K mainGlobals "_law_same" = some (some (.ref f_law_same))) (l_law_same : K.lookup f_law_same = some ⟨oc_law_same, od_law_same, .func (PySem.W.fnOf "_law_same" "_law_same" (defArgs s_law_same) (defBody s_law_same) (defScope s_law_same) .none kV_law_same dc_law_same pm_law_same an_law_same cd_law_same ct_law_same), sl_law_same⟩) (c_law_same : PySem.W.codeIn K cd_law_same "_law_same" = true) (k_law_same : PySem.W.keepIn K (.ref f_law_same) = true)
    (a_law_write : PySem.W.nsIn K mainGlobals "_law_write" = some (some (.ref f_law_write))) (l_law_write : K.lookup f_law_write = some ⟨oc_law_write, od_law_write, .func (PySem.W.fnOf "_law_write" "_law_write" (defArgs s_law_write) (defBody s_law_write) (defScope s_law_write) .none kV_law_write dc_law_write pm_law_write an_law_write cd_law_write ct_law_write), sl_law_write⟩) (c_law_write : PySem.W.codeIn K cd_law_write "_law_write" = true) (k_law_write : PySem.W.keepIn K (.ref f_law_write) = true)
    (a_law_word_in : PySem.W.nsIn K mainGlobals "_law_word_in" = some (some (.ref f_law_word_in))) (l_law_word_in : K.lookup f_law_word_in = some ⟨oc_law_word_in, od_law_word_in, .func (PySem.W.fnOf "_law_word_in" "_law_word_in" (defArgs s_law_word_in) (defBody s_law_word_in) (defScope s_law_word_in) .none kV_law_word_in dc_law_word_in pm_law_word_in an_law_word_in cd_law_word_in ct_law_word_in), sl_law_word_in⟩) (c_law_word_in : PySem.W.codeIn K cd_law_word_in "_law_word_in" = true) (k_law_word_in : PySem.W.keepIn K (.ref f_law_word_in) = true)
    (a_law_read : PySem.W.nsIn K mainGlobals "_law_read" = some (some (.ref f_law_read))) (l_law_read : K.lookup f_law_read = some ⟨oc_law_read, od_law_read, .func (PySem.W.fnOf "_law_read" "_law_read" (defArgs s_law_read) (defBody s_law_read) (defScope s_law_read) .none kV_law_read dc_law_read pm_law_read an_law_read cd_law_read ct_law_read), sl_law_read⟩) (c_law_read : PySem.W.codeIn K cd_law_read "_law_read" = true) (k_law_read : PySem.W.keepIn K (.ref f_law_read) = true)
    (a_law_run : PySem.W.nsIn K mainGlobals "_law_run" = some (some (.ref f_law_run))) (l_law_run : K.lookup f_law_run = some ⟨oc_law_run, od_law_run, .func (PySem.W.fnOf "_law_run" "_law_run" (defArgs s_law_run) (defBody s_law_run) (defScope s_law_run) .none kV_law_run dc_law_run pm_law_run an_law_run cd_law_run ct_law_run), sl_law_run⟩) (c_law_run : PySem.W.codeIn K cd_law_run "_law_run" = true) (k_law_run : PySem.W.keepIn K (.ref f_law_run) = true)
    (a_law_number : PySem.W.nsIn K mainGlobals "_law_number" = some (some (.ref f_law_number))) (l_law_number : K.lookup f_law_number = some ⟨oc_law_number, od_law_number, .func (PySem.W.fnOf "_law_number" "_law_number" (defArgs s_law_number) (defBody s_law_number) (defScope s_law_number) .none kV_law_number dc_law_number pm_law_number an_law_number cd_law_number ct_law_number), sl_law_number⟩) (c_law_number : PySem.W.codeIn K cd_law_number "_law_number" = true) (k_law_number : PySem.W.keepIn K (.ref f_law_number) = true)
    (a_law_letters : PySem.W.nsIn K mainGlobals "_law_letters" = some (some (.ref f_law_letters))) (l_law_letters : K.lookup f_law_letters = some ⟨oc_law_letters, od_law_letters, .func (PySem.W.fnOf "_law_letters" "_law_letters" (defArgs s_law_letters) (defBody s_law_letters) (defScope s_law_letters) .none kV_law_letters dc_law_letters pm_law_letters an_law_letters cd_law_letters ct_law_letters), sl_law_letters⟩) (c_law_letters : PySem.W.codeIn K cd_law_letters "_law_letters" = true) (k_law_letters : PySem.W.keepIn K (.ref f_law_letters) = true)
    (a_law_parts : PySem.W.nsIn K mainGlobals "_law_parts" = some (some (.ref f_law_parts))) (l_law_parts : K.lookup f_law_parts = some ⟨oc_law_parts, od_law_parts, .func (PySem.W.fnOf "_law_parts" "_law_parts" (defArgs s_law_parts) (defBody s_law_parts) (defScope s_law_parts) .none kV_law_parts dc_law_parts pm_law_parts an_law_parts cd_law_parts ct_law_parts), sl_law_parts⟩) (c_law_parts : PySem.W.codeIn K cd_law_parts "_law_parts" = true) (k_law_parts : PySem.W.keepIn K (.ref f_law_parts) = true)
    (a_law_depth : PySem.W.nsIn K mainGlobals "_law_depth" = some (some (.ref f_law_depth))) (l_law_depth : K.lookup f_law_depth = some ⟨oc_law_depth, od_law_depth, .func (PySem.W.fnOf "_law_depth" "_law_depth" (defArgs s_law_depth) (defBody s_law_depth) (defScope s_law_depth) .none kV_law_depth dc_law_depth pm_law_depth an_law_depth cd_law_depth ct_law_depth), sl_law_depth⟩) (c_law_depth : PySem.W.codeIn K cd_law_depth "_law_depth" = true) (k_law_depth : PySem.W.keepIn K (.ref f_law_depth) = true)
    (a_law_value : PySem.W.nsIn K mainGlobals "_law_value" = some (some (.ref f_law_value))) (l_law_value : K.lookup f_law_value = some ⟨oc_law_value, od_law_value, .func (PySem.W.fnOf "_law_value" "_law_value" (defArgs s_law_value) (defBody s_law_value) (defScope s_law_value) .none kV_law_value dc_law_value pm_law_value an_law_value cd_law_value ct_law_value), sl_law_value⟩) (c_law_value : PySem.W.codeIn K cd_law_value "_law_value" = true) (k_law_value : PySem.W.keepIn K (.ref f_law_value) = true)
    (a_law_sign : PySem.W.nsIn K mainGlobals "_law_sign" = some (some (.ref f_law_sign))) (l_law_sign : K.lookup f_law_sign = some ⟨oc_law_sign, od_law_sign, .func (PySem.W.fnOf "_law_sign" "_law_sign" (defArgs s_law_sign) (defBody s_law_sign) (defScope s_law_sign) .none kV_law_sign dc_law_sign pm_law_sign an_law_sign cd_law_sign ct_law_sign), sl_law_sign⟩) (c_law_sign : PySem.W.codeIn K cd_law_sign "_law_sign" = true) (k_law_sign : PySem.W.keepIn K (.ref f_law_sign) = true)
    (a_law_token : PySem.W.nsIn K mainGlobals "_law_token" = some (some (.ref f_law_token))) (l_law_token : K.lookup f_law_token = some ⟨oc_law_token, od_law_token, .func (PySem.W.fnOf "_law_token" "_law_token" (defArgs s_law_token) (defBody s_law_token) (defScope s_law_token) .none kV_law_token dc_law_token pm_law_token an_law_token cd_law_token ct_law_token), sl_law_token⟩) (c_law_token : PySem.W.codeIn K cd_law_token "_law_token" = true) (k_law_token : PySem.W.keepIn K (.ref f_law_token) = true)
    (a_law_bent : PySem.W.nsIn K mainGlobals "_law_bent" = some (some (.ref f_law_bent))) (l_law_bent : K.lookup f_law_bent = some ⟨oc_law_bent, od_law_bent, .func (PySem.W.fnOf "_law_bent" "_law_bent" (defArgs s_law_bent) (defBody s_law_bent) (defScope s_law_bent) .none kV_law_bent dc_law_bent pm_law_bent an_law_bent cd_law_bent ct_law_bent), sl_law_bent⟩) (c_law_bent : PySem.W.codeIn K cd_law_bent "_law_bent" = true) (k_law_bent : PySem.W.keepIn K (.ref f_law_bent) = true)
    (a_law_marks : PySem.W.nsIn K mainGlobals "_law_marks" = some (some (.ref f_law_marks))) (l_law_marks : K.lookup f_law_marks = some ⟨oc_law_marks, od_law_marks, .func (PySem.W.fnOf "_law_marks" "_law_marks" (defArgs s_law_marks) (defBody s_law_marks) (defScope s_law_marks) .none kV_law_marks dc_law_marks pm_law_marks an_law_marks cd_law_marks ct_law_marks), sl_law_marks⟩) (c_law_marks : PySem.W.codeIn K cd_law_marks "_law_marks" = true) (k_law_marks : PySem.W.keepIn K (.ref f_law_marks) = true)
    (a_law_told : PySem.W.nsIn K mainGlobals "_law_told" = some (some (.ref f_law_told))) (l_law_told : K.lookup f_law_told = some ⟨oc_law_told, od_law_told, .func (PySem.W.fnOf "_law_told" "_law_told" (defArgs s_law_told) (defBody s_law_told) (defScope s_law_told) .none kV_law_told dc_law_told pm_law_told an_law_told cd_law_told ct_law_told), sl_law_told⟩) (c_law_told : PySem.W.codeIn K cd_law_told "_law_told" = true) (k_law_told : PySem.W.keepIn K (.ref f_law_told) = true)
    (a_law_due : PySem.W.nsIn K mainGlobals "_law_due" = some (some (.ref f_law_due))) (l_law_due : K.lookup f_law_due = some ⟨oc_law_due, od_law_due, .func (PySem.W.fnOf "_law_due" "_law_due" (defArgs s_law_due) (defBody s_law_due) (defScope s_law_due) .none kV_law_due dc_law_due pm_law_due an_law_due cd_law_due ct_law_due), sl_law_due⟩) (c_law_due : PySem.W.codeIn K cd_law_due "_law_due" = true) (k_law_due : PySem.W.keepIn K (.ref f_law_due) = true)
    (a_law : PySem.W.nsIn K mainGlobals "law" = some (some (.ref f_law))) (l_law : K.lookup f_law = some ⟨oc_law, od_law, .func (PySem.W.fnOf "law" "law" (defArgs s_law) (defBody s_law) (defScope s_law) .none kV_law dc_law pm_law an_law cd_law ct_law), sl_law⟩) (c_law : PySem.W.codeIn K cd_law "law" = true) (k_law : PySem.W.keepIn K (.ref f_law) = true)
    (g_LETTERS : PySem.W.nsIn K mainGlobals "LETTERS" = some (some (.str lets t1)))
    (g_DIGITS : PySem.W.nsIn K mainGlobals "DIGITS" = some (some (.str digs t2)))
    (g_MOST_LETTERS : PySem.W.nsIn K mainGlobals "MOST_LETTERS" = some (some (.int 20 t3)))
    (g_MOST_DIGITS : PySem.W.nsIn K mainGlobals "MOST_DIGITS" = some (some (.int 60 t4)))
    (g_MOST_NESTED : PySem.W.nsIn K mainGlobals "MOST_NESTED" = some (some (.int 12 t5)))
    (m_isinstance : PySem.W.nsIn K mainGlobals "isinstance" = some none)
    (m_int : PySem.W.nsIn K mainGlobals "int" = some none)
    (m_bool : PySem.W.nsIn K mainGlobals "bool" = some none)
    (m_tuple : PySem.W.nsIn K mainGlobals "tuple" = some none)
    (m_str : PySem.W.nsIn K mainGlobals "str" = some none)
    (m_len : PySem.W.nsIn K mainGlobals "len" = some none)
    (m_all : PySem.W.nsIn K mainGlobals "all" = some none)
    (m_range : PySem.W.nsIn K mainGlobals "range" = some none)
    (m_max : PySem.W.nsIn K mainGlobals "max" = some none)
    (m_ValueError : PySem.W.nsIn K mainGlobals "ValueError" = some none)
    (m_super : PySem.W.nsIn K mainGlobals "super" = some none)
    (z_RightsteadError : PySem.W.nsIn K mainGlobals "RightsteadError" = some (some (.ref R)))
    (z_WordError : PySem.W.nsIn K mainGlobals "WordError" = some (some (.ref C)))
    (z_BookError : PySem.W.nsIn K mainGlobals "BookError" = some (some (.ref Bk)))
    (z_DeedError : PySem.W.nsIn K mainGlobals "DeedError" = some (some (.ref De)))
    (z_QuestionError : PySem.W.nsIn K mainGlobals "QuestionError" = some (some (.ref Qu)))
    (z_TooMany : PySem.W.nsIn K mainGlobals "TooMany" = some (some (.ref Tm)))
    (xL_we : K.lookup C = some (excClassObj nm_we q_we C N_we bs_we bm_we true sn_we sub_we ab_we col_we dd_we x0_we x1_we x2_we x3_we x5_we "ValueError.__new__"))
    (ve_we : PySem.HandSPX.refsVE bm_we = true)
    (sa_we : PySem.W.findIn K (.ref C) "__setattr__" = some (some (.builtin "object.__setattr__")))
    (ga_we : PySem.W.findIn K (.ref C) "__getattribute__" = some (some (.builtin "BaseException.__getattribute__")))
    (gg_we : PySem.W.findIn K (.ref C) "__getattr__" = some none)
    (no_we : PySem.W.findIn K (.ref C) "line" = some none)
    (iC_we : PySem.W.findIn K (.ref C) "__init__" = some (some (.ref fI)))
    (tC_we : PySem.W.typeIn K (.ref fI) = some (.type "function"))
    (kC_we : PySem.W.keepIn K (.ref C) = true)
    (eC_we : PySem.W.subIn K (.ref C) (.type "BaseException") = some true)
    (vC_we : PySem.W.subIn K (.ref C) (.type "ValueError") = some true)
    (yC_we : PySem.W.typeIn K (.ref C) = some (.type "type"))
    (hC_we : PySem.W.hasDictIn K C = true)
    (mC_we : PySem.W.mroIn K C (.ref C) = some true)
    (tp_we : PySem.W.nsIn K PySem.cStatics "thirdparty.any" = some none)
    (di_we : PySem.W.ks_superIn K C C "__init__" = some (some (.builtin "ValueError.__init__")))
    (l_we : K.lookup fI = some ⟨oc_we, od_we, .func (PySem.W.ksFn "__init__" "WordError.__init__" (PySem.SupX.iA "line" ⟨19, 17, 19, 21⟩ ⟨19, 23, 19, 27⟩) (PySem.SupX.iB "line" "line " (some " is at fault") p_we) (PySem.SupX.iS "line") .none .none dc_we pm_we an_we (.ref cda_we) ct_we cc_we), sl_we⟩)
    (c_we : PySem.W.codeIn K (.ref cda_we) "WordError.__init__" = true)
    (r_we : K.lookup cda_we = some ⟨ccl_we, cdd_we, .fields vs_we, ccs_we⟩)
    (v_we : vs_we[2]? = some (.str PySem.Challenge.pw_rightstead_k75_values_as_text.main.file tf_we))
    (cc_we : K.lookup cc_we = some ⟨cl_we, cld_we, .cell (some (.ref C)), csl_we⟩)
    (i_ha : PySem.W.findIn K (.ref C) "__class__" = some (some (.builtin "object.__class__")))
    (i_hn : PySem.W.specialIn K (.builtin "object.__class__") "__get__" = some (some (.builtin "getset_descriptor.__get__")))
    (i_ht : PySem.W.takesIn K (.builtin "object.__class__") = some true)
    (i_hm : PySem.W.mroIn K C (.type "object") = some true)
    (iR : PySem.W.isClsIn K R = true)
    (yR : PySem.W.typeIn K (.ref R) = some (.type "type"))
    (sR : PySem.W.subIn K (.ref C) (.ref R) = some true)
    (iC : PySem.W.isClsIn K C = true)
    (sC : PySem.W.subIn K (.ref C) (.ref C) = some true)
    (iBk : PySem.W.isClsIn K Bk = true)
    (yBk : PySem.W.typeIn K (.ref Bk) = some (.type "type"))
    (sBk : PySem.W.subIn K (.ref C) (.ref Bk) = some false)
    (iDe : PySem.W.isClsIn K De = true)
    (yDe : PySem.W.typeIn K (.ref De) = some (.type "type"))
    (sDe : PySem.W.subIn K (.ref C) (.ref De) = some false)
    (iQu : PySem.W.isClsIn K Qu = true)
    (yQu : PySem.W.typeIn K (.ref Qu) = some (.type "type"))
    (sQu : PySem.W.subIn K (.ref C) (.ref Qu) = some false)
    (iTm : PySem.W.isClsIn K Tm = true)
    (yTm : PySem.W.typeIn K (.ref Tm) = some (.type "type"))
    (sTm : PySem.W.subIn K (.ref C) (.ref Tm) = some false)
    (eR : PySem.W.subIn K (.ref R) (.type "BaseException") = some true)
    : ∃ fd : FuncData, (∀ (s : Shared) (u : Value), BindsTo s fd ⟨[u], []⟩ [("script", u)]) ∧ ∀ base : Heap, K.In base → base.Ns mainGlobals mg → FnOk PySem.Challenge.pw_rightstead_k75_values_as_text w K mg base CX0 23 fa fd ["script"] (spLaw K) := by
  cases hfa.symm.trans (PySem.W.mg_of X G a_law)
  have sx_we : PySem.SupX.SupTxt PySem.Challenge.pw_rightstead_k75_values_as_text K mg "WordError" "line" "line " (some " is at fault") C fI :=
    { gC := PySem.W.mg_of X G z_WordError, cls := ⟨_, _, _, _, _, _, _, _, _, _, _, _, _, _, _, xL_we, ve_we⟩, sa := sa_we, ga := ga_we, gg := gg_we, noN := no_we, iC := iC_we, tC := tC_we, kC := kC_we, exC := eC_we, veC := vC_we, tyC := yC_we, hdC := hC_we, sup := PySem.W.mg_none_of X G m_super, self := mC_we, tp := tp_we, dia := di_we,
      fn := ⟨_, _, _, _, _, _, _, _, _, _, p_we, _, _, _, _, _, _, _, _, _, _, l_we, c_we, r_we, v_we, cc_we, by decide +kernel⟩ }
  have D_whole : HasDef K mg "whole" s_whole ["x"] := ⟨_, _, fun_mk (st := s_whole) l_whole c_whole k_whole, PySem.W.mg_of X G a_whole, Fun.binds (fun_mk (st := s_whole) l_whole c_whole k_whole) fun _ _ _ _ _ _ us hl => match us, hl with | [_], _ => rfl⟩
  have D_is_row : HasDef K mg "is_row" s_is_row ["x"] := ⟨_, _, fun_mk (st := s_is_row) l_is_row c_is_row k_is_row, PySem.W.mg_of X G a_is_row, Fun.binds (fun_mk (st := s_is_row) l_is_row c_is_row k_is_row) fun _ _ _ _ _ _ us hl => match us, hl with | [_], _ => rfl⟩
  have D_tokens_of : HasDef K mg "tokens_of" s_tokens_of ["value"] := ⟨_, _, fun_mk (st := s_tokens_of) l_tokens_of c_tokens_of k_tokens_of, PySem.W.mg_of X G a_tokens_of, Fun.binds (fun_mk (st := s_tokens_of) l_tokens_of c_tokens_of k_tokens_of) fun _ _ _ _ _ _ us hl => match us, hl with | [_], _ => rfl⟩
  have D_write_value : HasDef K mg "write_value" s_write_value ["value"] := ⟨_, _, fun_mk (st := s_write_value) l_write_value c_write_value k_write_value, PySem.W.mg_of X G a_write_value, Fun.binds (fun_mk (st := s_write_value) l_write_value c_write_value k_write_value) fun _ _ _ _ _ _ us hl => match us, hl with | [_], _ => rfl⟩
  have D_is_word : HasDef K mg "is_word" s_is_word ["token"] := ⟨_, _, fun_mk (st := s_is_word) l_is_word c_is_word k_is_word, PySem.W.mg_of X G a_is_word, Fun.binds (fun_mk (st := s_is_word) l_is_word c_is_word k_is_word) fun _ _ _ _ _ _ us hl => match us, hl with | [_], _ => rfl⟩
  have D_is_number : HasDef K mg "is_number" s_is_number ["token"] := ⟨_, _, fun_mk (st := s_is_number) l_is_number c_is_number k_is_number, PySem.W.mg_of X G a_is_number, Fun.binds (fun_mk (st := s_is_number) l_is_number c_is_number k_is_number) fun _ _ _ _ _ _ us hl => match us, hl with | [_], _ => rfl⟩
  have D_read_token : HasDef K mg "read_token" s_read_token ["token"] := ⟨_, _, fun_mk (st := s_read_token) l_read_token c_read_token k_read_token, PySem.W.mg_of X G a_read_token, Fun.binds (fun_mk (st := s_read_token) l_read_token c_read_token k_read_token) fun _ _ _ _ _ _ us hl => match us, hl with | [_], _ => rfl⟩
  have D_read_values : HasDef K mg "read_values" s_read_values ["text"] := ⟨_, _, fun_mk (st := s_read_values) l_read_values c_read_values k_read_values, PySem.W.mg_of X G a_read_values, Fun.binds (fun_mk (st := s_read_values) l_read_values c_read_values k_read_values) fun _ _ _ _ _ _ us hl => match us, hl with | [_], _ => rfl⟩
  have D_read_value : HasDef K mg "read_value" s_read_value ["text"] := ⟨_, _, fun_mk (st := s_read_value) l_read_value c_read_value k_read_value, PySem.W.mg_of X G a_read_value, Fun.binds (fun_mk (st := s_read_value) l_read_value c_read_value k_read_value) fun _ _ _ _ _ _ us hl => match us, hl with | [_], _ => rfl⟩
  have D_law_pool : HasDef K mg "_law_pool" s_law_pool ["script", "at"] := ⟨_, _, fun_mk (st := s_law_pool) l_law_pool c_law_pool k_law_pool, PySem.W.mg_of X G a_law_pool, Fun.binds (fun_mk (st := s_law_pool) l_law_pool c_law_pool k_law_pool) fun _ _ _ _ _ _ us hl => match us, hl with | [_, _], _ => rfl⟩
  have D_law_draw : HasDef K mg "_law_draw" s_law_draw ["pool", "many"] := ⟨_, _, fun_mk (st := s_law_draw) l_law_draw c_law_draw k_law_draw, PySem.W.mg_of X G a_law_draw, Fun.binds (fun_mk (st := s_law_draw) l_law_draw c_law_draw k_law_draw) fun _ _ _ _ _ _ us hl => match us, hl with | [_, _], _ => rfl⟩
  have D_law_same : HasDef K mg "_law_same" s_law_same ["got", "due"] := ⟨_, _, fun_mk (st := s_law_same) l_law_same c_law_same k_law_same, PySem.W.mg_of X G a_law_same, Fun.binds (fun_mk (st := s_law_same) l_law_same c_law_same k_law_same) fun _ _ _ _ _ _ us hl => match us, hl with | [_, _], _ => rfl⟩
  have D_law_write : HasDef K mg "_law_write" s_law_write ["x"] := ⟨_, _, fun_mk (st := s_law_write) l_law_write c_law_write k_law_write, PySem.W.mg_of X G a_law_write, Fun.binds (fun_mk (st := s_law_write) l_law_write c_law_write k_law_write) fun _ _ _ _ _ _ us hl => match us, hl with | [_], _ => rfl⟩
  have D_law_word_in : HasDef K mg "_law_word_in" s_law_word_in ["word"] := ⟨_, _, fun_mk (st := s_law_word_in) l_law_word_in c_law_word_in k_law_word_in, PySem.W.mg_of X G a_law_word_in, Fun.binds (fun_mk (st := s_law_word_in) l_law_word_in c_law_word_in k_law_word_in) fun _ _ _ _ _ _ us hl => match us, hl with | [_], _ => rfl⟩
  have D_law_read : HasDef K mg "_law_read" s_law_read ["text"] := ⟨_, _, fun_mk (st := s_law_read) l_law_read c_law_read k_law_read, PySem.W.mg_of X G a_law_read, Fun.binds (fun_mk (st := s_law_read) l_law_read c_law_read k_law_read) fun _ _ _ _ _ _ us hl => match us, hl with | [_], _ => rfl⟩
  have D_law_run : HasDef K mg "_law_run" s_law_run ["pool", "signs", "size"] := ⟨_, _, fun_mk (st := s_law_run) l_law_run c_law_run k_law_run, PySem.W.mg_of X G a_law_run, Fun.binds (fun_mk (st := s_law_run) l_law_run c_law_run k_law_run) fun _ _ _ _ _ _ us hl => match us, hl with | [_, _, _], _ => rfl⟩
  have D_law_number : HasDef K mg "_law_number" s_law_number ["pool"] := ⟨_, _, fun_mk (st := s_law_number) l_law_number c_law_number k_law_number, PySem.W.mg_of X G a_law_number, Fun.binds (fun_mk (st := s_law_number) l_law_number c_law_number k_law_number) fun _ _ _ _ _ _ us hl => match us, hl with | [_], _ => rfl⟩
  have D_law_letters : HasDef K mg "_law_letters" s_law_letters ["pool"] := ⟨_, _, fun_mk (st := s_law_letters) l_law_letters c_law_letters k_law_letters, PySem.W.mg_of X G a_law_letters, Fun.binds (fun_mk (st := s_law_letters) l_law_letters c_law_letters k_law_letters) fun _ _ _ _ _ _ us hl => match us, hl with | [_], _ => rfl⟩
  have D_law_parts : HasDef K mg "_law_parts" s_law_parts ["pool", "many"] := ⟨_, _, fun_mk (st := s_law_parts) l_law_parts c_law_parts k_law_parts, PySem.W.mg_of X G a_law_parts, Fun.binds (fun_mk (st := s_law_parts) l_law_parts c_law_parts k_law_parts) fun _ _ _ _ _ _ us hl => match us, hl with | [_, _], _ => rfl⟩
  have D_law_depth : HasDef K mg "_law_depth" s_law_depth ["value"] := ⟨_, _, fun_mk (st := s_law_depth) l_law_depth c_law_depth k_law_depth, PySem.W.mg_of X G a_law_depth, Fun.binds (fun_mk (st := s_law_depth) l_law_depth c_law_depth k_law_depth) fun _ _ _ _ _ _ us hl => match us, hl with | [_], _ => rfl⟩
  have D_law_value : HasDef K mg "_law_value" s_law_value ["pool"] := ⟨_, _, fun_mk (st := s_law_value) l_law_value c_law_value k_law_value, PySem.W.mg_of X G a_law_value, Fun.binds (fun_mk (st := s_law_value) l_law_value c_law_value k_law_value) fun _ _ _ _ _ _ us hl => match us, hl with | [_], _ => rfl⟩
  have D_law_sign : HasDef K mg "_law_sign" s_law_sign ["pool"] := ⟨_, _, fun_mk (st := s_law_sign) l_law_sign c_law_sign k_law_sign, PySem.W.mg_of X G a_law_sign, Fun.binds (fun_mk (st := s_law_sign) l_law_sign c_law_sign k_law_sign) fun _ _ _ _ _ _ us hl => match us, hl with | [_], _ => rfl⟩
  have D_law_token : HasDef K mg "_law_token" s_law_token ["pool"] := ⟨_, _, fun_mk (st := s_law_token) l_law_token c_law_token k_law_token, PySem.W.mg_of X G a_law_token, Fun.binds (fun_mk (st := s_law_token) l_law_token c_law_token k_law_token) fun _ _ _ _ _ _ us hl => match us, hl with | [_], _ => rfl⟩
  have D_law_bent : HasDef K mg "_law_bent" s_law_bent ["pool", "text"] := ⟨_, _, fun_mk (st := s_law_bent) l_law_bent c_law_bent k_law_bent, PySem.W.mg_of X G a_law_bent, Fun.binds (fun_mk (st := s_law_bent) l_law_bent c_law_bent k_law_bent) fun _ _ _ _ _ _ us hl => match us, hl with | [_, _], _ => rfl⟩
  have D_law_marks : HasDef K mg "_law_marks" s_law_marks ["text"] := ⟨_, _, fun_mk (st := s_law_marks) l_law_marks c_law_marks k_law_marks, PySem.W.mg_of X G a_law_marks, Fun.binds (fun_mk (st := s_law_marks) l_law_marks c_law_marks k_law_marks) fun _ _ _ _ _ _ us hl => match us, hl with | [_], _ => rfl⟩
  have D_law_told : HasDef K mg "_law_told" s_law_told ["text"] := ⟨_, _, fun_mk (st := s_law_told) l_law_told c_law_told k_law_told, PySem.W.mg_of X G a_law_told, Fun.binds (fun_mk (st := s_law_told) l_law_told c_law_told k_law_told) fun _ _ _ _ _ _ us hl => match us, hl with | [_], _ => rfl⟩
  have D_law_due : HasDef K mg "_law_due" s_law_due ["text"] := ⟨_, _, fun_mk (st := s_law_due) l_law_due c_law_due k_law_due, PySem.W.mg_of X G a_law_due, Fun.binds (fun_mk (st := s_law_due) l_law_due c_law_due k_law_due) fun _ _ _ _ _ _ us hl => match us, hl with | [_], _ => rfl⟩
  have B : Bl mg := ⟨PySem.W.mg_none_of X G m_isinstance, PySem.W.mg_none_of X G m_int, PySem.W.mg_none_of X G m_bool, PySem.W.mg_none_of X G m_tuple, PySem.W.mg_none_of X G m_str, PySem.W.mg_none_of X G m_len, PySem.W.mg_none_of X G m_all, PySem.W.mg_none_of X G m_range, PySem.W.mg_none_of X G m_max, PySem.W.mg_none_of X G m_ValueError⟩
  have T : CnT mg t1 t2 t3 t4 t5 := { B with c_LETTERS := PySem.W.mg_of X G g_LETTERS, c_DIGITS := PySem.W.mg_of X G g_DIGITS, c_MOST_LETTERS := PySem.W.mg_of X G g_MOST_LETTERS, c_MOST_DIGITS := PySem.W.mg_of X G g_MOST_DIGITS, c_MOST_NESTED := PySem.W.mg_of X G g_MOST_NESTED }
  have I : PySem.SupX.IsTxt K C := ⟨ga_we, gg_we, eC_we, hC_we, i_ha, i_hn, i_ht, i_hm⟩
  have Z0 : Ex PySem.Challenge.pw_rightstead_k75_values_as_text K mg C fI := ⟨sx_we, nm_line⟩
  have Z : ExL PySem.Challenge.pw_rightstead_k75_values_as_text K mg C fI R Bk De Qu Tm := { Z0 with g_RightsteadError := PySem.W.mg_of X G z_RightsteadError, g_WordError := PySem.W.mg_of X G z_WordError, g_BookError := PySem.W.mg_of X G z_BookError, g_DeedError := PySem.W.mg_of X G z_DeedError, g_QuestionError := PySem.W.mg_of X G z_QuestionError, g_TooMany := PySem.W.mg_of X G z_TooMany, is_WordError := I, is_RightsteadError := I, ex_R := exm_asks eR iR yR sR, ex_W := exm_asks eC_we iC yC_we sC, k_V := kit_yes (by decide +kernel) vC_we, k_W := kit_self, k_B := kit_not iBk yBk sBk sC, k_D := kit_not iDe yDe sDe sC, k_Q := kit_not iQu yQu sQu sC, k_T := kit_not iTm yTm sTm sC }
  refine ⟨PySem.W.fnOf "law" "law" (defArgs s_law) (defBody s_law) (defScope s_law) .none kV_law dc_law pm_law an_law cd_law ct_law, fun s u => .of_eq rfl, fun base _ _ => ?_⟩
  have H_whole := ok_whole (P := PySem.Challenge.pw_rightstead_k75_values_as_text) (w := w) (base := base) B D_whole
  have H_is_row := ok_is_row (P := PySem.Challenge.pw_rightstead_k75_values_as_text) (w := w) (base := base) B D_is_row
  have H_write := ok_write_value (P := PySem.Challenge.pw_rightstead_k75_values_as_text) (w := w) (base := base) B D_write_value (ok_tokens_of B D_tokens_of H_whole H_is_row 20)
  have H_read_value := ok_read_value (P := PySem.Challenge.pw_rightstead_k75_values_as_text) (w := w) (base := base) T Z0 D_read_value (ok_read_values T Z0 D_read_values (ok_read_token (w := w) (base := base) T Z0 D_read_token (ok_is_word T D_is_word) (ok_is_number T D_is_number)))
  have H_pool := ok_law_pool (P := PySem.Challenge.pw_rightstead_k75_values_as_text) (w := w) (base := base) T D_law_pool
  have H_draw := ok_law_draw (P := PySem.Challenge.pw_rightstead_k75_values_as_text) (w := w) (base := base) T D_law_draw
  have H_run := ok_law_run (P := PySem.Challenge.pw_rightstead_k75_values_as_text) (w := w) (base := base) T D_law_run H_draw
  have H_number := ok_law_number (P := PySem.Challenge.pw_rightstead_k75_values_as_text) (w := w) (base := base) T D_law_number H_draw
  have H_letters := ok_law_letters (P := PySem.Challenge.pw_rightstead_k75_values_as_text) (w := w) (base := base) T D_law_letters H_draw H_run
  have H_parts := ok_law_parts (P := PySem.Challenge.pw_rightstead_k75_values_as_text) (w := w) (base := base) T D_law_parts H_draw H_letters H_number
  have H_value := ok_law_value (P := PySem.Challenge.pw_rightstead_k75_values_as_text) (w := w) (base := base) T D_law_value H_draw H_letters H_number H_parts (ok_law_depth T D_law_depth 14)
  have H_token := ok_law_token (P := PySem.Challenge.pw_rightstead_k75_values_as_text) (w := w) (base := base) T D_law_token H_draw H_run H_number
  have H_bent := ok_law_bent (P := PySem.Challenge.pw_rightstead_k75_values_as_text) (w := w) (base := base) T D_law_bent H_draw (ok_law_sign T D_law_sign H_draw) H_token
  have H_told := ok_law_told (P := PySem.Challenge.pw_rightstead_k75_values_as_text) (w := w) (base := base) T Z D_law_told H_read_value (ok_law_marks T Z D_law_marks H_read_value)
  have H_due := ok_law_due (P := PySem.Challenge.pw_rightstead_k75_values_as_text) (w := w) (base := base) T D_law_due (ok_law_read T D_law_read (ok_law_word_in T D_law_word_in))
  exact ok_law T H_write H_pool H_draw (ok_law_same T D_law_same 15) (ok_law_write T D_law_write 14) H_run H_value H_bent H_told H_due _ _ (fun_mk (st := s_law) l_law c_law k_law)
end RS
open PySem PySem.W PyProof.Rows
set_option maxRecDepth 100000 in
set_option maxHeartbeats 0 in
theorem PySem.Challenge.cw_rightstead_k75_values_as_text_holds : PySem.Challenge.rw_rightstead_k75_values_as_text.Holds := by
  w_on; o_law; k_head; (case hw => w_witness2)
  k_fill
  refine L2.walk_of (l := PySem.Challenge.rw_rightstead_k75_values_as_text) (n := 63) (k := 23) (x := "script") (CX := fun _ => L2.CX0) (sp := fun w => RS.spLaw _) rfl (by decide) rfl ⟨rfl, by decide, by decide⟩ (fun w h Y => PySem.W.kIn_of Y) ?F (fun w H a ns hl _ hS => ⟨a, ns, rfl, hS, fun _ _ => rfl⟩) (fun _ _ _ _ _ z => z)
  case F =>
    intro w mg fa h KX G hmg
    refine' RS.all_of KX G hmg ?a_whole ?l_whole ?c_whole ?k_whole ?a_is_row ?l_is_row ?c_is_row ?k_is_row ?a_tokens_of ?l_tokens_of ?c_tokens_of ?k_tokens_of ?a_write_value ?l_write_value ?c_write_value ?k_write_value ?a_is_word ?l_is_word ?c_is_word ?k_is_word ?a_is_number ?l_is_number ?c_is_number ?k_is_number ?a_read_token ?l_read_token ?c_read_token ?k_read_token ?a_read_values ?l_read_values ?c_read_values ?k_read_values ?a_read_value ?l_read_value ?c_read_value ?k_read_value ?a_law_pool ?l_law_pool ?c_law_pool ?k_law_pool ?a_law_draw ?l_law_draw ?c_law_draw ?k_law_draw ?a_law_same ?l_law_same ?c_law_same ?k_law_same ?a_law_write ?l_law_write ?c_law_write ?k_law_write ?a_law_word_in ?l_law_word_in ?c_law_word_in ?k_law_word_in ?a_law_read ?l_law_read ?c_law_read ?k_law_read ?a_law_run ?l_law_run ?c_law_run ?k_law_run ?a_law_number ?l_law_number ?c_law_number ?k_law_number ?a_law_letters ?l_law_letters ?c_law_letters ?k_law_letters ?a_law_parts ?l_law_parts ?c_law_parts ?k_law_parts ?a_law_depth ?l_law_depth ?c_law_depth ?k_law_depth ?a_law_value ?l_law_value ?c_law_value ?k_law_value ?a_law_sign ?l_law_sign ?c_law_sign ?k_law_sign ?a_law_token ?l_law_token ?c_law_token ?k_law_token ?a_law_bent ?l_law_bent ?c_law_bent ?k_law_bent ?a_law_marks ?l_law_marks ?c_law_marks ?k_law_marks ?a_law_told ?l_law_told ?c_law_told ?k_law_told ?a_law_due ?l_law_due ?c_law_due ?k_law_due ?a_law ?l_law ?c_law ?k_law ?g_LETTERS ?g_DIGITS ?g_MOST_LETTERS ?g_MOST_DIGITS ?g_MOST_NESTED ?m_isinstance ?m_int ?m_bool ?m_tuple ?m_str ?m_len ?m_all ?m_range ?m_max ?m_ValueError ?m_super ?z_RightsteadError ?z_WordError ?z_BookError ?z_DeedError ?z_QuestionError ?z_TooMany ?xL_we ?ve_we ?sa_we ?ga_we ?gg_we ?no_we ?iC_we ?tC_we ?kC_we ?eC_we ?vC_we ?yC_we ?hC_we ?mC_we ?tp_we ?di_we ?l_we ?c_we ?r_we ?v_we ?cc_we ?i_ha ?i_hn ?i_ht ?i_hm ?iR ?yR ?sR ?iC ?sC ?iBk ?yBk ?sBk ?iDe ?yDe ?sDe ?iQu ?yQu ?sQu ?iTm ?yTm ?sTm ?eR
    (case a_whole => k_is)
    (case l_whole => k_is)
    (case c_whole => k_is)
    (case k_whole => k_is)
    (case a_is_row => k_is)
    (case l_is_row => k_is)
    (case c_is_row => k_is)
    (case k_is_row => k_is)
    (case a_tokens_of => k_is)
    (case l_tokens_of => k_is)
    (case c_tokens_of => k_is)
    (case k_tokens_of => k_is)
    (case a_write_value => k_is)
    (case l_write_value => k_is)
    (case c_write_value => k_is)
    (case k_write_value => k_is)
    (case a_is_word => k_is)
    (case l_is_word => k_is)
    (case c_is_word => k_is)
    (case k_is_word => k_is)
    (case a_is_number => k_is)
    (case l_is_number => k_is)
    (case c_is_number => k_is)
    (case k_is_number => k_is)
    (case a_read_token => k_is)
    (case l_read_token => k_is)
    (case c_read_token => k_is)
    (case k_read_token => k_is)
    (case a_read_values => k_is)
    (case l_read_values => k_is)
    (case c_read_values => k_is)
    (case k_read_values => k_is)
    (case a_read_value => k_is)
    (case l_read_value => k_is)
    (case c_read_value => k_is)
    (case k_read_value => k_is)
    (case a_law_pool => k_is)
    (case l_law_pool => k_is)
    (case c_law_pool => k_is)
    (case k_law_pool => k_is)
    (case a_law_draw => k_is)
    (case l_law_draw => k_is)
    (case c_law_draw => k_is)
    (case k_law_draw => k_is)
    (case a_law_same => k_is)
    (case l_law_same => k_is)
    (case c_law_same => k_is)
    (case k_law_same => k_is)
    (case a_law_write => k_is)
    (case l_law_write => k_is)
    (case c_law_write => k_is)
    (case k_law_write => k_is)
    (case a_law_word_in => k_is)
    (case l_law_word_in => k_is)
    (case c_law_word_in => k_is)
    (case k_law_word_in => k_is)
    (case a_law_read => k_is)
    (case l_law_read => k_is)
    (case c_law_read => k_is)
    (case k_law_read => k_is)
    (case a_law_run => k_is)
    (case l_law_run => k_is)
    (case c_law_run => k_is)
    (case k_law_run => k_is)
    (case a_law_number => k_is)
    (case l_law_number => k_is)
    (case c_law_number => k_is)
    (case k_law_number => k_is)
    (case a_law_letters => k_is)
    (case l_law_letters => k_is)
    (case c_law_letters => k_is)
    (case k_law_letters => k_is)
    (case a_law_parts => k_is)
    (case l_law_parts => k_is)
    (case c_law_parts => k_is)
    (case k_law_parts => k_is)
    (case a_law_depth => k_is)
    (case l_law_depth => k_is)
    (case c_law_depth => k_is)
    (case k_law_depth => k_is)
    (case a_law_value => k_is)
    (case l_law_value => k_is)
    (case c_law_value => k_is)
    (case k_law_value => k_is)
    (case a_law_sign => k_is)
    (case l_law_sign => k_is)
    (case c_law_sign => k_is)
    (case k_law_sign => k_is)
    (case a_law_token => k_is)
    (case l_law_token => k_is)
    (case c_law_token => k_is)
    (case k_law_token => k_is)
    (case a_law_bent => k_is)
    (case l_law_bent => k_is)
    (case c_law_bent => k_is)
    (case k_law_bent => k_is)
    (case a_law_marks => k_is)
    (case l_law_marks => k_is)
    (case c_law_marks => k_is)
    (case k_law_marks => k_is)
    (case a_law_told => k_is)
    (case l_law_told => k_is)
    (case c_law_told => k_is)
    (case k_law_told => k_is)
    (case a_law_due => k_is)
    (case l_law_due => k_is)
    (case c_law_due => k_is)
    (case k_law_due => k_is)
    (case a_law => k_is)
    (case l_law => k_is)
    (case c_law => k_is)
    (case k_law => k_is)
    (case g_LETTERS => k_is)
    (case g_DIGITS => k_is)
    (case g_MOST_LETTERS => k_is)
    (case g_MOST_DIGITS => k_is)
    (case g_MOST_NESTED => k_is)
    (case m_isinstance => k_is)
    (case m_int => k_is)
    (case m_bool => k_is)
    (case m_tuple => k_is)
    (case m_str => k_is)
    (case m_len => k_is)
    (case m_all => k_is)
    (case m_range => k_is)
    (case m_max => k_is)
    (case m_ValueError => k_is)
    (case m_super => k_is)
    (case z_RightsteadError => k_is)
    (case z_WordError => k_is)
    (case z_BookError => k_is)
    (case z_DeedError => k_is)
    (case z_QuestionError => k_is)
    (case z_TooMany => k_is)
    (case xL_we => k_is)
    (case ve_we => decide +kernel)
    (case sa_we => k_is)
    (case ga_we => k_is)
    (case gg_we => k_is)
    (case no_we => k_is)
    (case iC_we => k_is)
    (case tC_we => k_is)
    (case kC_we => k_is)
    (case eC_we => k_is)
    (case vC_we => k_is)
    (case yC_we => k_is)
    (case hC_we => k_is)
    (case mC_we => k_is)
    (case tp_we => k_is)
    (case di_we => first | ks_is | k_is)
    (case l_we => k_is)
    (case c_we => k_is)
    (case r_we => k_is)
    (case v_we => rfl)
    (case cc_we => k_is)
    (case i_ha => k_is)
    (case i_hn => k_is)
    (case i_ht => k_is)
    (case i_hm => k_is)
    (case iR => k_is)
    (case yR => k_is)
    (case sR => k_is)
    (case iC => k_is)
    (case sC => first | rfl | k_is)
    (case iBk => k_is)
    (case yBk => k_is)
    (case sBk => k_is)
    (case iDe => k_is)
    (case yDe => k_is)
    (case sDe => k_is)
    (case iQu => k_is)
    (case yQu => k_is)
    (case sQu => k_is)
    (case iTm => k_is)
    (case yTm => k_is)
    (case sTm => k_is)
    (case eR => k_is)
#print axioms PySem.Challenge.cw_rightstead_k75_values_as_text_holds
