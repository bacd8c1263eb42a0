import PyProof.Rows.All
import Wide.All
import OpenK.AllK
import Wide.FinOn
import KE.KExcSuper
import KE.KExcIs
import HandS.ForMost
import HandS.Wide
import HandS.Style
import HandS.ExcInit
import HandS.ExcValue
import HandS.IsInst
import HandS.ExcField
import HandS.ExcIs
import HandS.Defaults
import HandS.WordsExc
import PySem.Challenge.RW_linearmix_k00_error_classes
import HandS.Comp
import KE.KStateDown
import Lean
import HandS.Ends
import HandS.More
import HandS.Words
import HandS.Head0
import HandS.Head1
import HandS.Head2
import HandS.HeadEnd
import HandS.HeadHook1
import HandS.HeadHook2
set_option Elab.async false
set_option linter.all false
set_option maxRecDepth 100000
set_option maxHeartbeats 4000000
/-! errors with a field of their own, whose __init__ asks super first -/
namespace PySem
namespace Fld
open PySem.W PySem.Calls PyProof.Rows PySem.HandSPX
/-! ### the text of __init__ -/
def fA (x : Str) (p1 p2 : Pos) : Arguments := { posonlyargs := [], args := [{ arg := "self", annotation := none, pos := p1 }, { arg := x, annotation := none, pos := p2 }], vararg := none, kwonlyargs := [], kw_defaults := [], kwarg := none, defaults := [] }
def fB (x t : Str) (q1 q2 q3 q4 q5 q6 q7 q8 q9 q0 : Pos) : List Stmt :=
  [.Expr (.Call (.Attribute (.Call (.Name "super" q1) [] [] q2) "__init__" q3) [.Constant (.str t) 0 q4] [] q5) q6, .Assign [.Attribute (.Name "self" q7) x q8] (.Name x q9) q0]
def fS (x : Str) : Scope := { kind := .function, names := [("self", .local), (x, .local), ("__class__", .free), ("super", .globalImplicit)], isGenerator := false, isCoroutine := false, more := [] }
/-- the call in it, unfolded -/
def CallEq (t : Str) (q1 q2 q3 q4 q5 : Pos) : Prop := ∀ env : Env, ∃ pl : Sem Bool, eval (.Call (.Attribute (.Call (.Name "super" q1) [] [] q2) "__init__" q3) [.Constant (.str t) 0 q4] [] q5) env = (do
      let ov ← attributeBase (.Call (.Name "super" q1) [] [] q2) "__init__" env (eval (.Call (.Name "super" q1) [] [] q2) env)
      standAt q3.atName
      let (f, first) ← holding [ov] (getMethod ov "__init__" pl)
      callWith q5 f first (backTo q5 (starEach [.Constant (.str t) 0 q4] env)) [])
/-- what the written part says of the class at C and of its __init__, at fI -/
structure Txt (prog : Program) (K : Frag) (C fI : Addr) (x : Str) : Prop where
  cls : ∃ nm q N bs bm sn sub ab col dd k0 k1 k2 k3 k5, K.lookup C = some (excClassObj nm q C N bs bm true sn sub ab col dd k0 k1 k2 k3 k5 "ValueError.__new__") ∧ refsVE bm = true
  sa : findIn K (.ref C) "__setattr__" = some (some (.builtin "object.__setattr__"))
  noN : findIn K (.ref C) x = some none
  iC : findIn K (.ref C) "__init__" = some (some (.ref fI))
  tC : typeIn K (.ref fI) = some (.type "function")
  kC : keepIn K (.ref C) = true
  sup : ks_superIn K C C "__init__" = some (some (.builtin "ValueError.__init__"))
  exV : subIn K (.ref C) (.type "ValueError") = some true
  exC : subIn K (.ref C) (.type "BaseException") = some true
  self : mroIn K C (.ref C) = some true
  opq : nsIn K cStatics "thirdparty.any" = some none
  gsu : nsIn K mainGlobals "super" = some none
  htop : (prog.main.scope.names.lookup ("super" : Str)).isSome = false
  fn : ∃ (oc : Value) (od : Option Addr) (doc pm : Value) (an : Option Addr) (cda cc : Addr) (ct : Value) (osl : Array (Option Value)) (p1 p2 q1 q2 q3 q4 q5 q6 q7 q8 q9 q0 : Pos) (t qual : Str) (ccl : Value) (cdd : Option Addr) (vs : Array Value) (ccs : Array (Option Value)) (file : Str) (tf : Tok) (cl : Value) (cld : Option Addr) (csl : Array (Option Value)),
    K.lookup fI = some ⟨oc, od, .func (ksFn "__init__" qual (fA x p1 p2) (fB x t q1 q2 q3 q4 q5 q6 q7 q8 q9 q0) (fS x) .none .none doc pm an (.ref cda) ct cc), osl⟩ ∧ codeIn K (.ref cda) qual = true ∧
    K.lookup cda = some ⟨ccl, cdd, .fields vs, ccs⟩ ∧ vs[2]? = some (.str file tf) ∧ ((prog.main.file : Str) == file) = true ∧ K.lookup cc = some ⟨cl, cld, .cell (some (.ref C)), csl⟩ ∧ CallEq t q1 q2 q3 q4 q5
/-- what __init__ leaves of a fresh error at e -/
structure InitEnd (h h' : Heap) (e C dx : Addr) (x : Str) (v : Value) : Prop where
  keep : ∀ b o, b ≠ e → h.get? b = some o → h'.get? b = some o
  obj : ∃ t1 : Addr, h'.get? e = some { cls := .ref C, dict := some dx, data := .fields #[.ref t1, .none, .none, .none, .bool false, .none] }
  dbig : h.objs.size ≤ dx
  dne : dx ≠ e
  ns : h'.Ns1 dx (fun y => if y = x then some v else none)
theorem ldC {M : Model} {A : Around} {E : Value → Shared → Prop} {s : Shared} {env : Env} {m : Str → Option Value} {x : Str} {pos : Pos} {v : Value} {Q : Value → Shared → Prop} (hn : s.heap.Ns env.locals m) (hv : m x = some v) (h : Q v s)
    (hk : env.scope.kind = .function) (hl : env.kindOf x = some .local) (hd : (x == ("__debug__" : Str)) = false) :
    wpAny M A (eval (.Name x pos) env) Q E s := wpAny_Name (wpAny_loadName_local hk hl hn hv h) hd
section
variable {prog : Program} {w : World} {A : Around} {E : Value → Shared → Prop} {R : Result → Shared → Prop} {s : Shared} {K : Frag} {mg mb : Str → Option Value} {C fI : Addr} {x : Str}
theorem init_fld (T : Txt prog K C fI x) (hx : x = "place" ∨ x = "what" ∨ x = "where") {e t0 : Addr} {v : Value} {args : Args} (X : K.In s.heap) (hlim : s.heap.NoLimit) (G : s.heap.Ns mainGlobals mg) (B : s.heap.Ns builtinsNs mb) (hb : mb "super" = some (.type "super"))
    (he : s.heap.get? e = some (excO C t0)) (hnx : K.lookup e = none) (hroom : A.depth < recursionLimit) (hargs : args = ⟨[.ref e, v], []⟩ ∨ args = ⟨[.ref e], [(x, v)]⟩)
    (hq : ∀ h' tk dx, InitEnd s.heap h' e C dx x v → R (.ok (.ret .none)) { s with heap := h', toks := tk }) :
    codeAny (model prog w) A (.call (.ref fI) args) R s := by
  obtain ⟨oc, od, doc, pm, an, cda, cc, ct, osl, p1, p2, q1, q2, q3, q4, q5, q6, q7, q8, q9, q0, t, qual, ccl, cdd, vs, ccs, file, tf, cl, cld, csl, ho, hcd, hcda, hvs, hfile, hcc, hce⟩ := T.fn
  obtain ⟨nm, q, N, bs, bm, sn, sub, ab, col, dd, k0, k1, k2, k3, k5, hC, hbm⟩ := T.cls
  have hcl : clsIn K C = some { name := nm, bases := bs, mro := .ref C :: bm, ns := N, qualname := q, hasDict := true, slotNames := sn, subclasses := sub, abstract := ab, collection := col, hasDel := false } := by unfold clsIn; rw [hC] <;> rfl
  have I0 : InstAt s.heap e (excO C t0) C none := ⟨he, rfl, rfl, trivial⟩
  have hne : e ≠ C := ks_ne X I0 hcl
  obtain ⟨hp, g, d, tk0, os⟩ := s
  have hbind : BindsTo ⟨hp, g, d, tk0, os⟩ (ksFn "__init__" qual (fA x p1 p2) (fB x t q1 q2 q3 q4 q5 q6 q7 q8 q9 q0) (fS x) .none .none doc pm an (.ref cda) ct cc) args [("self", .ref e), (x, v)] := by
    rcases hargs with rfl | rfl
    · exact BindsTo.of_eq (by rcases hx with rfl | rfl | rfl <;> first | rfl | with_unfolding_all rfl)
    · exact BindsTo.of_eq (by rcases hx with rfl | rfl | rfl <;> first | rfl | with_unfolding_all rfl)
  have hloc : ∀ y ∈ ([("self", .ref e), (x, v)] : List (Str × Value)), (fS x).names.lookup y.1 = some .local := by
    rcases hx with rfl | rfl | rfl <;> (intro y hy; simp only [List.mem_cons, List.not_mem_nil, or_false] at hy; rcases hy with rfl | rfl <;> first | rfl | decide)
  have hcell : ∀ y ∈ (fS x).names, y.2 ≠ .cell := by rcases hx with rfl | rfl | rfl <;> decide
  refine ks_codeAny_call_defAt (fd := ksFn "__init__" qual (fA x p1 p2) (fB x t q1 q2 q3 q4 q5 q6 q7 q8 q9 q0) (fS x) .none .none doc pm an (.ref cda) ct cc) (body := fB x t q1 q2 q3 q4 q5 q6 q7 q8 q9 q0) (binds := [("self", .ref e), (x, v)])
    hroom (X _ _ ho) rfl hlim (codeRec_of X hcd) rfl hbind hcell hloc (fun h₁ hns k1 => ?_) rfl rfl rfl
  have X1 : K.In h₁ := X.keeps k1
  have he1 := k1 _ _ he
  have ef : ∀ y, ([("self", .ref e), (x, v)] : List (Str × Value)).reverse.lookup y = if y = x then some v else if y = "self" then some (.ref e) else none := by
    intro y
    show List.lookup y [(x, v), ("self", .ref e)] = _
    simp only [List.lookup]
    by_cases h1 : y = x
    · rw [if_pos h1, h1]; simp
    · have : (y == x) = false := by simpa using h1
      rw [if_neg h1, this]
      by_cases h2 : y = "self"
      · rw [if_pos h2, h2]; simp
      · have : (y == ("self" : Str)) = false := by simpa using h2
        rw [if_neg h2, this]
  have m1 : ([("self", .ref e), (x, v)] : List (Str × Value)).reverse.lookup ("self" : Str) = some (.ref e) := by
    rw [ef]
    rcases hx with rfl | rfl | rfl <;> first | rfl | decide
  have m2 : ([("self", .ref e), (x, v)] : List (Str × Value)).reverse.lookup x = some v := by rw [ef, if_pos rfl]
  have kS : ("super" : Str) ≠ x ∧ (fS x).names.lookup ("super" : Str) = some .globalImplicit ∧ (fS x).names.lookup ("__class__" : Str) = some .free ∧ (fS x).names.lookup ("self" : Str) = some .local ∧ (fS x).names.lookup x = some .local ∧ (x == ("__debug__" : Str)) = false := by
    rcases hx with rfl | rfl | rfl <;> decide
  obtain ⟨n0, n1, n2, n3, n4, n5⟩ := kS
  -- super().__init__(..)
  obtain ⟨pl, hpl⟩ := hce (callEnv (ksFn "__init__" qual (fA x p1 p2) (fB x t q1 q2 q3 q4 q5 q6 q7 q8 q9 q0) (fS x) .none .none doc pm an (.ref cda) ct cc) hp.objs.size fI)
  refine ks_wpAt_execs_cons (ks_wpAt_Expr_any (ks_wpAt_MethodCall (pl := pl) ?go hpl) ?hi ?hs)
  case hi => rfl
  case hs => rfl
  refine ks_wpAt_super_base n1 n2 (by decide) rfl (X1 _ _ ho) rfl rfl rfl (X1 _ _ hcda) rfl hvs hfile T.htop ?_
  refine ks_loadName_global rfl n1 (loadGlobal_builtin (G.keeps k1) (mg_none_of X G T.gsu) (B.keeps k1) hb ⟨rfl, ?_⟩)
  refine wpAny_loadName_free rfl n2 rfl ⟨_, X1 _ _ hcc, rfl⟩ ?_
  refine wpAny_loadName_local rfl n3 hns m1 ?_
  refine ks_wpAny_isType_cls (X1 _ _ hC) rfl ⟨rfl, ?_⟩
  refine ks_wpAny_call_super (X1 _ _ hC) rfl he1 rfl (fun c z => by cases z) (looks_mroIn X1 T.self) (fun h2 hso k2 => ?_)
  have X2 : K.In h2 := X1.keeps k2
  have he2 := k2 _ _ he1
  have I2 : InstAt h2 e (excO C t0) C none := ⟨he2, rfl, rfl, trivial⟩
  have hsu := T.sup
  unfold ks_superIn at hsu
  rw [hcl] at hsu
  refine kxs_getMethod kxs_ValueError hso (looks_opaque X2 T.opq) (l₀ := .ref C :: bm) ?_ rfl X2 hsu (I2.type.andThen (looks_subIn X2 T.exV)) hne (by decide) ?_
  · exact fun A Q E s k q => wpAny_bind ((looks_clsIn X2 hcl) A _ E s k (wpAny_pure q))
  have k3 : ∀ b o, h2.get? b = some o → (h2.push (kxs_mw "ValueError.__init__" e)).get? b = some o := fun b o z => Heap.get?_push_of_some _ z
  have hu : (h2.push (kxs_mw "ValueError.__init__" e)).get? h2.objs.size = some (kxs_mw "ValueError.__init__" e) := Heap.get?_push_at rfl rfl
  refine kxs_callWith (i := "ValueError.__init__") (x := e) rfl (evalArgs_plain (spliced_cons (Constant_str (k := 0) (pos := q4) (spliced_nil ⟨hu, ?_⟩))))
  have X3 := X2.keeps k3
  have he3 := k3 _ _ he2
  refine wpAny_call (codeAny_of_tree ?_)
  show wpAny _ (Around.in1 _) (callAny (.ref h2.objs.size) ⟨[_], []⟩) _ _ _
  simp only [callAny]
  refine wpAny_bind (wpAny_load hu ?_)
  simp only [kxs_mw, show (Value.type "method-wrapper" == Value.type "method" || Value.type "method-wrapper" == Value.type "builtin_function_or_method" || Value.type "method-wrapper" == Value.type "method-wrapper") = true by decide, if_true]
  refine KFB.if_so (by decide) ?_
  refine wpAny_bind (check_bound_init F.excBase_ValueError.toExcCallFacts (X3 _ _ hC) he3 rfl ?_)
  refine wpAny_bind (wpAny_pure (wpAny_pure ?_))
  refine ⟨plainId_quiet F.excBase_ValueError.init.plain _, codeAny_builtin F.excBase_ValueError.initEntry ?_⟩
  refine exc_init_tree (cls := .ref C) (t0 := t0) (dv := none) (c2 := .none) (c3 := .none) (b4 := .bool false) he3 (by rw [sizeLine_eq, List.length_singleton]; decide) (fun h4 k4 he4 _ => ?_)
  -- self.x = x
  have k5 : ∀ b o, b ≠ e → h₁.get? b = some o → h4.get? b = some o := fun b o nb z => k4 b o nb (k3 _ _ (k2 _ _ z))
  have X4 : K.In h4 := fun a o z => k4 a o (fun ea => by rw [ea, hnx] at z; cases z) (X3 _ _ z)
  have hsz : hp.objs.size ≠ e := Nat.ne_of_gt (Heap.lt_size he)
  have hn4 : h4.Ns hp.objs.size (fun y => ([("self", .ref e), (x, v)] : List (Str × Value)).reverse.lookup y) := by
    obtain ⟨oL, es, ep, hL, r⟩ := hns
    exact ⟨oL, es, ep, k5 _ _ hsz hL, r⟩
  refine wpAt_of_wpAny (wpAny_execs_cons (plainObj_wpAny_Assign_Attribute ?_ ?hs2))
  case hs2 => rfl
  refine ldC hn4 m2 (ldC hn4 m1 ?_ rfl n3 (by decide)) rfl n4 n5
  refine set_plain X4 (ox := excRec (.ref C) (h2.push (kxs_mw "ValueError.__init__" e)).objs.size none .none .none (.bool false)) (od := none) ⟨he4, rfl, rfl, trivial⟩ T.sa ?_
  refine exc_osa X4 he4 hcl (show refsVE (.ref C :: bm) = true from hbm) rfl T.noN (fun h5 tk5 dx k6 dn dne he5 hn5 => ?_)
  refine wpAny_execs_nil (hq h5 tk5 dx ⟨fun b o nb z => k6 b o nb (k5 b o nb (k1 b o z)), ⟨_, he5⟩, ?_, dne, hn5⟩)
  obtain ⟨oL, es, ep, hL, _⟩ := hn4
  exact Nat.le_of_lt (Nat.lt_of_lt_of_le (Heap.lt_size hL) dn)
end
section
variable {prog : Program} {w : World} {M : Model} {A : Around} {E : Value → Shared → Prop} {R : Result → Shared → Prop} {h : Heap} {g : Array GenState} {d : Drawn} {t : Nat} {os : OsState}
variable {nm q : Str} {C N : Addr} {bs bm bmB : List Value} {hdct : Bool} {sn : List Str} {sub : List Value} {ab : Bool} {col : Option Bool} {dd : Option Addr} {k0 k1 k2 k3 k5 : Option Value} {B newId initId : String} {x : Str} {v : Value}
/-- a call with one keyword, the class's __new__ looks at none -/
theorem kw_new_check (F : ExcBaseFacts B newId initId bmB) (hT : ∀ X : String, bm.contains (.type X) = bmB.contains (.type X)) {Q : Unit → Shared → Prop}
    (hC : h.get? C = some (excClassObj nm q C N bs bm hdct sn sub ab col dd k0 k1 k2 k3 k5 newId)) (hq : Q () ⟨h, g, d, t, os⟩) : wpAny M A (checkBuiltinCall newId ⟨[.ref C], [(x, v)]⟩) Q E ⟨h, g, d, t, os⟩ := by
  have b1 : (Value.ref C :: bm).contains (.type B) = true := by rw [List.contains_cons, hT, F.hasB, Bool.or_true]
  have b2 := F.noStar
  simp only [checkBuiltinCall, F.newKind, F.newSplit, F.newRow]
  repeat (first | refine wpAny_loadPart_at hC ?_ | (refine wpAny_isSubtype_exc hC ?_; rw [b1]) | refine wpAny_staticBase_exc hC ?_ | refine wpAny_madeBy_exc hC ?_ | simp only [bne_self_eq_false, Bool.false_eq_true, if_false] | wp_step)
  exact hq
theorem kw_type_check (hC : h.get? C = some (excClassObj nm q C N bs bm hdct sn sub ab col dd k0 k1 k2 k3 k5 newId)) {Q : Unit → Shared → Prop}
    (hq : Q () ⟨h, g, d, t, os⟩) : wpAny M A (checkBuiltinCall "type.__call__" ⟨[.ref C], [(x, v)]⟩) Q E ⟨h, g, d, t, os⟩ := by
  have c3 := tc_sub
  have c4 : (⟨h, g, d, t, os⟩ : Shared).TypeIs (.ref C) "type" := ⟨_, hC, rfl⟩
  simp only [checkBuiltinCall, tc_kind, tc_split]
  repeat (any_goals (first | assumption | with_reducible refine wpAny_loadPart_at hC ?_ | with_reducible refine wpAny_onRaise ?_ | with_reducible refine wpAny_map ?_ | wp_step))
theorem kw_new (F : ExcBaseFacts B newId initId bmB) (hT : ∀ X : String, bm.contains (.type X) = bmB.contains (.type X))
    (hC : h.get? C = some (excClassObj nm q C N bs bm hdct sn sub ab col dd k0 k1 k2 k3 k5 newId))
    (hq : R (.ok (.ret (.ref (h.objs.size + 1)))) ⟨(h.push (kdv_tup [])).push (excO C h.objs.size), g, d, t, os⟩) :
    codeAny (model prog w) A (.builtin newId ⟨[.ref C], [(x, v)]⟩) R ⟨h, g, d, t, os⟩ := by
  have ends := F.ends
  have b1 : (Value.ref C :: bm).contains (.type B) = true := by rw [List.contains_cons, hT, F.hasB, Bool.or_true]
  have b2 : (Value.ref C :: bm).contains (.type "AttributeError") = false := by rw [List.contains_cons, hT, F.noAttr]; rfl
  have b3 : (Value.ref C :: bm).contains (.type "NameError") = false := by rw [List.contains_cons, hT, F.noName]; rfl
  refine codeAny_builtinAt F.entry ?_
  unfold Builtin.«BaseException.__new__»
  refine wpAt_bind ?_
  show wpAt _ _ _ (stack >>= _) _ _ _
  refine wpAt_bind (wpAt_stack fun p below => wpAt_of_wpAny ?_)
  wp_walk
  refine wpAt_of_wpAny ?_
  rw [F.owner]
  repeat (first | with_reducible refine wpAny_madeHere_exc F.canon hC ?_ | with_reducible refine wpAny_loadPart_at hC ?_ | (with_reducible refine wpAny_isSubtype_exc hC ?_; first | rw [b1] | rw [b2] | rw [b3]) | wp_step)
  show R _ _
  rw [Heap.size_push]
  exact hq
theorem kw_type_call (F : ExcBaseFacts B newId initId bmB) (hT : ∀ X : String, bm.contains (.type X) = bmB.contains (.type X)) {fI : Addr} {Q : Fin → Shared → Prop}
    (hC : h.get? C = some (excClassObj nm q C N bs bm hdct sn sub ab col dd k0 k1 k2 k3 k5 newId))
    (hi : Looks (model prog w) h (typeLookup (.ref C) "__init__") (some (.ref fI))) (hb : ∀ self, Looks (model prog w) h (bindSpecial (.ref fI) self) (.ref fI, [self]))
    (hq : codeAny (model prog w) A (.call (.ref fI) ⟨[.ref (h.objs.size + 1)], [(x, v)]⟩)
      (fun r s' => match r with | .ok (.ret v) => v = .none ∧ Q (.done (.ret (.ref (h.objs.size + 1)))) s' | .ok _ => False | .error e => E e s')
      ⟨(h.push (kdv_tup [])).push (excO C h.objs.size), g, d, t, os⟩) :
    wpAny (model prog w) A (Builtin.«type.__call__» ⟨[.ref C], [(x, v)]⟩) Q E ⟨h, g, d, t, os⟩ := by
  repeat (first | with_reducible refine wpAny_loadPart_at hC ?_ | with_reducible refine wpAny_madeBy_exc hC ?_ | wp_step)
  refine codeAny_call_builtin_code (Code.quiet_builtin _ F.quiet) (kw_new_check F hT hC ?_)
  refine kw_new F hT hC ?_
  show wpAny _ _ _ _ _ _
  have k : ∀ b o, h.get? b = some o → ((h.push (kdv_tup [])).push (excO C h.objs.size)).get? b = some o := fun b o e => Heap.get?_push_of_some _ (Heap.get?_push_of_some _ e)
  have d1 := k _ _ hC
  have d2 : ((h.push (kdv_tup [])).push (excO C h.objs.size)).get? (h.objs.size + 1) = some (excO C h.objs.size) := by heap_get
  have d3 : (Value.ref C :: bm).contains (.ref C) = true := by simp
  have i1 := hi.keeps k
  have b1 := (hb (.ref (h.objs.size + 1))).keeps k
  unfold isInstance
  repeat (first | with_reducible refine wpAny_loadPart_at d2 ?_ | (with_reducible refine wpAny_isSubtype_exc d1 ?_; rw [d3]) | wp_step)
  show wpAny _ _ (typeLookup (.ref C) _) _ _ _
  refine i1.at (wpAny_holding (wpAny_bind (b1.at ?_)))
  refine wpAny_bind (wpAny_call (codeAny_mono hq fun r s' z => ?_))
  rcases r with e | (v | _ | _ | _) <;> first | exact z | exact z.elim | skip
  obtain ⟨rfl, z⟩ := z
  first
    | exact wpAny_pure (wpAny_pure z)
    | (wp_walk; exact z)
theorem kw_call (F : ExcBaseFacts B newId initId bmB) (hT : ∀ X : String, bm.contains (.type X) = bmB.contains (.type X)) {fI : Addr}
    (hC : h.get? C = some (excClassObj nm q C N bs bm hdct sn sub ab col dd k0 k1 k2 k3 k5 newId))
    (hi : Looks (model prog w) h (typeLookup (.ref C) "__init__") (some (.ref fI))) (hb : ∀ self, Looks (model prog w) h (bindSpecial (.ref fI) self) (.ref fI, [self]))
    (hq : codeAny (model prog w) (A.under (.builtin "type.__call__" ⟨[.ref C], [(x, v)]⟩)) (.call (.ref fI) ⟨[.ref (h.objs.size + 1)], [(x, v)]⟩) (InitBack (h.objs.size + 1) R)
      ⟨(h.push (kdv_tup [])).push (excO C h.objs.size), g, d, t, os⟩) :
    codeAny (model prog w) A (.call (.ref C) ⟨[], [(x, v)]⟩) R ⟨h, g, d, t, os⟩ := by
  have g1 := tc_lookup
  have g2 := tc_bind (.ref C)
  have g3 : (⟨h, g, d, t, os⟩ : Shared).TypeIs (.ref C) "type" := ⟨_, hC, rfl⟩
  refine codeAny_of_tree ?_
  show wpAny _ _ (callAny (.ref C) _) _ _ _
  repeat (any_goals (first | assumption | with_reducible refine wpAny_loadPart_at hC ?_ | wp_step))
  refine ⟨rfl, ?_⟩
  refine codeAny_call_builtin_at (Code.quiet_builtin _ (by decide +kernel)) entry_typeCall (kw_type_check hC (kw_type_call F hT hC hi hb ?_))
  refine codeAny_mono hq fun r s' z => ?_
  rcases r with e | (v | _ | _ | _) <;> exact z
end
end Fld
end PySem

set_option maxRecDepth 100000
set_option maxHeartbeats 4000000
namespace L2
open PySem PySem.Spec PyProof.Rows
section
variable {X : Cx} {pins : List (Addr × Obj)} {σ : St} {H : Hp} {s : Shared} {e C dx fI : Addr} {x : Str} {v : V} {u : Value}
/-- a made error and its dict, tracked -/
theorem Inv.field {h2 h' : Heap} {g : Array GenState} {d : Drawn} {tk t' : Nat} {os : OsState} (I : Inv X pins σ H ⟨h2, g, d, tk, os⟩) (he : H e = some (exo e C none)) (r : RelV v u) (N : PySem.Fld.InitEnd h2 h' e C dx x u) :
    Inv X pins σ (upd (upd H dx (exd dx [(x, v)])) e (exo e C (some dx))) ⟨h', g, d, t', os⟩ ∧ H dx = none := by
  obtain ⟨kp, ⟨t1, ob⟩, big, dne, ns⟩ := N
  have fr : H dx = none := I.hok.fresh big
  have old : ∀ {b : Addr} {o : Obj}, h2.get? b = some o → b ≠ dx := fun z => Nat.ne_of_lt (Nat.lt_of_lt_of_le (Heap.lt_size z) big)
  have oth : ∀ {b : Addr}, H b = none → b ≠ e := fun z w => by
    rw [w, he] at z
    cases z
  have same : ∀ {b : Addr} {o : HO}, H b = some o → exo e C none ≠ o → upd (upd H dx (exd dx [(x, v)])) e (exo e C (some dx)) b = some o := fun {b o} z dif => by
    rw [upd_ne (at_ne he z dif), upd_ne (ne_of_none z fr), z]
  refine ⟨I.un (t' := t') ⟨fun b o q n _ _ => kp b o (oth n) q, fun b o q n _ _ => ⟨o.slots, kp b o (oth n) q⟩, fun b o q n _ => by rw [upd_ne (oth n), upd_ne (old q), n], fun b o q _ => ?_, fun b xs q => same q exo_tup, fun b o w q => same q exo_frz, fun b ps q => ⟨#[], by rw [same q exo_tbl]; simp⟩⟩ fun b o q => ?_, fr⟩
  · by_cases hb : b = e
    · exact ⟨_, by rw [hb]; exact ob⟩
    · exact ⟨o, kp b o hb q⟩
  · by_cases hb : b = e
    · subst hb
      rw [upd_same] at q
      cases q
      exact exo_ok ob
    · rw [upd_ne hb] at q
      by_cases hd : b = dx
      · subst hd
        rw [upd_same] at q
        cases q
        exact exd_ok ns (relO_put (fs := []) r fun _ => trivial)
      · rw [upd_ne hd] at q
        refine (I.hok b o q).stay (fun c w hc z => kp c w (fun ce => ?_) z) (fun c hc => same hc exo_own) fun c xs hc => same hc exo_tup
        rcases hc with hc | hc
        · exact hb (hc.symm.trans ce)
        · exact at_ne he hc exo_own ce
/-- an error with a field, made -/
def tMkF (C : Addr) (x : Str) (te : TE) : TE := fun σ H Q => te σ H fun v H1 => ∀ a d, H1 a = none → H1 d = none → d ≠ a → Q (.ref a) (upd (upd H1 d (exd d [(x, v)])) a (exo a C (some d)))
theorem mk_run (T : PySem.Fld.Txt X.prog X.K C fI x) (hx : x = "place" ∨ x = "what" ∨ x = "where") (hs : X.mg "super" = none) (hr : Room 1 X.A) {Q : VK} {hp : Heap} {g : Array GenState} {d : Drawn} {tk : Nat} {os : OsState}
    (I : Inv X pins σ H ⟨hp, g, d, tk, os⟩) (r : RelV v u) {args : Args} (us : List Value) (ha : (us = [u] ∧ args = ⟨[u], []⟩) ∨ (us = [] ∧ args = ⟨[], [(x, u)]⟩))
    (q : ∀ a d, H a = none → H d = none → d ≠ a → Q (.ref a) (upd (upd H d (exd d [(x, v)])) a (exo a C (some d)))) :
    codeAny (model X.prog X.w) X.A (.call (.ref C) args) (fun r s' => match r with | .ok (.ret w) => EP X pins σ Q w s' | .ok _ => False | .error e => X.xe e s') ⟨hp, g, d, tk, os⟩ := by
  have gl : hp.Ns mainGlobals X.mg := I.mod.glob.keeps I.bk
  obtain ⟨mb, b1, b2⟩ := I.mod.blt
  have bl : hp.Ns builtinsNs mb := b1.keeps I.bk
  have sup : mb "super" = some (.type "super") := (b2 "super" (by decide)).trans (by first | boot_by_name | rfl | kernel_rfl)
  obtain ⟨nm, qn, N, bs, bm, sn, sub, ab, col, dd, k0, k1, k2, k3, k5, hC, hbm⟩ := T.cls
  have cont := fun Y => PySem.HandSPX.refsVE_contains Y bm hbm
  have hn : H (hp.objs.size + 1) = none := I.hok.fresh (Nat.le_succ _)
  have kk : ∀ b o, hp.get? b = some o → ((hp.push (PySem.W.kdv_tup us)).push (PySem.HandSPX.excO C hp.objs.size)).get? b = some o := fun b o z => Heap.get?_push_of_some _ (Heap.get?_push_of_some _ z)
  have at1 : ((hp.push (PySem.W.kdv_tup us)).push (PySem.HandSPX.excO C hp.objs.size)).get? (hp.objs.size + 1) = some (PySem.HandSPX.excO C hp.objs.size) := by heap_get
  have lone : X.K.lookup (hp.objs.size + 1) = none := by
    cases z : X.K.lookup (hp.objs.size + 1) with
    | none => rfl
    | some o => exact absurd (Heap.lt_size (I.kIn _ _ z)) (by show ¬ hp.objs.size + 1 < hp.objs.size; omega)
  have J : Inv X pins σ (upd H (hp.objs.size + 1) (exo (hp.objs.size + 1) C none)) ⟨(hp.push (PySem.W.kdv_tup us)).push (PySem.HandSPX.excO C hp.objs.size), g, d, tk, os⟩ :=
    I.laid (t' := tk) (h' := (hp.push (PySem.W.kdv_tup us)).push (PySem.HandSPX.excO C hp.objs.size)) kk (Nat.le_succ _) (exo_ok at1)
  have fin : ∀ h' tk' dx, PySem.Fld.InitEnd ((hp.push (PySem.W.kdv_tup us)).push (PySem.HandSPX.excO C hp.objs.size)) h' (hp.objs.size + 1) C dx x u → EP X pins σ Q (.ref (hp.objs.size + 1)) ⟨h', g, d, tk', os⟩ := fun h' tk' dx N => by
    obtain ⟨J2, fr⟩ := J.field (t' := tk') upd_same r N
    have ne := N.dne
    rw [upd_ne ne] at fr
    have e2 : upd (upd (upd H (hp.objs.size + 1) (exo (hp.objs.size + 1) C none)) dx (exd dx [(x, v)])) (hp.objs.size + 1) (exo (hp.objs.size + 1) C (some dx)) = upd (upd H dx (exd dx [(x, v)])) (hp.objs.size + 1) (exo (hp.objs.size + 1) C (some dx)) := by
      funext b
      by_cases hb : b = hp.objs.size + 1
      · rw [hb, upd_same, upd_same]
      · rw [upd_ne hb, upd_ne hb]
        by_cases hd : b = dx
        · rw [hd, upd_same, upd_same]
        · rw [upd_ne hd, upd_ne hd, upd_ne hb]
    rw [e2] at J2
    exact ⟨.ref (hp.objs.size + 1), _, J2, rfl, q _ dx hn fr ne⟩
  have hdp := hr.dp
  rcases ha with ⟨rfl, rfl⟩ | ⟨rfl, rfl⟩
  · refine PySem.HandSPX.call_own F.excBase_ValueError cont (I.kIn _ _ hC) (PySem.W.looks_findIn I.kIn T.iC) (fun self => PySem.W.bind_fn I.kIn self T.tC) (by rw [sizeLine_eq]; show 1 ≤ 16777216; decide) ?_
    exact PySem.Fld.init_fld (s := ⟨(hp.push (PySem.W.kdv_tup [u])).push (PySem.HandSPX.excO C hp.objs.size), g, d, tk, os⟩) T hx (I.kIn.keeps kk) (I.nolimit.keeps kk) (gl.keeps kk) (bl.keeps kk) sup at1 lone (by show X.A.depth + 1 < _; omega) (.inl rfl) fun h' tk' dx N => ⟨rfl, fin h' tk' dx N⟩
  · refine PySem.Fld.kw_call F.excBase_ValueError cont (I.kIn _ _ hC) (PySem.W.looks_findIn I.kIn T.iC) (fun self => PySem.W.bind_fn I.kIn self T.tC) ?_
    exact PySem.Fld.init_fld (s := ⟨(hp.push (PySem.W.kdv_tup [])).push (PySem.HandSPX.excO C hp.objs.size), g, d, tk, os⟩) T hx (I.kIn.keeps kk) (I.nolimit.keeps kk) (gl.keeps kk) (bl.keeps kk) sup at1 lone (by show X.A.depth + 1 < _; omega) (.inr rfl) fun h' tk' dx N => ⟨rfl, fin h' tk' dx N⟩
/-- C(e) -/
theorem pe_mkF {y : Str} {a : Expr} {te : TE} {p pos : Pos} (T : PySem.Fld.Txt X.prog X.K C fI x) (hx : x = "place" ∨ x = "what" ∨ x = "where") (hs : X.mg "super" = none) (hr : Room 1 X.A) (hg : Gl X y) (hm : X.mg y = some (.ref C)) (ha : PE X a te)
    (hdb : (y == ("__debug__" : Str)) = false := by decide) (he : starEach [a] X.env = (false, eval a X.env) :: starEach [] X.env := by rfl) : PE X (.Call (.Name y p) [a] [] pos) (tMkF C x te) := by
  refine ⟨fun pins s σ H Q I h => ?_⟩
  refine wpAny_Call_Name_kw (ld_glob I hg hm ?_ hdb)
  refine PySem.W.callWith_K (h₀ := X.base) I.ok.mod.kin T.kC ?_ he (by rfl)
  rw [he]
  show wpAny _ _ (spliced ((false, eval a X.env) :: backTo pos (starEach [] X.env))) _ _ s
  refine Calls.spliced_cons (thn (ha.run pins s σ H _ I h) fun u s1 ⟨v, H1, I1, r1, q1⟩ => ?_)
  refine Calls.spliced_nil ⟨I1.kIn, ?_⟩
  obtain ⟨hp, g, d, tk, os⟩ := s1
  exact wpAny_call (mk_run T hx hs hr I1 r1 [u] (.inl ⟨rfl, rfl⟩) q1)
/-- C(x = e) -/
def tMkK (C : Addr) (x : Str) (tk : TA) : TE := fun σ H Q => tk σ H fun zs H1 => ∃ v, zs = [v] ∧ ∀ a d, H1 a = none → H1 d = none → d ≠ a → Q (.ref a) (upd (upd H1 d (exd d [(x, v)])) a (exo a C (some d)))
theorem pe_mkK {y : Str} {tk : TA} {p pos : Pos} {ks : List Keyword} (T : PySem.Fld.Txt X.prog X.K C fI x) (hx : x = "place" ∨ x = "what" ∨ x = "where") (hs : X.mg "super" = none) (hr : Room 1 X.A) (hg : Gl X y) (hm : X.mg y = some (.ref C)) (hkw : PK X ks tk)
    (hall : (backToKw pos (keywordEach ks X.env)).all (·.1.isSome) = true := by rfl) (hks : (backToKw pos (keywordEach ks X.env)).filterMap (·.1) = [x] := by rfl)
    (hpl : ((backTo pos (starEach [] X.env)).any (·.1) || (backToKw pos (keywordEach ks X.env)).any (·.1.isNone)) = false := by rfl) (hdb : (y == ("__debug__" : Str)) = false := by decide) : PE X (.Call (.Name y p) [] ks pos) (tMkK C x tk) := by
  refine ⟨fun pins s σ H Q I h => ?_⟩
  refine wpAny_Call_Name_kw (ld_glob I hg hm ?_ hdb)
  refine PySem.W.callWith_KW0 (h₀ := X.base) I.ok.mod.kin T.kC hall (thn (hkw.run pos pins s σ H _ I h) fun ws s1 hh => ?_) hpl
  obtain ⟨zs, H1, I1, r1, v, rfl, q1⟩ := hh
  refine ⟨I1.kIn, ?_⟩
  rw [hks]
  cases r1 with
  | cons r1 rn =>
    cases rn
    obtain ⟨hp, g, d, tk, os⟩ := s1
    exact wpAny_call (mk_run T hx hs hr I1 r1 [] (.inr ⟨rfl, rfl⟩) q1)
/-! ### isinstance of such errors, their fields -/
def IsX (H : Hp) (a C : Addr) : Prop := H a = some (ExO (.ref C) a) ∨ ∃ d fs, H a = some (exo a C (some d)) ∧ H d = some (exd d fs)
theorem IsX.inst {P : Program} {w : World} {h : Heap} {a : Addr} (k : HOk P w H h) (z : IsX H a C) : ∃ oe od, PySem.W.InstAt h a oe C od := by
  rcases z with z | ⟨d, fs, z, zd⟩
  · obtain ⟨⟨oe, vs, h1, ⟨h2, h3⟩, h4, _⟩, _, _⟩ := k a _ z
    obtain ⟨oc, od, oda, osl⟩ := oe
    dsimp only at h2 h3 h4
    subst h2 h3 h4
    exact ⟨_, none, h1, rfl, rfl, trivial⟩
  · obtain ⟨t1, h1⟩ := exo_at k z
    obtain ⟨mA, ⟨oD, es, ep, hD, _⟩, _⟩ := exd_at k zd
    exact ⟨_, some oD, h1, rfl, rfl, hD⟩
def rIsX (K : PySem.W.Frag) : List V → Hp → VK → Prop := fun xs H Q => ∃ (a D : Addr) (c : V) (cv : Value) (b : Bool), xs = [.ref a, c] ∧ IsX H a D ∧ ExcC K D ∧ (∀ u, RelV c u → u = cv) ∧ PySem.W.kitOne K (.ref D) cv = some b ∧ Q (.bl b) H
theorem call_isX : CallR X (.builtin "isinstance") (rIsX X.K) := by
  intro pins s σ H xs us Q I r h
  obtain ⟨a, D, c, cv, b, rfl, hz, T, hcv, e, q⟩ := h
  cases r with
  | cons rx rr =>
    cases rr with
    | cons rt rr =>
      cases rr
      cases rx
      have ec := hcv _ rt
      subst ec
      obtain ⟨oe, od, J⟩ := hz.inst I.hok
      have hcl : (PySem.W.clsIn X.K D).isSome = true := by
        obtain ⟨cd, hc, _⟩ := PySem.W.any_some T.hd
        rw [hc]
        rfl
      exact PySem.W.kia_one (PySem.W.kitx_exc hcl T.hg T.hk T.hs T.ha T.hn T.ht T.hm) I.kIn J e (fun z => nomatch z) fun tk => ⟨.bl b, H, I.kept (t' := tk) fun _ _ z => z, rfl, q⟩
/-- e.x of an error with a field -/
def tGetF (K : PySem.W.Frag) (n : Str) (te : TE) : TE := fun σ H Q => te σ H fun y H1 => ∃ (a C d : Addr) (fs : List (Str × V)) (v : V), y = .ref a ∧ H1 a = some (exo a C (some d)) ∧ H1 d = some (exd d fs) ∧ fs.lookup n = some v ∧ XfC K C ∧ PySem.W.findIn K (.ref C) n = some none ∧ Q v H1
theorem pe_getF {a : Expr} {te : TE} {n : Str} {pos : Pos} (he : PE X a te) (hb : attributeBase a n X.env (eval a X.env) = eval a X.env := by rfl) : PE X (.Attribute a n pos) (tGetF X.K n te) := by
  refine ⟨fun pins s σ H Q I h => ?_⟩
  refine attr_of hb (thn (he.run pins s σ H _ I h) fun u s1 hh => ?_)
  obtain ⟨y, H1, I1, ry, a, C, d, fs, v, rfl, za, zd, l, T, hno, q⟩ := hh
  cases ry
  obtain ⟨t1, h1⟩ := exo_at I1.hok za
  obtain ⟨mA, hns, rel⟩ := exd_at I1.hok zd
  obtain ⟨od, ho, hl⟩ := lookIn_ns hns
  obtain ⟨w, hw, rw'⟩ := RelO.some_of (v := v) (o := mA n) (by rw [← l]; exact rel n)
  have J : PySem.W.InstAt s1.heap a _ C (some od) := ⟨h1, rfl, rfl, ho⟩
  exact PySem.HandSPX.exc_get I1.kIn J T.ga T.gg T.exC (PySem.W.findObj_own T.hdC hno rfl (by rw [hl, hw])) (handed_of rw') ⟨v, H1, I1.tok _, rw', q⟩
end
end L2

set_option maxRecDepth 100000
set_option maxHeartbeats 4000000
namespace KZ
open PySem PySem.Spec PyProof.Rows L2
def top (i : Nat) : Stmt := PySem.Challenge.pw_linearmix_k00_error_classes.main.body.getD i (.Pass ⟨0, 0, 0, 0⟩)
abbrev sPool : Stmt := top 27
abbrev sPick : Stmt := top 28
abbrev sMarks : Stmt := top 30
abbrev sFirst : Stmt := top 31
abbrev sSecond : Stmt := top 32
abbrev sFields : Stmt := top 33
abbrev sLaw : Stmt := top 34
abbrev FnP (K : PySem.W.Frag) (x : Str) (st : Stmt) (f : Addr) (fd : FuncData) : Prop := FunD K x x (defArgs st) (defBody st) (defScope st) [] [] f fd
/-! ### promises -/
def Same (H H' : Hp) : Prop := ∀ b o, H b = some o → H' b = some o
theorem Same.refl (H : Hp) : Same H H := fun _ _ e => e
theorem Same.trans {H H1 H2 : Hp} (a : Same H H1) (b : Same H1 H2) : Same H H2 := fun x o e => b x o (a x o e)
theorem Same.new {H : Hp} {p : Addr} {o : HO} (h : H p = none) : Same H (upd H p o) := fun b u e => by rw [upd_ne (ne_of_none e h)]; exact e
theorem Same.rd {H H' : Hp} (s : Same H H') {a : Addr} {o : HO} (h : Rd H a o) : Rd H' a o := h.elim (fun h => .inl (s _ _ h)) fun ⟨x, h⟩ => .inr ⟨x, s _ _ h⟩
theorem Same.sql {H H' : Hp} (s : Same H H') {K : PySem.W.Frag} {a : Addr} {xs : List V} (h : SqL K H a xs) : SqL K H' a xs := h.elim (fun h => .inl (s.rd h)) .inr
theorem Same.free {H H' : Hp} (s : Same H H') {a : Addr} (h : H' a = none) : H a = none := by
  cases e : H a with
  | none => rfl
  | some o => rw [s _ _ e] at h; cases h
def spPool (K : PySem.W.Frag) : Sp := fun vs H Q _ => ∃ (a : Addr) (k : Int) (ns : List Int), vs = [.ref a, .int k] ∧ 0 ≤ k ∧ SqL K H a (ns.map V.int) ∧
  ∀ H' p x y, Same H H' → H p = none → 0 ≤ y → y < 10 ^ 38 → H' p = some (.lst [.int x, .int y, .int 0]) → Q (.ref p) H'
def spPick : Sp := fun vs H Q _ => ∃ (p : Addr) (n x y z : Int), vs = [.ref p, .int n] ∧ 0 < n ∧ n < 2 ^ 60 ∧ H p = some (.lst [.int x, .int y, .int z]) ∧ 0 ≤ y ∧ y < 10 ^ 38 ∧ 0 ≤ z ∧ z ≤ 1000 ∧
  ∀ r x', 0 ≤ r → r < n → Q (.int r) (upd H p (.lst [.int x', .int y, .int (z + 1)]))
structure Nm (mg : Str → Option Value) : Prop where
  sum : mg "sum" = none
  max : mg "max" = none
  min : mg "min" = none
  int : mg "int" = none
  str : mg "str" = none
  len : mg "len" = none
  isi : mg "isinstance" = none
  rng : mg "range" = none
  sup : mg "super" = none
  ve : mg "ValueError" = none
def CPowM (i j : Int) : Prop := 0 ≤ j ∧ (Builtin.Int.intBits i : Int) * j ≤ 2 ^ 27
theorem op_powM {X : Cx} : OpR X (binaryOp .Pow) (rI CPowM fun i j => .int (i ^ j.toNat)) := opI fun _ _ _ _ _ _ _ hc q => pow_int hc.1 hc.2 q
theorem op_mulM {X : Cx} : OpR X (binaryOp .Mult) (rI IntMulOk fun i j => .int (i * j)) := opI fun _ _ _ _ _ _ _ hc q => mul_int q hc
theorem mulL {i j : Int} (h : -(2 ^ 64) < i ∧ i < 2 ^ 64) : IntMulOk i j := CMul.ok (.inl h)
theorem mulR {i j : Int} (h : -(2 ^ 64) < j ∧ j < 2 ^ 64) : IntMulOk i j := CMul.ok (.inr h)
section
variable {P : Program} {w : World} {K : PySem.W.Frag} {mg : Str → Option Value} {base : Heap}
theorem scPool : FnScope ["_law_script", "_law_k", "_law_cell"] ["_law_script", "_law_k"] (defScope sPool) := ⟨rfl, rfl, rfl, by decide +kernel, rfl, by decide +kernel, by decide +kernel⟩
theorem ok_pool {f : Addr} {fd : FuncData} (F : FnP K "_law_pool" sPool f fd) (N : Nm mg) : FnOk P w K mg base CX0 1 f fd ["_law_script", "_law_k"] (spPool K) := by
  refine F.ok scPool (fun vs H Q E h => ?_) (fun cdv A outer s H vs Q E hr h => ?_)
  · obtain ⟨a, k, ns, rfl, _⟩ := h
    rfl
  · obtain ⟨a, k, ns, rfl, hk, hS, hQ⟩ := h
    refine ⟨_, PSs.nox (pss_cons (ps_set (i := 2) scPool.nd rfl (Or.inl rfl) (pe_op op_add (pe_op op_mulM pe_int (pe_op op_add (pv 1) pe_int)) (pe_callB (cr_sum rfl) (by rfl) N.sum boot_sum (pa_cons (pe_slice sl_list (pv 0) po_none (po_some pe_int)) pa_nil))))
      (pss_cons (ps_if (pt_cmpR op_lt (pv 1) (pe_callB call_len_seq (by rfl) N.len boot_len (pa_cons (pv 0) pa_nil)) (nomark _)) (pss_one (ps_set (i := 2) scPool.nd rfl (Or.inl rfl) (pe_ix ix_seq (pv 0) (pv 1) (by with_unfolding_all exact fun _ _ => rfl)))) pss_nil)
      (pss_one (ps_ret (pe_lst (pa_cons (pe_op op_mod (pe_callTy call_int1 (by rfl) N.int boot_int (pa_cons (pe_callB (call_max2 rfl) (by rfl) N.max boot_max (pa_cons pe_int (pa_cons (pe_op op_sub (pv 2) (pe_op op_powM pe_int pe_int)) pa_nil))) pa_nil)) (pe_op op_powM (pe_op op_powM pe_int pe_int) pe_int))
        (pa_cons (pe_op op_mod (pe_callTy call_int1 (by rfl) N.int boot_int (pa_cons (pe_op op_add (pe_op op_add (pe_op op_mulM (pv 2) pe_int) (pe_op op_mulM pe_int (pv 1))) pe_int) pa_nil)) (pe_op op_add (pe_op op_powM pe_int pe_int) pe_int)) (pa_cons pe_int pa_nil)))))))), ?_⟩
    have hp1 : CPowM 10 18 := ⟨by decide, by decide⟩
    have hp2 : CPowM 10 50 := ⟨by decide, by decide⟩
    have hp3 : CPowM (10 ^ (50 : Int).toNat) 16 := ⟨by decide, by decide⟩
    have hp4 : CPowM 10 37 := ⟨by decide, by decide⟩
    refine ⟨_, rfl, _, _, rfl, rfl, _, _, rfl, rfl, mulL (by decide), _, rfl, _, rfl, a, _, rfl, hS, fun p hp => ?_⟩
    have e1 : cutV (ns.map V.int) none (some 1) = (ns.take 1).map V.int := by
      unfold cutV
      cases ns with
      | nil => rfl
      | cons n r => simp [HT.sIx]
    rw [e1]
    have S1 : Same H (upd H p (.lst ((ns.take 1).map V.int))) := Same.new hp
    have P1 : Same H (upd H p (.lst ((ns.take 1).map V.int))) := S1
    refine ⟨p, ns.take 1, rfl, .inl (.inl upd_same), _, _, rfl, rfl, ?_⟩
    generalize upd H p (.lst ((ns.take 1).map V.int)) = H1 at S1
    have hS1 := S1.sql hS
    refine ⟨_, rfl, _, rfl, a, _, rfl, .inl hS1, _, _, rfl, rfl, _, rfl, ?_⟩
    refine ite2 (fun hlt => ?_) (fun _ => ?_)
    · have hlt' : k < ((ns.map V.int).length : Int) := of_decide_eq_true hlt
      have hk2 : k.toNat < ns.length := by rw [List.length_map] at hlt'; omega
      refine ⟨_, rfl, _, rfl, .inl ⟨a, ns.map V.int, k, .int ns[k.toNat], rfl, rfl, hS1, ?_, ?_⟩⟩
      · obtain ⟨n, rfl⟩ := Int.eq_ofNat_of_zero_le hk
        exact atI_nat (by rw [List.getElem?_map, List.getElem?_eq_getElem (by simpa using hk2)]; rfl)
      · refine ⟨_, rfl, 10, 18, rfl, rfl, hp1, _, _, rfl, rfl, _, _, rfl, .inl ⟨_, rfl, 10, 50, rfl, rfl, hp2, _, 16, rfl, rfl, hp3, _, _, rfl, rfl, (show (0 : Int) < (10 ^ Int.toNat 50) ^ Int.toNat 16 by decide), ?_⟩⟩
        refine ⟨_, rfl, _, 1103, rfl, rfl, mulR (by decide), _, rfl, 11, k, rfl, rfl, mulL (by decide), _, _, rfl, rfl, _, _, rfl, rfl, .inl ⟨_, rfl, 10, 37, rfl, rfl, hp4, _, 43, rfl, rfl, _, _, rfl, rfl, (show (0 : Int) < 10 ^ Int.toNat 37 + 43 by decide), (by rw [sizeLine_eq]; show 3 ≤ 16777216; decide), fun q hq => ?_⟩⟩
        exact hQ _ q _ _ (S1.trans (Same.new hq)) (S1.free hq) (Int.emod_nonneg _ (by decide)) (Int.lt_of_lt_of_le (Int.emod_lt_of_pos _ (by decide)) (by decide)) upd_same
    · refine ⟨_, rfl, 10, 18, rfl, rfl, hp1, _, _, rfl, rfl, _, _, rfl, .inl ⟨_, rfl, 10, 50, rfl, rfl, hp2, _, 16, rfl, rfl, hp3, _, _, rfl, rfl, (show (0 : Int) < (10 ^ Int.toNat 50) ^ Int.toNat 16 by decide), ?_⟩⟩
      refine ⟨_, rfl, _, 1103, rfl, rfl, mulR (by decide), _, rfl, 11, k, rfl, rfl, mulL (by decide), _, _, rfl, rfl, _, _, rfl, rfl, .inl ⟨_, rfl, 10, 37, rfl, rfl, hp4, _, 43, rfl, rfl, _, _, rfl, rfl, (show (0 : Int) < 10 ^ Int.toNat 37 + 43 by decide), (by rw [sizeLine_eq]; show 3 ≤ 16777216; decide), fun q hq => ?_⟩⟩
      exact hQ _ q _ _ (S1.trans (Same.new hq)) (S1.free hq) (Int.emod_nonneg _ (by decide)) (Int.lt_of_lt_of_le (Int.emod_lt_of_pos _ (by decide)) (by decide)) upd_same
theorem scPick : FnScope ["_law_pool_here", "_law_many", "_law_whole", "_law_stirred"] ["_law_pool_here", "_law_many"] (defScope sPick) := ⟨rfl, rfl, rfl, by decide +kernel, rfl, by decide +kernel, by decide +kernel⟩
theorem wid {i : Int} {n : Nat} (hn : 0 < n) (h0 : 0 ≤ i) (h : i < 2 ^ n) : i.natAbs < 2 ^ n := by
  have : ((i.natAbs : Nat) : Int) < ((2 ^ n : Nat) : Int) := by rw [Int.natAbs_of_nonneg h0]; exact_mod_cast h
  exact_mod_cast this
theorem ok_pick {f : Addr} {fd : FuncData} (F : FnP K "_law_pick" sPick f fd) (N : Nm mg) : FnOk P w K mg base CX0 1 f fd ["_law_pool_here", "_law_many"] spPick := by
  refine F.ok scPick (fun vs H Q E h => ?_) (fun cdv A outer s H vs Q E hr h => ?_)
  · obtain ⟨p, n, x, y, z, rfl, _⟩ := h
    rfl
  · obtain ⟨p, n, x, y, z, rfl, hn, hn2, hp, y0, y1, z0, z1, hQ⟩ := h
    refine ⟨_, PSs.nox (pss_cons (ps_asg (pe_op op_add (pe_ix ix_seq (pv 0) pe_int (by with_unfolding_all exact fun _ _ => rfl)) pe_int) (pg_sub (pv 0) pe_int set_list))
      (pss_cons (ps_if (pt_cmpR op_gt (pe_ix ix_seq (pv 0) pe_int (by with_unfolding_all exact fun _ _ => rfl)) pe_int (nomark _)) (pss_one (ps_ret pe_int)) pss_nil)
      (pss_cons (ps_if (pt_cmpR op_gt (pe_ix ix_seq (pv 0) pe_int (by with_unfolding_all exact fun _ _ => rfl)) pe_int (nomark _))
        (pss_cons (ps_set (i := 2) scPick.nd rfl (Or.inl rfl) (pe_ix ix_seq (pv 0) pe_int (by with_unfolding_all exact fun _ _ => rfl)))
          (pss_cons (ps_asg (pe_op op_fdivW (pv 2) (pv 1)) (pg_sub (pv 0) pe_int set_list))
          (pss_one (ps_ret (pe_op op_mod (pe_callTy call_int1 (by rfl) N.int boot_int (pa_cons (pv 2) pa_nil)) (pv 1)))))) pss_nil)
      (pss_cons (ps_set (i := 3) scPick.nd rfl (Or.inl rfl) (pe_op op_add (pe_ix ix_seq (pv 0) pe_int (by with_unfolding_all exact fun _ _ => rfl)) (pe_op op_mulM pe_int (pe_ix ix_seq (pv 0) pe_int (by with_unfolding_all exact fun _ _ => rfl)))))
      (pss_cons (ps_set (i := 3) scPick.nd rfl (Or.inl rfl) (pe_op op_mod (pe_callTy call_int1 (by rfl) N.int boot_int (pa_cons (pe_op op_add (pe_op op_mulM (pe_op op_mulM (pv 3) (pv 3)) (pv 3)) (pe_op op_mulM pe_int (pe_ix ix_seq (pv 0) pe_int (by with_unfolding_all exact fun _ _ => rfl)))) pa_nil)) (pe_op op_add (pe_op op_powM pe_int pe_int) pe_int)))
      (pss_cons (ps_set (i := 3) scPick.nd rfl (Or.inl rfl) (pe_op op_mod (pe_callTy call_int1 (by rfl) N.int boot_int (pa_cons (pe_op op_add (pe_op op_mulM (pv 3) (pv 3)) pe_int) pa_nil)) (pe_op op_add (pe_op op_powM pe_int pe_int) pe_int)))
      (pss_one (ps_ret (pe_op op_mod (pe_callTy call_int1 (by rfl) N.int boot_int (pa_cons (pe_op op_fdivW (pv 3) (pe_op op_powM pe_int pe_int)) pa_nil)) (pv 1)))))))))), ?_⟩
    have q0 : ∀ a b c : Int, atI [V.int a, V.int b, V.int c] 0 = some (V.int a) := fun _ _ _ => rfl
    have q1 : ∀ a b c : Int, atI [V.int a, V.int b, V.int c] 1 = some (V.int b) := fun _ _ _ => rfl
    have q2 : ∀ a b c : Int, atI [V.int a, V.int b, V.int c] 2 = some (V.int c) := fun _ _ _ => rfl
    refine ⟨_, rfl, .inl ⟨p, _, 2, _, rfl, rfl, .of hp, q2 x y z, _, _, rfl, rfl, _, rfl, p, _, 2, 2, rfl, rfl, hp, rfl, ?_⟩⟩
    have h1 : upd H p (.lst ([V.int x, V.int y, V.int z].set 2 (V.int (z + 1)))) p = some (.lst [V.int x, V.int y, V.int (z + 1)]) := upd_same
    have e1 : upd H p (.lst ([V.int x, V.int y, V.int z].set 2 (V.int (z + 1)))) = upd H p (.lst [V.int x, V.int y, V.int (z + 1)]) := rfl
    have again : ∀ o : HO, upd (upd H p (.lst ([V.int x, V.int y, V.int z].set 2 (V.int (z + 1))))) p o = upd H p o := fun o => by
      funext b
      by_cases hb : b = p
      · rw [hb, upd_same, upd_same]
      · rw [upd_ne hb, upd_ne hb, upd_ne hb]
    refine ⟨_, rfl, .inl ⟨p, _, 2, _, rfl, rfl, .of h1, q2 _ _ _, _, _, rfl, rfl, _, rfl, ite2 (fun c => ?_) (fun _ => ?_)⟩⟩
    · have c' : (2500 : Int) < z + 1 := of_decide_eq_true c
      omega
    refine ⟨_, rfl, .inl ⟨p, _, 0, _, rfl, rfl, .of h1, q0 _ _ _, _, _, rfl, rfl, _, rfl, ite2 (fun c => ?_) (fun _ => ?_)⟩⟩
    · refine ⟨_, rfl, .inl ⟨p, _, 0, _, rfl, rfl, .of h1, q0 _ _ _, _, rfl, _, rfl, _, _, rfl, rfl, wide_div hn (wid (by decide) (Int.le_of_lt hn) hn2) (by decide) (by decide), ?_⟩⟩
      refine ⟨_, rfl, p, _, 0, 0, rfl, rfl, h1, rfl, _, rfl, .inl ⟨_, rfl, _, rfl, _, _, rfl, rfl, hn, ?_⟩⟩
      rw [again]
      exact hQ _ _ (Int.emod_nonneg _ (by omega)) (Int.emod_lt_of_pos _ hn)
    · have w1 : 0 ≤ y + 7368787 * (z + 1) ∧ y + 7368787 * (z + 1) < 2 ^ 128 := ⟨by omega, by omega⟩
      refine ⟨_, rfl, .inl ⟨p, _, 1, _, rfl, rfl, .of h1, q1 _ _ _, _, rfl, .inl ⟨p, _, 2, _, rfl, rfl, .of h1, q2 _ _ _, _, _, rfl, rfl, mulL (by decide), _, _, rfl, rfl, ?_⟩⟩⟩
      have a1 := wid (n := 128) (by decide) w1.1 w1.2
      have a2 := wide_lt a1 a1
      refine ⟨_, rfl, _, rfl, _, _, rfl, rfl, (wide_mul a1 a1 (by decide) (by decide) (by decide)).ok, _, rfl, _, _, rfl, rfl, (wide_mul a2 a1 (by decide) (by decide) (by decide)).ok, _, rfl, .inl ⟨p, _, 2, _, rfl, rfl, .of h1, q2 _ _ _, _, _, rfl, rfl, mulL (by decide), _, _, rfl, rfl, ?_⟩⟩
      refine .inl ⟨_, rfl, 10, 41, rfl, rfl, ⟨by decide, by decide⟩, _, 271, rfl, rfl, _, _, rfl, rfl, (show (0 : Int) < 10 ^ Int.toNat 41 + 271 by decide), ?_⟩
      have b0 := Int.emod_nonneg ((y + 7368787 * (z + 1)) * (y + 7368787 * (z + 1)) * (y + 7368787 * (z + 1)) + 613651349 * (z + 1)) (show (10 ^ Int.toNat 41 + 271 : Int) ≠ 0 by decide)
      have b1 := Int.emod_lt_of_pos ((y + 7368787 * (z + 1)) * (y + 7368787 * (z + 1)) * (y + 7368787 * (z + 1)) + 613651349 * (z + 1)) (show (0 : Int) < 10 ^ Int.toNat 41 + 271 by decide)
      have b2 := wid (n := 140) (by decide) b0 (Int.lt_of_lt_of_le b1 (by decide))
      refine ⟨_, rfl, _, rfl, _, _, rfl, rfl, (wide_mul b2 b2 (by decide) (by decide) (by decide)).ok, _, _, rfl, rfl, .inl ⟨_, rfl, 10, 39, rfl, rfl, ⟨by decide, by decide⟩, _, 3, rfl, rfl, _, _, rfl, rfl, (show (0 : Int) < 10 ^ Int.toNat 39 + 3 by decide), ?_⟩⟩
      refine ⟨_, rfl, 10, 11, rfl, rfl, ⟨by decide, by decide⟩, _, _, rfl, rfl, wide_div (b := 60) (show (0 : Int) < 10 ^ Int.toNat 11 by decide) (by decide) (by decide) (by decide), .inl ⟨_, rfl, _, rfl, _, _, rfl, rfl, hn, ?_⟩⟩
      exact hQ _ _ (Int.emod_nonneg _ (by omega)) (Int.emod_lt_of_pos _ hn)
end
end KZ

set_option maxRecDepth 100000
set_option maxHeartbeats 4000000
namespace KZ
open PySem PySem.Spec PyProof.Rows L2
theorem boot_isi : bootBuiltins "isinstance" = some (.builtin "isinstance") := by first | boot_by_name | rfl | kernel_rfl
theorem boot_ve : bootBuiltins "ValueError" = some (.type "ValueError") := by first | boot_by_name | rfl | kernel_rfl
def nmC : List Str := ["BadForm", "BadText", "NoName", "BadName", "Clash", "BadOrder", "BadClass", "BadParts", "NoMember", "NotAbove", "NotLetBy", "BadProgram", "BadKind", "BadPlace", "BadPath", "NoParameter", "BadPatterns", "BadCount", "BadCore", "TooMany", "NothingToUndo", "Full", "BadNumber", "BadCommand"]
abbrev bmV : List Value := [.type "ValueError", .type "Exception", .type "BaseException", .type "object"]
structure Cl (P : Program) (K : PySem.W.Frag) (mg : Str → Option Value) (c : Nat → Addr) (b : Addr) : Prop where
  g : ∀ i (h : i < 24), mg (nmC[i]'h) = some (.ref (c i))
  gb : mg "MixError" = some (.ref b)
  e : ∀ i, i < 24 → ExcC K (c i)
  eb : ExcC K b
  k : ∀ i j, i < 24 → j < 24 → PySem.W.kitOne K (.ref (c i)) (.ref (c j)) = some (decide (i = j))
  kb : ∀ i, i < 24 → PySem.W.kitOne K (.ref (c i)) (.ref b) = some true
  kv : ∀ i, i < 24 → PySem.W.kitOne K (.ref (c i)) (.type "ValueError") = some true
  bk : ∀ j, j < 24 → PySem.W.kitOne K (.ref b) (.ref (c j)) = some false
  bv : PySem.W.kitOne K (.ref b) (.type "ValueError") = some true
  m : ∀ i, i < 24 → i ≠ 1 → i ≠ 10 → i ≠ 11 → PySem.W.excIn K (c i) bmV "ValueError.__new__" = true ∧ PySem.W.keepIn K (.ref (c i)) = true
  mb : PySem.W.excIn K b bmV "ValueError.__new__" = true ∧ PySem.W.keepIn K (.ref b) = true
  t1 : ∃ fI, PySem.Fld.Txt P K (c 1) fI "place"
  t10 : ∃ fI, PySem.Fld.Txt P K (c 10) fI "what"
  t11 : ∃ fI, PySem.Fld.Txt P K (c 11) fI "where"
  x1 : XfC K (c 1)
  x10 : XfC K (c 10)
  x11 : XfC K (c 11)
theorem _root_.L2.IsX.same {H H' : Hp} (s : Same H H') {a D : Addr} (h : IsX H a D) : IsX H' a D := h.elim (fun h => .inl (s _ _ h)) fun ⟨d, fs, h, hd⟩ => .inr ⟨d, fs, s _ _ h, s _ _ hd⟩
def spMarks (K : PySem.W.Frag) (c : Nat → Addr) : Sp := fun vs H Q _ => ∃ (a D : Addr) (bs : Nat → Bool), vs = [.ref a] ∧ IsX H a D ∧ ExcC K D ∧ (∀ j, j < 24 → PySem.W.kitOne K (.ref D) (.ref (c j)) = some (bs j)) ∧
  ∀ H' q, Same H H' → H q = none → H' q = some (.lst ((List.range 24).map fun j => V.bl (bs j))) → Q (.ref q) H'
section
variable {P : Program} {w : World} {K : PySem.W.Frag} {mg : Str → Option Value} {base : Heap} {c : Nat → Addr} {b : Addr}
theorem scMarks : FnScope ["_law_e", "_law_one", "_law_two", "_law_third", "_law_more"] ["_law_e"] (defScope sMarks) := ⟨rfl, rfl, rfl, by decide +kernel, rfl, by decide +kernel, by decide +kernel⟩
theorem ok_marks {f : Addr} {fd : FuncData} (F : FnP K "_law_marks" sMarks f fd) (N : Nm mg) (C : Cl P K mg c b) : FnOk P w K mg base CX0 1 f fd ["_law_e"] (spMarks K c) := by
  refine F.ok scMarks (fun vs H Q E h => ?_) (fun cdv A outer s H vs Q E hr h => ?_)
  · obtain ⟨a, D, bs, rfl, _⟩ := h
    rfl
  · obtain ⟨a, D, bs, rfl, hz, hD, hb, hQ⟩ := h
    refine ⟨_, PSs.nox (pss_cons (ps_set (i := 1) scMarks.nd rfl (Or.inl rfl) (pe_lst (pa_cons (pe_callB call_isX (by rfl) N.isi boot_isi (pa_cons (pv 0) (pa_cons (pe_glob (v := .ref (c 0)) (by rfl) (C.g 0 (by decide)) rfl) pa_nil))) (pa_cons (pe_callB call_isX (by rfl) N.isi boot_isi (pa_cons (pv 0) (pa_cons (pe_glob (v := .ref (c 1)) (by rfl) (C.g 1 (by decide)) rfl) pa_nil))) (pa_cons (pe_callB call_isX (by rfl) N.isi boot_isi (pa_cons (pv 0) (pa_cons (pe_glob (v := .ref (c 2)) (by rfl) (C.g 2 (by decide)) rfl) pa_nil))) (pa_cons (pe_callB call_isX (by rfl) N.isi boot_isi (pa_cons (pv 0) (pa_cons (pe_glob (v := .ref (c 3)) (by rfl) (C.g 3 (by decide)) rfl) pa_nil))) (pa_cons (pe_callB call_isX (by rfl) N.isi boot_isi (pa_cons (pv 0) (pa_cons (pe_glob (v := .ref (c 4)) (by rfl) (C.g 4 (by decide)) rfl) pa_nil))) pa_nil)))))))
      (pss_cons (ps_set (i := 2) scMarks.nd rfl (Or.inl rfl) (pe_lst (pa_cons (pe_callB call_isX (by rfl) N.isi boot_isi (pa_cons (pv 0) (pa_cons (pe_glob (v := .ref (c 5)) (by rfl) (C.g 5 (by decide)) rfl) pa_nil))) (pa_cons (pe_callB call_isX (by rfl) N.isi boot_isi (pa_cons (pv 0) (pa_cons (pe_glob (v := .ref (c 6)) (by rfl) (C.g 6 (by decide)) rfl) pa_nil))) (pa_cons (pe_callB call_isX (by rfl) N.isi boot_isi (pa_cons (pv 0) (pa_cons (pe_glob (v := .ref (c 7)) (by rfl) (C.g 7 (by decide)) rfl) pa_nil))) (pa_cons (pe_callB call_isX (by rfl) N.isi boot_isi (pa_cons (pv 0) (pa_cons (pe_glob (v := .ref (c 8)) (by rfl) (C.g 8 (by decide)) rfl) pa_nil))) (pa_cons (pe_callB call_isX (by rfl) N.isi boot_isi (pa_cons (pv 0) (pa_cons (pe_glob (v := .ref (c 9)) (by rfl) (C.g 9 (by decide)) rfl) pa_nil))) pa_nil)))))))
      (pss_cons (ps_set (i := 3) scMarks.nd rfl (Or.inl rfl) (pe_lst (pa_cons (pe_callB call_isX (by rfl) N.isi boot_isi (pa_cons (pv 0) (pa_cons (pe_glob (v := .ref (c 10)) (by rfl) (C.g 10 (by decide)) rfl) pa_nil))) (pa_cons (pe_callB call_isX (by rfl) N.isi boot_isi (pa_cons (pv 0) (pa_cons (pe_glob (v := .ref (c 11)) (by rfl) (C.g 11 (by decide)) rfl) pa_nil))) (pa_cons (pe_callB call_isX (by rfl) N.isi boot_isi (pa_cons (pv 0) (pa_cons (pe_glob (v := .ref (c 12)) (by rfl) (C.g 12 (by decide)) rfl) pa_nil))) (pa_cons (pe_callB call_isX (by rfl) N.isi boot_isi (pa_cons (pv 0) (pa_cons (pe_glob (v := .ref (c 13)) (by rfl) (C.g 13 (by decide)) rfl) pa_nil))) (pa_cons (pe_callB call_isX (by rfl) N.isi boot_isi (pa_cons (pv 0) (pa_cons (pe_glob (v := .ref (c 14)) (by rfl) (C.g 14 (by decide)) rfl) pa_nil))) pa_nil)))))))
      (pss_cons (ps_set (i := 4) scMarks.nd rfl (Or.inl rfl) (pe_lst (pa_cons (pe_callB call_isX (by rfl) N.isi boot_isi (pa_cons (pv 0) (pa_cons (pe_glob (v := .ref (c 15)) (by rfl) (C.g 15 (by decide)) rfl) pa_nil))) (pa_cons (pe_callB call_isX (by rfl) N.isi boot_isi (pa_cons (pv 0) (pa_cons (pe_glob (v := .ref (c 16)) (by rfl) (C.g 16 (by decide)) rfl) pa_nil))) (pa_cons (pe_callB call_isX (by rfl) N.isi boot_isi (pa_cons (pv 0) (pa_cons (pe_glob (v := .ref (c 17)) (by rfl) (C.g 17 (by decide)) rfl) pa_nil))) (pa_cons (pe_callB call_isX (by rfl) N.isi boot_isi (pa_cons (pv 0) (pa_cons (pe_glob (v := .ref (c 18)) (by rfl) (C.g 18 (by decide)) rfl) pa_nil))) (pa_cons (pe_callB call_isX (by rfl) N.isi boot_isi (pa_cons (pv 0) (pa_cons (pe_glob (v := .ref (c 19)) (by rfl) (C.g 19 (by decide)) rfl) pa_nil))) pa_nil)))))))
      (pss_one (ps_ret (pe_op op_cat (pe_op op_cat (pe_op op_cat (pe_op op_cat (pv 1) (pv 2)) (pv 3)) (pv 4)) (pe_lst (pa_cons (pe_callB call_isX (by rfl) N.isi boot_isi (pa_cons (pv 0) (pa_cons (pe_glob (v := .ref (c 20)) (by rfl) (C.g 20 (by decide)) rfl) pa_nil))) (pa_cons (pe_callB call_isX (by rfl) N.isi boot_isi (pa_cons (pv 0) (pa_cons (pe_glob (v := .ref (c 21)) (by rfl) (C.g 21 (by decide)) rfl) pa_nil))) (pa_cons (pe_callB call_isX (by rfl) N.isi boot_isi (pa_cons (pv 0) (pa_cons (pe_glob (v := .ref (c 22)) (by rfl) (C.g 22 (by decide)) rfl) pa_nil))) (pa_cons (pe_callB call_isX (by rfl) N.isi boot_isi (pa_cons (pv 0) (pa_cons (pe_glob (v := .ref (c 23)) (by rfl) (C.g 23 (by decide)) rfl) pa_nil))) pa_nil)))))))))))), ?_⟩
    have z5 : 5 ≤ sizeLine := by rw [sizeLine_eq]; decide
    refine ⟨_, rfl, a, D, _, _, _, rfl, hz, hD, (fun _ r => r), hb 0 (by decide), _, rfl, a, D, _, _, _, rfl, hz, hD, (fun _ r => r), hb 1 (by decide), _, rfl, a, D, _, _, _, rfl, hz, hD, (fun _ r => r), hb 2 (by decide), _, rfl, a, D, _, _, _, rfl, hz, hD, (fun _ r => r), hb 3 (by decide), _, rfl, a, D, _, _, _, rfl, hz, hD, (fun _ r => r), hb 4 (by decide), z5, fun q1 n1 => ?_⟩
    have s1 := Same.new (o := .lst [V.bl (bs 0), V.bl (bs 1), V.bl (bs 2), V.bl (bs 3), V.bl (bs 4)]) n1
    have hz1 := hz.same s1
    refine ⟨_, rfl, a, D, _, _, _, rfl, hz1, hD, (fun _ r => r), hb 5 (by decide), _, rfl, a, D, _, _, _, rfl, hz1, hD, (fun _ r => r), hb 6 (by decide), _, rfl, a, D, _, _, _, rfl, hz1, hD, (fun _ r => r), hb 7 (by decide), _, rfl, a, D, _, _, _, rfl, hz1, hD, (fun _ r => r), hb 8 (by decide), _, rfl, a, D, _, _, _, rfl, hz1, hD, (fun _ r => r), hb 9 (by decide), z5, fun q2 n2 => ?_⟩
    have s2 := Same.new (o := .lst [V.bl (bs 5), V.bl (bs 6), V.bl (bs 7), V.bl (bs 8), V.bl (bs 9)]) n2
    have hz2 := hz1.same s2
    refine ⟨_, rfl, a, D, _, _, _, rfl, hz2, hD, (fun _ r => r), hb 10 (by decide), _, rfl, a, D, _, _, _, rfl, hz2, hD, (fun _ r => r), hb 11 (by decide), _, rfl, a, D, _, _, _, rfl, hz2, hD, (fun _ r => r), hb 12 (by decide), _, rfl, a, D, _, _, _, rfl, hz2, hD, (fun _ r => r), hb 13 (by decide), _, rfl, a, D, _, _, _, rfl, hz2, hD, (fun _ r => r), hb 14 (by decide), z5, fun q3 n3 => ?_⟩
    have s3 := Same.new (o := .lst [V.bl (bs 10), V.bl (bs 11), V.bl (bs 12), V.bl (bs 13), V.bl (bs 14)]) n3
    have hz3 := hz2.same s3
    refine ⟨_, rfl, a, D, _, _, _, rfl, hz3, hD, (fun _ r => r), hb 15 (by decide), _, rfl, a, D, _, _, _, rfl, hz3, hD, (fun _ r => r), hb 16 (by decide), _, rfl, a, D, _, _, _, rfl, hz3, hD, (fun _ r => r), hb 17 (by decide), _, rfl, a, D, _, _, _, rfl, hz3, hD, (fun _ r => r), hb 18 (by decide), _, rfl, a, D, _, _, _, rfl, hz3, hD, (fun _ r => r), hb 19 (by decide), z5, fun q4 n4 => ?_⟩
    have s4 := Same.new (o := .lst [V.bl (bs 15), V.bl (bs 16), V.bl (bs 17), V.bl (bs 18), V.bl (bs 19)]) n4
    have hz4 := hz3.same s4
    refine ⟨_, rfl, _, rfl, q1, q2, _, _, rfl, rfl, s4 _ _ (s3 _ _ (s2 _ _ upd_same)), s4 _ _ (s3 _ _ upd_same), (by rw [sizeLine_eq]; show 10 ≤ 16777216; decide), fun q5 n5 => ?_⟩
    have s5 := Same.new (o := .lst [V.bl (bs 0), V.bl (bs 1), V.bl (bs 2), V.bl (bs 3), V.bl (bs 4), V.bl (bs 5), V.bl (bs 6), V.bl (bs 7), V.bl (bs 8), V.bl (bs 9)]) n5
    refine ⟨_, rfl, q5, q3, _, _, rfl, rfl, upd_same, s5 _ _ (s4 _ _ upd_same), (by rw [sizeLine_eq]; show 15 ≤ 16777216; decide), fun q6 n6 => ?_⟩
    have s6 := Same.new (o := .lst [V.bl (bs 0), V.bl (bs 1), V.bl (bs 2), V.bl (bs 3), V.bl (bs 4), V.bl (bs 5), V.bl (bs 6), V.bl (bs 7), V.bl (bs 8), V.bl (bs 9), V.bl (bs 10), V.bl (bs 11), V.bl (bs 12), V.bl (bs 13), V.bl (bs 14)]) n6
    refine ⟨_, rfl, q6, q4, _, _, rfl, rfl, upd_same, s6 _ _ (s5 _ _ upd_same), (by rw [sizeLine_eq]; show 20 ≤ 16777216; decide), fun q7 n7 => ?_⟩
    have s7 := Same.new (o := .lst [V.bl (bs 0), V.bl (bs 1), V.bl (bs 2), V.bl (bs 3), V.bl (bs 4), V.bl (bs 5), V.bl (bs 6), V.bl (bs 7), V.bl (bs 8), V.bl (bs 9), V.bl (bs 10), V.bl (bs 11), V.bl (bs 12), V.bl (bs 13), V.bl (bs 14), V.bl (bs 15), V.bl (bs 16), V.bl (bs 17), V.bl (bs 18), V.bl (bs 19)]) n7
    have hz7 := ((hz4.same s5).same s6).same s7
    refine ⟨_, rfl, a, D, _, _, _, rfl, hz7, hD, (fun _ r => r), hb 20 (by decide), _, rfl, a, D, _, _, _, rfl, hz7, hD, (fun _ r => r), hb 21 (by decide), _, rfl, a, D, _, _, _, rfl, hz7, hD, (fun _ r => r), hb 22 (by decide), _, rfl, a, D, _, _, _, rfl, hz7, hD, (fun _ r => r), hb 23 (by decide), (by rw [sizeLine_eq]; show 4 ≤ 16777216; decide), fun q8 n8 => ?_⟩
    have s8 := Same.new (o := .lst [V.bl (bs 20), V.bl (bs 21), V.bl (bs 22), V.bl (bs 23)]) n8
    refine ⟨q7, q8, _, _, rfl, rfl, s8 _ _ upd_same, upd_same, (by rw [sizeLine_eq]; show 24 ≤ 16777216; decide), fun q9 n9 => ?_⟩
    have all := ((((((s1.trans s2).trans s3).trans s4).trans s5).trans s6).trans s7).trans s8
    exact hQ _ q9 (all.trans (Same.new n9)) (all.free n9) upd_same
end
end KZ

set_option maxRecDepth 100000
set_option maxHeartbeats 4000000
namespace KZ
open PySem PySem.Spec PyProof.Rows L2
theorem Same.new2 {H : Hp} {a d : Addr} {o u : HO} (h : H a = none) (hd : H d = none) : Same H (upd (upd H d u) a o) := fun b x e => by rw [upd_ne (ne_of_none e h), upd_ne (ne_of_none e hd)]; exact e
def spErrs (c : Nat → Addr) (k m : Nat) : Sp := fun vs H Q _ => ∃ (t : Str) (n : Int), vs = [.str t, .int n] ∧
  ∀ H' q (as : List Addr), Same H H' → H q = none → H' q = some (.lst (as.map V.ref)) → as.length = m → (∀ i a, as[i]? = some a → IsX H' a (c (k + i))) → Q (.ref q) H'
section
variable {P : Program} {w : World} {K : PySem.W.Frag} {mg : Str → Option Value} {base : Heap} {c : Nat → Addr} {b : Addr}
theorem scFirst : FnScope ["_law_text", "_law_number"] ["_law_text", "_law_number"] (defScope sFirst) := ⟨rfl, rfl, rfl, by decide +kernel, rfl, by decide +kernel, by decide +kernel⟩
theorem scSecond : FnScope ["_law_text", "_law_number", "_law_some"] ["_law_text", "_law_number"] (defScope sSecond) := ⟨rfl, rfl, rfl, by decide +kernel, rfl, by decide +kernel, by decide +kernel⟩
theorem ok_first {f : Addr} {fd : FuncData} (F : FnP K "_law_first" sFirst f fd) (N : Nm mg) (C : Cl P K mg c b) : FnOk P w K mg base CX0 2 f fd ["_law_text", "_law_number"] (spErrs c 0 8) := by
  obtain ⟨f1, h1⟩ := C.t1
  obtain ⟨f10, h10⟩ := C.t10
  obtain ⟨f11, h11⟩ := C.t11
  refine F.ok scFirst (fun vs H Q E h => ?_) (fun cdv A outer s H vs Q E hr h => ?_)
  · obtain ⟨t, n, rfl, _⟩ := h
    rfl
  · obtain ⟨t, n, rfl, hQ⟩ := h
    refine ⟨_, PSs.nox (pss_one (ps_ret (pe_lst (pa_cons (pe_exc1 PySem.F.excBase_ValueError (C.m 0 (by decide) (by decide) (by decide) (by decide)).1 (C.g 0 (by decide)) (C.m 0 (by decide) (by decide) (by decide) (by decide)).2 (by rfl) (pv 0)) (pa_cons (pe_mkF h1 (.inl rfl) N.sup hr (by rfl) (C.g 1 (by decide)) (pv 1)) (pa_cons (pe_exc1 PySem.F.excBase_ValueError (C.m 2 (by decide) (by decide) (by decide) (by decide)).1 (C.g 2 (by decide)) (C.m 2 (by decide) (by decide) (by decide) (by decide)).2 (by rfl) (pv 0)) (pa_cons (pe_exc1 PySem.F.excBase_ValueError (C.m 3 (by decide) (by decide) (by decide) (by decide)).1 (C.g 3 (by decide)) (C.m 3 (by decide) (by decide) (by decide) (by decide)).2 (by rfl) (pv 0)) (pa_cons (pe_exc1 PySem.F.excBase_ValueError (C.m 4 (by decide) (by decide) (by decide) (by decide)).1 (C.g 4 (by decide)) (C.m 4 (by decide) (by decide) (by decide) (by decide)).2 (by rfl) (pv 0)) (pa_cons (pe_exc1 PySem.F.excBase_ValueError (C.m 5 (by decide) (by decide) (by decide) (by decide)).1 (C.g 5 (by decide)) (C.m 5 (by decide) (by decide) (by decide) (by decide)).2 (by rfl) (pv 0)) (pa_cons (pe_exc1 PySem.F.excBase_ValueError (C.m 6 (by decide) (by decide) (by decide) (by decide)).1 (C.g 6 (by decide)) (C.m 6 (by decide) (by decide) (by decide) (by decide)).2 (by rfl) (pv 0)) (pa_cons (pe_exc1 PySem.F.excBase_ValueError (C.m 7 (by decide) (by decide) (by decide) (by decide)).1 (C.g 7 (by decide)) (C.m 7 (by decide) (by decide) (by decide) (by decide)).2 (by rfl) (pv 0)) pa_nil))))))))))), ?_⟩
    refine ⟨_, rfl, fun a0 na0 => ?_⟩
    have s0 := Same.new (o := ExO (.ref (c 0)) a0) na0
    refine ⟨_, rfl, fun a1 d1 na1 nd1 ne1 => ?_⟩
    have s1 := Same.new2 (o := exo a1 (c 1) (some d1)) (u := exd d1 [(("place" : Str), V.int n)]) na1 nd1
    refine ⟨_, rfl, fun a2 na2 => ?_⟩
    have s2 := Same.new (o := ExO (.ref (c 2)) a2) na2
    refine ⟨_, rfl, fun a3 na3 => ?_⟩
    have s3 := Same.new (o := ExO (.ref (c 3)) a3) na3
    refine ⟨_, rfl, fun a4 na4 => ?_⟩
    have s4 := Same.new (o := ExO (.ref (c 4)) a4) na4
    refine ⟨_, rfl, fun a5 na5 => ?_⟩
    have s5 := Same.new (o := ExO (.ref (c 5)) a5) na5
    refine ⟨_, rfl, fun a6 na6 => ?_⟩
    have s6 := Same.new (o := ExO (.ref (c 6)) a6) na6
    refine ⟨_, rfl, fun a7 na7 => ?_⟩
    have s7 := Same.new (o := ExO (.ref (c 7)) a7) na7
    refine ⟨(by rw [sizeLine_eq]; show 8 ≤ 16777216; decide), fun q nq => ?_⟩
    have sq := Same.new (o := .lst [V.ref a0, V.ref a1, V.ref a2, V.ref a3, V.ref a4, V.ref a5, V.ref a6, V.ref a7]) nq
    refine hQ _ q [a0, a1, a2, a3, a4, a5, a6, a7] ((((((((s0.trans s1).trans s2).trans s3).trans s4).trans s5).trans s6).trans s7).trans sq) ((((((((s0.trans s1).trans s2).trans s3).trans s4).trans s5).trans s6).trans s7).free nq) upd_same rfl fun i a e => ?_
    have g0 := (IsX.same (((((((s1.trans s2).trans s3).trans s4).trans s5).trans s6).trans s7).trans sq) (show IsX _ a0 (c 0) from .inl upd_same))
    have g1 := (IsX.same ((((((s2.trans s3).trans s4).trans s5).trans s6).trans s7).trans sq) (show IsX _ a1 (c 1) from .inr ⟨d1, _, upd_same, (upd_ne ne1).trans upd_same⟩))
    have g2 := (IsX.same (((((s3.trans s4).trans s5).trans s6).trans s7).trans sq) (show IsX _ a2 (c 2) from .inl upd_same))
    have g3 := (IsX.same ((((s4.trans s5).trans s6).trans s7).trans sq) (show IsX _ a3 (c 3) from .inl upd_same))
    have g4 := (IsX.same (((s5.trans s6).trans s7).trans sq) (show IsX _ a4 (c 4) from .inl upd_same))
    have g5 := (IsX.same ((s6.trans s7).trans sq) (show IsX _ a5 (c 5) from .inl upd_same))
    have g6 := (IsX.same (s7.trans sq) (show IsX _ a6 (c 6) from .inl upd_same))
    have g7 := (IsX.same sq (show IsX _ a7 (c 7) from .inl upd_same))
    match i, e with
    | 0, e => cases (Option.some.inj e); exact g0
    | 1, e => cases (Option.some.inj e); exact g1
    | 2, e => cases (Option.some.inj e); exact g2
    | 3, e => cases (Option.some.inj e); exact g3
    | 4, e => cases (Option.some.inj e); exact g4
    | 5, e => cases (Option.some.inj e); exact g5
    | 6, e => cases (Option.some.inj e); exact g6
    | 7, e => cases (Option.some.inj e); exact g7
    | (_ + 8), e => exact nomatch e
theorem ok_second {f : Addr} {fd : FuncData} (F : FnP K "_law_second" sSecond f fd) (N : Nm mg) (C : Cl P K mg c b) : FnOk P w K mg base CX0 2 f fd ["_law_text", "_law_number"] (spErrs c 8 13) := by
  obtain ⟨f1, h1⟩ := C.t1
  obtain ⟨f10, h10⟩ := C.t10
  obtain ⟨f11, h11⟩ := C.t11
  refine F.ok scSecond (fun vs H Q E h => ?_) (fun cdv A outer s H vs Q E hr h => ?_)
  · obtain ⟨t, n, rfl, _⟩ := h
    rfl
  · obtain ⟨t, n, rfl, hQ⟩ := h
    refine ⟨_, PSs.nox (pss_cons (ps_set (i := 2) scSecond.nd rfl (Or.inl rfl) (pe_lst (pa_cons (pe_exc1 PySem.F.excBase_ValueError (C.m 8 (by decide) (by decide) (by decide) (by decide)).1 (C.g 8 (by decide)) (C.m 8 (by decide) (by decide) (by decide) (by decide)).2 (by rfl) (pv 0)) (pa_cons (pe_exc1 PySem.F.excBase_ValueError (C.m 9 (by decide) (by decide) (by decide) (by decide)).1 (C.g 9 (by decide)) (C.m 9 (by decide) (by decide) (by decide) (by decide)).2 (by rfl) (pv 0)) (pa_cons (pe_mkF h10 (.inr (.inl rfl)) N.sup hr (by rfl) (C.g 10 (by decide)) (pe_tup (pa_cons (pv 0) (pa_cons (pe_tup (pa_cons (pv 1) pa_nil)) pa_nil)))) (pa_cons (pe_mkF h11 (.inr (.inr rfl)) N.sup hr (by rfl) (C.g 11 (by decide)) (pe_tup (pa_cons (pv 0) pa_nil))) (pa_cons (pe_exc1 PySem.F.excBase_ValueError (C.m 12 (by decide) (by decide) (by decide) (by decide)).1 (C.g 12 (by decide)) (C.m 12 (by decide) (by decide) (by decide) (by decide)).2 (by rfl) (pv 0)) (pa_cons (pe_exc1 PySem.F.excBase_ValueError (C.m 13 (by decide) (by decide) (by decide) (by decide)).1 (C.g 13 (by decide)) (C.m 13 (by decide) (by decide) (by decide) (by decide)).2 (by rfl) (pv 0)) (pa_cons (pe_exc1 PySem.F.excBase_ValueError (C.m 14 (by decide) (by decide) (by decide) (by decide)).1 (C.g 14 (by decide)) (C.m 14 (by decide) (by decide) (by decide) (by decide)).2 (by rfl) (pv 0)) pa_nil))))))))) (pss_one (ps_ret (pe_op op_cat (pv 2) (pe_lst (pa_cons (pe_exc1 PySem.F.excBase_ValueError (C.m 15 (by decide) (by decide) (by decide) (by decide)).1 (C.g 15 (by decide)) (C.m 15 (by decide) (by decide) (by decide) (by decide)).2 (by rfl) (pv 0)) (pa_cons (pe_exc1 PySem.F.excBase_ValueError (C.m 16 (by decide) (by decide) (by decide) (by decide)).1 (C.g 16 (by decide)) (C.m 16 (by decide) (by decide) (by decide) (by decide)).2 (by rfl) (pv 0)) (pa_cons (pe_exc1 PySem.F.excBase_ValueError (C.m 17 (by decide) (by decide) (by decide) (by decide)).1 (C.g 17 (by decide)) (C.m 17 (by decide) (by decide) (by decide) (by decide)).2 (by rfl) (pv 0)) (pa_cons (pe_exc1 PySem.F.excBase_ValueError (C.m 18 (by decide) (by decide) (by decide) (by decide)).1 (C.g 18 (by decide)) (C.m 18 (by decide) (by decide) (by decide) (by decide)).2 (by rfl) (pv 0)) (pa_cons (pe_exc1 PySem.F.excBase_ValueError (C.m 19 (by decide) (by decide) (by decide) (by decide)).1 (C.g 19 (by decide)) (C.m 19 (by decide) (by decide) (by decide) (by decide)).2 (by rfl) (pv 0)) (pa_cons (pe_exc1 PySem.F.excBase_ValueError (C.m 20 (by decide) (by decide) (by decide) (by decide)).1 (C.g 20 (by decide)) (C.m 20 (by decide) (by decide) (by decide) (by decide)).2 (by rfl) (pv 0)) pa_nil))))))))))), ?_⟩
    refine ⟨_, rfl, fun a8 na8 => ?_⟩
    have s8 := Same.new (o := ExO (.ref (c 8)) a8) na8
    refine ⟨_, rfl, fun a9 na9 => ?_⟩
    have s9 := Same.new (o := ExO (.ref (c 9)) a9) na9
    refine ⟨_, rfl, _, rfl, (by rw [sizeLine_eq]; show 1 ≤ 16777216; decide), fun p1 np1 => ⟨(by rw [sizeLine_eq]; show 2 ≤ 16777216; decide), fun p2 np2 a10 d10 na10 nd10 ne10 => ?_⟩⟩
    have u1 := Same.new (o := .tup [V.int n]) np1
    have u2 := Same.new (o := .tup [V.str t, V.ref p1]) np2
    have s10 := Same.new2 (o := exo a10 (c 10) (some d10)) (u := exd d10 [(("what" : Str), V.ref p2)]) na10 nd10
    refine ⟨_, rfl, (by rw [sizeLine_eq]; show 1 ≤ 16777216; decide), fun p3 np3 a11 d11 na11 nd11 ne11 => ?_⟩
    have u3 := Same.new (o := .tup [V.str t]) np3
    have s11 := Same.new2 (o := exo a11 (c 11) (some d11)) (u := exd d11 [(("where" : Str), V.ref p3)]) na11 nd11
    refine ⟨_, rfl, fun a12 na12 => ?_⟩
    have s12 := Same.new (o := ExO (.ref (c 12)) a12) na12
    refine ⟨_, rfl, fun a13 na13 => ?_⟩
    have s13 := Same.new (o := ExO (.ref (c 13)) a13) na13
    refine ⟨_, rfl, fun a14 na14 => ?_⟩
    have s14 := Same.new (o := ExO (.ref (c 14)) a14) na14
    refine ⟨(by rw [sizeLine_eq]; show 7 ≤ 16777216; decide), fun q1 nq1 => ?_⟩
    have sq1 := Same.new (o := .lst [V.ref a8, V.ref a9, V.ref a10, V.ref a11, V.ref a12, V.ref a13, V.ref a14]) nq1
    refine ⟨_, rfl, ?_⟩
    refine ⟨_, rfl, fun a15 na15 => ?_⟩
    have s15 := Same.new (o := ExO (.ref (c 15)) a15) na15
    refine ⟨_, rfl, fun a16 na16 => ?_⟩
    have s16 := Same.new (o := ExO (.ref (c 16)) a16) na16
    refine ⟨_, rfl, fun a17 na17 => ?_⟩
    have s17 := Same.new (o := ExO (.ref (c 17)) a17) na17
    refine ⟨_, rfl, fun a18 na18 => ?_⟩
    have s18 := Same.new (o := ExO (.ref (c 18)) a18) na18
    refine ⟨_, rfl, fun a19 na19 => ?_⟩
    have s19 := Same.new (o := ExO (.ref (c 19)) a19) na19
    refine ⟨_, rfl, fun a20 na20 => ?_⟩
    have s20 := Same.new (o := ExO (.ref (c 20)) a20) na20
    refine ⟨(by rw [sizeLine_eq]; show 6 ≤ 16777216; decide), fun q2 nq2 => ?_⟩
    have sq2 := Same.new (o := .lst [V.ref a15, V.ref a16, V.ref a17, V.ref a18, V.ref a19, V.ref a20]) nq2
    refine ⟨q1, q2, _, _, rfl, rfl, ((((((s15.trans s16).trans s17).trans s18).trans s19).trans s20).trans sq2) _ _ upd_same, upd_same, (by rw [sizeLine_eq]; show 13 ≤ 16777216; decide), fun q nq => ?_⟩
    have sq := Same.new (o := .lst [V.ref a8, V.ref a9, V.ref a10, V.ref a11, V.ref a12, V.ref a13, V.ref a14, V.ref a15, V.ref a16, V.ref a17, V.ref a18, V.ref a19, V.ref a20]) nq
    refine hQ _ q [a8, a9, a10, a11, a12, a13, a14, a15, a16, a17, a18, a19, a20] ((((((((((((((((((s8.trans s9).trans u1).trans u2).trans s10).trans u3).trans s11).trans s12).trans s13).trans s14).trans sq1).trans s15).trans s16).trans s17).trans s18).trans s19).trans s20).trans sq2).trans sq) ((((((((((((((((((s8.trans s9).trans u1).trans u2).trans s10).trans u3).trans s11).trans s12).trans s13).trans s14).trans sq1).trans s15).trans s16).trans s17).trans s18).trans s19).trans s20).trans sq2).free nq) upd_same rfl fun i a e => ?_
    have g8 := (IsX.same (((((((((((((((((s9.trans u1).trans u2).trans s10).trans u3).trans s11).trans s12).trans s13).trans s14).trans sq1).trans s15).trans s16).trans s17).trans s18).trans s19).trans s20).trans sq2).trans sq) (show IsX _ a8 (c 8) from .inl upd_same))
    have g9 := (IsX.same ((((((((((((((((u1.trans u2).trans s10).trans u3).trans s11).trans s12).trans s13).trans s14).trans sq1).trans s15).trans s16).trans s17).trans s18).trans s19).trans s20).trans sq2).trans sq) (show IsX _ a9 (c 9) from .inl upd_same))
    have g10 := (IsX.same (((((((((((((u3.trans s11).trans s12).trans s13).trans s14).trans sq1).trans s15).trans s16).trans s17).trans s18).trans s19).trans s20).trans sq2).trans sq) (show IsX _ a10 (c 10) from .inr ⟨d10, _, upd_same, (upd_ne ne10).trans upd_same⟩))
    have g11 := (IsX.same (((((((((((s12.trans s13).trans s14).trans sq1).trans s15).trans s16).trans s17).trans s18).trans s19).trans s20).trans sq2).trans sq) (show IsX _ a11 (c 11) from .inr ⟨d11, _, upd_same, (upd_ne ne11).trans upd_same⟩))
    have g12 := (IsX.same ((((((((((s13.trans s14).trans sq1).trans s15).trans s16).trans s17).trans s18).trans s19).trans s20).trans sq2).trans sq) (show IsX _ a12 (c 12) from .inl upd_same))
    have g13 := (IsX.same (((((((((s14.trans sq1).trans s15).trans s16).trans s17).trans s18).trans s19).trans s20).trans sq2).trans sq) (show IsX _ a13 (c 13) from .inl upd_same))
    have g14 := (IsX.same ((((((((sq1.trans s15).trans s16).trans s17).trans s18).trans s19).trans s20).trans sq2).trans sq) (show IsX _ a14 (c 14) from .inl upd_same))
    have g15 := (IsX.same ((((((s16.trans s17).trans s18).trans s19).trans s20).trans sq2).trans sq) (show IsX _ a15 (c 15) from .inl upd_same))
    have g16 := (IsX.same (((((s17.trans s18).trans s19).trans s20).trans sq2).trans sq) (show IsX _ a16 (c 16) from .inl upd_same))
    have g17 := (IsX.same ((((s18.trans s19).trans s20).trans sq2).trans sq) (show IsX _ a17 (c 17) from .inl upd_same))
    have g18 := (IsX.same (((s19.trans s20).trans sq2).trans sq) (show IsX _ a18 (c 18) from .inl upd_same))
    have g19 := (IsX.same ((s20.trans sq2).trans sq) (show IsX _ a19 (c 19) from .inl upd_same))
    have g20 := (IsX.same (sq2.trans sq) (show IsX _ a20 (c 20) from .inl upd_same))
    match i, e with
    | 0, e => cases (Option.some.inj e); exact g8
    | 1, e => cases (Option.some.inj e); exact g9
    | 2, e => cases (Option.some.inj e); exact g10
    | 3, e => cases (Option.some.inj e); exact g11
    | 4, e => cases (Option.some.inj e); exact g12
    | 5, e => cases (Option.some.inj e); exact g13
    | 6, e => cases (Option.some.inj e); exact g14
    | 7, e => cases (Option.some.inj e); exact g15
    | 8, e => cases (Option.some.inj e); exact g16
    | 9, e => cases (Option.some.inj e); exact g17
    | 10, e => cases (Option.some.inj e); exact g18
    | 11, e => cases (Option.some.inj e); exact g19
    | 12, e => cases (Option.some.inj e); exact g20
    | (_ + 13), e => exact nomatch e
end
end KZ

set_option maxRecDepth 100000
set_option maxHeartbeats 4000000
namespace KZ
open PySem PySem.Spec PyProof.Rows L2
theorem ok_str (i : Int) : PyData.strOk (Str.ofString (toString i)) = true := by
  unfold PyData.strOk
  rw [Array.all_eq_true']
  intro c hc
  refine decide_eq_true (Nat.lt_of_not_le fun hle => ?_)
  exact int_text_free' c ⟨by omega, by omega⟩ i (by simpa using hc)
theorem shp1 {t : Str} (h : PyData.strOk t = true) : SeqAt.shaped (.tuple [.str t]) = true := by
  unfold SeqAt.shaped
  rw [Bool.and_eq_true]
  exact ⟨by simp [PyData.canLay0, PyData.canLayAll0, h], by simp [PyData.depth, PyData.depthAll]⟩
theorem shp2 {t : Str} (h : PyData.strOk t = true) : SeqAt.shaped (.tuple [.str t, .str t]) = true := by
  unfold SeqAt.shaped
  rw [Bool.and_eq_true]
  exact ⟨by simp [PyData.canLay0, PyData.canLayAll0, h], by simp [PyData.depth, PyData.depthAll]⟩
theorem shp3 {t : Str} {n : Int} (h : PyData.strOk t = true) : SeqAt.shaped (.tuple [.str t, .tuple [.str "Cod", .str t, .int n]]) = true := by
  have hc : PyData.strOk "Cod" = true := by decide +kernel
  unfold SeqAt.shaped
  rw [Bool.and_eq_true]
  exact ⟨by simp [PyData.canLay0, PyData.canLayAll0, h, hc], by simp [PyData.depth, PyData.depthAll]⟩
theorem if_f {x : Bool} {A B : Prop} (hc : x = false) (h : B) : if x = true then A else B := by
  rw [hc, if_neg Bool.false_ne_true]
  exact h
theorem if_t {x : Bool} {A B : Prop} (hc : x = true) (h : A) : if x = true then A else B := by
  rw [if_pos hc]
  exact h
theorem eqv_me {d : PyData} (h : SeqAt.shaped d = true) : PyData.eqv d d = true := SeqAt.eqv_refl d (SeqAt.canLay_of_shaped h)
theorem dp1 {K : PySem.W.Frag} {H : Hp} {p : Addr} {t : Str} (e : H p = some (.tup [.str t])) : Dp K H (.ref p) (.tuple [.str t]) := .tup (.of e) (.cons (.str t) .nil)
theorem dp2 {K : PySem.W.Frag} {H : Hp} {p : Addr} {t : Str} (e : H p = some (.tup [.str t, .str t])) : Dp K H (.ref p) (.tuple [.str t, .str t]) := .tup (.of e) (.cons (.str t) (.cons (.str t) .nil))
theorem dp3 {K : PySem.W.Frag} {H : Hp} {p q : Addr} {t : Str} {n : Int} (e : H p = some (.tup [.str t, .ref q])) (e2 : H q = some (.tup [.str "Cod", .str t, .int n])) : Dp K H (.ref p) (.tuple [.str t, .tuple [.str "Cod", .str t, .int n]]) :=
  .tup (.of e) (.cons (.str t) (.cons (.tup (.of e2) (.cons (.str _) (.cons (.str t) (.cons (.int n) .nil)))) .nil))
def spFields : Sp := fun vs H Q _ => ∃ (t : Str) (n : Int), vs = [.str t, .int n] ∧ PyData.strOk t = true ∧ ∀ H', Same H H' → Q (.bl true) H'
section
variable {P : Program} {w : World} {K : PySem.W.Frag} {mg : Str → Option Value} {base : Heap} {c : Nat → Addr} {b : Addr}
theorem scFields : FnScope ["_law_text", "_law_number", "_law_told"] ["_law_text", "_law_number"] (defScope sFields) := ⟨rfl, rfl, rfl, by decide +kernel, rfl, by decide +kernel, by decide +kernel⟩
theorem ok_fields {f : Addr} {fd : FuncData} (F : FnP K "_law_fields" sFields f fd) (N : Nm mg) (C : Cl P K mg c b) : FnOk P w K mg base CX0 2 f fd ["_law_text", "_law_number"] spFields := by
  obtain ⟨f1, h1⟩ := C.t1
  obtain ⟨f10, h10⟩ := C.t10
  obtain ⟨f11, h11⟩ := C.t11
  refine F.ok scFields (fun vs H Q E h => ?_) (fun cdv A outer s H vs Q E hr h => ?_)
  · obtain ⟨t, n, rfl, _⟩ := h
    rfl
  · obtain ⟨t, n, rfl, ht, hQ⟩ := h
    have hu := hr.units
    refine ⟨_, PSs.nox (pss_cons (ps_if (PW.pt (pw_or (pt_cmpR op_ne (pe_getF (pe_mkF h1 (.inl rfl) N.sup hr (by rfl) (C.g 1 (by decide)) (pv 1))) (pv 1) (nomark _))
          (pw_or1 (pt_cmpR op_ne (pe_getF (pe_mkK h1 (.inl rfl) N.sup hr (by rfl) (C.g 1 (by decide)) (pk_cons (pv 1) pk_nil))) (pv 1) (nomark _))))) (pss_one (ps_ret pe_bl)) pss_nil)
      (pss_cons (ps_set (i := 2) scFields.nd rfl (Or.inl rfl) (pe_tup (pa_cons (pv 0) (pa_cons (pe_tup (pa_cons pe_str (pa_cons (pv 0) (pa_cons (pv 1) pa_nil)))) pa_nil))))
      (pss_cons (ps_if (PW.pt (pw_or (pt_cmpR (op_neD hu) (pe_getF (pe_mkF h10 (.inr (.inl rfl)) N.sup hr (by rfl) (C.g 10 (by decide)) (pv 2))) (pv 2) (nomark _))
          (pw_or1 (pt_cmpR (op_neD hu) (pe_getF (pe_mkK h10 (.inr (.inl rfl)) N.sup hr (by rfl) (C.g 10 (by decide)) (pk_cons (pv 2) pk_nil))) (pv 2) (nomark _))))) (pss_one (ps_ret pe_bl)) pss_nil)
      (pss_one (ps_ret (pe_and (pe_cmpR (op_eqD hu) (pe_getF (pe_mkF h11 (.inr (.inr rfl)) N.sup hr (by rfl) (C.g 11 (by decide)) (pe_tup (pa_cons (pv 0) pa_nil)))) (pe_tup (pa_cons (pv 0) pa_nil)) (nomark _))
        (pe_one (pe_cmpR (op_eqD hu) (pe_getF (pe_mkK h11 (.inr (.inr rfl)) N.sup hr (by rfl) (C.g 11 (by decide)) (pk_cons (pe_tup (pa_cons (pv 0) (pa_cons (pv 0) pa_nil))) pk_nil))) (pe_tup (pa_cons (pv 0) (pa_cons (pv 0) pa_nil))) (nomark _))))))))), ?_⟩
    have l1 : ∀ v : V, ([(("place" : Str), v)] : List (Str × V)).lookup ("place" : Str) = some v := fun v => by simp [List.lookup]
    have l2 : ∀ v : V, ([(("what" : Str), v)] : List (Str × V)).lookup ("what" : Str) = some v := fun v => by simp [List.lookup]
    have l3 : ∀ v : V, ([(("where" : Str), v)] : List (Str × V)).lookup ("where" : Str) = some v := fun v => by simp [List.lookup]
    have en : (!decide (V.int n = V.int n)) = false := by simp
    have d3 := shp3 (n := n) ht
    have nz : ∀ k : Nat, k ≤ 3 → k ≤ sizeLine := fun k h => by rw [sizeLine_eq]; exact Nat.le_trans h (by decide)
    refine ⟨_, rfl, fun a1 q1 na1 nq1 ne1 => ⟨a1, c 1, q1, _, _, rfl, upd_same, (upd_ne ne1).trans upd_same, l1 _, C.x1, h1.noN, _, rfl, rfl, _, rfl, if_f en ?_⟩⟩
    have s1 := Same.new2 (o := exo a1 (c 1) (some q1)) (u := exd q1 [(("place" : Str), V.int n)]) na1 nq1
    refine ⟨_, rfl, _, rfl, fun a2 q2 na2 nq2 ne2 => ⟨a2, c 1, q2, _, _, rfl, upd_same, (upd_ne ne2).trans upd_same, l1 _, C.x1, h1.noN, _, rfl, rfl, _, rfl, if_f en ?_⟩⟩
    have s2 := Same.new2 (o := exo a2 (c 1) (some q2)) (u := exd q2 [(("place" : Str), V.int n)]) na2 nq2
    refine ⟨_, rfl, _, rfl, _, rfl, nz 3 (by decide), fun p1 np1 => ⟨nz 2 (by decide), fun p2 np2 => ?_⟩⟩
    have s3 := Same.new (o := .tup [V.str "Cod", V.str t, V.int n]) np1
    have s4 := Same.new (o := .tup [V.str t, V.ref p1]) np2
    refine ⟨_, rfl, fun a3 q3 na3 nq3 ne3 => ⟨a3, c 10, q3, _, _, rfl, upd_same, (upd_ne ne3).trans upd_same, l2 _, C.x10, h10.noN, _, rfl, ?_⟩⟩
    have s5 := Same.new2 (o := exo a3 (c 10) (some q3)) (u := exd q3 [(("what" : Str), V.ref p2)]) na3 nq3
    have t5 := dp3 (K := K) (s5 _ _ upd_same) (s5 _ _ (s4 _ _ upd_same))
    refine ⟨_, _, t5, t5, d3, d3, _, rfl, if_f (by rw [eqv_me d3]; rfl) ?_⟩
    refine ⟨_, rfl, _, rfl, fun a4 q4 na4 nq4 ne4 => ⟨a4, c 10, q4, _, _, rfl, upd_same, (upd_ne ne4).trans upd_same, l2 _, C.x10, h10.noN, _, rfl, ?_⟩⟩
    have s6 := Same.new2 (o := exo a4 (c 10) (some q4)) (u := exd q4 [(("what" : Str), V.ref p2)]) na4 nq4
    have t6 := dp3 (K := K) (s6 _ _ (s5 _ _ upd_same)) (s6 _ _ (s5 _ _ (s4 _ _ upd_same)))
    refine ⟨_, _, t6, t6, d3, d3, _, rfl, if_f (by rw [eqv_me d3]; rfl) ?_⟩
    refine ⟨_, rfl, nz 1 (by decide), fun p3 np3 a5 q5 na5 nq5 ne5 => ⟨a5, c 11, q5, _, _, rfl, upd_same, (upd_ne ne5).trans upd_same, l3 _, C.x11, h11.noN, _, rfl, nz 1 (by decide), fun p4 np4 => ?_⟩⟩
    have s7 := Same.new (o := .tup [V.str t]) np3
    have s8 := Same.new2 (o := exo a5 (c 11) (some q5)) (u := exd q5 [(("where" : Str), V.ref p3)]) na5 nq5
    have s9 := Same.new (o := .tup [V.str t]) np4
    have d1 := shp1 ht
    have d2 := shp2 ht
    refine ⟨_, _, dp1 (s9 _ _ (s8 _ _ upd_same)), dp1 upd_same, d1, d1, _, rfl, if_t (eqv_me d1) ?_⟩
    refine ⟨_, rfl, _, rfl, nz 2 (by decide), fun p5 np5 => ⟨_, rfl, fun a6 q6 na6 nq6 ne6 => ⟨a6, c 11, q6, _, _, rfl, upd_same, (upd_ne ne6).trans upd_same, l3 _, C.x11, h11.noN, _, rfl, _, rfl, nz 2 (by decide), fun p6 np6 => ?_⟩⟩⟩
    have s10 := Same.new (o := .tup [V.str t, V.str t]) np5
    have s11 := Same.new2 (o := exo a6 (c 11) (some q6)) (u := exd q6 [(("where" : Str), V.ref p5)]) na6 nq6
    have s12 := Same.new (o := .tup [V.str t, V.str t]) np6
    refine ⟨_, _, dp2 (s12 _ _ (s11 _ _ upd_same)), dp2 upd_same, d2, d2, ?_⟩
    rw [eqv_me d2]
    exact hQ _ (((((((((((s1.trans s2).trans s3).trans s4).trans s5).trans s6).trans s7).trans s8).trans s9).trans s10).trans s11).trans s12)
end
end KZ

set_option maxRecDepth 100000
set_option maxHeartbeats 4000000
namespace KZ
open PySem PySem.Spec PyProof.Rows L2
theorem dpBools {K : PySem.W.Frag} {H : Hp} : ∀ l : List Bool, DpAll K H (l.map V.bl) (l.map PyData.bool)
  | [] => .nil
  | b :: l => .cons (.bl b) (dpBools l)
theorem layBools : ∀ l : List Bool, PyData.canLayAll0 (l.map PyData.bool) = true
  | [] => rfl
  | b :: l => by simp [PyData.canLayAll0, PyData.canLay0, layBools l]
theorem depBools : ∀ l : List Bool, PyData.depthAll (l.map PyData.bool) ≤ 1
  | [] => by simp [PyData.depthAll]
  | b :: l => by have := depBools l; simp [PyData.depthAll, PyData.depth]; omega
theorem shBools (l : List Bool) : SeqAt.shaped (.list (l.map PyData.bool)) = true := by
  unfold SeqAt.shaped
  rw [Bool.and_eq_true]
  refine ⟨by rw [PyData.canLay0]; exact layBools l, decide_eq_true ?_⟩
  rw [PyData.depth]
  have := depBools l
  omega
def bits24 (i : Nat) : List Bool := (List.range 24).map fun j => decide (i = j)
theorem Same.over {H H1 : Hp} (s : Same H H1) {p : Addr} {o : HO} (h : H p = none) : Same H (upd H1 p o) := fun b x e => by rw [upd_ne (ne_of_none e h)]; exact s b x e
def spLaw (K : PySem.W.Frag) : Sp := fun vs H Q _ => ∃ (a : Addr) (ns : List Int), vs = [.ref a] ∧ SqL K H a (ns.map V.int) ∧ ns.length ≤ 63 ∧ ∀ H', Q (.bl true) H'
structure Fns (K : PySem.W.Frag) (mg : Str → Option Value) (fP fK fM f1 f2 fF : Addr) (dP dK dM d1 d2 dF : FuncData) : Prop where
  p : FnP K "_law_pool" sPool fP dP
  k : FnP K "_law_pick" sPick fK dK
  m : FnP K "_law_marks" sMarks fM dM
  f : FnP K "_law_first" sFirst f1 d1
  s : FnP K "_law_second" sSecond f2 d2
  d : FnP K "_law_fields" sFields fF dF
  gp : mg "_law_pool" = some (.ref fP)
  gk : mg "_law_pick" = some (.ref fK)
  gm : mg "_law_marks" = some (.ref fM)
  gf : mg "_law_first" = some (.ref f1)
  gs : mg "_law_second" = some (.ref f2)
  gd : mg "_law_fields" = some (.ref fF)
abbrev nL : List Str := ["_law_script", "_law_k", "_law_pool_here", "_law_text", "_law_number", "_law_errors", "_law_at", "_law_base", "_law_other"]
section
variable {P : Program} {w : World} {K : PySem.W.Frag} {mg : Str → Option Value} {base : Heap} {c : Nat → Addr} {b : Addr} {fP fK fM f1 f2 fF : Addr} {dP dK dM d1 d2 dF : FuncData}
theorem scLaw : FnScope nL ["_law_script"] (defScope sLaw) := ⟨rfl, rfl, rfl, by decide +kernel, rfl, by decide +kernel, by decide +kernel⟩
theorem ok_law {f : Addr} {fd : FuncData} (F : FnP K "law" sLaw f fd) (N : Nm mg) (C : Cl P K mg c b) (G : Fns K mg fP fK fM f1 f2 fF dP dK dM d1 d2 dF) : FnOk P w K mg base CX0 3 f fd ["_law_script"] (spLaw K) := by
  have GP : FnOk P w K mg base CX0 2 fP dP _ (spPool K) := (ok_pool G.p N).mono (by decide)
  have GK : FnOk P w K mg base CX0 2 fK dK _ spPick := (ok_pick G.k N).mono (by decide)
  have GM : FnOk P w K mg base CX0 2 fM dM _ (spMarks K c) := (ok_marks G.m N C).mono (by decide)
  have G1 : FnOk P w K mg base CX0 2 f1 d1 _ (spErrs c 0 8) := ok_first G.f N C
  have G2 : FnOk P w K mg base CX0 2 f2 d2 _ (spErrs c 8 13) := ok_second G.s N C
  have GF : FnOk P w K mg base CX0 2 fF dF _ spFields := ok_fields G.d N C
  have bP : Binds K dP ["_law_script", "_law_k"] [] := G.p.bindsN fun _ _ _ _ _ _ us hl => match us, hl with | [_, _], _ => rfl
  have bK : Binds K dK ["_law_pool_here", "_law_many"] [] := G.k.bindsN fun _ _ _ _ _ _ us hl => match us, hl with | [_, _], _ => rfl
  have bM : Binds K dM ["_law_e"] [] := G.m.bindsN fun _ _ _ _ _ _ us hl => match us, hl with | [_], _ => rfl
  have b1 : Binds K d1 ["_law_text", "_law_number"] [] := G.f.bindsN fun _ _ _ _ _ _ us hl => match us, hl with | [_, _], _ => rfl
  have b2 : Binds K d2 ["_law_text", "_law_number"] [] := G.s.bindsN fun _ _ _ _ _ _ us hl => match us, hl with | [_, _], _ => rfl
  have bF : Binds K dF ["_law_text", "_law_number"] [] := G.d.bindsN fun _ _ _ _ _ _ us hl => match us, hl with | [_, _], _ => rfl
  refine F.ok scLaw (fun vs H Q E h => ?_) (fun cdv A outer s H vs Q E hr h => ?_)
  · obtain ⟨a, ns, rfl, _⟩ := h
    rfl
  · obtain ⟨a, ns, rfl, hS, hlen, hQ⟩ := h
    have hu := hr.units
    refine ⟨_, PSs.nox (pss_cons (ps_for PassesOwn.never rfl (pi_range1 (by rfl) N.rng (pa_cons (pe_op op_add pe_int (pe_callB (call_min2 rfl) (by rfl) N.min boot_min (pa_cons pe_int (pa_cons (pe_callB call_len_seq (by rfl) N.len boot_len (pa_cons (pv 0) pa_nil)) pa_nil)))) pa_nil)) (pg_name (i := 1) scLaw.nd rfl (Or.inl rfl))
        (pss_cons (ps_set (i := 2) scLaw.nd rfl (Or.inl rfl) (pe_call GP hr (by rfl) G.gp G.p.kp bP .nil pass0 (pa_cons (pv 0) (pa_cons (pv 1) pa_nil))))
        (pss_cons (ps_set (i := 3) scLaw.nd rfl (Or.inl rfl) (pe_callTy call_str_int (by rfl) N.str boot_str (pa_cons (pe_call GK hr (by rfl) G.gk G.k.kp bK .nil pass0 (pa_cons (pv 2) (pa_cons (pe_op op_powM pe_int pe_int) pa_nil))) pa_nil)))
        (pss_cons (ps_set (i := 4) scLaw.nd rfl (Or.inl rfl) (pe_op op_sub (pe_call GK hr (by rfl) G.gk G.k.kp bK .nil pass0 (pa_cons (pv 2) (pa_cons pe_int pa_nil))) pe_int))
        (pss_cons (ps_set (i := 5) scLaw.nd rfl (Or.inl rfl) (pe_op op_cat (pe_op op_cat (pe_call G1 hr (by rfl) G.gf G.f.kp b1 .nil pass0 (pa_cons (pv 3) (pa_cons (pv 4) pa_nil))) (pe_call G2 hr (by rfl) G.gs G.s.kp b2 .nil pass0 (pa_cons (pv 3) (pa_cons (pv 4) pa_nil))))
          (pe_lst (pa_cons (pe_exc1 PySem.F.excBase_ValueError (C.m 21 (by decide) (by decide) (by decide) (by decide)).1 (C.g 21 (by decide)) (C.m 21 (by decide) (by decide) (by decide) (by decide)).2 (by rfl) (pv 3))
            (pa_cons (pe_exc1 PySem.F.excBase_ValueError (C.m 22 (by decide) (by decide) (by decide) (by decide)).1 (C.g 22 (by decide)) (C.m 22 (by decide) (by decide) (by decide) (by decide)).2 (by rfl) (pv 3))
            (pa_cons (pe_exc1 PySem.F.excBase_ValueError (C.m 23 (by decide) (by decide) (by decide) (by decide)).1 (C.g 23 (by decide)) (C.m 23 (by decide) (by decide) (by decide) (by decide)).2 (by rfl) (pv 3)) pa_nil))))))
        (pss_cons (ps_if (pt_cmpR op_ne (pe_callB call_len_seq (by rfl) N.len boot_len (pa_cons (pv 5) pa_nil)) pe_int (nomark _)) (pss_one (ps_ret pe_bl)) pss_nil)
        (pss_cons (ps_for PassesOwn.never rfl (pi_range1 (by rfl) N.rng (pa_cons pe_int pa_nil)) (pg_name (i := 6) scLaw.nd rfl (Or.inr rfl))
          (pss_cons (ps_if (pt_cmpR (op_neD hu) (pe_call GM hr (by rfl) G.gm G.m.kp bM .nil pass0 (pa_cons (pe_ix ix_seq (pv 5) (pv 6) (by with_unfolding_all exact fun _ _ => rfl)) pa_nil))
              (pe_lc (own := [("_law_other", 8)]) (g := gName 8) (tt := tYes) rfl scLaw.nd (pi_range1 (by rfl) N.rng (pa_cons pe_int pa_nil)) (blkOk_by (own := [("_law_other", 8)]) (N := nL) (sc := defScope sLaw) (by decide +kernel))
                (fun _ _ _ _ _ => pg_name (i := 8) scLaw.nd rfl (Or.inl rfl)) (fun _ _ _ _ _ => pts_nil) (fun _ _ _ _ _ => pe_cmpR op_eq (pv 6) (pv 8) (nomark _))) (nomark _)) (pss_one (ps_ret pe_bl)) pss_nil)
          (pss_one (ps_if (PW.pt (pw_or (pt_not (pt_val (pe_callB call_isX (by rfl) N.isi boot_isi (pa_cons (pe_ix ix_seq (pv 5) (pv 6) (by with_unfolding_all exact fun _ _ => rfl)) (pa_cons (pe_glob (v := .ref b) (by rfl) C.gb rfl) pa_nil)))))
              (pw_or1 (pt_not (pt_val (pe_callB call_isX (by rfl) N.isi boot_isi (pa_cons (pe_ix ix_seq (pv 5) (pv 6) (by with_unfolding_all exact fun _ _ => rfl)) (pa_cons (pe_bltn (v := .ty "ValueError") (by rfl) N.ve boot_ve rfl) pa_nil)))))))) (pss_one (ps_ret pe_bl)) pss_nil))))
        (pss_cons (ps_set (i := 7) scLaw.nd rfl (Or.inl rfl) (pe_exc1 PySem.F.excBase_ValueError C.mb.1 C.gb C.mb.2 (by rfl) (pv 3)))
        (pss_one (ps_if (PW.pt (pw_or (pt_not (pt_val (pe_callB call_isX (by rfl) N.isi boot_isi (pa_cons (pv 7) (pa_cons (pe_bltn (v := .ty "ValueError") (by rfl) N.ve boot_ve rfl) pa_nil)))))
            (pw_or (pt_cmpR op_in_seq pe_bl (pe_call GM hr (by rfl) G.gm G.m.kp bM .nil pass0 (pa_cons (pv 7) pa_nil)) (by rfl))
              (pw_or1 (pt_not (pt_val (pe_call GF hr (by rfl) G.gd G.d.kp bF .nil pass0 (pa_cons (pv 3) (pa_cons (pv 4) pa_nil))))))))) (pss_one (ps_ret pe_bl)) pss_nil))))))))))
      (pss_one (ps_ret pe_bl))), ?_⟩
    have nz : ∀ k : Nat, k ≤ 24 → k ≤ sizeLine := fun k h => by rw [sizeLine_eq]; exact Nat.le_trans h (by decide)
    refine ⟨_, rfl, a, _, rfl, .inl hS, _, _, rfl, _, _, rfl, rfl, _, rfl, ?_, ?_, for_range (fun _ σ H' => ∃ v1 v2 v3 v4 v5 v6 v7 v8 : Option V, σ = [some (.ref a), v1, v2, v3, v4, v5, v6, v7, v8] ∧ Same H H') ⟨none, none, none, none, none, none, none, none, rfl, Same.refl _⟩ ?_ ?_⟩
    · have : (0 : Int) ≤ ((ns.map V.int).length : Int) := by omega
      show -(2 ^ 62) ≤ 1 + (if ((ns.map V.int).length : Int) < 24 then ((ns.map V.int).length : Int) else 24)
      split <;> omega
    · show 1 + (if ((ns.map V.int).length : Int) < 24 then ((ns.map V.int).length : Int) else 24) < 2 ^ 62
      split <;> omega
    · rintro k σ H0 hk ⟨v1, v2, v3, v4, v5, v6, v7, v8, rfl, S0⟩
      refine ⟨_, rfl, _, rfl, a, 0 + (k : Int), ns, rfl, by omega, S0.sql hS, fun H1 p x y S1 np y0 y1 e1 => ?_⟩
      refine ⟨_, rfl, 10, 9, rfl, rfl, ⟨by decide, by decide⟩, p, _, x, y, 0, rfl, (by decide), (by decide), e1, y0, y1, by decide, by decide, fun r x' r0 r1 => ⟨r, rfl, ?_, ?_⟩⟩
      · exact Nat.lt_trans (show r.natAbs.log2 < 60 from PySem.Flt.log2_lt_of (by decide) (wid (n := 60) (by decide) r0 (Int.lt_of_lt_of_le r1 (by decide)))) (by decide)
      have T1 : Same H0 (upd H1 p (.lst [V.int x', V.int y, V.int (0 + 1)])) := S1.over np
      refine ⟨_, rfl, p, 20002, x', y, 1, rfl, by decide, by decide, upd_same, y0, y1, by decide, by decide, fun r2 x2 q0 q1 => ⟨_, _, rfl, rfl, ?_⟩⟩
      have T2 : Same H0 (upd (upd H1 p (.lst [V.int x', V.int y, V.int (0 + 1)])) p (.lst [V.int x2, V.int y, V.int (1 + 1)])) := T1.over np
      refine ⟨_, rfl, _, rfl, _, _, rfl, fun H3 q1 as S3 nq1 e3 l1 i1 => ⟨_, rfl, _, rfl, _, _, rfl, fun H4 q2 bs S4 nq2 e4 l2 i2 => ⟨q1, q2, _, _, rfl, rfl, S4 _ _ e3, e4, ?_, fun q3 nq3 => ?_⟩⟩⟩
      · rw [List.length_map, List.length_map, l1, l2]
        exact nz 21 (by decide)
      refine ⟨_, rfl, fun a1 n1 => ⟨_, rfl, fun a2 n2 => ⟨_, rfl, fun a3 n3 => ⟨nz 3 (by decide), fun q4 nq4 => ?_⟩⟩⟩⟩
      have S5 := Same.new (o := .lst (as.map V.ref ++ bs.map V.ref)) nq3
      have S6 := Same.new (o := ExO (.ref (c 21)) a1) n1
      have S7 := Same.new (o := ExO (.ref (c 22)) a2) n2
      have S8 := Same.new (o := ExO (.ref (c 23)) a3) n3
      have S9 := Same.new (o := .lst [V.ref a1, V.ref a2, V.ref a3]) nq4
      refine ⟨q3, q4, _, _, rfl, rfl, S9 _ _ (S8 _ _ (S7 _ _ (S6 _ _ upd_same))), upd_same, ?_, fun q5 nq5 => ?_⟩
      · rw [List.length_append, List.length_map, List.length_map, l1, l2]
        exact nz 24 (by decide)
      have S10 := Same.new (o := .lst ((as.map V.ref ++ bs.map V.ref) ++ [V.ref a1, V.ref a2, V.ref a3])) nq5
      have x1 : IsX _ a1 (c 21) := (show IsX _ a1 (c 21) from .inl (S7 _ _ upd_same)).same (S8.trans (S9.trans S10))
      have x2' : IsX _ a2 (c 22) := (show IsX _ a2 (c 22) from .inl (S8 _ _ upd_same)).same (S9.trans S10)
      have x3 : IsX _ a3 (c 23) := (show IsX _ a3 (c 23) from .inl (S9 _ _ upd_same)).same S10
      have T9 := ((((S5.trans S6).trans S7).trans S8).trans S9).trans S10
      have T10 := T2.trans ((S3.trans S4).trans T9)
      have j1 : ∀ i a, as[i]? = some a → IsX (upd (upd (upd (upd (upd (upd H4 q3 (.lst (as.map V.ref ++ bs.map V.ref))) a1 (ExO (.ref (c 21)) a1)) a2 (ExO (.ref (c 22)) a2)) a3 (ExO (.ref (c 23)) a3)) q4 (.lst [V.ref a1, V.ref a2, V.ref a3])) q5 (.lst ((as.map V.ref ++ bs.map V.ref) ++ [V.ref a1, V.ref a2, V.ref a3]))) a (c i) := fun i a e => by
        have z := (i1 i a e).same (S4.trans T9)
        rw [Nat.zero_add] at z
        exact z
      have j2 := fun i a e => (i2 i a e).same T9
      have e5 : upd (upd (upd (upd (upd (upd H4 q3 (.lst (as.map V.ref ++ bs.map V.ref))) a1 (ExO (.ref (c 21)) a1)) a2 (ExO (.ref (c 22)) a2)) a3 (ExO (.ref (c 23)) a3)) q4 (.lst [V.ref a1, V.ref a2, V.ref a3])) q5 (.lst ((as.map V.ref ++ bs.map V.ref) ++ [V.ref a1, V.ref a2, V.ref a3])) q5 = some (.lst ((as.map V.ref ++ bs.map V.ref) ++ [V.ref a1, V.ref a2, V.ref a3])) := upd_same
      generalize upd (upd (upd (upd (upd (upd H4 q3 (.lst (as.map V.ref ++ bs.map V.ref))) a1 (ExO (.ref (c 21)) a1)) a2 (ExO (.ref (c 22)) a2)) a3 (ExO (.ref (c 23)) a3)) q4 (.lst [V.ref a1, V.ref a2, V.ref a3])) q5 (.lst ((as.map V.ref ++ bs.map V.ref) ++ [V.ref a1, V.ref a2, V.ref a3])) = H5 at *
      have el : (as.map V.ref ++ bs.map V.ref) ++ [V.ref a1, V.ref a2, V.ref a3] = (as ++ bs ++ [a1, a2, a3]).map V.ref := by simp
      rw [el] at e5
      have len24 : (as ++ bs ++ [a1, a2, a3]).length = 24 := by simp [l1, l2]
      have jx : ∀ i, i < 24 → ∃ z, (as ++ bs ++ [a1, a2, a3])[i]? = some z ∧ IsX H5 z (c i) := fun i hi => by
        have hi' : i < (as ++ bs ++ [a1, a2, a3]).length := by rw [len24]; exact hi
        refine ⟨_, List.getElem?_eq_getElem hi', ?_⟩
        by_cases c1 : i < 8
        · refine j1 i _ ?_
          rw [← List.getElem?_eq_getElem hi', List.append_assoc, List.getElem?_append_left (by omega)]
        · by_cases c2 : i < 21
          · have q : IsX H5 ((as ++ bs ++ [a1, a2, a3])[i]) (c (8 + (i - 8))) := j2 (i - 8) _ (by
              rw [← List.getElem?_eq_getElem hi', List.append_assoc, List.getElem?_append_right (by omega), List.getElem?_append_left (by omega), l1])
            rw [show 8 + (i - 8) = i by omega] at q
            exact q
          · have q : ∀ z, (as ++ bs ++ [a1, a2, a3])[i]? = some z → IsX H5 z (c i) := fun z hz => by
              rw [List.getElem?_append_right (by simp [l1, l2]; omega), List.length_append, l1, l2] at hz
              have : i = 21 ∨ i = 22 ∨ i = 23 := by omega
              rcases this with rfl | rfl | rfl
              · cases hz; exact x1
              · cases hz; exact x2'
              · cases hz; exact x3
            exact q _ (List.getElem?_eq_getElem hi')
      generalize as ++ bs ++ [a1, a2, a3] = al at *
      have T5 : Same H H5 := S0.trans T10
      clear j1 j2 x1 x2' x3 T10 T9 S10 S9 S8 S7 S6 S5 S4 S3
      refine ⟨_, rfl, q5, _, rfl, .inl (.of e5), rfl, _, rfl, if_f (by rw [List.length_map, len24]; decide) ?_⟩
      refine ⟨24, rfl, by decide, by decide, for_range (fun _ σ H' => ∃ w6 w7 w8 : Option V, σ = [some (.ref a), some (.int (0 + (k : Int))), some (.ref p), some (.str (Str.ofString (toString r))), some (.int (r2 - 1)), some (.ref q5), w6, w7, w8] ∧ Same H5 H') ⟨v6, v7, v8, rfl, Same.refl _⟩ ?_ ?_⟩
      · rintro i σ H6 hi ⟨w6, w7, w8, rfl, S6⟩
        have hi24 : i < 24 := hi
        obtain ⟨z, hz, hx⟩ := jx i hi24
        have at1 : atI (al.map V.ref) (0 + (i : Int)) = some (.ref z) := by
          rw [Int.zero_add]
          exact atI_nat (by rw [List.getElem?_map, hz]; rfl)
        have hx6 := hx.same S6
        refine ⟨_, rfl, _, rfl, .inl ⟨q5, _, 0 + (i : Int), _, rfl, rfl, .of (S6 _ _ e5), at1, z, c i, fun j => decide (i = j), rfl, hx6, C.e i hi24, fun j hj => C.k i j hi24 hj, fun H7 q6 S7 nq6 e7 => ?_⟩⟩
        refine ⟨24, rfl, by decide, by decide, fun D nD => lc_range (fun m H' => Same H7 H' ∧ H' D = some (.lst (((List.range m).map fun j => decide (i = j)).map V.bl))) ⟨Same.new nD, upd_same⟩ ?_ ?_⟩
        · rintro m H8 hm ⟨S8, e8⟩
          refine ⟨rfl, ?_⟩
          show tOp rEq (tVar 6) (tVar 8) _ _ _
          refine ⟨_, rfl, _, rfl, rfl, _, e8, ?_, S8.over nD, ?_⟩
          · rw [List.length_map, List.length_map, List.length_range, sizeLine_eq]
            have : m < 24 := hm
            omega
          · rw [upd_same, List.range_succ, List.map_append, List.map_append]
            simp
            omega
        · rintro H8 ⟨S8, e8⟩
          have e8' : H8 q6 = some (.lst ((bits24 i).map V.bl)) := by rw [S8 _ _ e7]; unfold bits24; rw [List.map_map]; rfl
          refine ⟨_, _, .lst (.of e8') (dpBools _), .lst (.of e8) (dpBools _), shBools _, shBools _, _, rfl, if_f ?_ ?_⟩
          · have q := eqv_me (shBools (bits24 i))
            show (!PyData.eqv (.list ((bits24 i).map PyData.bool)) (.list ((bits24 i).map PyData.bool))) = false
            rw [q]
            rfl
          have S68 := S7.trans S8
          have hx8 := hx6.same S68
          refine ⟨_, rfl, _, rfl, .inl ⟨q5, _, 0 + (i : Int), _, rfl, rfl, .of (S68 _ _ (S6 _ _ e5)), at1, z, c i, _, _, _, rfl, hx8, C.e i hi24, (fun _ r => r), C.kb i hi24, _, rfl, if_f rfl ?_⟩⟩
          refine ⟨_, rfl, _, rfl, .inl ⟨q5, _, 0 + (i : Int), _, rfl, rfl, .of (S68 _ _ (S6 _ _ e5)), at1, z, c i, _, _, _, rfl, hx8, C.e i hi24, (fun _ r => r), C.kv i hi24, _, rfl, if_f rfl ?_⟩⟩
          exact ⟨_, _, _, rfl, S6.trans S68⟩
      · rintro σ H6 ⟨w6, w7, w8, rfl, S6⟩
        refine ⟨_, rfl, fun a4 n4 => ?_⟩
        have S7 := Same.new (o := ExO (.ref b) a4) n4
        have hb : IsX (upd H6 a4 (ExO (.ref b) a4)) a4 b := .inl upd_same
        refine ⟨_, rfl, a4, b, _, _, _, rfl, hb, C.eb, (fun _ r => r), C.bv, _, rfl, if_f rfl ?_⟩
        refine ⟨_, rfl, a4, b, fun _ => false, rfl, hb, C.eb, fun j hj => C.bk j hj, fun H8 q6 S8 nq6 e8 => ⟨q6, _, rfl, .inl (.of e8), rfl, rfl, _, rfl, if_f rfl ?_⟩⟩
        refine ⟨_, rfl, _, rfl, _, _, rfl, ok_str r, fun H9 S9 => ⟨_, rfl, if_f rfl ?_⟩⟩
        exact ⟨_, _, _, _, _, _, _, _, rfl, T5.trans (((S6.trans S7).trans S8).trans S9)⟩
    · rintro σ H' ⟨v1, v2, v3, v4, v5, v6, v7, v8, rfl, S⟩
      exact hQ _
end
end KZ

set_option maxRecDepth 100000
set_option maxHeartbeats 0
namespace KZ
open PySem PySem.Spec PyProof.Rows L2
abbrev prog0 : Program := PySem.Challenge.pw_linearmix_k00_error_classes
/-! ### the facts, as Bools -/
def nmAt (i : Nat) : Str := nmC.getD i ""
def excB (K : PySem.W.Frag) (D : Addr) : Bool :=
  He.eqO (PySem.W.findIn K (.ref D) "__getattribute__") (some (some (.builtin "BaseException.__getattribute__"))) && (He.eqO (PySem.W.findIn K (.ref D) "__getattr__") (some none) && (decide (PySem.W.subIn K (.ref D) (.type "BaseException") = some true) && (PySem.W.hasDictIn K D &&
  (He.eqO (PySem.W.findIn K (.ref D) "__class__") (some (some (.builtin "object.__class__"))) && (He.eqO (PySem.W.specialIn K (.builtin "object.__class__") "__get__") (some (some (.builtin "getset_descriptor.__get__"))) && (decide (PySem.W.takesIn K (.builtin "object.__class__") = some true) && decide (PySem.W.mroIn K D (.type "object") = some true)))))))
theorem excB_ok {K : PySem.W.Frag} {D : Addr} (h : excB K D = true) : ExcC K D := by
  unfold excB at h
  simp only [Bool.and_eq_true, decide_eq_true_eq] at h
  obtain ⟨h1, h2, h3, h4, h5, h6, h7, h8⟩ := h
  exact ⟨He.eqO_ok h1, He.eqO_ok h2, h3, h4, He.eqO_ok h5, He.eqO_ok h6, h7, h8⟩
def clsB (K : PySem.W.Frag) (C : Addr) : Bool := match K.lookup C with
  | some ⟨.type "type", _, .cls cd, sl⟩ => (match cd.mro, sl.toList with
    | .ref C' :: bm, [_, _, _, _, some (.builtin n), _] => C' == C && (n == "ValueError.__new__" && (!cd.hasDel && (cd.hasDict && PySem.HandSPX.refsVE bm)))
    | _, _ => false)
  | _ => false
theorem clsB_ok {K : PySem.W.Frag} {C : Addr} (h : clsB K C = true) : ∃ nm q N bs bm sn sub ab col dd k0 k1 k2 k3 k5, K.lookup C = some (excClassObj nm q C N bs bm true sn sub ab col dd k0 k1 k2 k3 k5 "ValueError.__new__") ∧ PySem.HandSPX.refsVE bm = true := by
  unfold clsB at h
  split at h
  · rename_i dd cd sl ho
    split at h
    · rename_i C' bm k0 k1 k2 k3 n k5 hm hs
      simp only [Bool.and_eq_true, beq_iff_eq, Bool.not_eq_true'] at h
      obtain ⟨rfl, rfl, h1, h2, h3⟩ := h
      obtain ⟨nm, bs, mro, ns, qn, hd, sn, sub, ab, col, del⟩ := cd
      dsimp only at hm h1 h2
      subst hm h1 h2
      obtain ⟨l⟩ := sl
      dsimp only at hs
      subst hs
      exact ⟨nm, qn, ns, bs, bm, sn, sub, ab, col, dd, k0, k1, k2, k3, k5, ho, h3⟩
    · cases h
  · cases h
abbrev FnI : Type := Option (Str × Str × Arguments × FuncBody × Scope × Addr × List Str × Addr)
def fnI (K : PySem.W.Frag) (C : Str) : FnI := match K.lookup (He.fAd K (C, some "__init__")) with
  | some ⟨_, _, .func fd, _⟩ => some (fd.name, fd.qualname, fd.params, fd.body, fd.scope, fd.globals, fd.closure.map (·.1), fd.builtins)
  | _ => none
def iniB (K : PySem.W.Frag) (C x : Str) : Bool := clsB K (He.ga K C) && (He.eqO (PySem.W.findIn K (.ref (He.ga K C)) "__setattr__") (some (some (.builtin "object.__setattr__"))) && (He.eqO (PySem.W.findIn K (.ref (He.ga K C)) x) (some none) &&
  (He.eqO (PySem.W.findIn K (.ref (He.ga K C)) "__init__") (some (some (.ref (He.fAd K (C, some "__init__"))))) && (decide (PySem.W.typeIn K (.ref (He.fAd K (C, some "__init__"))) = some (.type "function")) && (PySem.W.keepIn K (.ref (He.ga K C)) &&
  (He.eqO (PySem.W.ks_superIn K (He.ga K C) (He.ga K C) "__init__") (some (some (.builtin "ValueError.__init__"))) && (decide (PySem.W.subIn K (.ref (He.ga K C)) (.type "ValueError") = some true) && (decide (PySem.W.subIn K (.ref (He.ga K C)) (.type "BaseException") = some true) &&
  (decide (PySem.W.mroIn K (He.ga K C) (.ref (He.ga K C)) = some true) && (He.eqO (PySem.W.nsIn K cStatics "thirdparty.any") (some none) && (He.eqO (PySem.W.nsIn K mainGlobals "super") (some none) &&
  (match K.lookup (He.fAd K (C, some "__init__")) with
    | some ⟨_, _, .func fd, _⟩ => (match fd.defaults, fd.kwdefaults, fd.code, fd.closure with
      | .none, .none, .ref cda, [(_, cc)] => PySem.W.codeIn K (.ref cda) fd.qualname && ((match K.lookup cda with
        | some ⟨_, _, .fields vs, _⟩ => (match (vs[2]? : Option Value) with
          | some (.str file _) => ((prog0.main.file : Str) == file)
          | _ => false)
        | _ => false) && (match K.lookup cc with
        | some ⟨_, _, .cell (some (.ref D)), _⟩ => D == He.ga K C
        | _ => false))
      | _, _, _, _ => false)
    | _ => false))))))))))))
/-- an __init__ of the text -/
def sIni (i : Nat) : Stmt := inClass (top i) 0
def valI (C : Str) (i : Nat) : FnI := some ("__init__", C ++ ".__init__", defArgs (sIni i), .stmts (defBody (sIni i)), defScope (sIni i), mainGlobals, ["__class__"], builtinsNs)
theorem iniB_ok {P : Program} {K : PySem.W.Frag} {C x : Str} {i : Nat} (hP : P = prog0) (h : iniB K C x = true) (e : fnI K C = valI C i) (he : ∃ p1 p2 q1 q2 q3 q4 q5 q6 q7 q8 q9 q0 t, defArgs (sIni i) = PySem.Fld.fA x p1 p2 ∧ defBody (sIni i) = PySem.Fld.fB x t q1 q2 q3 q4 q5 q6 q7 q8 q9 q0 ∧ PySem.Fld.CallEq t q1 q2 q3 q4 q5)
    (hs : defScope (sIni i) = PySem.Fld.fS x) : PySem.Fld.Txt P K (He.ga K C) (He.fAd K (C, some "__init__")) x := by
  subst hP
  unfold iniB at h
  simp only [Bool.and_eq_true, decide_eq_true_eq] at h
  obtain ⟨h1, h2, h3, h4, h5, h6, h7, h8, h9, h10, h11, h12, h13⟩ := h
  refine ⟨clsB_ok h1, He.eqO_ok h2, He.eqO_ok h3, He.eqO_ok h4, h5, h6, He.eqO_ok h7, h8, h9, h10, He.eqO_ok h11, He.eqO_ok h12, by decide +kernel, ?_⟩
  obtain ⟨p1, p2, q1, q2, q3, q4, q5, q6, q7, q8, q9, q0, t, ea, eb, ec⟩ := he
  unfold fnI at e
  split at h13
  · rename_i oc od fd osl ho
    rw [ho] at e
    split at h13
    · rename_i cda cx cc hd1 hd2 hd3 hd4
      obtain ⟨fnm, fqn, fpa, fbo, fsc, fgl, fcl, fde, fkw, fdo, fpm, fan, fco, fct, fbu⟩ := fd
      dsimp only at hd1 hd2 hd3 hd4 h13
      subst hd1 hd2 hd3 hd4
      have e2 : (some (fnm, fqn, fpa, fbo, fsc, fgl, [cx], fbu) : FnI) = some (("__init__" : Str), C ++ (".__init__" : Str), defArgs (sIni i), FuncBody.stmts (defBody (sIni i)), defScope (sIni i), mainGlobals, [("__class__" : Str)], builtinsNs) := e
      injection e2 with e2
      simp only [Prod.mk.injEq, List.cons.injEq, and_true] at e2
      obtain ⟨r1, r2, r3, r4, r5, r6, r7, r8⟩ := e2
      subst r1 r2 r3 r4 r5 r6 r7 r8
      simp only [Bool.and_eq_true] at h13
      obtain ⟨u1, u2, u3⟩ := h13
      split at u2
      · rename_i ccl cdd vs ccs hcda
        split at u2
        · rename_i file tf hvs
          split at u3
          · rename_i cl cld D csl hcc
            have eD : D = He.ga K C := beq_iff_eq.mp u3
            subst eD
            refine ⟨oc, od, fdo, fpm, fan, cda, cc, fct, osl, p1, p2, q1, q2, q3, q4, q5, q6, q7, q8, q9, q0, t, C ++ ".__init__", ccl, cdd, vs, ccs, file, tf, cl, cld, csl, ?_, u1, hcda, hvs, u2, hcc, ec⟩
            rw [ho, ea, eb, hs]
          · cases u3
        · cases u2
      · cases u2
    · cases h13
  · cases h13
end KZ

set_option maxRecDepth 100000
set_option maxHeartbeats 0
namespace KZ
open PySem PySem.Spec PyProof.Rows L2
abbrev cAt (K : PySem.W.Frag) (i : Nat) : Addr := He.ga K (nmAt i)
abbrev bAt (K : PySem.W.Frag) : Addr := He.ga K "MixError"
def kit (K : PySem.W.Frag) (a : Addr) (v : Value) (r : Bool) : Bool := decide (PySem.W.kitOne K (.ref a) v = some r)
def mkB (K : PySem.W.Frag) (a : Addr) : Bool := PySem.W.excIn K a bmV "ValueError.__new__" && PySem.W.keepIn K (.ref a)
def xfOk (K : PySem.W.Frag) (a : Addr) : Bool := xfB K a
def exB (K : PySem.W.Frag) : Bool :=
  ((List.range 24).all fun i => (He.Fa.glo (nmAt i)).ok K && (excB K (cAt K i) && (kit K (cAt K i) (.ref (bAt K)) true && (kit K (cAt K i) (.type "ValueError") true && (kit K (bAt K) (.ref (cAt K i)) false &&
    ((i == 1 || (i == 10 || (i == 11 || mkB K (cAt K i)))) && (List.range 24).all fun j => kit K (cAt K i) (.ref (cAt K j)) (decide (i = j)))))))) &&
  ((He.Fa.glo "MixError").ok K && (excB K (bAt K) && (kit K (bAt K) (.type "ValueError") true && (mkB K (bAt K) && (iniB K "BadText" "place" && (iniB K "NotLetBy" "what" && (iniB K "BadProgram" "where" &&
    (xfB K (cAt K 1) && (xfB K (cAt K 10) && xfB K (cAt K 11))))))))))
theorem cl_of {P : Program} {K : PySem.W.Frag} {h : Heap} {mg : Str → Option Value} (hP : P = prog0) (X : K.In h) (G : h.Ns mainGlobals mg) (c : exB K = true) (e1 : fnI K "BadText" = valI "BadText" 3) (e2 : fnI K "NotLetBy" = valI "NotLetBy" 12) (e3 : fnI K "BadProgram" = valI "BadProgram" 13) : Cl P K mg (cAt K) (bAt K) := by
  unfold exB at c
  simp only [Bool.and_eq_true] at c
  obtain ⟨ca, cb, cc, cd, ce, c1, c2, c3, d1, d2, d3⟩ := c
  have at_ : ∀ i, i < 24 → _ := fun i hi => List.all_eq_true.mp ca i (List.mem_range.mpr hi)
  simp only [Bool.and_eq_true, Bool.or_eq_true, beq_iff_eq, List.all_eq_true, List.mem_range] at at_
  have mk : ∀ a, mkB K a = true → PySem.W.excIn K a bmV "ValueError.__new__" = true ∧ PySem.W.keepIn K (.ref a) = true := fun a h => Bool.and_eq_true_iff.mp h
  refine ⟨fun i hi => ?_, He.glo_ok X G cb, fun i hi => excB_ok (at_ i hi).2.1, excB_ok cc, fun i j hi hj => of_decide_eq_true ((at_ i hi).2.2.2.2.2.2 j hj), fun i hi => of_decide_eq_true (at_ i hi).2.2.1, fun i hi => of_decide_eq_true (at_ i hi).2.2.2.1,
    fun i hi => of_decide_eq_true (at_ i hi).2.2.2.2.1, of_decide_eq_true cd, fun i hi h1 h2 h3 => ?_, mk _ ce, ⟨_, iniB_ok hP c1 e1 ?_ ?_⟩, ⟨_, iniB_ok hP c2 e2 ?_ ?_⟩, ⟨_, iniB_ok hP c3 e3 ?_ ?_⟩, xfB_ok d1, xfB_ok d2, xfB_ok d3⟩
  · have q := He.glo_ok X G (at_ i hi).1
    have e : nmAt i = nmC[i]'hi := by unfold nmAt; rw [List.getD_eq_getElem?_getD, List.getElem?_eq_getElem hi]; rfl
    rw [← e]
    exact q
  · have q := (at_ i hi).2.2.2.2.2.1
    rcases q with q | q | q | q
    · exact absurd q h1
    · exact absurd q h2
    · exact absurd q h3
    · exact mk _ q
  all_goals first
    | exact ⟨_, _, _, _, _, _, _, _, _, _, _, _, _, rfl, rfl, fun _ => ⟨_, rfl⟩⟩
    | rfl
/-! ### the hook -/
def dD (nm : Str) (st : Stmt) : He.DefD := ⟨(nm, none), nm, nm, defArgs st, defBody st, defScope st, [], []⟩
def fn : List He.DefD := [dD "_law_pool" sPool, dD "_law_pick" sPick, dD "_law_marks" sMarks, dD "_law_first" sFirst, dD "_law_second" sSecond, dD "_law_fields" sFields, dD "law" sLaw]
def fa : List He.Fa := [.glo "_law_pool", .glo "_law_pick", .glo "_law_marks", .glo "_law_first", .glo "_law_second", .glo "_law_fields", .glo "law", .free "sum", .free "max", .free "min", .free "int", .free "str", .free "len", .free "isinstance", .free "range", .free "super", .free "ValueError"]
def asR (g : Addr → Option Obj) : Nat → List Addr
  | 0 => [mainGlobals, cStatics]
  | n + 1 => He.growD g (asR g n)
abbrev AlK : Type := He.AlD × Bool × List FnI
def obsK (K : PySem.W.Frag) : AlK := (He.obsD fa fn K, exB K, [fnI K "BadText", fnI K "NotLetBy", fnI K "BadProgram"])
def valK : AlK := (He.valD fn, true, [valI "BadText" 3, valI "NotLetBy" 12, valI "BadProgram" 13])
def hk : PySem.W.Hook where
  α := AlK
  obs := fun s => obsK (He.frG s.heap.get? (asR s.heap.get? 5))
  val := fun _ => valK
  says := fun _ h => ∃ K : PySem.W.Frag, K.In h ∧ obsK K = valK
  of := fun _ _ e => ⟨_, He.frG_in, e⟩
  keeps := fun _ _ _ ⟨K, hK, c⟩ k => ⟨K, PySem.W.Frag.In.keeps hK k, c⟩
abbrev R : PySem.W.OpenRow := PySem.W.OpenLaw.row PySem.Challenge.rw_linearmix_k00_error_classes
def ob (s : PySem.W.SharedT) : AlK := obsK (He.frG (HandSHeadRun.getT s) (asR (HandSHeadRun.getT s) 5))
theorem ob_eq (s : PySem.W.SharedT) : ob s = hk.obs s.abs := by
  have e : HandSHeadRun.getT s = s.abs.heap.get? := funext fun a => HandSHeadRun.getT_eq s a
  unfold ob
  rw [e]
  rfl
def names : List Str := (["MixError", "_law_pool", "_law_pick", "_law_among", "_law_marks", "_law_first", "_law_second", "_law_fields"] : List Str) ++ nmC
theorem facts {P : Program} {w : World} {K : PySem.W.Frag} {h : Heap} {mg : Str → Option Value} {f : Addr} (hP : P = prog0) (X : K.In h) (G : h.Ns mainGlobals mg) (hfa : mg ("law" : Str) = some (.ref f)) (c : obsK K = valK) :
    ∃ fd : FuncData, (∀ (s : Shared) (v : Value), BindsTo s fd ⟨[v], []⟩ [("_law_script", v)]) ∧ ∀ base : Heap, K.In base → base.Ns mainGlobals mg → FnOk P w K mg base CX0 3 f fd ["_law_script"] (spLaw K) := by
  have cD : He.SaysD fa fn K := congrArg (fun z : AlK => z.1) c
  have cE : exB K = true := congrArg (fun z : AlK => z.2.1) c
  have cI : [fnI K "BadText", fnI K "NotLetBy", fnI K "BadProgram"] = [valI "BadText" 3, valI "NotLetBy" 12, valI "BadProgram" 13] := congrArg (fun z : AlK => z.2.2) c
  injection cI with i1 cI
  injection cI with i2 cI
  injection cI with i3 _
  obtain ⟨dP, FP⟩ := cD.def_ 0 (d := dD "_law_pool" sPool) rfl
  obtain ⟨dK, FK⟩ := cD.def_ 1 (d := dD "_law_pick" sPick) rfl
  obtain ⟨dM, FM⟩ := cD.def_ 2 (d := dD "_law_marks" sMarks) rfl
  obtain ⟨d1, F1⟩ := cD.def_ 3 (d := dD "_law_first" sFirst) rfl
  obtain ⟨d2, F2⟩ := cD.def_ 4 (d := dD "_law_second" sSecond) rfl
  obtain ⟨dF, FF⟩ := cD.def_ 5 (d := dD "_law_fields" sFields) rfl
  obtain ⟨fd, F⟩ := cD.def_ 6 (d := dD "law" sLaw) rfl
  have e := hfa.symm.trans (He.glo_ok X G (cD.fact 6 (f := .glo "law") rfl))
  cases e
  have b := FunD.bindsA (ps := ["_law_script"]) F fun _ _ _ _ _ _ us hl => match us, hl with | [_], _ => rfl
  have N : Nm mg := ⟨He.free_ok X G (cD.fact 7 (f := .free "sum") rfl), He.free_ok X G (cD.fact 8 (f := .free "max") rfl), He.free_ok X G (cD.fact 9 (f := .free "min") rfl), He.free_ok X G (cD.fact 10 (f := .free "int") rfl), He.free_ok X G (cD.fact 11 (f := .free "str") rfl),
    He.free_ok X G (cD.fact 12 (f := .free "len") rfl), He.free_ok X G (cD.fact 13 (f := .free "isinstance") rfl), He.free_ok X G (cD.fact 14 (f := .free "range") rfl), He.free_ok X G (cD.fact 15 (f := .free "super") rfl), He.free_ok X G (cD.fact 16 (f := .free "ValueError") rfl)⟩
  exact ⟨fd, fun s v => b s [v] rfl, fun base _ _ => ok_law F N (cl_of hP X G cE i1 i2 i3) ⟨FP, FK, FM, F1, F2, FF, He.glo_ok X G (cD.fact 0 (f := .glo "_law_pool") rfl), He.glo_ok X G (cD.fact 1 (f := .glo "_law_pick") rfl), He.glo_ok X G (cD.fact 2 (f := .glo "_law_marks") rfl),
    He.glo_ok X G (cD.fact 3 (f := .glo "_law_first") rfl), He.glo_ok X G (cD.fact 4 (f := .glo "_law_second") rfl), He.glo_ok X G (cD.fact 5 (f := .glo "_law_fields") rfl)⟩⟩
end KZ

set_option maxRecDepth 100000
set_option maxHeartbeats 0
namespace KZ
open PySem PySem.Spec PyProof.Rows L2
theorem run (w : World) : HandSHeadRun.RunEq R (PySem.W.view R.prog [34]) hk ob 8000 names w := by
  intro os
  kernel_rfl
end KZ
open PySem PySem.W PySem.Calls PyProof.Rows
theorem PySem.Challenge.cw_linearmix_k00_error_classes_holds : PySem.Challenge.rw_linearmix_k00_error_classes.Holds := by
  w_on; o_law
  refine HandSHeadRun.head_any (r := OpenLaw.row PySem.Challenge.rw_linearmix_k00_error_classes) (q := view (OpenLaw.row PySem.Challenge.rw_linearmix_k00_error_classes).prog [34]) (H := KZ.hk) (ob := KZ.ob) (M := 8000) (loose := KZ.names) (d := HandSHeadRun.topDef (OpenLaw.row PySem.Challenge.rw_linearmix_k00_error_classes).prog 34) (kwd := []) KZ.ob_eq
    (by kernel_rfl) (fun s => by kernel_rfl) KZ.run (by kernel_rfl) (by kernel_rfl) (by kernel_rfl) (by rfl) (by first | assumption | decide +kernel) (by decide +kernel) ⟨rfl, rfl, rfl, rfl, rfl, by decide +kernel⟩ ?hw ?hc
  case hw => w_witness2
  case hc =>
    refine L2.walk_ofE (l := PySem.Challenge.rw_linearmix_k00_error_classes) (n := 63) (k := 3) (x := "_law_script") (CX := L2.CX0) rfl (by decide) (by kernel_rfl) ⟨rfl, by decide, by decide⟩ ?F (fun _ _ _ _ z => z)
    intro w mg fa h Y G hmg0
    obtain ⟨K, KX, c⟩ := Y
    have hmg : mg ("law" : PySem.Str) = some (.ref fa) := by
      have e : (HandSHeadRun.topDef (OpenLaw.row PySem.Challenge.rw_linearmix_k00_error_classes).prog 34).name = ("law" : PySem.Str) := by kernel_rfl
      rw [← e]
      exact hmg0
    obtain ⟨fd, hb, hF⟩ := KZ.facts (P := (PySem.Challenge.rw_linearmix_k00_error_classes).prog) (w := w) rfl KX G hmg c
    exact ⟨K, fd, KZ.spLaw K, KX, hb, fun H a ns hl _ hS => ⟨a, ns, rfl, hS, hl, fun _ => rfl⟩, hF⟩
