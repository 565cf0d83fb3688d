import PyProof.Rows.All
import Wide.All
import OpenK.AllK
import Wide.FinOn
import PyProof.EqAt
import PyProof.EqKinds
import PyProof.TupleCall
import KE.KExcSuper
import HandS.ForExc
import KE.KStateDown
import HandS.ForMost
import HandS.IsInst
import HandS.SetKeys
import HandS.More
import HandS.Conv
import HandS.Evl
import HandS.Defaults
import HandS.HeadHook1
import HandS.HeadHook2
import PySem.Challenge.RW_whytables_k12_whole_truths
import HandS.Head0
import HandS.Head1
import HandS.Head2
import HandS.HeadHook4
import HandS.ExcField
import HandS.Sort
import HandS.Strs
import KE.LtSeq
import KE.LtData
import KE.KSortAsk
import KE.SortData
import HandS.SetTxt0
import HandS.SetFor
import HandS.Set
import HandS.Walk
import HandS.ExcInit
import HandS.Codes
import HandS.TupAny
import KE.DataEq
import KE.KRevSl
import HandS.Lambda
import HandS.Deep
import HandS.HeadWalk
import HandS.EndTab
section
set_option Elab.async false
set_option linter.all false
set_option maxRecDepth 100000
set_option maxHeartbeats 4000000
namespace PySem
abbrev vB : List Value := [.type "ValueError", .type "Exception", .type "BaseException", .type "object"]
namespace BadArgumentX
open PySem.W PySem.Calls PyProof.Rows PySem.HandSPX
/-! the text of __init__ of BadArgument: super().__init__(name), then self.name = name -/
def iA (p1 p2 : Pos) : Arguments := { posonlyargs := [], args := [{ arg := "self", annotation := none, pos := p1 }, { arg := "name", annotation := none, pos := p2 }], vararg := none, kwonlyargs := [], kw_defaults := [], kwarg := none, defaults := [] }
def iB : List Stmt := [.Expr (.Call (.Attribute (.Call (.Name "super" ⟨7, 8, 7, 13⟩) [] [] ⟨7, 8, 7, 15⟩) "__init__" ⟨7, 8, 7, 24⟩) [.Name "name" ⟨7, 25, 7, 29⟩] [] ⟨7, 8, 7, 30⟩) ⟨7, 8, 7, 30⟩, .Assign [.Attribute (.Name "self" ⟨8, 8, 8, 12⟩) "name" ⟨8, 8, 8, 17⟩] (.Name "name" ⟨8, 20, 8, 24⟩) ⟨8, 8, 8, 24⟩]
def iS : Scope := { kind := .function, names := [(PySem.Str.ofString "self", .local), (PySem.Str.ofString "name", .local), (PySem.Str.ofString "__class__", .free), (PySem.Str.ofString "super", .globalImplicit)], isGenerator := false, isCoroutine := false, more := [] }
/-- what the written part says of the class BadArgument at C, of its __init__ at fI, of the cell cc and the code cda of this -/
structure Txt (prog : Program) (K : Frag) (C fI cc cda : Addr) : Prop where
  cls : ∃ nm q N bs bm sn sub ab col dd k0 k1 k2 k3 k5, K.lookup C = some (excClassObj nm q C N bs bm true sn sub ab col dd k0 k1 k2 k3 k5 "ValueError.__new__") ∧ refsVE bm = true
  sa : findIn K (.ref C) "__setattr__" = some (some (.builtin "object.__setattr__"))
  ga : findIn K (.ref C) "__getattribute__" = some (some (.builtin "BaseException.__getattribute__"))
  gg : findIn K (.ref C) "__getattr__" = some none
  noN : findIn K (.ref C) "name" = some none
  iC : findIn K (.ref C) "__init__" = some (some (.ref fI))
  tC : typeIn K (.ref fI) = some (.type "function")
  kC : keepIn K (.ref C) = true
  exC : subIn K (.ref C) (.type "BaseException") = some true
  veC : subIn K (.ref C) (.type "ValueError") = some true
  tyC : typeIn K (.ref C) = some (.type "type")
  hdC : hasDictIn K C = true
  te : exmOne K (.ref C) (.ref C) = some true
  su : ks_superIn K C C "__init__" = some (some (.builtin "ValueError.__init__"))
  op : nsIn K cStatics "thirdparty.any" = some none
  ns : nsIn K mainGlobals "super" = some none
  mr : mroIn K C (.ref C) = some true
  cell : ∃ cl cld csl, K.lookup cc = some ⟨cl, cld, .cell (some (.ref C)), csl⟩
  code : ∃ ccl cdd ccs vs file tf, K.lookup cda = some ⟨ccl, cdd, .fields vs, ccs⟩ ∧ vs[2]? = some (.str file tf) ∧ ((prog.main.file : Str) == file) = true
  top : (prog.main.scope.names.lookup ("super" : Str)).isSome = false
  fn : ∃ (oc : Value) (od : Option Addr) (doc pm : Value) (an : Option Addr) (ct : Value) (osl : Array (Option Value)) (p1 p2 : Pos),
    K.lookup fI = some ⟨oc, od, .func (ksFn "__init__" "BadArgument.__init__" (iA p1 p2) iB iS .none .none doc pm an (.ref cda) ct cc), osl⟩ ∧ codeIn K (.ref cda) "BadArgument.__init__" = true
theorem one_size (v : Value) : [v].length ≤ sizeLine := by
  rw [sizeLine_eq]
  exact (by decide : 1 ≤ 16777216)
/-- what __init__ leaves of a fresh exception at x -/
structure InitEnd (h h' : Heap) (x C dx t1 : Addr) (v : Value) : Prop where
  keep : ∀ b o, b ≠ x → h.get? b = some o → h'.get? b = some o
  obj : h'.get? x = some { cls := .ref C, dict := some dx, data := .fields #[.ref t1, .none, .none, .none, .bool false, .none] }
  dbig : h.objs.size ≤ dx
  dne : dx ≠ x
  ns : h'.Ns1 dx (fun y => if y = "name" then some v else none)
structure OwnMade (h h' : Heap) (e C d : Addr) (v : Value) : Prop where
  keep : ∀ b o, h.get? b = some o → h'.get? b = some o
  new : h.objs.size ≤ e
  obj : ∃ oe vs, h'.get? e = some oe ∧ oe.cls = .ref C ∧ oe.dict = some d ∧ oe.data = .fields vs ∧ vs[1]? = some .none
  dbig : h.objs.size ≤ d
  dne : d ≠ e
  ns : h'.Ns1 d (fun y => if y = "name" then some v else none)
section
variable {prog : Program} {w : World} {A : Around} {E : Value → Shared → Prop} {R : Result → Shared → Prop} {s : Shared} {K : Frag} {mg : Str → Option Value} {C fI cc cda : Addr}
/-- super().__init__(v) called on the wrapper at u -/
theorem wrapper_call {h : Heap} {g : Array GenState} {d : Drawn} {tk : Nat} {os : OsState} {u x t0 : Addr} {v : Value} {Q : Value → Shared → Prop} {nm q : Str} {N : Addr} {bs bm : List Value} {sn : List Str} {sub : List Value} {ab : Bool} {col : Option Bool} {dd : Option Addr} {k0 k1 k2 k3 k5 : Option Value}
    (hC : h.get? C = some (excClassObj nm q C N bs bm true sn sub ab col dd k0 k1 k2 k3 k5 "ValueError.__new__")) (hu : h.get? u = some (kxs_mw "ValueError.__init__" x)) (he : h.get? x = some (excO C t0))
    (hq : ∀ h' t1, (∀ b o, b ≠ x → h.get? b = some o → h'.get? b = some o) → h'.get? x = some (excO C t1) → Q .none ⟨h', g, d, tk, os⟩) :
    wpAny (model prog w) A (call (.ref u) [v]) Q E ⟨h, g, d, tk, os⟩ := by
  refine wpAny_call (codeAny_of_tree ?_)
  show wpAny _ A.in1 (callAny (.ref u) ⟨[v], []⟩) _ _ _
  simp only [callAny]
  refine wpAny_bind (wpAny_load hu ?_)
  simp only [kxs_mw, show (Value.type "method-wrapper" == Value.type "method" || Value.type "method-wrapper" == Value.type "builtin_function_or_method" || Value.type "method-wrapper" == Value.type "method-wrapper") = true by decide, if_true]
  refine KFB.if_so (by decide) ?_
  refine wpAny_bind (check_bound_init F.excBase_ValueError.toExcCallFacts hC he rfl ?_)
  refine wpAny_bind (wpAny_pure (wpAny_pure ?_))
  refine ⟨plainId_quiet F.excBase_ValueError.init.plain _, codeAny_builtin F.excBase_ValueError.initEntry ?_⟩
  exact exc_init_tree (cls := .ref C) (t0 := t0) (dv := none) (c2 := .none) (c3 := .none) (b4 := .bool false) he (one_size v) fun h' k e' t' => hq h' _ k e'
theorem my_init (T : Txt prog K C fI cc cda) {x t0 : Addr} {v : Value} (X : K.In s.heap) (hG : s.heap.Ns mainGlobals mg) (hB : ∃ mb, s.heap.Ns builtinsNs mb ∧ ∀ y : Str, y ≠ "__name__" → mb y = bootBuiltins y) (hlim : s.heap.NoLimit)
    (hx : s.heap.get? x = some (excO C t0)) (hnx : K.lookup x = none) (hroom : A.depth < recursionLimit)
    (hq : ∀ h' tk dx t1, InitEnd s.heap h' x C dx t1 v → R (.ok (.ret .none)) { s with heap := h', toks := tk }) :
    codeAny (model prog w) A (.call (.ref fI) ⟨[.ref x, v], []⟩) R s := by
  obtain ⟨oc, od, doc, pm, an, ct, osl, p1, p2, ho, hcd⟩ := T.fn
  obtain ⟨nm, q, N, bs, bm, sn, sub, ab, col, dd, k0, k1, k2, k3, k5, hC, hbm⟩ := T.cls
  obtain ⟨cl, cld, csl, hcell⟩ := T.cell
  obtain ⟨ccl, cdd, ccs, vs, file, tf, hcode, hvs, hfile⟩ := T.code
  obtain ⟨mb, hb, hbb⟩ := hB
  have hcl : clsIn K C = some { name := nm, bases := bs, mro := .ref C :: bm, ns := N, qualname := q, hasDict := true, slotNames := sn, subclasses := sub, abstract := ab, collection := col, hasDel := false } := by unfold clsIn; rw [hC] <;> rfl
  refine ks_codeAny_call_defAt (fd := ksFn "__init__" "BadArgument.__init__" (iA p1 p2) iB iS .none .none doc pm an (.ref cda) ct cc) (body := iB) (binds := [("self", .ref x), ("name", v)]) hroom (X _ _ ho) rfl hlim (codeRec_of X hcd) rfl
    (BindsTo.of_eq (by first | rfl | with_unfolding_all rfl)) (show ∀ y ∈ iS.names, y.2 ≠ .cell by decide) (by intro y hy; simp only [List.mem_cons, List.not_mem_nil, or_false] at hy; rcases hy with rfl | rfl <;> rfl) (fun h₁ hns hk₁ => ?_) rfl rfl rfl
  have X₁ : K.In h₁ := X.keeps hk₁
  have hx₁ := hk₁ _ _ hx
  have hC₁ := X₁ _ _ hC
  have hnC : x ≠ C := fun z => by
    rw [z, hC] at hnx
    cases hnx
  have hxL : s.heap.objs.size ≠ x := Nat.ne_of_gt (Heap.lt_size hx)
  have nself : (["self"] : List Str).length = 1 := rfl
  have vself : (([(("self" : Str), Value.ref x), (("name" : Str), v)] : List (Str × Value)).reverse).lookup ("self" : Str) = some (.ref x) := by first | rfl | with_unfolding_all rfl | kernel_rfl
  have vf : (([(("self" : Str), Value.ref x), (("name" : Str), v)] : List (Str × Value)).reverse).lookup ("name" : Str) = some v := by first | rfl | with_unfolding_all rfl | kernel_rfl
  show _root_.PySem.wpAt _ _ _ (execs iB _) _ _ _
  -- super().__init__(name)
  refine ks_wpAt_execs_cons (ks_wpAt_Expr_any (ks_wpAt_MethodCall (pl := ?pl) ?_ ?e1))
  case pl => exact (do return (← importBound (.Call (.Name "super" ⟨7, 8, 7, 13⟩) [] [] ⟨7, 8, 7, 15⟩) (ksEnv "BadArgument.__init__" iS s.heap.objs.size fI (.ref cda) cc)).getD true)
  case e1 => rfl
  refine ks_wpAt_super_base (env := ksEnv "BadArgument.__init__" iS s.heap.objs.size fI (.ref cda) cc) (ar := { arg := "self", annotation := none, pos := p1 }) rfl rfl (by decide) rfl (X₁ _ _ ho) rfl rfl rfl (X₁ _ _ hcode) rfl hvs hfile T.top ?_
  refine ks_loadName_global rfl rfl (loadGlobal_builtin (env := ksEnv "BadArgument.__init__" iS s.heap.objs.size fI (.ref cda) cc) (hG.keeps hk₁) (mg_none_of X hG T.ns) (hb.keeps hk₁) ((hbb _ (by decide +kernel)).trans (by decide +kernel)) ⟨rfl, ?_⟩)
  refine wpAny_loadName_free rfl rfl rfl ⟨_, X₁ _ _ hcell, rfl⟩ ?_
  refine wpAny_loadName_local rfl rfl hns vself ?_
  refine ks_wpAny_isType_cls hC₁ rfl ⟨rfl, ?_⟩
  refine ks_wpAny_call_super hC₁ rfl hx₁ rfl (fun c e => by cases e) (looks_mroIn X₁ T.mr) (fun h₂ e₂ k₂ => ?_)
  have X₂ : K.In h₂ := X₁.keeps k₂
  have hx₂ := k₂ _ _ hx₁
  have hsuper : alongIn K "__init__" (((Value.ref C :: bm).dropWhile (· != .ref C)).drop 1) = some (some (.builtin "ValueError.__init__")) := by
    have z := T.su
    unfold ks_superIn at z
    rw [hcl] at z
    exact z
  have hI : Looks (model prog w) h₂ (isInstance (.ref x) (.type "ValueError")) true := (InstAt.type (od := none) ⟨hx₂, rfl, rfl, trivial⟩).andThen (looks_subIn X₂ T.veC)
  refine kxs_getMethod kxs_ValueError e₂ (looks_opaque X₂ T.op) (l₀ := .ref C :: bm) (fun A' Q' E' s' k' q' => wpAny_bind ((looks_clsIn X₂ hcl) A' _ E' s' k' (wpAny_pure q'))) rfl X₂ hsuper hI hnC (by decide) ?_
  have hu : (h₂.push (kxs_mw "ValueError.__init__" x)).get? h₂.objs.size = some (kxs_mw "ValueError.__init__" x) := Heap.get?_push_at rfl rfl
  have k₃ : ∀ b o, h₂.get? b = some o → (h₂.push (kxs_mw "ValueError.__init__" x)).get? b = some o := fun b o e => Heap.get?_push_of_some _ e
  have hns₃ := (hns.keeps k₂).keeps k₃
  show wpAny _ _ (callWith ⟨7, 8, 7, 30⟩ (.ref h₂.objs.size) [] (backTo ⟨7, 8, 7, 30⟩ (starEach [.Name "name" ⟨7, 25, 7, 29⟩] (ksEnv "BadArgument.__init__" iS s.heap.objs.size fI (.ref cda) cc))) []) _ _ _
  have hst : starEach [.Name "name" ⟨7, 25, 7, 29⟩] (ksEnv "BadArgument.__init__" iS s.heap.objs.size fI (.ref cda) cc) = (false, eval (.Name "name" ⟨7, 25, 7, 29⟩) (ksEnv "BadArgument.__init__" iS s.heap.objs.size fI (.ref cda) cc)) :: starEach [] (ksEnv "BadArgument.__init__" iS s.heap.objs.size fI (.ref cda) cc) := by rfl
  have hpl : (backTo ⟨7, 8, 7, 30⟩ (starEach [] (ksEnv "BadArgument.__init__" iS s.heap.objs.size fI (.ref cda) cc))).any (·.1) = false := by rfl
  rw [hst]
  refine kxs_callWith (i := "ValueError.__init__") (x := x) (by show (false || (backTo ⟨7, 8, 7, 30⟩ (starEach [] (ksEnv "BadArgument.__init__" iS s.heap.objs.size fI (.ref cda) cc))).any (·.1)) = false; rw [hpl]; rfl) (evalArgs_plain ?_)
  refine spliced_cons (wpAny_Name (wpAny_loadName_local rfl rfl hns₃ vf (spliced_nil ?_)) (by decide))
  refine ⟨hu, ?_⟩
  refine wrapper_call (k₃ _ _ (k₂ _ _ hC₁)) hu (k₃ _ _ hx₂) (fun h₄ t1 k₄ hx₄ => ?_)
  -- self.name = name
  have X₄ : K.In h₄ := fun a o e => k₄ a o (fun z => by rw [z, hnx] at e; cases e) (k₃ _ _ (X₂ a o e))
  have hns₄ : h₄.Ns s.heap.objs.size (fun y => ([(("self" : Str), Value.ref x), (("name" : Str), v)] : List (Str × Value)).reverse.lookup y) := by
    obtain ⟨o, es, ep, e, r⟩ := hns₃
    exact ⟨o, es, ep, k₄ _ _ hxL e, r⟩
  refine wpAt_of_wpAny ?_
  refine wpAny_execs_cons (plainObj_wpAny_Assign_Attribute ?_)
  refine wpAny_Name (wpAny_loadName_local rfl rfl hns₄ vf ?_) (by decide)
  refine wpAny_Name (wpAny_loadName_local rfl rfl hns₄ vself ?_) (by decide)
  refine set_plain X₄ (ox := excO C t1) (od := none) ⟨hx₄, rfl, rfl, trivial⟩ T.sa ?_
  refine exc_osa X₄ hx₄ hcl (show refsVE (.ref C :: bm) = true from hbm) rfl T.noN (fun h₅ tk₅ dx k₅ dn dne hx₅ hn₅ => ?_)
  show wpAny _ _ (execs [] _) _ _ _
  have old : ∀ b o, b ≠ x → s.heap.get? b = some o → h₄.get? b = some o := fun b o hb e => k₄ b o hb (k₃ _ _ (k₂ _ _ (hk₁ b o e)))
  have big : s.heap.objs.size ≤ h₄.objs.size := by
    obtain ⟨o, es, ep, e, r⟩ := hns₄
    exact Nat.le_of_lt (Heap.lt_size e)
  exact wpAny_execs_nil (hq h₅ tk₅ dx t1 ⟨fun b o hb e => k₅ b o hb (old b o hb e), hx₅, Nat.le_trans big dn, dne, hn₅⟩)
theorem my_made (T : Txt prog K C fI cc cda) {v : Value} (X : K.In s.heap) (hG : s.heap.Ns mainGlobals mg) (hB : ∃ mb, s.heap.Ns builtinsNs mb ∧ ∀ y : Str, y ≠ "__name__" → mb y = bootBuiltins y) (hlim : s.heap.NoLimit) (hroom : A.depth + 1 < recursionLimit)
    (hq : ∀ h' tk e d, OwnMade s.heap h' e C d v → R (.ok (.ret (.ref e))) { s with heap := h', toks := tk }) :
    codeAny (model prog w) A (.call (.ref C) ⟨[v], []⟩) R s := by
  obtain ⟨nm, q, N, bs, bm, sn, sub, ab, col, dd, k0, k1, k2, k3, k5, hC, hbm⟩ := T.cls
  obtain ⟨hp, g, dr, tk, os⟩ := s
  have k : ∀ b o, hp.get? b = some o → ((hp.push (kdv_tup [v])).push (excO C hp.objs.size)).get? b = some o := fun b o e => Heap.get?_push_of_some _ (Heap.get?_push_of_some _ e)
  have hget : ((hp.push (kdv_tup [v])).push (excO C hp.objs.size)).get? (hp.objs.size + 1) = some (excO C hp.objs.size) := by heap_get
  have hnx : K.lookup (hp.objs.size + 1) = none := by
    cases e : K.lookup (hp.objs.size + 1) with
    | none => rfl
    | some o =>
      have z : hp.get? (hp.objs.size + 1) = some o := X _ _ e
      exact absurd (Nat.lt_of_succ_lt (Heap.lt_size z)) (Nat.lt_irrefl _)
  obtain ⟨mb, hb, hbb⟩ := hB
  refine call_own F.excBase_ValueError (fun X => refsVE_contains X bm hbm) (X _ _ hC) (looks_findIn X T.iC) (fun self => bind_fn X self T.tC) (one_size v) ?_
  refine my_init (s := ⟨(hp.push (kdv_tup [v])).push (excO C hp.objs.size), g, dr, tk, os⟩) T (X.keeps k) (hG.keeps k) ⟨mb, hb.keeps k, hbb⟩ (hlim.keeps k) hget hnx ?_ fun h' tk' dx t1 ⟨k', hx, dn, dne, hns⟩ => ?_
  · show A.depth + 1 < recursionLimit
    exact hroom
  · have old : ∀ b o, hp.get? b = some o → h'.get? b = some o := fun b o e => k' b o (Nat.ne_of_lt (Nat.lt_succ_of_lt (Heap.lt_size e))) (k b o e)
    have z : hp.objs.size + 1 + 1 ≤ dx := by
      first
        | (simpa only [Heap.size_push] using dn)
        | exact dn
        | (have q := dn; rw [Heap.size_push, Heap.size_push] at q; exact q)
    exact ⟨rfl, hq h' tk' (hp.objs.size + 1) dx ⟨old, Nat.le_succ _, ⟨_, _, hx, rfl, rfl, rfl, rfl⟩, Nat.le_trans (Nat.le_trans (Nat.le_succ _) (Nat.le_succ _)) z, dne, hns⟩⟩
end
end BadArgumentX
end PySem
namespace L2
open PySem PySem.Spec PyProof.Rows
theorem relO_BadArgument {v : V} {v' : Value} (r : RelV v v') (f : Str) : RelO (List.lookup f [(("name" : Str), v)]) (if f = "name" then some v' else none) := by
  by_cases hw : f = "name"
  · subst hw
    rw [if_pos rfl]
    have q : List.lookup ("name" : Str) [(("name" : Str), v)] = some v := by simp [List.lookup]
    rw [q]
    exact r
  · rw [if_neg hw]
    have qw : (f == ("name" : Str)) = false := by simpa using hw
    have q2 : List.lookup f [(("name" : Str), v)] = none := by simp [List.lookup, qw]
    rw [q2]
    trivial
section
variable {X : Cx} {C fI cc cda : Addr}
/-- BadArgument(e) -/
def tMkBadArgument (C : Addr) (ta : TA) : St → Hp → XK → Prop := fun σ H Q => ta σ H fun vs H1 => ∃ v, vs = [v] ∧ ∀ d, H1 d = none → Q (.ref C) (some d) (upd H1 d (.xd [(("name" : Str), v)]))
theorem pmk_BadArgument {a : Expr} {ta : TA} {p pos : Pos} {k : Nat} (T : PySem.BadArgumentX.Txt X.prog X.K C fI cc cda) (gC : X.mg "BadArgument" = some (.ref C)) (hr : Room k X.A) (ha : PA X [a] ta) (hg : Gl X "BadArgument" := by rfl)
    (he : starEach (a :: []) X.env = (false, eval a X.env) :: starEach [] X.env := by rfl) (hpl : (backTo pos (starEach [] X.env)).any (·.1) = false := by rfl) :
    PMk X (.Call (.Name "BadArgument" p) [a] [] pos) (tMkBadArgument C ta) := by
  intro pins s σ H Q I h
  refine wpAny_Call_Name_kw (ld_glob I hg gC ?_)
  refine PySem.W.callWith_K (h₀ := X.base) I.ok.mod.kin T.kC (thn (ha.run pos pins s σ H _ I h) fun us s1 hh => ?_) he hpl
  obtain ⟨vs, H1, I1, r1, v, ev, q1⟩ := hh
  subst ev
  refine ⟨I1.kIn, ?_⟩
  cases r1 with
  | cons rv rn =>
    rename_i v' us'
    cases rn
    show wpAny _ _ (call (.ref C) [v']) _ _ _
    have hlim := I1.nolimit
    have hG := I1.ok.mod.glob.keeps I1.bk
    have hB : ∃ mb, s1.heap.Ns builtinsNs mb ∧ ∀ y : Str, y ≠ "__name__" → mb y = bootBuiltins y := let ⟨mb, h1, h2⟩ := I1.ok.mod.blt; ⟨mb, h1.keeps I1.bk, h2⟩
    obtain ⟨hp, g, dr, tk, os⟩ := s1
    refine wpAny_call (PySem.BadArgumentX.my_made T I1.kIn hG hB hlim (by have := hr.dp; omega) fun h' tk' e d M => ?_)
    show MkP X pins σ Q (.ref e) ⟨h', g, dr, tk', os⟩
    obtain ⟨oe, fv, hoe, hc, hd, hdat, h1⟩ := M.obj
    have hns := M.ns
    obtain ⟨G', g1, g2⟩ := restrict h' fun b => decide (b ≠ e)
    have gk : ∀ b, b ≠ e → G'.get? b = h'.get? b := fun b hb => g1 b (decide_eq_true hb)
    have ge : G'.get? e = none := g2 e (by simp)
    have old : ∀ b o, hp.get? b = some o → G'.get? b = some o := fun b o q => (gk b (Nat.ne_of_lt (Nat.lt_of_lt_of_le (Heap.lt_size q) M.new))).trans (M.keep b o q)
    have ob : ObjOk X.prog X.w (upd H1 d (.xd [(("name" : Str), v)])) G' d (.xd [(("name" : Str), v)]) :=
      ⟨_, hns.at (fun o q => (gk d M.dne).trans q), fun f => relO_BadArgument rv f⟩
    have J : Inv X pins σ (upd H1 d (.xd [(("name" : Str), v)])) ⟨G', g, dr, tk', os⟩ := I1.laid (t' := tk') old M.dbig ob
    refine ⟨e, oe, fv, ⟨G', g, dr, tk', os⟩, _, .ref C, some d, rfl, J, fun b o q => ?_, ge, hoe, ⟨hc, hd⟩, hdat, h1, ?_, rfl, I1.bare, raises_own T.exC T.tyC, q1 d (I1.hok.fresh M.dbig)⟩
    · by_cases hb : b = e
      · have q' : G'.get? b = some o := q
        rw [hb, ge] at q'; cases q'
      · exact (gk b hb).symm.trans q
    · rw [upd_ne (Ne.symm M.dne)]
      exact I1.hok.fresh M.new
/-- raise BadArgument(e) -/
def tRaiseBadArgument (C : Addr) (W : WX) (ta : TA) : TS := fun _ σ H => tMkBadArgument C ta σ H fun cls d H' => W cls d σ H'
theorem ps_raiseBadArgument {a : Expr} {ta : TA} {W : WX} {p pos pos2 : Pos} {k : Nat} (hc : X.calm = true) (T : PySem.BadArgumentX.Txt X.prog X.K C fI cc cda) (gC : X.mg "BadArgument" = some (.ref C)) (hr : Room k X.A) (tk : Takes X W) (ha : PA X [a] ta) (hg : Gl X "BadArgument" := by rfl)
    (he : starEach (a :: []) X.env = (false, eval a X.env) :: starEach [] X.env := by rfl) (hpl : (backTo pos (starEach [] X.env)).any (·.1) = false := by rfl) :
    PS X (.Raise (some (.Call (.Name "BadArgument" p) [a] [] pos)) none pos2) (tRaiseBadArgument C W ta) := ps_raise hc tk (pmk_BadArgument T gC hr ha hg he hpl)
/-- e.name, e the exception that the suite holds -/
def tByBadArgument (C : Addr) (a : Addr) (cls : Value) (d : Option Addr) (te : TE) : TE := fun σ H Q => te σ H fun x H1 => x = .ref a ∧ cls = .ref C ∧ ∃ (dd : Addr) (v : V), d = some dd ∧ H1 dd = some (.xd [(("name" : Str), v)]) ∧ Q v H1
theorem pe_byBadArgument {a : Addr} {oe : Obj} {cls : Value} {d : Option Addr} {pn : List (Addr × Obj)} {e : Expr} {te : TE} {pos : Pos} (T : PySem.BadArgumentX.Txt X.prog X.K C fI cc cda) (hz : Zc cls d oe) (hf : ∃ vs, oe.data = .fields vs) (he : PE (X.suite a ((a, oe) :: pn)) e te)
    (hb : attributeBase e "name" X.env (eval e X.env) = eval e X.env := by rfl) :
    PE (X.suite a ((a, oe) :: pn)) (.Attribute e "name" pos) (tByBadArgument C a cls d te) := by
  refine ⟨fun pins s σ H Q I h => ?_⟩
  refine attr_of hb (thn (he.run pins s σ H _ I h) fun u s1 hh => ?_)
  obtain ⟨x, H1, I1, rx, ex, ec, dd, v, ed, ea, q⟩ := hh
  subst ex
  obtain rfl : u = Value.ref a := rx
  subst ec
  subst ed
  obtain ⟨ha, _⟩ := I1.pin (a, oe) (List.mem_append_left _ List.mem_cons_self)
  obtain ⟨vs, hd⟩ := hf
  have hx : ObjOk X.prog X.w H1 s1.heap dd (.xd [(("name" : Str), v)]) := I1.hok dd _ ea
  obtain ⟨mA, hns, hr⟩ := hx
  obtain ⟨od, ho, hl⟩ := lookIn_ns hns
  have l : List.lookup ("name" : Str) [(("name" : Str), v)] = some v := by simp [List.lookup]
  obtain ⟨u, hu, ru⟩ := RelO.some_of (v := v) (o := mA "name") (by rw [← l]; exact hr "name")
  have J : PySem.W.InstAt s1.heap a oe C (some od) := ⟨ha, hz.1, by unfold PySem.W.notCls; rw [hd] <;> rfl, by rw [hz.2]; exact ho⟩
  exact HandSPX.exc_get I1.kIn J T.ga T.gg T.exC (PySem.W.findObj_own T.hdC T.noN rfl (by rw [hl, hu])) (handed_of ru) ⟨v, H1, I1.tok _, ru, q⟩
end
end L2
end
section
set_option Elab.async false
set_option linter.all false
set_option maxRecDepth 100000
set_option maxHeartbeats 4000000
namespace Tx
open PySem PySem.Spec PyProof.Rows L2
def top (i : Nat) : Stmt := PySem.Challenge.pw_whytables_k12_whole_truths.main.body.getD i (.Pass ⟨0, 0, 0, 0⟩)
abbrev prog : Program := PySem.Challenge.pw_whytables_k12_whole_truths
abbrev s_is_tuple : Stmt := top 5
abbrev s_is_text : Stmt := top 6
abbrev s_demand : Stmt := top 7
abbrev s_is_variable : Stmt := top 14
abbrev s_put_in : Stmt := top 15
abbrev s_variables_of : Stmt := top 16
abbrev s_depth_of : Stmt := top 17
abbrev s_word_at : Stmt := top 18
abbrev s_Reading___init__ : Stmt := inClass (top 19) 0
abbrev s_Reading_is_at : Stmt := inClass (top 19) 1
abbrev s_Reading_put_word : Stmt := inClass (top 19) 2
abbrev s_Reading_open_name : Stmt := inClass (top 19) 3
abbrev s_Reading_close_name : Stmt := inClass (top 19) 4
abbrev s_go_on : Stmt := top 20
abbrev s_read_term : Stmt := top 21
abbrev s_Literal___init__ : Stmt := inClass (top 29) 0
abbrev s_Clause___init__ : Stmt := inClass (top 30) 0
abbrev s_atoms_of : Stmt := top 31
abbrev s_changed_clause : Stmt := top 32
abbrev s_all_variables : Stmt := top 33
abbrev s_clause_from : Stmt := top 34
abbrev s_is_atom : Stmt := top 35
abbrev s_read_literal : Stmt := top 36
abbrev s_read_clause : Stmt := top 37
abbrev s_read_program : Stmt := top 38
abbrev s_demand_program : Stmt := top 39
abbrev s_rows_of : Stmt := top 45
abbrev s_names_of : Stmt := top 46
abbrev s_demand_names : Stmt := top 47
abbrev s_built_on : Stmt := top 48
abbrev s_stages_of : Stmt := top 49
abbrev s_stages : Stmt := top 50
abbrev s_truths : Stmt := top 51
abbrev s_subsets : Stmt := top 52
abbrev s_worlds_of : Stmt := top 53
abbrev s_worlds : Stmt := top 54
abbrev s_is_world : Stmt := top 55
abbrev s_always : Stmt := top 56
abbrev s_is_unfounded : Stmt := top 57
abbrev s_is_reason : Stmt := top 58
abbrev s_reason : Stmt := top 59
abbrev s_high_of : Stmt := top 60
abbrev s_told_by : Stmt := top 61
abbrev s_world_steps : Stmt := top 63
abbrev s__law_dice : Stmt := top 65
abbrev s__law_roll : Stmt := top 66
abbrev s__law_pick : Stmt := top 67
abbrev s__law_shuffled : Stmt := top 68
abbrev s__law_wt_named : Stmt := top 69
abbrev s__law_wt_named_text : Stmt := top 70
abbrev s__law_wt_named_all : Stmt := top 71
abbrev s__law_wt_named_built : Stmt := top 72
abbrev s__law_wt_named_sets : Stmt := top 73
abbrev s__law_stages_by : Stmt := top 74
abbrev s__law_is_blocked : Stmt := top 75
abbrev s__law_step_right : Stmt := top 76
abbrev s__law_told : Stmt := top 77
abbrev s__law_drawn_steps : Stmt := top 78
abbrev s__law_world_right : Stmt := top 79
abbrev s__law_one : Stmt := top 80
abbrev s__law_refused : Stmt := top 81
abbrev s_law : Stmt := top 82
def d_is_tuple : He.DefD := ⟨("is_tuple", none), "is_tuple", "is_tuple", defArgs s_is_tuple, defBody s_is_tuple, defScope s_is_tuple, [], []⟩
def d_is_text : He.DefD := ⟨("is_text", none), "is_text", "is_text", defArgs s_is_text, defBody s_is_text, defScope s_is_text, [], []⟩
def d_demand : He.DefD := ⟨("demand", none), "demand", "demand", defArgs s_demand, defBody s_demand, defScope s_demand, [], []⟩
def d_is_variable : He.DefD := ⟨("is_variable", none), "is_variable", "is_variable", defArgs s_is_variable, defBody s_is_variable, defScope s_is_variable, [], []⟩
def d_put_in : He.DefD := ⟨("put_in", none), "put_in", "put_in", defArgs s_put_in, defBody s_put_in, defScope s_put_in, [], []⟩
def d_variables_of : He.DefD := ⟨("variables_of", none), "variables_of", "variables_of", defArgs s_variables_of, defBody s_variables_of, defScope s_variables_of, [], []⟩
def d_depth_of : He.DefD := ⟨("depth_of", none), "depth_of", "depth_of", defArgs s_depth_of, defBody s_depth_of, defScope s_depth_of, [], []⟩
def d_word_at : He.DefD := ⟨("word_at", none), "word_at", "word_at", defArgs s_word_at, defBody s_word_at, defScope s_word_at, [], []⟩
def d_Reading___init__ : He.DefD := ⟨("Reading", some "__init__"), "__init__", "Reading.__init__", defArgs s_Reading___init__, defBody s_Reading___init__, defScope s_Reading___init__, [], []⟩
def d_Reading_is_at : He.DefD := ⟨("Reading", some "is_at"), "is_at", "Reading.is_at", defArgs s_Reading_is_at, defBody s_Reading_is_at, defScope s_Reading_is_at, [], []⟩
def d_Reading_put_word : He.DefD := ⟨("Reading", some "put_word"), "put_word", "Reading.put_word", defArgs s_Reading_put_word, defBody s_Reading_put_word, defScope s_Reading_put_word, [], []⟩
def d_Reading_open_name : He.DefD := ⟨("Reading", some "open_name"), "open_name", "Reading.open_name", defArgs s_Reading_open_name, defBody s_Reading_open_name, defScope s_Reading_open_name, [], []⟩
def d_Reading_close_name : He.DefD := ⟨("Reading", some "close_name"), "close_name", "Reading.close_name", defArgs s_Reading_close_name, defBody s_Reading_close_name, defScope s_Reading_close_name, [], []⟩
def d_go_on : He.DefD := ⟨("go_on", none), "go_on", "go_on", defArgs s_go_on, defBody s_go_on, defScope s_go_on, [], []⟩
def d_read_term : He.DefD := ⟨("read_term", none), "read_term", "read_term", defArgs s_read_term, defBody s_read_term, defScope s_read_term, [], []⟩
def d_Literal___init__ : He.DefD := ⟨("Literal", some "__init__"), "__init__", "Literal.__init__", defArgs s_Literal___init__, defBody s_Literal___init__, defScope s_Literal___init__, [], []⟩
def d_Clause___init__ : He.DefD := ⟨("Clause", some "__init__"), "__init__", "Clause.__init__", defArgs s_Clause___init__, defBody s_Clause___init__, defScope s_Clause___init__, [], []⟩
def d_atoms_of : He.DefD := ⟨("atoms_of", none), "atoms_of", "atoms_of", defArgs s_atoms_of, defBody s_atoms_of, defScope s_atoms_of, [], []⟩
def d_changed_clause : He.DefD := ⟨("changed_clause", none), "changed_clause", "changed_clause", defArgs s_changed_clause, defBody s_changed_clause, defScope s_changed_clause, [], []⟩
def d_all_variables : He.DefD := ⟨("all_variables", none), "all_variables", "all_variables", defArgs s_all_variables, defBody s_all_variables, defScope s_all_variables, [], []⟩
def d_clause_from : He.DefD := ⟨("clause_from", none), "clause_from", "clause_from", defArgs s_clause_from, defBody s_clause_from, defScope s_clause_from, [], []⟩
def d_is_atom : He.DefD := ⟨("is_atom", none), "is_atom", "is_atom", defArgs s_is_atom, defBody s_is_atom, defScope s_is_atom, [], []⟩
def d_read_literal : He.DefD := ⟨("read_literal", none), "read_literal", "read_literal", defArgs s_read_literal, defBody s_read_literal, defScope s_read_literal, [], []⟩
def d_read_clause : He.DefD := ⟨("read_clause", none), "read_clause", "read_clause", defArgs s_read_clause, defBody s_read_clause, defScope s_read_clause, [], []⟩
def d_read_program : He.DefD := ⟨("read_program", none), "read_program", "read_program", defArgs s_read_program, defBody s_read_program, defScope s_read_program, [], []⟩
def d_demand_program : He.DefD := ⟨("demand_program", none), "demand_program", "demand_program", defArgs s_demand_program, defBody s_demand_program, defScope s_demand_program, [], []⟩
def d_rows_of : He.DefD := ⟨("rows_of", none), "rows_of", "rows_of", defArgs s_rows_of, defBody s_rows_of, defScope s_rows_of, [], []⟩
def d_names_of : He.DefD := ⟨("names_of", none), "names_of", "names_of", defArgs s_names_of, defBody s_names_of, defScope s_names_of, [], []⟩
def d_demand_names : He.DefD := ⟨("demand_names", none), "demand_names", "demand_names", defArgs s_demand_names, defBody s_demand_names, defScope s_demand_names, [], []⟩
def d_built_on : He.DefD := ⟨("built_on", none), "built_on", "built_on", defArgs s_built_on, defBody s_built_on, defScope s_built_on, [], []⟩
def d_stages_of : He.DefD := ⟨("stages_of", none), "stages_of", "stages_of", defArgs s_stages_of, defBody s_stages_of, defScope s_stages_of, [], []⟩
def d_stages : He.DefD := ⟨("stages", none), "stages", "stages", defArgs s_stages, defBody s_stages, defScope s_stages, [], []⟩
def d_truths : He.DefD := ⟨("truths", none), "truths", "truths", defArgs s_truths, defBody s_truths, defScope s_truths, [], []⟩
def d_subsets : He.DefD := ⟨("subsets", none), "subsets", "subsets", defArgs s_subsets, defBody s_subsets, defScope s_subsets, [], []⟩
def d_worlds_of : He.DefD := ⟨("worlds_of", none), "worlds_of", "worlds_of", defArgs s_worlds_of, defBody s_worlds_of, defScope s_worlds_of, [], []⟩
def d_worlds : He.DefD := ⟨("worlds", none), "worlds", "worlds", defArgs s_worlds, defBody s_worlds, defScope s_worlds, [], []⟩
def d_is_world : He.DefD := ⟨("is_world", none), "is_world", "is_world", defArgs s_is_world, defBody s_is_world, defScope s_is_world, [], []⟩
def d_always : He.DefD := ⟨("always", none), "always", "always", defArgs s_always, defBody s_always, defScope s_always, [], []⟩
def d_is_unfounded : He.DefD := ⟨("is_unfounded", none), "is_unfounded", "is_unfounded", defArgs s_is_unfounded, defBody s_is_unfounded, defScope s_is_unfounded, [], []⟩
def d_is_reason : He.DefD := ⟨("is_reason", none), "is_reason", "is_reason", defArgs s_is_reason, defBody s_is_reason, defScope s_is_reason, [], []⟩
def d_reason : He.DefD := ⟨("reason", none), "reason", "reason", defArgs s_reason, defBody s_reason, defScope s_reason, [], []⟩
def d_high_of : He.DefD := ⟨("high_of", none), "high_of", "high_of", defArgs s_high_of, defBody s_high_of, defScope s_high_of, [], []⟩
def d_told_by : He.DefD := ⟨("told_by", none), "told_by", "told_by", defArgs s_told_by, defBody s_told_by, defScope s_told_by, [], []⟩
def d_world_steps : He.DefD := ⟨("world_steps", none), "world_steps", "world_steps", defArgs s_world_steps, defBody s_world_steps, defScope s_world_steps, [], []⟩
def d__law_dice : He.DefD := ⟨("_law_dice", none), "_law_dice", "_law_dice", defArgs s__law_dice, defBody s__law_dice, defScope s__law_dice, [], []⟩
def d__law_roll : He.DefD := ⟨("_law_roll", none), "_law_roll", "_law_roll", defArgs s__law_roll, defBody s__law_roll, defScope s__law_roll, [], []⟩
def d__law_pick : He.DefD := ⟨("_law_pick", none), "_law_pick", "_law_pick", defArgs s__law_pick, defBody s__law_pick, defScope s__law_pick, [], []⟩
def d__law_shuffled : He.DefD := ⟨("_law_shuffled", none), "_law_shuffled", "_law_shuffled", defArgs s__law_shuffled, defBody s__law_shuffled, defScope s__law_shuffled, [], []⟩
def d__law_wt_named : He.DefD := ⟨("_law_wt_named", none), "_law_wt_named", "_law_wt_named", defArgs s__law_wt_named, defBody s__law_wt_named, defScope s__law_wt_named, [], []⟩
def d__law_wt_named_text : He.DefD := ⟨("_law_wt_named_text", none), "_law_wt_named_text", "_law_wt_named_text", defArgs s__law_wt_named_text, defBody s__law_wt_named_text, defScope s__law_wt_named_text, [], []⟩
def d__law_wt_named_all : He.DefD := ⟨("_law_wt_named_all", none), "_law_wt_named_all", "_law_wt_named_all", defArgs s__law_wt_named_all, defBody s__law_wt_named_all, defScope s__law_wt_named_all, [], []⟩
def d__law_wt_named_built : He.DefD := ⟨("_law_wt_named_built", none), "_law_wt_named_built", "_law_wt_named_built", defArgs s__law_wt_named_built, defBody s__law_wt_named_built, defScope s__law_wt_named_built, [], []⟩
def d__law_wt_named_sets : He.DefD := ⟨("_law_wt_named_sets", none), "_law_wt_named_sets", "_law_wt_named_sets", defArgs s__law_wt_named_sets, defBody s__law_wt_named_sets, defScope s__law_wt_named_sets, [], []⟩
def d__law_stages_by : He.DefD := ⟨("_law_stages_by", none), "_law_stages_by", "_law_stages_by", defArgs s__law_stages_by, defBody s__law_stages_by, defScope s__law_stages_by, [], []⟩
def d__law_is_blocked : He.DefD := ⟨("_law_is_blocked", none), "_law_is_blocked", "_law_is_blocked", defArgs s__law_is_blocked, defBody s__law_is_blocked, defScope s__law_is_blocked, [], []⟩
def d__law_step_right : He.DefD := ⟨("_law_step_right", none), "_law_step_right", "_law_step_right", defArgs s__law_step_right, defBody s__law_step_right, defScope s__law_step_right, [], []⟩
def d__law_told : He.DefD := ⟨("_law_told", none), "_law_told", "_law_told", defArgs s__law_told, defBody s__law_told, defScope s__law_told, [], []⟩
def d__law_drawn_steps : He.DefD := ⟨("_law_drawn_steps", none), "_law_drawn_steps", "_law_drawn_steps", defArgs s__law_drawn_steps, defBody s__law_drawn_steps, defScope s__law_drawn_steps, [], []⟩
def d__law_world_right : He.DefD := ⟨("_law_world_right", none), "_law_world_right", "_law_world_right", defArgs s__law_world_right, defBody s__law_world_right, defScope s__law_world_right, [], []⟩
def d__law_one : He.DefD := ⟨("_law_one", none), "_law_one", "_law_one", defArgs s__law_one, defBody s__law_one, defScope s__law_one, [], []⟩
def d__law_refused : He.DefD := ⟨("_law_refused", none), "_law_refused", "_law_refused", defArgs s__law_refused, defBody s__law_refused, defScope s__law_refused, [], []⟩
def d_law : He.DefD := ⟨("law", none), "law", "law", defArgs s_law, defBody s_law, defScope s_law, [], []⟩
def fn0 : List He.DefD := [d_is_tuple, d_is_text, d_demand, d_is_variable, d_put_in, d_variables_of, d_depth_of, d_word_at, d_Reading___init__, d_Reading_is_at, d_Reading_put_word, d_Reading_open_name, d_Reading_close_name, d_go_on, d_read_term, d_Literal___init__, d_Clause___init__, d_atoms_of, d_changed_clause, d_all_variables, d_clause_from, d_is_atom, d_read_literal, d_read_clause, d_read_program, d_demand_program, d_rows_of, d_names_of, d_demand_names, d_built_on]
def fn1 : List He.DefD := [d_stages_of, d_stages, d_truths, d_subsets, d_worlds_of, d_worlds, d_is_world, d_always, d_is_unfounded, d_is_reason, d_reason, d_high_of, d_told_by, d_world_steps, d__law_dice, d__law_roll, d__law_pick, d__law_shuffled, d__law_wt_named, d__law_wt_named_text, d__law_wt_named_all, d__law_wt_named_built, d__law_wt_named_sets, d__law_stages_by, d__law_is_blocked, d__law_step_right, d__law_told, d__law_drawn_steps, d__law_world_right, d__law_one]
def fn2 : List He.DefD := [d__law_refused, d_law]
def fn : List He.DefD := fn0 ++ fn1 ++ fn2
def fa0 : List He.Fa := [.glo "is_tuple", .glo "is_text", .glo "demand", .glo "is_variable", .glo "put_in", .glo "variables_of", .glo "depth_of", .glo "word_at", .glo "go_on", .glo "read_term", .glo "atoms_of", .glo "changed_clause", .glo "all_variables", .glo "clause_from", .glo "is_atom", .glo "read_literal", .glo "read_clause", .glo "read_program", .glo "demand_program", .glo "rows_of", .glo "names_of", .glo "demand_names", .glo "built_on", .glo "stages_of", .glo "stages", .glo "truths", .glo "subsets", .glo "worlds_of", .glo "worlds", .glo "is_world", .glo "always", .glo "is_unfounded", .glo "is_reason", .glo "reason", .glo "high_of", .glo "told_by", .glo "world_steps", .glo "_law_dice", .glo "_law_roll", .glo "_law_pick"]
def fa1 : List He.Fa := [.glo "_law_shuffled", .glo "_law_wt_named", .glo "_law_wt_named_text", .glo "_law_wt_named_all", .glo "_law_wt_named_built", .glo "_law_wt_named_sets", .glo "_law_stages_by", .glo "_law_is_blocked", .glo "_law_step_right", .glo "_law_told", .glo "_law_drawn_steps", .glo "_law_world_right", .glo "_law_one", .glo "_law_refused", .glo "law", .glo "Reading", .glo "Literal", .glo "Clause", .glo "WhyError", .glo "BadArgument", .glo "BadText", .free "abs", .free "all", .free "any", .free "bool", .free "enumerate", .free "int", .free "isinstance", .free "len", .free "list", .free "max", .free "min", .free "range", .free "set", .free "sorted", .free "str", .free "tuple", .int "MOST_PARTS" 4, .int "MOST_NAME" 8, .str "SMALL" "abcdefghijklmnopqrstuvwxyz"]
def fa2 : List He.Fa := [.str "GREAT" "ABCDEFGHIJKLMNOPQRSTUVWXYZ", .str "DIGITS" "0123456789", .int "MOST_CLAUSES" 30, .int "MOST_BODY" 4, .int "MOST_DEEP" 4, .int "MOST_TEXT" 4000, .int "MOST_LINE" 200, .str "NOT" "not ", .int "MOST_NAMES" 10, .str "YES" "yes", .str "NO" "no", .str "OPEN" "open", .cls "Reading", .mkr "Reading", .keep "Reading", .noat "Reading" "text", .noat "Reading" "numbers", .noat "Reading" "place", .noat "Reading" "signs", .noat "Reading" "spots", .noat "Reading" "counts", .meth "Reading" "is_at", .meth "Reading" "put_word", .meth "Reading" "open_name", .meth "Reading" "close_name", .cls "Literal", .mkr "Literal", .keep "Literal", .noat "Literal" "atom", .noat "Literal" "is_denied", .cls "Clause", .mkr "Clause", .keep "Clause", .noat "Clause" "head", .noat "Clause" "body"]
def fa : List He.Fa := fa0 ++ fa1 ++ fa2
/-- the exceptions: what is looked at of the class x, its __init__, the cell and the code of this -/
def asX (g : Addr → Option Obj) : Nat → List Addr
  | 0 => [mainGlobals, cStatics]
  | n + 1 => He.growD g (asX g n)
def fdOf (K : PySem.W.Frag) (a : Addr) : Option FuncData := match K.lookup a with
  | some ⟨_, _, .func fd, _⟩ => some fd
  | _ => none
def cellOf (K : PySem.W.Frag) (x : Str) : Addr := match fdOf K (He.ma K (He.ga K x) "__init__") with
  | some fd => (match fd.closure with
    | (_, c) :: _ => c
    | _ => 0)
  | none => 0
def codeOf (K : PySem.W.Frag) (x : Str) : Addr := match fdOf K (He.ma K (He.ga K x) "__init__") with
  | some fd => (match fd.code with
    | .ref c => c
    | _ => 0)
  | none => 0
abbrev FdV : Type := Str × Str × Arguments × FuncBody × Scope × Addr × List Str × Value × Value × Addr
def fdV (K : PySem.W.Frag) (x : Str) : Option FdV := (fdOf K (He.ma K (He.ga K x) "__init__")).map fun fd => (fd.name, fd.qualname, fd.params, fd.body, fd.scope, fd.globals, fd.closure.map (·.1), fd.defaults, fd.kwdefaults, fd.builtins)
def fileB (vs : Array Value) : Bool := match (vs[2]? : Option Value) with
  | some (.str file _) => ((prog.main.file : Str) == file)
  | _ => false
def isRefB : Option FuncData → Bool
  | some fd => (match fd.code with
    | .ref _ => true
    | _ => false)
  | none => false
def slotsB : List (Option Value) → Bool
  | [_, _, _, _, some (.builtin n), _] => decide (n = "ValueError.__new__")
  | _ => false
def mroB (C : Addr) : List Value → Bool
  | .ref D :: bm => decide (D = C) && PySem.HandSPX.refsVE bm
  | _ => false
def clsB (C : Addr) : Option Obj → Bool
  | some ⟨.type t, _, .cls cd, sl⟩ => decide (t = "type") && (mroB C cd.mro && (slotsB sl.toList && (cd.hasDict && !cd.hasDel)))
  | _ => false
theorem clsB_ok {C : Addr} {oo : Option Obj} (h : clsB C oo = true) : ∃ nm q N bs bm sn sub ab col dd k0 k1 k2 k3 k5, oo = some (excClassObj nm q C N bs bm true sn sub ab col dd k0 k1 k2 k3 k5 "ValueError.__new__") ∧ PySem.HandSPX.refsVE bm = true := by
  unfold clsB at h
  split at h
  · rename_i t dd cd sl
    simp only [Bool.and_eq_true, decide_eq_true_eq, Bool.not_eq_true'] at h
    obtain ⟨rfl, h1, h2, h3, h4⟩ := h
    obtain ⟨nm, bs, mro, ns, qn, hd, sn, sub, ab, col, del⟩ := cd
    obtain ⟨l⟩ := sl
    simp only at h1 h2 h3 h4
    subst h3 h4
    unfold mroB at h1
    split at h1
    · simp only [Bool.and_eq_true, decide_eq_true_eq] at h1
      obtain ⟨rfl, h5⟩ := h1
      unfold slotsB at h2
      split at h2
      · have e := of_decide_eq_true h2
        subst e
        exact ⟨nm, qn, ns, bs, _, sn, sub, ab, col, dd, _, _, _, _, _, rfl, h5⟩
      · cases h2
    · cases h1
  · cases h
def exB (K : PySem.W.Frag) (x f : Str) : Bool :=
  clsB (He.ga K x) (K.lookup (He.ga K x)) &&
  decide (PySem.W.findIn K (.ref (He.ga K x)) "__setattr__" = some (some (.builtin "object.__setattr__"))) &&
  decide (PySem.W.findIn K (.ref (He.ga K x)) "__getattribute__" = some (some (.builtin "BaseException.__getattribute__"))) &&
  decide (PySem.W.findIn K (.ref (He.ga K x)) "__getattr__" = some none) &&
  decide (PySem.W.findIn K (.ref (He.ga K x)) f = some none) &&
  decide (PySem.W.findIn K (.ref (He.ga K x)) "__init__" = some (some (.ref (He.ma K (He.ga K x) "__init__")))) &&
  decide (PySem.W.typeIn K (.ref (He.ma K (He.ga K x) "__init__")) = some (.type "function")) &&
  PySem.W.keepIn K (.ref (He.ga K x)) &&
  decide (PySem.W.subIn K (.ref (He.ga K x)) (.type "BaseException") = some true) &&
  decide (PySem.W.subIn K (.ref (He.ga K x)) (.type "ValueError") = some true) &&
  decide (PySem.W.typeIn K (.ref (He.ga K x)) = some (.type "type")) &&
  PySem.W.hasDictIn K (He.ga K x) &&
  decide (PySem.W.exmOne K (.ref (He.ga K x)) (.ref (He.ga K x)) = some true) &&
  decide (PySem.W.ks_superIn K (He.ga K x) (He.ga K x) "__init__" = some (some (.builtin "ValueError.__init__"))) &&
  decide (PySem.W.nsIn K cStatics "thirdparty.any" = some none) &&
  decide (PySem.W.nsIn K mainGlobals "super" = some none) &&
  decide (PySem.W.mroIn K (He.ga K x) (.ref (He.ga K x)) = some true) &&
  (match K.lookup (cellOf K x) with
    | some ⟨_, _, .cell (some (.ref d)), _⟩ => decide (d = He.ga K x)
    | _ => false) &&
  (match K.lookup (codeOf K x) with
    | some ⟨_, _, .fields vs, _⟩ => fileB vs
    | _ => false) &&
  PySem.W.codeIn K (.ref (codeOf K x)) (x ++ ".__init__") && isRefB (fdOf K (He.ma K (He.ga K x) "__init__"))
abbrev AlX : Type := He.AlD × Bool × List (Option FdV)
def exs : List (Str × Str) := [("BadArgument", "name")]
def obsX (K : PySem.W.Frag) : AlX := (He.obsD fa fn K, exs.all fun p => exB K p.1 p.2, exs.map fun p => fdV K p.1)
def exV : List (Option FdV) := [some ("__init__", "BadArgument.__init__", PySem.BadArgumentX.iA ⟨6, 17, 6, 21⟩ ⟨6, 23, 6, 27⟩, .stmts PySem.BadArgumentX.iB, PySem.BadArgumentX.iS, mainGlobals, ["__class__"], .none, .none, builtinsNs)]
def valX : AlX := (He.valD fn, true, exV)
def SaysX (K : PySem.W.Frag) : Prop := obsX K = valX
def obsXG (g : Addr → Option Obj) : AlX := obsX (He.frG g (asX g 5))
def hkX : PySem.W.Hook where
  α := AlX
  obs := fun s => obsXG s.heap.get?
  val := fun _ => valX
  says := fun _ h => ∃ K : PySem.W.Frag, K.In h ∧ SaysX K
  of := fun _ _ e => ⟨_, He.frG_in, e⟩
  keeps := fun _ _ _ ⟨K, hK, c⟩ k => ⟨K, PySem.W.Frag.In.keeps hK k, c⟩
theorem obsXG_eq {g : Addr → Option Obj} {s : Shared} (h : ∀ a, g a = s.heap.get? a) : obsXG g = hkX.obs s := by
  have e : g = s.heap.get? := funext h
  rw [e] <;> rfl
end Tx
end
section
set_option Elab.async false
set_option linter.all false
set_option maxRecDepth 100000
set_option maxHeartbeats 4000000
namespace Tx
open PySem PySem.Spec PyProof.Rows L2
/-- what all defs' proofs lean on -/
structure Zx (K : PySem.W.Frag) (mg : Str → Option Value) : Prop where
  at_ : ∃ h : Heap, K.In h ∧ h.Ns mainGlobals mg
  says : SaysX K
section
variable {P : Program} {w : World} {K : PySem.W.Frag} {mg : Str → Option Value} {base : Heap}
theorem SaysX.d (c : SaysX K) : He.SaysD fa fn K := congrArg (fun z : AlX => z.1) c
theorem SaysX.e (c : SaysX K) : (exs.all fun p => exB K p.1 p.2) = true := congrArg (fun z : AlX => z.2.1) c
theorem SaysX.v (c : SaysX K) : exs.map (fun p => fdV K p.1) = exV := congrArg (fun z : AlX => z.2.2) c
theorem Zx.glo (Z : Zx K mg) (i : Nat) {x : Str} (h : fa[i]? = some (.glo x) := by rfl) : mg x = some (.ref (He.ga K x)) := let ⟨_, X, G⟩ := Z.at_; He.glo_ok X G (Z.says.d.fact i h)
theorem Zx.free (Z : Zx K mg) (i : Nat) {x : Str} (h : fa[i]? = some (.free x) := by rfl) : mg x = none := let ⟨_, X, G⟩ := Z.at_; He.free_ok X G (Z.says.d.fact i h)
theorem Zx.int (Z : Zx K mg) (i : Nat) {x : Str} {n : Int} (h : fa[i]? = some (.int x n) := by rfl) : ∃ t, mg x = some (.int n t) := let ⟨_, X, G⟩ := Z.at_; He.int_ok X G (Z.says.d.fact i h)
theorem Zx.str (Z : Zx K mg) (i : Nat) {x z : Str} (h : fa[i]? = some (.str x z) := by rfl) : ∃ t, mg x = some (.str z t) := let ⟨_, X, G⟩ := Z.at_; He.str_ok X G (Z.says.d.fact i h)
theorem Zx.cls (Z : Zx K mg) (i : Nat) {x : Str} (h : fa[i]? = some (.cls x) := by rfl) : Cls K (He.ga K x) := He.cls_ok (Z.says.d.fact i h)
theorem Zx.mkr (Z : Zx K mg) (i : Nat) {x : Str} (h : fa[i]? = some (.mkr x) := by rfl) : Mk K (He.ga K x) (He.ma K (He.ga K x) "__init__") := He.mkr_ok (Z.says.d.fact i h)
theorem Zx.noat (Z : Zx K mg) (i : Nat) {x f : Str} (h : fa[i]? = some (.noat x f) := by rfl) : NoAttr K (He.ga K x) f := He.noat_ok (Z.says.d.fact i h)
theorem Zx.meth (Z : Zx K mg) (i : Nat) {x m : Str} (h : fa[i]? = some (.meth x m) := by rfl) : Meth K (He.ga K x) m (He.ma K (He.ga K x) m) := He.meth_ok (Z.says.d.fact i h)
/-- a def of the text as the layer takes it -/
theorem fun_of {x qual : Str} {st : Stmt} {f : Addr} {fd : FuncData} (F : FunD K x qual (defArgs st) (defBody st) (defScope st) [] [] f fd) : Fun K x qual st f fd := by
  obtain ⟨⟨oc, od, dV, kV, doc, pm, an, cdv, ct, osl, e, l, c, d, k⟩, kp⟩ := F
  rcases d with ⟨_, rfl⟩ | ⟨q, _⟩
  · exact ⟨⟨oc, od, kV, doc, pm, an, cdv, ct, osl, e, l, c⟩, kp⟩
  · exact (q rfl).elim
theorem Zx.fun_ (Z : Zx K mg) (i : Nat) {d : He.DefD} (h : fn[i]? = some d := by rfl) : ∃ fd, FunD K d.name d.qual d.params d.body d.scope (d.dvs K) (d.kws K) (He.fAd K d.at_) fd := Z.says.d.def_ i h
theorem and2 {a b : Bool} (h : (a && b) = true) : a = true ∧ b = true := Bool.and_eq_true_iff.mp h
/-- the class BadArgument -/
theorem Zx.bad (Z : Zx K mg) : PySem.BadArgumentX.Txt prog K (He.ga K "BadArgument") (He.ma K (He.ga K "BadArgument") "__init__") (cellOf K "BadArgument") (codeOf K "BadArgument") := by
  have h0 : exB K "BadArgument" "name" = true := List.all_eq_true.mp Z.says.e ("BadArgument", "name") (by decide)
  have v0 : fdV K "BadArgument" = (some ("__init__", "BadArgument.__init__", PySem.BadArgumentX.iA ⟨6, 17, 6, 21⟩ ⟨6, 23, 6, 27⟩, .stmts PySem.BadArgumentX.iB, PySem.BadArgumentX.iS, mainGlobals, ["__class__"], .none, .none, builtinsNs) : Option FdV) := (List.cons.inj Z.says.v).1
  unfold exB at h0
  obtain ⟨h0, c22⟩ := and2 h0
  obtain ⟨h0, c21⟩ := and2 h0
  obtain ⟨h0, c20⟩ := and2 h0
  obtain ⟨h0, c19⟩ := and2 h0
  obtain ⟨h0, c17⟩ := and2 h0
  obtain ⟨h0, c16⟩ := and2 h0
  obtain ⟨h0, c15⟩ := and2 h0
  obtain ⟨h0, c14⟩ := and2 h0
  obtain ⟨h0, c13⟩ := and2 h0
  obtain ⟨h0, c12⟩ := and2 h0
  obtain ⟨h0, c11⟩ := and2 h0
  obtain ⟨h0, c10⟩ := and2 h0
  obtain ⟨h0, c9⟩ := and2 h0
  obtain ⟨h0, c8⟩ := and2 h0
  obtain ⟨h0, c7⟩ := and2 h0
  obtain ⟨h0, c6⟩ := and2 h0
  obtain ⟨h0, c5⟩ := and2 h0
  obtain ⟨h0, c4⟩ := and2 h0
  obtain ⟨h0, c3⟩ := and2 h0
  obtain ⟨c1, c2⟩ := and2 h0
  have hcell : ∃ cl cld csl, K.lookup (cellOf K "BadArgument") = some ⟨cl, cld, .cell (some (.ref (He.ga K "BadArgument"))), csl⟩ := by
    split at c19
    · rename_i e
      have q := of_decide_eq_true c19
      subst q
      exact ⟨_, _, _, e⟩
    · cases c19
  have hcode : ∃ ccl cdd ccs vs file tf, K.lookup (codeOf K "BadArgument") = some ⟨ccl, cdd, .fields vs, ccs⟩ ∧ vs[2]? = some (.str file tf) ∧ ((prog.main.file : Str) == file) = true := by
    split at c20
    · rename_i e
      unfold fileB at c20
      split at c20
      · rename_i q
        exact ⟨_, _, _, _, _, _, e, q, c20⟩
      · cases c20
    · cases c20
  have hfn : ∃ (oc : Value) (od : Option Addr) (doc pm : Value) (an : Option Addr) (ct : Value) (osl : Array (Option Value)) (p1 p2 : Pos),
      K.lookup (He.ma K (He.ga K "BadArgument") "__init__") = some ⟨oc, od, .func (PySem.W.ksFn "__init__" "BadArgument.__init__" (PySem.BadArgumentX.iA p1 p2) PySem.BadArgumentX.iB PySem.BadArgumentX.iS .none .none doc pm an (.ref (codeOf K "BadArgument")) ct (cellOf K "BadArgument")), osl⟩ ∧ PySem.W.codeIn K (.ref (codeOf K "BadArgument")) "BadArgument.__init__" = true := by
    have k0 := c21
    unfold fdV fdOf at v0
    cases e : K.lookup (He.ma K (He.ga K "BadArgument") "__init__") with
    | none =>
      rw [e] at v0
      cases v0
    | some o =>
      obtain ⟨oc, od, dt, osl⟩ := o
      rw [e] at v0
      cases dt with
      | func fd =>
        obtain ⟨n1, n2, n3, n4, n5, n6, n7, n8, n9, n10, n11, n12, n13, n14, n15⟩ := fd
        have v1 := Option.some.inj v0
        simp only [Prod.mk.injEq] at v1
        obtain ⟨rfl, rfl, rfl, rfl, rfl, rfl, e7, rfl, rfl, rfl⟩ := v1
        obtain ⟨c, rfl⟩ : ∃ c : Addr, n7 = [(("__class__" : Str), c)] := by
          have hl := congrArg List.length e7
          rw [List.length_map] at hl
          obtain ⟨p, rfl⟩ := List.length_eq_one_iff.mp hl
          have q : p.1 = ("__class__" : Str) := (List.cons.inj e7).1
          exact ⟨p.2, by rw [← q]⟩
        have ec : cellOf K "BadArgument" = c := by
          unfold cellOf fdOf
          rw [e]
        have hk : ∃ b, n13 = .ref b := by
          cases n13 with
          | ref b => exact ⟨b, rfl⟩
          | _ =>
            unfold fdOf at c22
            rw [e] at c22
            cases c22
        obtain ⟨b, rfl⟩ := hk
        have ed : codeOf K "BadArgument" = b := by
          unfold codeOf fdOf
          rw [e]
        rw [ec, ed]
        rw [ed] at k0
        exact ⟨oc, od, _, _, _, _, osl, _, _, rfl, k0⟩
      | _ => cases v0
  exact ⟨clsB_ok c1, of_decide_eq_true c2, of_decide_eq_true c3, of_decide_eq_true c4, of_decide_eq_true c5, of_decide_eq_true c6, of_decide_eq_true c7, c8, of_decide_eq_true c9, of_decide_eq_true c10, of_decide_eq_true c11, c12, of_decide_eq_true c13,
    of_decide_eq_true c14, of_decide_eq_true c15, of_decide_eq_true c16, of_decide_eq_true c17, hcell, hcode, by decide +kernel, hfn⟩
end
end Tx
end
section
set_option Elab.async false
set_option linter.all false
set_option maxRecDepth 100000
set_option maxHeartbeats 0
namespace Tx
open PySem PySem.Spec PyProof.Rows L2
def lo0 : List PySem.Str := ["__name__", "WhyError", "BadArgument", "BadText", "is_tuple", "is_text", "demand", "MOST_PARTS", "MOST_NAME", "SMALL", "GREAT", "DIGITS", "is_variable", "put_in", "variables_of", "depth_of", "word_at", "Reading", "go_on", "read_term", "MOST_CLAUSES", "MOST_BODY", "MOST_DEEP", "MOST_TEXT", "MOST_LINE", "NOT", "Literal", "Clause", "atoms_of", "changed_clause"]
def lo1 : List PySem.Str := ["all_variables", "clause_from", "is_atom", "read_literal", "read_clause", "read_program", "demand_program", "MOST_NAMES", "YES", "NO", "OPEN", "rows_of", "names_of", "demand_names", "built_on", "stages_of", "stages", "truths", "subsets", "worlds_of", "worlds", "is_world", "always", "is_unfounded", "is_reason", "reason", "high_of", "told_by", "world_steps", "_law_dice"]
def lo2 : List PySem.Str := ["_law_roll", "_law_pick", "_law_shuffled", "_law_wt_named", "_law_wt_named_text", "_law_wt_named_all", "_law_wt_named_built", "_law_wt_named_sets", "_law_stages_by", "_law_is_blocked", "_law_step_right", "_law_told", "_law_drawn_steps", "_law_world_right", "_law_one", "_law_refused"]
def lo : List PySem.Str := lo0 ++ lo1 ++ lo2
abbrev R : PySem.W.OpenRow := PySem.W.OpenLaw.row PySem.Challenge.rw_whytables_k12_whole_truths
end Tx
end
section
set_option Elab.async false
set_option linter.all false
set_option maxRecDepth 100000
set_option maxHeartbeats 0
namespace Tx
open PySem PySem.Spec PyProof.Rows L2
/-- of BadArgument: caught by its own name, its field is read -/
def exY (K : PySem.W.Frag) : Bool := decide (PySem.W.exmOne K (.ref (He.ga K "BadArgument")) (.ref (He.ga K "BadArgument")) = some true) && (xfB K (He.ga K "BadArgument") && decide (PySem.W.findIn K (.ref (He.ga K "BadArgument")) "name" = some none))
def tfY : List He.Defn := [("law", none)]
abbrev AlY : Type := AlX × Bool
def obsYG (g : Addr → Option Obj) : AlY := (obsX (He.frT g (asX g 5)), exY (He.frT g (asX g 5)) && He.tabsB g tfY (He.frT g (asX g 5)))
def valY : AlY := (valX, true)
structure SaysY (h : Heap) (K : PySem.W.Frag) : Prop where
  says : SaysX K
  exy : exY K = true
  hd : PySem.W.codeHdIn K (He.cT K ("law", none)).1 (He.cT K ("law", none)).2 = true
  out : K.lookup (He.cT K ("law", none)).2 = none
  empty : h.get? (He.cT K ("law", none)).2 = some { cls := .none, data := .fields #[] }
theorem saysY_of {h : Heap} (e : obsYG h.get? = valY) : SaysY h (He.frT h.get? (asX h.get? 5)) := by
  have e1 : obsX (He.frT h.get? (asX h.get? 5)) = valX := congrArg (fun z : AlY => z.1) e
  have e2 : (exY (He.frT h.get? (asX h.get? 5)) && He.tabsB h.get? tfY (He.frT h.get? (asX h.get? 5))) = true := congrArg (fun z : AlY => z.2) e
  obtain ⟨h1, h2⟩ := Bool.and_eq_true_iff.mp e2
  obtain ⟨h3, h4⟩ := Bool.and_eq_true_iff.mp (List.all_eq_true.mp h2 ("law", none) List.mem_cons_self)
  cases q : h.get? (He.cT (He.frT h.get? (asX h.get? 5)) ("law", none)).2 with
  | none => rw [q] at h4; cases h4
  | some o =>
    rw [q] at h4
    have h4' : He.emptyTab o = true := h4
    exact ⟨e1, h1, h3, He.frT_none q h4', by rw [q, He.emptyTab_eq h4']⟩
def hkY : PySem.W.Hook where
  α := AlY
  obs := fun s => obsYG s.heap.get?
  val := fun _ => valY
  says := fun _ h => ∃ K : PySem.W.Frag, K.In h ∧ SaysY h K
  of := fun _ _ e => ⟨_, He.frT_in, saysY_of e⟩
  keeps := fun _ _ _ ⟨K, hK, c⟩ k => ⟨K, PySem.W.Frag.In.keeps hK k, ⟨c.says, c.exy, c.hd, c.out, k _ _ c.empty⟩⟩
def obY (s : PySem.W.SharedT) : AlY := obsYG (HandSHeadRun.getT s)
theorem obY_eq (s : PySem.W.SharedT) : obY s = hkY.obs s.abs := by
  have e : HandSHeadRun.getT s = s.abs.heap.get? := funext (HandSHeadRun.getT_eq s)
  show obsYG (HandSHeadRun.getT s) = obsYG s.abs.heap.get?
  rw [e]
theorem runY (w : World) : HandSHeadRun.RunEq R (PySem.W.view R.prog [82]) hkY obY 20000 lo w := by
  intro os
  kernel_rfl
end Tx
end
section
set_option Elab.async false
set_option linter.all false
set_option maxRecDepth 100000
/-! sorted(xs) of rows of texts, the empty one first -/
namespace TXT
open PySem PySem.Spec PyProof.Rows L2 PySem.SeqAt PySem.W

def IsTx (h : Heap) (v : Value) (xs : List Str) : Prop := ∃ a o items n, v = .ref a ∧ h.get? a = some o ∧ o.cls = .type "tuple" ∧ o.data = .seq items n ∧ StrsAre items.toList xs
theorem IsTx.keep {h h' : Heap} {v : Value} {xs : List Str} (p : IsTx h v xs) (k : ∀ b o, h.get? b = some o → o.cls = .type "tuple" → h'.get? b = some o) : IsTx h' v xs := by
  obtain ⟨a, o, items, n, e, ho, hc, r⟩ := p
  exact ⟨a, o, items, n, e, k _ _ ho hc, hc, r⟩
def firstOf (h : Heap) (v : Value) : Option Value := match v with
  | .ref a => (match h.get? a with
    | some o => (match o.data with
      | .seq xs _ => xs[0]?
      | _ => none)
    | none => none)
  | _ => none

section
variable {M : Model} {A : Around} {E : Value → Shared → Prop} {s : Shared}
theorem mapM_to {α β : Type} {f : α → Sem β} {g : α → β} : ∀ (l : List α) {Q : List β → Shared → Prop}, (∀ v, v ∈ l → ∀ (Q' : β → Shared → Prop), Q' (g v) s → wpAny M A (f v) Q' E s) → Q (l.map g) s → wpAny M A (l.mapM f) Q E s
  | [], _, _, h => by rw [List.mapM_nil]; exact wpAny_pure h
  | x :: l, Q, hf, h => by
    rw [List.mapM_cons]
    exact wpAny_bind (hf x List.mem_cons_self _ (wpAny_bind (mapM_to l (g := g) (Q := fun bs s' => wpAny M A (pure (g x :: bs)) Q E s') (fun v hv => hf v (List.mem_cons_of_mem _ hv)) (wpAny_pure h))))

theorem kind_tx {v1 : Value} {vs : List Value} {Q : SortKind → Shared → Prop} (hp : ∀ v, v ∈ v1 :: vs → ∃ xs, IsTx s.heap v xs) (h0 : IsTx s.heap v1 []) (h : Q oneType' s) : wpAny M A (keyKind' (v1 :: vs).toArray) Q E s := by
  have hf : firstOf s.heap v1 = none := by
    obtain ⟨a, o, items, n, rfl, ho, hc, hd, hs⟩ := h0
    have e : items.toList = [] := by
      cases hi : items.toList with
      | nil => rfl
      | cons x r => rw [hi] at hs; cases hs
    show (match s.heap.get? a with
      | some o => (match o.data with
        | .seq xs _ => xs[0]?
        | _ => none)
      | none => none) = none
    rw [ho]
    dsimp only
    rw [hd]
    dsimp only
    rw [← Array.getElem?_toList, e]
    rfl
  rw [keyKind'_eq, List.mapM_toArray, map_eq_pure_bind]
  refine wpAny_bind (wpAny_bind (mapM_to (g := firstOf s.heap) _ (fun v hv Q' hq => ?_) (wpAny_pure ?_)))
  · obtain ⟨xs, a, o, items, n, rfl, ho, hc, hd, hs⟩ := hp v hv
    have e : firstOf s.heap (.ref a) = items[0]? := by
      show (match s.heap.get? a with
        | some o => (match o.data with
          | .seq xs _ => xs[0]?
          | _ => none)
        | none => none) = _
      rw [ho]
      dsimp only
      rw [hd]
    rw [e] at hq
    rw [kas_first_eq]
    refine wpAny_bind (wpAny_typeOf (T := "tuple") ⟨o, ho, hc⟩ ?_)
    rw [if_neg (by first | decide | simp)]
    exact wpAny_bind (listItems_at ho hd (wpAny_pure hq))
  · have e1 : ((List.map (firstOf s.heap) (v1 :: vs)).toArray.all fun x => x.isSome) = false := by
      rw [List.map_cons, hf]
      simp
    have e2 : (((List.map (firstOf s.heap) (v1 :: vs)).toArray[0]?).bind id).isSome = false := by
      rw [List.map_cons, hf]
      simp
    rw [e1, e2, if_neg Bool.false_ne_true, if_neg Bool.false_ne_true]
    rw [oneTypeOnly'_eq, List.mapM_toArray, map_eq_pure_bind]
    refine wpAny_bind (wpAny_bind (wpAny_bind (kas_mapM (r := Value.type "tuple") _ (fun v hv Q' hq => ?_) (wpAny_pure ?_))))
    · obtain ⟨xs, a, o, items, n, rfl, ho, hc, hd, hs⟩ := hp v hv
      exact wpAny_typeOf (T := "tuple") ⟨o, ho, hc⟩ hq
    · have e3 : ((List.map (fun _ => Value.type "tuple") (v1 :: vs)).toArray.all fun x => x == Value.type "tuple") = true := by
        simp only [List.all_toArray, List.all_map, List.all_eq_true]
        intro _ _
        rfl
      have e4 : (List.map (fun _ => Value.type "tuple") (v1 :: vs)).toArray[0]? = some (Value.type "tuple") := by simp
      rw [e4]
      simp only [e3, if_true]
      exact wpAny_pure (wpAny_pure h)
end

def encT (xs : List Str) : PyData := .tuple (xs.map .str)
theorem alike_strs : ∀ xs ys : List Str, alikeAll (xs.map .str) (ys.map .str) = true
  | [], _ => by simp [alikeAll]
  | _ :: _, [] => by simp [alikeAll]
  | x :: xs, y :: ys => by
    show alikeAll (.str x :: xs.map .str) (.str y :: ys.map .str) = true
    rw [alikeAll, alike_strs xs ys]
    simp [alike]
theorem depth_strs : ∀ xs : List Str, PyData.depthAll (xs.map .str) = 0
  | [] => by simp [PyData.depthAll]
  | x :: xs => by
    show PyData.depthAll (.str x :: xs.map .str) = 0
    rw [PyData.depthAll, depth_strs xs]
    simp [PyData.depth]
theorem alike_enc (bs : List (List Str)) : AllAlike (bs.map encT) := AllAlike.of fun b b' => by
  show alike (.tuple (b.map .str)) (.tuple (b'.map .str)) = true
  rw [alike]
  exact alike_strs b b'
theorem depth_enc (b : List Str) : (encT b).depth = 1 := by
  unfold encT
  rw [PyData.depth, depth_strs]
section
variable {P : Program} {w : World} {A : Around} {E : Value → Shared → Prop} {s : Shared}
theorem oneLt_tup {xs ys : List PyData} {a b : Value} {as bs : List Addr} {Q : Bool → Shared → Prop} (ra : Reads s.heap a (.tuple xs) as) (rb : Reads s.heap b (.tuple ys) bs) (hal : alikeAll xs ys = true)
    (hu : A.units + min (PyData.tuple xs).depth (PyData.tuple ys).depth < cLine) (hq : Q (dataLt (.tuple xs) (.tuple ys)) s) : wpAny (model P w) A (oneLt' true a b) Q E s := by
  cases ra with
  | @tuple l o vs n _ as₁ h1 h2 h3 h4 =>
    cases rb with
    | @tuple l' o' vs' n' _ bs₁ k1 k2 k3 k4 =>
      have n1 : vs.size = xs.length := by simpa using SeqAt.ReadsAll.length _ _ _ h4
      have n2 : vs'.size = ys.length := by simpa using SeqAt.ReadsAll.length _ _ _ k4
      rw [dataLt_tuple, ← firstLt_toks xs ys hal, ← n1, ← n2] at hq
      rw [oneLt'_eq]
      simp only [if_true]
      obtain ⟨c1, d1, t1, l1⟩ := o
      obtain ⟨c2, d2, t2, l2⟩ := o'
      simp only at h2 h3 k2 k3
      subst h2; subst h3; subst k2; subst k3
      refine wpAny_bind (wpAny_cRoomFor (SeqAt.room_here hu) ?_)
      refine wpAny_bind (wpAny_callSpecialIfBound?_slot (T := "tuple") ⟨_, h1, rfl⟩ PySem.F.slot_tuple_lt (call_meets PySem.F.slot_tuple_lt ⟨_, h1, rfl⟩ PySem.F.entry_tuple_lt (PySem.F.args_tuple_lt_2 _ _)
        (tuple_ltAt l l' vs vs' n n' d1 d2 l1 l2 (pairEq xs ys) (fun j => dataLt (xs.getD j .none) (ys.getD j .none))) ⟨h1, k1, fun j j1 j2 => ?_, fun j j1 j2 hj => ?_, ?_⟩))
      · have := eqAt_alikeAll xs ys A.in1 s vs.toList vs'.toList _ _ h4 k4 hal (SeqAt.room_in hu) j (by simpa using j1) (by simpa using j2)
        simpa using this
      · have := rcLt_alikeAll xs ys A.in1 s vs.toList vs'.toList _ _ h4 k4 hal (SeqAt.room_in hu) j (by simpa using j1) (by simpa using j2) hj
        simpa using this
      · exact wpAny_truthy_bool hq
theorem strs_reads {h : Heap} : ∀ {xs : List Str} {us : List Value} {as : List Addr}, ReadsAll h us (xs.map .str) as → StrsAre us xs
  | [], _, _, r => by cases r; exact .nil
  | x :: xs, _, _, r => by
    cases r with
    | cons r1 r2 =>
      cases r1
      exact .cons _ _ (strs_reads r2)
theorem isTx_of {h : Heap} {v : Value} {xs : List Str} {as : List Addr} (r : Reads h v (encT xs) as) : IsTx h v xs := by
  cases r with
  | @tuple l o vs n _ as₁ h1 h2 h3 h4 => exact ⟨l, o, vs, n, rfl, h1, h2, h3, strs_reads h4⟩
theorem sortsAt_tx {vs : List Value} {bs : List (List Str)} (e : EachIs (fun v b => ∃ as, Reads s.heap v (encT b) as) vs bs) (h0 : ∀ b r, bs = b :: r → b = []) (hu : A.units + 1 < cLine) : SortsAt P w A s (dataKind s.heap (bs.map encT)) vs := by
  have hal := alike_enc bs
  refine ⟨fun v hv => ?_, oneType', ?_, fun h2 E Q hq => ?_⟩
  · obtain ⟨b, hb, as, r⟩ := e.left v hv
    exact ⟨_, dataKind_some hal (List.mem_map_of_mem hb) r⟩
  · intro E x y a b Q ha hb hq
    obtain ⟨d, as, hd, ra, rfl⟩ := dataKind_inv ha
    obtain ⟨d', as', hd', rb, rfl⟩ := dataKind_inv hb
    obtain ⟨xs, hxs, rfl⟩ := List.mem_map.mp hd
    obtain ⟨ys, hys, rfl⟩ := List.mem_map.mp hd'
    rw [keyLt'_oneType]
    refine oneLt_tup ra rb (alike_strs _ _) ?_ hq
    have e1 : (PyData.tuple (xs.map .str)).depth = 1 := depth_enc xs
    have e2 : (PyData.tuple (ys.map .str)).depth = 1 := depth_enc ys
    rw [e1, e2]
    exact hu
  · cases e with
    | nil => exact absurd h2 (by simp)
    | @cons v b vs0 bs0 r0 t =>
      refine kind_tx (fun u hu' => ?_) ?_ hq
      · obtain ⟨c, _, as, r⟩ := (EachIs.cons r0 t).left u hu'
        exact ⟨c, isTx_of r⟩
      · obtain ⟨as, r⟩ := r0
        have := isTx_of r
        rwa [h0 b bs0 rfl] at this
/-- the order of rows of texts -/
abbrev sortT (bs : List (List Str)) : List (List Str) := bs.mergeSort (dataLe false encT)
theorem sorted_tx {l : Addr} {vs : List Value} {bs : List (List Str)} {R : Value → List Str → Prop} {Q : Value → Shared → Prop} (hl : s.heap.IsList l vs.toArray) (hz : vs.length ≤ sizeLine) (er : EachIs (fun v b => ∃ as, Reads s.heap v (encT b) as) vs bs) (eR : EachIs R vs bs) (h0 : ∀ b r, bs = b :: r → b = []) (hu : A.units + 64 < cLine)
    (h : ∀ (h' : Heap) (d : Addr) (out : List Value), out.length = vs.length → EachIs R out (sortT bs) → (∀ b o, s.heap.get? b = some o → h'.get? b = some o) → s.heap.objs.size ≤ d → (∃ n, h'.get? d = some (seqObj "list" out.toArray n)) → Q (.ref d) { s with heap := h' }) :
    wpAny (model P w) A (call (.builtin "sorted") [.ref l]) Q E s := by
  have er' : EachIs (fun v b => ∃ as, Reads (sortingHeap (copyHeap s.heap vs) (s.heap.objs.size + 1) vs) v (encT b) as) vs bs := er.mono fun _ _ ⟨as, r⟩ => ⟨as, PyProof.Rows.Reads.keeps (fun _ _ => sorting_copy_old) r⟩
  refine sorted_vals hl (sortsAt_tx (s := { s with heap := sortingHeap (copyHeap s.heap vs) (s.heap.objs.size + 1) vs }) er' h0 (by have e := Around.in1_units A; have e' := Around.in1_units A.in1; omega)) hz ?_
  exact h _ _ (sortVals (dataKind _ (bs.map encT)) false vs vs) (sortVals_length false rfl) (sortVals_data false eR er' (alike_enc bs)) (fun b o e => sortedAll_old e) (Nat.le_succ _) (sortedAll_at s.heap vs _)
end

section
variable {X : Cx}
/-- sorted(xs), xs a list of tuples of texts, the first of them () -/
def rSortTx (K : PySem.W.Frag) : List V → Hp → VK → Prop := fun vs H Q => ∃ (a : Addr) (xs : List V) (bs : List (List Str)), vs = [V.ref a] ∧ SqL K H a xs ∧ EachIs (fun x b => ∃ t : Addr, x = V.ref t ∧ H t = some (.tup (b.map V.str))) xs bs ∧ (∀ b r, bs = b :: r → b = []) ∧
  ∀ ys p, EachIs (fun x b => ∃ t : Addr, x = V.ref t ∧ H t = some (.tup (b.map V.str))) ys (sortT bs) → H p = none → Q (.ref p) (upd H p (.lst ys))
theorem each_vals {H : Hp} {R : Value → List Str → Prop} (f : ∀ t b, H t = some (.tup (b.map V.str)) → R (.ref t) b) : ∀ {xs : List V} {us : List Value} {bs : List (List Str)}, Vals xs us → EachIs (fun x b => ∃ t : Addr, x = V.ref t ∧ H t = some (.tup (b.map V.str))) xs bs → EachIs R us bs
  | _, _, _, .nil, .nil => .nil
  | _, _, _, .cons r tt, .cons ⟨t, e, ht⟩ tl => by
    subst e
    have eu := r
    cases r
    exact .cons (f t _ ht) (each_vals f tt tl)
theorem each_back {H : Hp} : ∀ {out : List Value} {bs : List (List Str)}, EachIs (fun u b => ∃ t : Addr, u = Value.ref t ∧ H t = some (.tup (b.map V.str))) out bs → EachIs (fun x b => ∃ t : Addr, x = V.ref t ∧ H t = some (.tup (b.map V.str))) (out.map backV) bs
  | _, _, .nil => .nil
  | _, _, .cons ⟨t, e, ht⟩ tl => by
    subst e
    exact .cons ⟨t, rfl, ht⟩ (each_back tl)
theorem reads_strs {h : Heap} : ∀ {us : List Value} {xs : List Str}, StrsAre us xs → ∃ as, ReadsAll h us (xs.map .str) as
  | _, _, .nil => ⟨_, .nil⟩
  | _, _, .cons _ _ r => by
    obtain ⟨as, q⟩ := reads_strs (h := h) r
    exact ⟨_, .cons (.str _ _) q⟩
theorem cr_sortTx (hu : X.A.units + 64 < cLine) : CallR X (.builtin "sorted") (rSortTx X.K) := by
  intro pins s σ H vs us Q I r h
  obtain ⟨a, xs, bs, rfl, hs, hx, h0, q⟩ := h
  obtain ⟨its, rv, hl, hz⟩ := I.list hs
  rw [Vals.ref1 r]
  have tx : ∀ t (ys : List Str), H t = some (.tup (ys.map V.str)) → ∃ as, Reads s.heap (.ref t) (encT ys) as := fun t ys e => by
    obtain ⟨_, its2, r2, o, ho, hc, n, hd⟩ := I.hok _ _ e
    obtain ⟨as, hr⟩ := reads_strs (h := s.heap) (us := its2.toArray.toList) (by simpa using strsAre_of r2)
    exact ⟨_, Reads.tuple ho hc hd hr⟩
  have eR := each_vals (R := fun u b => ∃ t : Addr, u = Value.ref t ∧ H t = some (.tup (b.map V.str))) (fun t b ht => ⟨t, rfl, ht⟩) rv hx
  refine sorted_tx hl.isList (by rw [← rv.length]; exact hz) (each_vals tx rv hx) eR h0 hu fun h' d out hlen hp k hd hn => ?_
  have h3 : ∀ u ∈ out, ∃ a, u = Value.ref a := fun u hu => by
    obtain ⟨b, _, t, e, _⟩ := hp.left u hu
    exact ⟨t, e⟩
  obtain ⟨n, hn⟩ := hn
  refine ⟨.ref d, upd H d (.lst (out.map backV)), I.laid (t' := s.toks) k hd ⟨?_, out, n, vals_back h3, hn⟩, rfl, q _ d (each_back hp) (I.hok.fresh hd)⟩
  rw [List.length_map, hlen, ← rv.length]; exact hz
end
end TXT
end
section
set_option Elab.async false
set_option linter.all false
set_option maxRecDepth 100000
/-! sets of texts: made of a row, sorted -/
namespace TXS
open PySem PySem.Spec PyProof.Rows L2
open PySem.Froz (SD sObj tailTx addTx TxOk)

def txOf (e : Int × Value) : Str := match e.2 with | .str k _ => k | _ => Str.empty

theorem tail_parts (ep : Nat) (zs : Array (Int × Value)) (t : SetTable) (b : Bool) : (tailTx ep zs t b).1.toList.Perm zs.toList ∧ (Ris t.place.toList → Ris (tailTx ep zs t b).2.2.place.toList) ∧ (tailTx ep zs t b).2.2.led = t.led := by
  unfold tailTx
  split
  · exact ⟨relayAll_perm t zs _, fun _ => relayAll_ris t zs _, relayAll_led t zs _⟩
  · exact ⟨List.Perm.refl _, fun r => r, rfl⟩
theorem add_parts (h : Int) (v : Value) (D : SD) : (addTx h v D).1.toList.Perm ((h, v) :: D.1.toList) ∧ (Ris D.2.2.place.toList → Ris (addTx h v D).2.2.place.toList) ∧ (addTx h v D).2.2.led = D.2.2.led := by
  obtain ⟨p1, p2, p3⟩ := tail_parts D.2.1 (layNew D.2.2 D.1 h v).1 (if (layNew D.2.2 D.1 h v).2.1.plain = true then { (layNew D.2.2 D.1 h v).2.1 with plain := false } else (layNew D.2.2 D.1 h v).2.1) (layNew D.2.2 D.1 h v).2.2.1
  have q1 := layNew_perm D.2.2 D.1 h v
  rw [Array.toList_push] at q1
  refine ⟨p1.trans (q1.trans (List.perm_append_singleton _ _)), fun r => p2 ?_, p3.trans ?_⟩
  · have := layNew_ris D.2.2 D.1 h v r
    split <;> exact this
  · have := layNew_led D.2.2 D.1 h v
    split <;> exact this

/-- payload D holds the texts l, none twice, and can be walked -/
structure TxD (P : Program) (w : World) (D : SD) (l : List Str) : Prop where
  ok : TxOk P w D l
  vs : ∀ e, e ∈ D.1.toList → ∃ k t, e.2 = Value.str k t
  pm : (D.1.toList.map txOf).Perm l
  nd : l.Nodup
  ris : Ris D.2.2.place.toList
  led : w.params.followText "set-order" = true ∨ D.2.2.led = true

section
variable {P : Program} {w : World} {A : Around} {E : Value → Shared → Prop} {s : Shared}
theorem TxD.more {D : SD} {l : List Str} {k : Str} (u : Tok) (T : TxD P w D l) (hk : k ∉ l) : TxD P w (addTx (hashStr w k) (.str k u) D) (k :: l) := by
  obtain ⟨p1, p2, p3⟩ := add_parts (hashStr w k) (.str k u) D
  refine ⟨PySem.Froz.add_ok u T.ok, fun e he => ?_, (p1.map txOf).trans (List.Perm.cons k T.pm), List.nodup_cons.mpr ⟨hk, T.nd⟩, p2 T.ris, T.led.imp id (fun z => p3.trans z)⟩
  rcases List.mem_cons.mp (p1.mem_iff.mp he) with z | z
  · exact ⟨k, u, by rw [z]⟩
  · exact T.vs e z

theorem add_old {a : Addr} {D : SD} {l : List Str} {k : Str} {u : Tok} {Q : Bool → Shared → Prop} (ho : s.heap.get? a = some (sObj "set" D)) (F : TxOk P w D l) (hk : k ∈ l) (hb : l.length < scanBound)
    (h : Q false s) : wpAny (model P w) A (setAddHashed a (.str k u) (hashStr w k)) Q E s := by
  obtain ⟨zs, ep, t⟩ := D
  have f1 : (sObj "set" (zs, ep, t)).data = .set zs ep t := rfl
  have f2 : t.fits zs.size = true := F.fit
  have f3 : zs.size < scanBound := by
    have : zs.size = l.length := F.sz
    omega
  have f4 : ElemsOf (PySem.strKind P w) zs.toList := F.el
  have f5 : (PySem.strKind P w).is k (.str k u) = true := PySem.Froz.is_str k u
  unfold setAddHashed setAddHashedIn
  refine wpAny_holding (wpAny_bind (wpAny_setState_of ho f1 f2 ?_))
  dsimp only
  rw [byScan_of rfl f3 f4]
  simp only [↓reduceIte]
  unfold setAddByScan
  refine wpAny_bind (wpAny_bind (wpAny_rule (wpAny_bind (wpAny_setScan_of (knd := PySem.strKind P w) (k := k) f5 ho f1 f2 f4 ?_))))
  cases c : List.findIdx? (fun e => (PySem.strKind P w).is k e.2) zs.toList with
  | some j =>
    dsimp only
    exact wpAny_pure (wpAny_pure h)
  | none =>
    obtain ⟨e, he, q⟩ := (F.mem k).mp hk
    have := List.findIdx?_eq_none_iff.mp c e he
    rw [q] at this
    cases this

theorem fill {I : Addr} {fp wr : List Addr} {G : Array GenState → Array GenState → Prop} {n : Nat} {Pv : Nat → Value → Prop} {St : Nat → Shared → Prop} {R : Result → Shared → Prop}
    (W : WalksS P w A.in1 I fp wr G n Pv St) (S : Addr) (hS : S ∉ fp) (xs : List Str) (hn : n = xs.length) (hb : xs.length + 1 < scanBound) (hv : ∀ i v, Pv i v → ∃ k t, xs[i]? = some k ∧ v = .str k t) :
    ∀ (m i : Nat) (s : Shared) (D : SD) (l : List Str), n - i = m → i ≤ n → St i s → s.heap.get? S = some (sObj "set" D) → TxD P w D l → l.length ≤ i → (∀ k, k ∈ l ↔ k ∈ xs.take i) →
      (∀ s' D l, Moved (S :: wr) G s s' → s'.heap.get? S = some (sObj "set" D) → TxD P w D l → l.length ≤ n → (∀ k, k ∈ l ↔ k ∈ xs) → R (.ok (.ret .none)) s') →
      codeAny (model P w) A (.builtin "set.update.loop" ⟨[.ref S, .ref I], []⟩) R s := by
  have hw : S ∉ wr := fun h => hS (W.sub _ h)
  have hsub : ∀ b ∈ wr, b ∈ S :: wr := fun b hb => List.mem_cons_of_mem _ hb
  intro m
  induction m with
  | zero =>
    intro i s D l hm hi hst ho T hl hk hR
    have hin : i = n := by omega
    subst hin
    rw [List.take_of_length_le (by omega)] at hk
    refine codeAny_builtin PyProof.Rows.F.entry_set_update_loop ?_
    rw [Around.under_plainId PyProof.Rows.F.plain_set_update_loop _]
    show wpAny _ A.in1 (pyNext (.ref I) >>= _) _ _ s
    refine wpAny_bind (W.done s _ _ hst fun s' m' => ?_)
    show wpAny _ A.in1 (ret Value.none) _ _ s'
    exact wpAny_pure (hR s' D l (m'.mono hsub) (m'.heap S _ hw ho) T hl hk)
  | succ m ih =>
    intro i s D l hm hi hst ho T hl hk hR
    have hlt : i < n := by omega
    refine codeAny_builtin PyProof.Rows.F.entry_set_update_loop ?_
    rw [Around.under_plainId PyProof.Rows.F.plain_set_update_loop _]
    show wpAny _ A.in1 (pyNext (.ref I) >>= _) _ _ s
    refine wpAny_bind (W.item i s _ _ hlt hst fun v s' hP hst' m' => ?_)
    obtain ⟨z, t, hz, rfl⟩ := hv i v hP
    have ho' := m'.heap S _ hw ho
    have htake : ∀ k, k ∈ xs.take (i + 1) ↔ (k ∈ xs.take i ∨ k = z) := fun k => by
      rw [List.take_add_one, hz, List.mem_append]
      simp
    show wpAny _ A.in1 (holding [Value.str z t] (setAdd S (.str z t)) >>= _) _ _ s'
    refine wpAny_bind (wpAny_holding ?_)
    unfold setAdd
    refine wpAny_holding ?_
    refine wpAny_bind ((PySem.strKind P w).pyHash (k := z) (PySem.Froz.is_str _ _) ?_)
    by_cases c : z ∈ l
    · refine add_old (s := { s' with toks := s'.toks + 1 }) ho' T.ok c (by omega) ?_
      refine wpAny_pure ⟨plainId_quiet PyProof.Rows.F.plain_set_update_loop _, ih (i + 1) _ D l (by omega) hlt (W.frame _ s' _ _ hst' (Nat.le_succ _) fun b hb o e => e) ho' T (by omega) (fun k => ?_) fun s'' D2 l2 m2 a1 a2 a3 a4 => ?_⟩
      · rw [htake, ← hk]
        exact ⟨.inl, fun z' => z'.elim id fun e => e ▸ c⟩
      · exact hR s'' D2 l2 (Moved.trans W.gtrans ((m'.mono hsub).then_heap (Nat.le_succ _) fun b o hb e => e) m2) a1 a2 a3 a4
    · refine PySem.Froz.add_x (s := { s' with toks := s'.toks + 1 }) ho' T.ok c (by omega) ?_
      have hne : ∀ b, b ≠ S → ∀ o, s'.heap.get? b = some o → (s'.heap.update S (fun _ => sObj "set" (addTx (hashStr w z) (.str z t) D))).get? b = some o := fun b hb o e => PySem.Heap.get?_update_of_ne _ (Ne.symm hb) e
      refine wpAny_pure ⟨plainId_quiet PyProof.Rows.F.plain_set_update_loop _, ih (i + 1) _ _ (z :: l) (by omega) hlt (W.frame _ s' _ _ hst' (Nat.le_succ _) fun b hb o e => hne b (fun q => hS (q ▸ hb)) o e) (PySem.Froz.get_upd _ ho' rfl) (T.more t c) (by rw [List.length_cons]; omega) (fun k => ?_) fun s'' D2 l2 m2 a1 a2 a3 a4 => ?_⟩
      · rw [htake, List.mem_cons, hk]
        exact Or.comm
      · exact hR s'' D2 l2 (Moved.trans W.gtrans ((m'.mono hsub).then_heap (Nat.le_succ _) fun b o hb e => hne b (fun q => hb (by rw [q]; exact List.mem_cons_self)) o e) m2) a1 a2 a3 a4

abbrev set0 (w : World) : Obj := { cls := .type "set", dict := none, data := .set #[] 0 (.fresh 0 0 (!w.params.followText "set-order")) }
theorem txd0 : TxD P w (#[], 0, .fresh 0 0 (!w.params.followText "set-order")) [] :=
  ⟨PySem.Froz.TxOk.nil rfl, fun e he => by simp at he, List.Perm.refl _, List.nodup_nil, List.Pairwise.nil, by
    show _ ∨ (!w.params.followText "set-order") = true
    cases w.params.followText "set-order" <;> simp⟩

set_option maxHeartbeats 3200000 in
theorem set_row {T : String} (hT : T = "list" ∨ T = "tuple") {l : Addr} {items : Array Value} (xs : List Str) {Q : Value → Shared → Prop} (hh : A.handled = none)
    (hl : (T = "list" → s.heap.IsList l items) ∧ (T = "tuple" → s.heap.IsTuple l items)) (hi : StrsAre items.toList xs) (hb : xs.length + 1 < scanBound)
    (h : ∀ (h' : Heap) (tk : Nat) (D : SD) (ys : List Str), h'.get? s.heap.objs.size = some (sObj "set" D) → TxD P w D ys → ys.length ≤ xs.length → (∀ k, k ∈ ys ↔ k ∈ xs) →
      (∀ b o, s.heap.get? b = some o → h'.get? b = some o) → Q (.ref s.heap.objs.size) { s with heap := h', toks := tk }) :
    wpAny (model P w) A (call (.type "set") [.ref l]) Q E s := by
  have hsz : items.size = xs.length := by rw [← StrsAre.len_eq hi, Array.length_toList]
  obtain ⟨c, tl, hmro⟩ := PySem.F.called_set.mro
  have hmade := PySem.F.called_set.made
  have hsub := PySem.F.called_set.sub
  refine wpAny_call (codeAny_of_tree ?_)
  show wpAny _ _ (callAny (.type "set") _) _ _ _
  refine wpAny_pure ⟨Code.quiet_builtin _ (by decide +kernel), codeAny_builtin PySem.F.entry_type_call ?_⟩
  rw [Around.under_plain (weight_type_call_type "set" [.ref l] []) rfl]
  have h1 := PySem.F.called_set.notType
  have h2 := PySem.F.called_set.canCreate
  have hct := PySem.F.typeCall_set_1 (.ref l)
  repeat (any_goals (first | assumption | wp_step))
  refine codeAny_mono (code_set_led1 (.ref l) (E := E) (Q₁ := fun obj s₁ => obj = .ref s.heap.objs.size ∧ s₁ = { s with heap := s.heap.push (set0 w) }) ⟨rfl, rfl⟩) fun r s₁ hr => ?_
  cases r with
  | error e => exact hr
  | ok fl =>
    cases fl with
    | ret obj =>
      obtain ⟨rfl, rfl⟩ := hr
      have g1 : (s.heap.push (set0 w)).get? s.heap.objs.size = some (set0 w) := Heap.get?_push_size _ rfl
      have g2 : Shared.TypeIs { s with heap := s.heap.push (set0 w) } (.ref s.heap.objs.size) "set" := ⟨_, g1, rfl⟩
      have hli := PySem.F.called_set.init.lookup
      have hbi := PySem.F.called_set.init.bind (.ref s.heap.objs.size)
      repeat (any_goals (first | assumption | wp_step))
      refine codeAny_mono (codeAny_call_builtin (R := wants (fun r s₂ => r = .none ∧ ∃ h' tk D ys, s₂ = { s with heap := h', toks := tk } ∧ h'.get? s.heap.objs.size = some (sObj "set" D) ∧ TxD P w D ys ∧
          ys.length ≤ xs.length ∧ (∀ k, k ∈ ys ↔ k ∈ xs) ∧ (∀ b o, s.heap.get? b = some o → h'.get? b = some o)) E) PySem.F.called_set.init.plain PySem.F.entry_set_init (check_set_init_1 g2 ?_)) fun r₂ s₂ hr₂ => ?_
      · have hv : ∀ (i : Nat) (v : Value), items[i]? = some v → ∃ k t, xs[i]? = some k ∧ v = .str k t := fun i v hv => by
          have h3 : i < xs.length := by rw [← hsz]; exact (Array.getElem?_eq_some_iff.mp hv).1
          obtain ⟨t, e⟩ := SS.strs_at hi i v (by rw [Array.getElem?_toList]; exact hv)
          exact ⟨xs[i], t, List.getElem?_eq_getElem h3, by rw [e, List.getD_eq_getElem?_getD, List.getElem?_eq_getElem h3] <;> rfl⟩
        rcases hT with rfl | rfl
        · obtain ⟨⟨oc, od, odat, os⟩, hol, hc, nl, hd⟩ := hl.1 rfl
          simp only at hc hd
          subst hc; subst hd
          have g3 : (s.heap.push (set0 w)).get? l = some { cls := .type "list", dict := od, data := .seq items nl, slots := os } := Heap.get?_push_of_some _ hol
          have k1 := PySem.F.sub_list_set
          have k2 := PySem.F.sub_list_frozenset
          have k3 : (Value.type "list" == Value.type "dict") = false := by decide
          have g4 : (s.heap.push (set0 w)).IsList l items := ⟨_, g3, rfl, nl, rfl⟩
          unfold Builtin.«set.__init__» noKeywords Builtin.Frozenset.updateFrom
          generalize hPI : pyIter = PI
          wp_walk
          subst hPI
          refine wpAny_pyIter_list g4 ?_
          refine wpAny_bind (wpAny_runValue ?_)
          have h5 : l < s.heap.objs.size := Heap.lt_size hol
          have h6 : A.in1.in1.in1.handled = none := by simp [hh]
          have h7 : (s.heap.push (set0 w)).objs.size = s.heap.objs.size + 1 := Heap.size_push ..
          have h8 : l ≠ (s.heap.push (set0 w)).objs.size := by rw [h7]; exact Nat.ne_of_lt (Nat.lt_succ_of_lt h5)
          have h9 : s.heap.objs.size ∉ [(s.heap.push (set0 w)).objs.size, l] := by rw [h7]; simp only [List.mem_cons, List.not_mem_nil, or_false, not_or]; exact ⟨Nat.ne_of_lt (Nat.lt_succ_self _), Nat.ne_of_gt h5⟩
          have h10 : ∀ b, b < s.heap.objs.size → b ∉ [s.heap.objs.size, (s.heap.push (set0 w)).objs.size] := fun b hb => by rw [h7]; simp only [List.mem_cons, List.not_mem_nil, or_false, not_or]; exact ⟨Nat.ne_of_lt hb, Nat.ne_of_lt (Nat.lt_succ_of_lt hb)⟩
          refine fill ((Walks.list h6 _ l h8 items).toS) s.heap.objs.size h9 xs hsz hb hv (items.size - 0) 0 _ (#[], 0, .fresh 0 0 (!w.params.followText "set-order")) [] (by omega) (Nat.zero_le _)
            ⟨⟨_, Heap.get?_push_size _ rfl, rfl, rfl⟩, g4.push _⟩ (Heap.get?_push_of_some _ (show (s.heap.push (set0 w)).get? s.heap.objs.size = some (sObj "set" (#[], 0, .fresh 0 0 (!w.params.followText "set-order"))) from g1)) txd0 (Nat.le_refl _) (fun k => by simp) fun s' D ys m' a1 a2 a3 a4 => ?_
          obtain ⟨h', g', d', tk', os'⟩ := s'
          obtain rfl : g' = s.gens := m'.gens
          obtain rfl : d' = s.drawn := m'.drawn
          obtain rfl : os' = s.os := m'.os
          refine wpAny_pure ?_
          show wpAny _ _ (ret Value.none) _ _ _
          refine wpAny_pure ⟨rfl, h', tk', D, ys, rfl, a1, a2, by omega, a4, fun b o e => ?_⟩
          have hbl : b < s.heap.objs.size := Heap.lt_size e
          exact m'.heap b o (h10 b hbl) (Heap.get?_push_of_some _ (Heap.get?_push_of_some _ e))
        · obtain ⟨⟨oc, od, odat, os⟩, hol, hc, nl, hd⟩ := hl.2 rfl
          simp only at hc hd
          subst hc; subst hd
          have g3 : (s.heap.push (set0 w)).get? l = some { cls := .type "tuple", dict := od, data := .seq items nl, slots := os } := Heap.get?_push_of_some _ hol
          have k1 := PySem.F.sub_tuple_set
          have k2 := PySem.F.sub_tuple_frozenset
          have k3 : (Value.type "tuple" == Value.type "dict") = false := by decide
          have g4 : (s.heap.push (set0 w)).IsTuple l items := ⟨_, g3, rfl, nl, rfl⟩
          unfold Builtin.«set.__init__» noKeywords Builtin.Frozenset.updateFrom
          generalize hPI : pyIter = PI
          wp_walk
          subst hPI
          refine wpAny_pyIter_tuple g4 ?_
          refine wpAny_bind (wpAny_runValue ?_)
          have h5 : l < s.heap.objs.size := Heap.lt_size hol
          have h6 : A.in1.in1.in1.handled = none := by simp [hh]
          have h7 : (s.heap.push (set0 w)).objs.size = s.heap.objs.size + 1 := Heap.size_push ..
          have h8 : l ≠ (s.heap.push (set0 w)).objs.size := by rw [h7]; exact Nat.ne_of_lt (Nat.lt_succ_of_lt h5)
          have h9 : s.heap.objs.size ∉ [(s.heap.push (set0 w)).objs.size, l] := by rw [h7]; simp only [List.mem_cons, List.not_mem_nil, or_false, not_or]; exact ⟨Nat.ne_of_lt (Nat.lt_succ_self _), Nat.ne_of_gt h5⟩
          have h10 : ∀ b, b < s.heap.objs.size → b ∉ [s.heap.objs.size, (s.heap.push (set0 w)).objs.size] := fun b hb => by rw [h7]; simp only [List.mem_cons, List.not_mem_nil, or_false, not_or]; exact ⟨Nat.ne_of_lt hb, Nat.ne_of_lt (Nat.lt_succ_of_lt hb)⟩
          refine fill ((Walks.tuple h6 _ l h8 items).toS) s.heap.objs.size h9 xs hsz hb hv (items.size - 0) 0 _ (#[], 0, .fresh 0 0 (!w.params.followText "set-order")) [] (by omega) (Nat.zero_le _)
            ⟨⟨_, Heap.get?_push_size _ rfl, rfl, rfl⟩, g4.push _⟩ (Heap.get?_push_of_some _ (show (s.heap.push (set0 w)).get? s.heap.objs.size = some (sObj "set" (#[], 0, .fresh 0 0 (!w.params.followText "set-order"))) from g1)) txd0 (Nat.le_refl _) (fun k => by simp) fun s' D ys m' a1 a2 a3 a4 => ?_
          obtain ⟨h', g', d', tk', os'⟩ := s'
          obtain rfl : g' = s.gens := m'.gens
          obtain rfl : d' = s.drawn := m'.drawn
          obtain rfl : os' = s.os := m'.os
          refine wpAny_pure ?_
          show wpAny _ _ (ret Value.none) _ _ _
          refine wpAny_pure ⟨rfl, h', tk', D, ys, rfl, a1, a2, by omega, a4, fun b o e => ?_⟩
          have hbl : b < s.heap.objs.size := Heap.lt_size e
          exact m'.heap b o (h10 b hbl) (Heap.get?_push_of_some _ (Heap.get?_push_of_some _ e))
      · cases r₂ with
        | error e => exact hr₂
        | ok fl₂ =>
          cases fl₂ with
          | ret r =>
            obtain ⟨rfl, h', tk, D, ys, rfl, a1, a2, a3, a4, a5⟩ := hr₂
            repeat (any_goals (first | assumption | wp_step))
            exact h _ _ D ys a1 a2 a3 a4 a5
          | _ => exact hr₂.elim
    | _ => exact hr.elim

/-- the members, sorted -/
theorem sorted_txs {a : Addr} {D : SD} {l : List Str} {Q : Value → Shared → Prop} (ho : s.heap.get? a = some (sObj "set" D)) (T : TxD P w D l) (hh : A.handled = none) (h64 : l.length < 64)
    (hQ : ∀ s' p (out : Array Value) (c : Nat) (ys : List Str), (∀ b o, s.heap.get? b = some o → s'.heap.get? b = some o) → s'.gens = s.gens → s'.os = s.os → s.heap.objs.size ≤ p →
      s'.heap.get? p = some (seqObj "list" out c) → StrsAre out.toList ys → ys.Perm l → sortedS ys = true → Q (.ref p) s') :
    wpAny (model P w) A (call (.builtin "sorted") [.ref a]) Q E s := by
  obtain ⟨zs, ep, t⟩ := D
  have hsz : zs.size = l.length := T.ok.sz
  refine Calls.call_function_entry kind_sorted plain_sorted entry_sorted (args_sorted1 _) ?_
  unfold Builtin.«sorted»
  refine wpAny_bind (m := checkCount "sorted" 1 1 _) (wpAny_pure ?_)
  refine wpAny_bind (collect_set (A := A.in1) (es := zs) (ep := ep) (t := t) hh ⟨_, ho, rfl, rfl⟩ T.ok.fit (by have : scanBound = 4096 := rfl; omega) T.ris T.led fun s1 vs k1 hz g1 o1 pm => ?_)
  have hvl : vs.length = l.length := by rw [pm.length_eq, List.length_map, Array.length_toList]; exact hsz
  have hS : StrsAre vs (vs.map fun v => txOf (0, v)) := by
    have : ∀ v, v ∈ vs → ∃ k t, v = Value.str k t := fun v hv => by
      obtain ⟨e, he, q⟩ := List.mem_map.mp (pm.mem_iff.mp hv)
      obtain ⟨k, t, h1⟩ := T.vs e he
      exact ⟨k, t, by rw [← q]; exact h1⟩
    clear pm hvl
    induction vs with
    | nil => exact .nil
    | cons v vs ih =>
      obtain ⟨k, t, rfl⟩ := this v List.mem_cons_self
      exact .cons k t (ih fun u hu => this u (List.mem_cons_of_mem _ hu))
  have pl : (vs.map fun v => txOf (0, v)).Perm l := by
    have q := pm.map fun v => txOf (0, v)
    rw [List.map_map] at q
    exact q.trans T.pm
  refine wpAny_bind (wpAny_newList ?_ (by rw [hvl, sizeLine_eq]; omega))
  have hoL : (s1.heap.push (seqObj "list" vs.toArray 0)).get? s1.heap.objs.size = some (seqObj "list" vs.toArray 0) := Heap.get?_push_size _ rfl
  refine wpAny_bind (wpAny_holding (wpAny_call_entry slot_list_sort ⟨_, hoL, rfl⟩ entry_list_sort (list_sort_treeK (κ := PyProof.Rows.strKind) strKind_oneLt hoL hS.keysOf (fun v₁ v₂ rest e => keyKind_strs (by rw [← e]; exact hS)) (by rw [hvl]; exact h64) fun st' a1 a2 => ⟨_, rfl, ?_⟩) (args_list_sort _)))
  obtain ⟨ys, b1, b2, b3⟩ := sorted_out_str hS a1 a2
  obtain ⟨c, hc⟩ := sortedHeap_at (vs := vs) (out := (arrOf st').map (·.2)) hoL
  refine wpAny_pure ⟨_, rfl, hQ _ s1.heap.objs.size _ c ys (fun b u e => ?_) g1 o1 hz hc b1 (b2.trans pl) b3⟩
  have q := k1 b u e
  have hlt := Heap.lt_size q
  show (sortedHeap (s1.heap.push (seqObj "list" vs.toArray 0)) s1.heap.objs.size vs _).get? b = some u
  rw [sortedHeap_old (Nat.ne_of_lt hlt) (by rw [size_push']; exact Nat.lt_succ_of_lt hlt)]
  exact Heap.get?_push_of_some _ q
end

/-! ### as rules -/
/-- the set of the texts l at a -/
def SetX (P : Program) (w : World) (a : Addr) (l : List Str) : HO := .ext fun h => ∃ D, h.get? a = some (sObj "set" D) ∧ TxD P w D l
section
variable {X : Cx}
/-- set(xs), xs a list or a tuple of texts -/
def rSetX (K : PySem.W.Frag) (P : Program) (w : World) : List V → Hp → VK → Prop := fun vs H Q => ∃ (l : Addr) (xs : List Str), vs = [.ref l] ∧ (SqL K H l (xs.map V.str) ∨ SqT K H l (xs.map V.str)) ∧ xs.length < 64 ∧
  ∀ p ys, H p = none → ys.Nodup → (∀ k, k ∈ ys ↔ k ∈ xs) → ys.length ≤ xs.length → Q (.ref p) (upd H p (SetX P w p ys))
theorem cr_setX (hc : X.calm = true) : CallR X (.type "set") (rSetX X.K X.prog X.w) := by
  intro pins s σ H vs us Q I r h
  obtain ⟨l, xs, rfl, hq, h64, q⟩ := h
  rw [Vals.ref1 r]
  have hb : xs.length + 1 < scanBound := by have : scanBound = 4096 := rfl; omega
  have hn : H s.heap.objs.size = none := I.hok.fresh (Nat.le_refl _)
  have fin : ∀ (h' : Heap) (tk : Nat) (D : SD) (ys : List Str), h'.get? s.heap.objs.size = some (sObj "set" D) → TxD X.prog X.w D ys → ys.length ≤ xs.length → (∀ k, k ∈ ys ↔ k ∈ xs) →
      (∀ b o, s.heap.get? b = some o → h'.get? b = some o) → EP X pins σ Q (.ref s.heap.objs.size) { s with heap := h', toks := tk } := fun h' tk D ys a1 a2 a3 a4 a5 =>
    ⟨.ref s.heap.objs.size, upd H s.heap.objs.size (SetX X.prog X.w s.heap.objs.size ys), I.laid (t' := tk) a5 (Nat.le_refl _) ⟨⟨D, a1, a2⟩, ⟨_, a1⟩, fun h1 h2 ⟨D, b1, b2⟩ k => ⟨D, k _ b1, b2⟩⟩, rfl, q _ ys hn a2.nd a4 a3⟩
  rcases hq with hq | hq
  · obtain ⟨its, rv, pl, hz⟩ := I.list hq
    exact set_row (T := "list") (.inl rfl) xs (I.ok.hd hc) ⟨fun _ => pl.isList, fun e => absurd e (by decide)⟩ (by simpa using strsAre_of rv) hb fin
  · obtain ⟨its, rv, pl, hz⟩ := I.tuple hq
    exact set_row (T := "tuple") (.inr rfl) xs (I.ok.hd hc) ⟨fun e => absurd e (by decide), fun _ => pl⟩ (by simpa using strsAre_of rv) hb fin
/-- sorted(t), t a set of texts -/
def rSortX (P : Program) (w : World) : List V → Hp → VK → Prop := fun vs H Q => ∃ (a : Addr) (l : List Str), vs = [.ref a] ∧ H a = some (SetX P w a l) ∧ l.length < 64 ∧
  ∀ (ys : List Str) (p : Addr), ys.Perm l → sortedS ys = true → H p = none → Q (.ref p) (upd H p (.lst (ys.map V.str)))
theorem cr_sortX (hc : X.calm = true) : CallR X (.builtin "sorted") (rSortX X.prog X.w) := by
  intro pins s σ H vs us Q I r h
  obtain ⟨a, l, rfl, ha, h64, q⟩ := h
  rw [Vals.ref1 r]
  obtain ⟨D, ho, T⟩ : ∃ D, s.heap.get? a = some (sObj "set" D) ∧ TxD X.prog X.w D l := (I.hok a _ ha).1
  refine sorted_txs ho T (I.ok.hd hc) h64 fun s' p out c ys k g o hp hg hi pm hs => ?_
  have hlen : (ys.map V.str).length ≤ sizeLine := by rw [List.length_map, pm.length_eq, sizeLine_eq]; omega
  have hn : H p = none := I.hok.fresh hp
  have J : Inv X pins σ (upd H p (.lst (ys.map V.str))) { s with heap := s'.heap, gens := s'.gens, drawn := s'.drawn, toks := s'.toks } :=
    I.call (ch := []) (Un.laid k hp hn) (I.hok.laid k hp ⟨hlen, out.toList, c, vals_of_strs hi, hg⟩) (by rw [g]; exact I.bare) (fun _ z => nomatch z)
  have e : s' = { s with heap := s'.heap, gens := s'.gens, drawn := s'.drawn, toks := s'.toks } := by
    cases s'; cases s; cases o; rfl
  rw [e]
  exact ⟨.ref p, _, J, rfl, q ys p pm hs hn⟩
end
end TXS
end
section
set_option Elab.async false
set_option linter.all false
set_option maxRecDepth 100000
set_option maxHeartbeats 4000000
/-! what all defs' proofs share -/
namespace Wk
open PySem PySem.Spec PyProof.Rows L2 Evl
/-- a def of the text as the layer takes it -/
theorem fun_of {K : PySem.W.Frag} {x qual : Str} {st : Stmt} {f : Addr} {fd : FuncData} (F : FunD K x qual (defArgs st) (defBody st) (defScope st) [] [] f fd) : Fun K x qual st f fd := by
  obtain ⟨⟨oc, od, dV, kV, doc, pm, an, cdv, ct, osl, e, l, c, d, k⟩, kp⟩ := F
  rcases d with ⟨_, rfl⟩ | ⟨q, _⟩
  · exact ⟨⟨oc, od, kV, doc, pm, an, cdv, ct, osl, e, l, c⟩, kp⟩
  · exact (q rfl).elim
/-- a def of the module keeps its promise, and is called by its name -/
def OkD (P : Program) (w : World) (K : PySem.W.Frag) (mg : Str → Option Value) (base : Heap) (CX : CXT) (k : Nat) (x : Str) (ps : List Str) (sp : Sp) : Prop :=
  ∃ fd, FnOk P w K mg base CX k (He.ga K x) fd ps sp ∧ Binds K fd ps [] ∧ mg x = some (.ref (He.ga K x)) ∧ PySem.W.keepIn K (.ref (He.ga K x)) = true
/-- a method of a class -/
def OkM (P : Program) (w : World) (K : PySem.W.Frag) (mg : Str → Option Value) (base : Heap) (k : Nat) (C m : Str) (ps : List Str) (sp : Sp) : Prop :=
  ∃ fd, FnOk P w K mg base CX0 k (He.ma K (He.ga K C) m) fd ps sp ∧ Binds K fd ps [] ∧ Cls K (He.ga K C) ∧ Meth K (He.ga K C) m (He.ma K (He.ga K C) m)
/-- the making of an instance -/
def OkC (P : Program) (w : World) (K : PySem.W.Frag) (mg : Str → Option Value) (base : Heap) (k : Nat) (C : Str) (ps : List Str) (sp : Sp) : Prop :=
  ∃ fd, FnOk P w K mg base CX0 k (He.ma K (He.ga K C) "__init__") fd ps sp ∧ Binds K fd ps [] ∧ mg C = some (.ref (He.ga K C)) ∧ Mk K (He.ga K C) (He.ma K (He.ga K C) "__init__")
section
variable {X : Cx} {x m : Str} {p pos apos : Pos} {e o : Expr} {es : List Expr} {te ta : TE} {t : TA}
theorem pe_gi {n : Int} (h : ∃ t, X.mg x = some (.int n t)) (hg : Gl X x := by rfl) (hd : (x == ("__debug__" : Str)) = false := by decide) : PE X (.Name x pos) (tC (.int n)) :=
  let ⟨t, h⟩ := h; pe_glob hg h ⟨t, rfl⟩ hd
theorem pe_gs {z : Str} (h : ∃ t, X.mg x = some (.str z t)) (hg : Gl X x := by rfl) (hd : (x == ("__debug__" : Str)) = false := by decide) : PE X (.Name x pos) (tC (.str z)) :=
  let ⟨t, h⟩ := h; pe_glob hg h ⟨t, rfl⟩ hd
/-- an expression, a statement that is never come to -/
theorem pe_never : PE X e (fun _ _ _ => False) := ⟨fun _ _ _ _ _ _ h => h.elim⟩
end
/-! ### slots, small steps -/
theorem is_str {K : PySem.W.Frag} {H : Hp} {z : Str} {Q : VK} (q : Q (.bl true) H) : rIsi K [.str z, .ty "str"] H Q := ⟨_, _, _, _, _, rfl, .ty _, .base (.str _), kit_ty (by decide +kernel), q⟩
theorem is_ty {K : PySem.W.Frag} {H : Hp} {v : V} {m n : String} {b : Bool} {Q : VK} (ty : TyX K H v (.type m)) (h : kitB m n = some b) (q : Q (.bl b) H) : rIsi K [v, .ty n] H Q := ⟨_, _, _, _, _, rfl, .ty _, ty, kit_ty h, q⟩
theorem is_int {K : PySem.W.Frag} {H : Hp} {i : Int} {Q : VK} (q : Q (.bl true) H) : rIsi K [.int i, .ty "int"] H Q := ⟨_, _, _, _, _, rfl, .ty _, .base (.int _), kit_ty (by decide +kernel), q⟩
theorem is_int_tup {K : PySem.W.Frag} {H : Hp} {a : Addr} {xs : List V} {Q : VK} (h : H a = some (.tup xs)) (q : Q (.bl false) H) : rIsi K [.ref a, .ty "int"] H Q := ⟨_, _, _, _, _, rfl, .ty _, .base (.tup h), kit_ty (by decide +kernel), q⟩
end Wk
end
section
set_option Elab.async false
set_option linter.all false
set_option maxRecDepth 100000
set_option maxHeartbeats 4000000
/-! texts as lists of signs -/
namespace Wk
open PySem PySem.Spec PyProof.Rows L2 Evl
abbrev tx (l : List Nat) : Str := ⟨l.toArray⟩
theorem tx_toList (l : List Nat) : (tx l).cps.toList = l := rfl
theorem tx_len (l : List Nat) : (tx l).length = l.length := by show l.toArray.size = _; simp
theorem tx_of (z : Str) : tx z.cps.toList = z := by obtain ⟨a⟩ := z; rfl
theorem tx_inj {l m : List Nat} (h : tx l = tx m) : l = m := by
  have := congrArg (fun z : Str => z.cps.toList) h
  exact this
theorem tx_eq {l m : List Nat} : tx l = tx m ↔ l = m := ⟨tx_inj, fun h => by rw [h]⟩
theorem tx_app (l m : List Nat) : tx l ++ tx m = tx (l ++ m) := by
  show (⟨l.toArray ++ m.toArray⟩ : Str) = ⟨(l ++ m).toArray⟩
  simp
theorem tx_nil : ("" : Str) = tx [] := by decide
theorem cut_tx (l : List Nat) {a b : Nat} (hb : b ≤ l.length) (hab : a ≤ b) : cutS (tx l) (some (a : Int)) (some (b : Int)) = tx ((l.drop a).take (b - a)) := by
  show tx (((tx l).cps.toList.drop (HT.sIx (tx l).length 0 (some (a : Int)))).take (HT.sIx (tx l).length (tx l).length (some (b : Int)) - HT.sIx (tx l).length 0 (some (a : Int)))) = _
  rw [HT.sIx_nat, HT.sIx_nat, tx_len, Nat.min_eq_left hb, Nat.min_eq_left (Nat.le_trans hab hb)]
theorem cut_from (l : List Nat) (a : Nat) : cutS (tx l) (some (a : Int)) none = tx (l.drop a) := by
  show tx (((tx l).cps.toList.drop (HT.sIx (tx l).length 0 (some (a : Int)))).take (HT.sIx (tx l).length (tx l).length none - HT.sIx (tx l).length 0 (some (a : Int)))) = _
  rw [HT.sIx_nat, HT.sIx_none, tx_len]
  have e : (tx l).cps.toList = l := rfl
  rw [e]
  by_cases h : a ≤ l.length
  · rw [Nat.min_eq_left h, List.take_of_length_le (by rw [List.length_drop]; omega)]
  · rw [Nat.min_eq_right (by omega), List.drop_eq_nil_of_le (Nat.le_refl _), List.drop_eq_nil_of_le (show l.length ≤ a by omega)]
    simp
/-! the signs of words -/
def small : List Nat := (List.range 26).map (· + 97)
def great : List Nat := (List.range 26).map (· + 65)
def digs : List Nat := (List.range 10).map (· + 48)
def isAl (c : Nat) : Bool := decide (c ∈ small ++ great ++ digs)
theorem small_eq : ("abcdefghijklmnopqrstuvwxyz" : Str) = tx small := by decide +kernel
theorem great_eq : ("ABCDEFGHIJKLMNOPQRSTUVWXYZ" : Str) = tx great := by decide +kernel
theorem digs_eq : ("0123456789" : Str) = tx digs := by decide +kernel
/-- how many signs of a word stand ahead, at most n -/
def alen : Nat → List Nat → Nat
  | 0, _ => 0
  | _ + 1, [] => 0
  | n + 1, c :: r => if isAl c then alen n r + 1 else 0
theorem alen_le : ∀ (n : Nat) (l : List Nat), alen n l ≤ n ∧ alen n l ≤ l.length
  | 0, _ => ⟨Nat.le_refl _, Nat.zero_le _⟩
  | _ + 1, [] => ⟨Nat.zero_le _, Nat.le_refl _⟩
  | n + 1, c :: r => by
    have h := alen_le n r
    unfold alen
    split
    · simp only [List.length_cons]; omega
    · simp
/-- one more sign -/
theorem alen_step {n : Nat} {l : List Nat} {i : Nat} : i < alen n l ↔ i < n ∧ (∀ j, j ≤ i → ∃ c, l[j]? = some c ∧ isAl c = true) := by
  induction n generalizing l i with
  | zero => simp [alen]
  | succ n ih =>
    cases l with
    | nil =>
      simp only [alen, Nat.not_lt_zero, false_iff, not_and]
      intro _ h
      obtain ⟨c, hc, _⟩ := h 0 (Nat.zero_le _)
      simp at hc
    | cons a r =>
      unfold alen
      by_cases ha : isAl a = true
      · rw [if_pos ha]
        cases i with
        | zero =>
          simp only [Nat.zero_lt_succ, true_and, true_iff]
          intro j hj
          have : j = 0 := by omega
          subst this
          exact ⟨a, rfl, ha⟩
        | succ i =>
          rw [Nat.succ_lt_succ_iff, ih]
          constructor
          · rintro ⟨h1, h2⟩
            refine ⟨by omega, fun j hj => ?_⟩
            cases j with
            | zero => exact ⟨a, rfl, ha⟩
            | succ j => exact h2 j (by omega)
          · rintro ⟨h1, h2⟩
            exact ⟨by omega, fun j hj => h2 (j + 1) (by omega)⟩
      · rw [if_neg ha]
        simp only [Nat.not_lt_zero, false_iff, not_and]
        intro _ h
        obtain ⟨c, hc, h2⟩ := h 0 (Nat.zero_le _)
        have : a = c := Option.some.inj hc
        subst this
        exact ha h2
/-- the word at the beginning, none: [] -/
def goodW (w : List Nat) : Bool := match w with
  | [] => false
  | c :: r => decide (w.length ≤ 8) && (!decide (c ∈ digs) && !(r.any fun d => decide (d ∈ great)))
def wordOf (l : List Nat) : List Nat := let w := l.take (alen 9 l); if goodW w then w else []
def wd (l : List Nat) : List Nat := l.take (alen 9 l)
theorem wordOf_eq (l : List Nat) : wordOf l = if goodW (wd l) then wd l else [] := rfl
theorem goodW_eq (w : List Nat) : goodW w = ((w != [] && (decide (w.length ≤ 8) && !decide (w.headD 0 ∈ digs))) && !(w.drop 1).any fun d => decide (d ∈ great)) := by
  cases w with
  | nil => rfl
  | cons c r =>
    unfold goodW
    show _ = ((true && (decide ((c :: r).length ≤ 8) && !decide (c ∈ digs))) && !r.any fun d => decide (d ∈ great))
    rw [Bool.true_and, Bool.and_assoc]
theorem alen_next {m : List Nat} {i : Nat} (hi : i ≤ alen 9 m) : (decide (i < m.length) && (decide (i ≤ 8) && isAl (m.getD i 0))) = decide (i < alen 9 m) := by
  rw [Bool.eq_iff_iff]
  simp only [Bool.and_eq_true, decide_eq_true_eq]
  rw [alen_step]
  constructor
  · rintro ⟨h1, h2, h3⟩
    refine ⟨by omega, fun j hj => ?_⟩
    by_cases e : j = i
    · subst e
      refine ⟨m.getD j 0, ?_, h3⟩
      rw [List.getD_eq_getElem?_getD, List.getElem?_eq_getElem h1]
      rfl
    · exact ((alen_step (n := 9) (l := m) (i := j)).mp (by omega)).2 j (Nat.le_refl _)
  · rintro ⟨h1, h2⟩
    obtain ⟨c, hc, ha⟩ := h2 i (Nat.le_refl _)
    have hl := (List.getElem?_eq_some_iff.mp hc).1
    refine ⟨hl, by omega, ?_⟩
    rw [List.getD_eq_getElem?_getD, hc]
    exact ha
/-! ### readings that end in a value, for texts -/
section
variable {K : PySem.W.Frag} {σ : L2.St} {H : Hp} {ta tb te : TE}
theorem rv_addS {a b : Str} (h : a.length + b.length ≤ sizeLine) : RV (fun x y H Q => ∃ i j, x = V.str i ∧ y = V.str j ∧ i.length + j.length ≤ sizeLine ∧ Q (.str (i ++ j)) H) (.str a) (.str b) H (.str (a ++ b)) :=
  fun H1 _ _ q => ⟨a, b, rfl, rfl, h, q H1 (Ex.refl H1)⟩
theorem rv_inS {c : Nat} {z : Str} : RV (fun x y H Q => ∃ (c : Nat) (z : Str), x = V.str ⟨#[c]⟩ ∧ y = V.str z ∧ Q (.bl (decide (c ∈ z.cps.toList))) H) (.str ⟨#[c]⟩) (.str z) H (.bl (decide (c ∈ z.cps.toList))) :=
  fun H1 _ _ q => ⟨c, z, rfl, rfl, q H1 (Ex.refl H1)⟩
theorem rv_niS {c : Nat} {z : Str} : RV (fun x y H Q => ∃ (c : Nat) (z : Str), x = V.str ⟨#[c]⟩ ∧ y = V.str z ∧ Q (.bl (!decide (c ∈ z.cps.toList))) H) (.str ⟨#[c]⟩) (.str z) H (.bl (!decide (c ∈ z.cps.toList))) :=
  fun H1 _ _ q => ⟨c, z, rfl, rfl, q H1 (Ex.refl H1)⟩
theorem ev_lenS {z : Str} (h : Ev te σ H (.str z)) (hz : z.length ≤ sizeLine) : Ev (tCB (fun xs H Q => ∃ z, xs = [V.str z] ∧ z.length ≤ sizeLine ∧ Q (.int z.length) H) (tCons te tNil)) σ H (.int (z.length : Int)) :=
  fun H1 e Q q => h H1 e _ fun H2 e2 => ⟨z, rfl, hz, q H2 e2⟩
theorem ev_slS {tl th : TO} {z : Str} {lo hi : Option Int} (h : Ev te σ H (.str z)) (h1 : EvO tl σ H lo) (h2 : EvO th σ H hi) (hz : z.length ≤ sizeLine) : Ev (tSl rSlS te tl th) σ H (.str (cutS z lo hi)) :=
  fun H1 e Q q => h H1 e _ fun H2 e2 => h1 H2 (e.trans e2) _ fun H3 e3 => h2 H3 ((e.trans e2).trans e3) _ fun H4 e4 => ⟨z, rfl, hz, q H4 ((e2.trans e3).trans e4)⟩
theorem tx_sz {l : List Nat} {n : Nat} (h : l.length ≤ n) (hn : n ≤ 100000 := by decide) : (tx l).length ≤ sizeLine := by rw [tx_len]; exact sz_of (Nat.le_trans h hn)
theorem ev_ixS {l : List Nat} {i c : Nat} (ha : Ev ta σ H (.str (tx l))) (hb : Ev tb σ H (.int (i : Int))) (h : l[i]? = some c) (hl : l.length ≤ 100000) : Ev (tOp rIxS ta tb) σ H (.str (tx [c])) :=
  ev_op ha hb (rv_ixS (by rw [tx_len]; exact hl) (atI_nat h))
/-- c in SMALL + GREAT + DIGITS -/
theorem ev_al {c : Nat} (ha : Ev ta σ H (.str (tx [c]))) : Ev (tOp (fun x y H Q => ∃ (c : Nat) (z : Str), x = V.str ⟨#[c]⟩ ∧ y = V.str z ∧ Q (.bl (decide (c ∈ z.cps.toList))) H) ta
    (tOp (fun x y H Q => ∃ i j, x = V.str i ∧ y = V.str j ∧ i.length + j.length ≤ sizeLine ∧ Q (.str (i ++ j)) H)
      (tOp (fun x y H Q => ∃ i j, x = V.str i ∧ y = V.str j ∧ i.length + j.length ≤ sizeLine ∧ Q (.str (i ++ j)) H) (tC (.str "abcdefghijklmnopqrstuvwxyz")) (tC (.str "ABCDEFGHIJKLMNOPQRSTUVWXYZ"))) (tC (.str "0123456789")))) σ H (.bl (isAl c)) := by
  have e : isAl c = decide (c ∈ ((("abcdefghijklmnopqrstuvwxyz" : Str) ++ ("ABCDEFGHIJKLMNOPQRSTUVWXYZ" : Str)) ++ ("0123456789" : Str)).cps.toList) := by
    rw [small_eq, great_eq, digs_eq, tx_app, tx_app]
    rfl
  rw [e]
  exact ev_op ha (ev_op (ev_op ev_c ev_c (rv_addS (by decide))) ev_c (rv_addS (by decide))) rv_inS
end
end Wk
end
section
set_option Elab.async false
set_option linter.all false
set_option maxRecDepth 100000
set_option maxHeartbeats 4000000
/-! walks over what stands still, comprehensions, any and all -/
namespace Wk
open PySem PySem.Spec PyProof.Rows L2 Evl
/-- what is walked over: xs, as long as the heap only grows -/
def EvI (wi : TI) (σ : L2.St) (H : Hp) (xs : List V) : Prop := ∀ H1, Ex H H1 → ∀ R : It → Hp → Prop,
  (∀ J H2 (G : Hp → Prop) (Y : Nat → Hp → V → Hp → Prop), Ex H1 H2 → Walk J xs.length G Y → (∀ H3, Ex H2 H3 → G H3) → (∀ i H3 x H4, Y i H3 x H4 → H4 = H3 ∧ xs[i]? = some x) → R J H2) → wi σ H1 R
section
variable {K : PySem.W.Frag} {σ : L2.St} {H H0 : Hp} {wi : TI} {tl te ta tb : TE} {t : TT} {xs ys : List V} {D : Ends} {tu tz : TS}
theorem EvI.mono {H' : Hp} (e : Ex H H') (h : EvI wi σ H xs) : EvI wi σ H' xs := fun H1 a R q => h H1 (e.trans a) R q
theorem ei_L {a : Addr} (h : Ev tl σ H (.ref a)) (hx : SqL K H a xs) : EvI (iList K tl) σ H xs := fun H1 e R q => h H1 e _ fun H2 e2 =>
  ⟨a, rfl, ⟨xs, ex_l (e.trans e2) hx⟩, q _ H2 _ _ e2 walk_list (fun H3 e3 => ex_l ((e.trans e2).trans e3) hx) fun i H3 x H4 y => y⟩
theorem ei_NL (h : EvL tl σ H xs) : EvI (iList K tl) σ H xs := fun H1 e R q => h H1 e _ fun p H2 hp e2 hx =>
  ⟨p, rfl, ⟨xs, sq_of hx⟩, q _ H2 _ _ e2 walk_list (fun H3 e3 => ex_l e3 (sq_of hx)) fun i H3 x H4 y => y⟩
theorem ei_T {a : Addr} (h : Ev tl σ H (.ref a)) (hx : SqT K H a xs) : EvI (iTup K tl) σ H xs := fun H1 e R q => h H1 e _ fun H2 e2 =>
  ⟨a, rfl, ⟨xs, ex_t (e.trans e2) hx⟩, q _ H2 _ _ e2 walk_tup (fun H3 e3 => ex_t ((e.trans e2).trans e3) hx) fun i H3 x H4 y => y⟩
/-- the signs of a text as values -/
def chs (l : List Nat) : List V := l.map fun c => .str (tx [c])
theorem ei_S {l : List Nat} (h : Ev tl σ H (.str (tx l))) : EvI (iStr tl) σ H (chs l) := fun H1 e R q => h H1 e _ fun H2 e2 =>
  ⟨_, rfl, q _ H2 (fun _ => True) (fun i H v H' => H' = H ∧ ∃ c, (tx l).cps[i]? = some c ∧ v = .str ⟨#[c]⟩) e2 (by
    have h : (chs l).length = (tx l).cps.size := by unfold chs; rw [List.length_map]; simp
    rw [h]
    exact walk_str) (fun _ _ => trivial) fun i H3 x H4 ⟨y1, c, y2, y3⟩ => ⟨y1, by
      subst y3
      unfold chs
      rw [List.getElem?_map]
      have : l[i]? = some c := by
        have e : (tx l).cps = l.toArray := rfl
        rw [e] at y2
        simpa using y2
      rw [this]
      rfl⟩⟩
theorem ei_K {d : Addr} {o : Obj} {kvs : List (Key × V)} (h : Ev tl σ H (.ref d)) (hx : H d = some (.frz o (.dK kvs))) : EvI (iKeys tl) σ H (kvs.map fun p => kV p.1) := fun H1 e R q => h H1 e _ fun H2 e2 =>
  ⟨d, o, rfl, .inl ⟨kvs, e2 _ _ (e _ _ hx), q _ H2 (fun H => H d = some (.frz o (.dK kvs))) (fun i H x H' => H' = H ∧ ∃ k v, kvs[i]? = some (k, v) ∧ x = kV k) e2 (by rw [List.length_map]; exact walk_keys) (fun H3 e3 => e3 _ _ (e2 _ _ (e _ _ hx))) fun i H3 x H4 ⟨y1, k, v, y2, y3⟩ => ⟨y1, by
    subst y3
    rw [List.getElem?_map, y2]
    rfl⟩⟩⟩
theorem ei_R {n : Nat} (h : EvA ta2 σ H [.int (n : Int)]) (hn : n ≤ 100000) : EvI (iRng1 ta2) σ H ((List.range n).map fun (i : Nat) => V.int (i : Int)) := fun H1 e R q => h H1 e _ fun H2 e2 =>
  ⟨n, rfl, by omega, by omega, q _ H2 (fun _ => True) (fun i H v H' => i < n ∧ H' = H ∧ v = .int (i : Int)) e2 (by
    have : ((List.range n).map fun (i : Nat) => V.int (i : Int)).length = (n : Int).toNat := by simp
    rw [this]
    exact (walk_range (lo := 0)).mono (fun _ h => h) fun i H x H' hi _ y => ⟨by omega, y.1, by rw [y.2]; show V.int (0 + (i : Int)) = _; rw [Int.zero_add]⟩) (fun _ _ => trivial) fun i H3 x H4 y => by
      obtain ⟨y0, y1, y2⟩ := y
      refine ⟨y1, ?_⟩
      rw [List.getElem?_map, List.getElem?_range y0, y2]
      rfl⟩
/-- a comprehension: those that f keeps, each by v -/
theorem el_lc {α : Type} {as : List α} {inj : α → V} {j : Nat} {vs : List Nat} (f : α → Bool) (v : α → V) (hI : EvI wi σ H (as.map inj)) (hz : as.length ≤ 40000) (hw : ∀ x, wipe ((wipe σ vs).set j (some x)) vs = wipe σ vs)
    (ht : ∀ x, x ∈ as → ∀ H1, Ex H H1 → EvT t ((wipe σ vs).set j (some (inj x))) H1 (f x)) (he : ∀ x, x ∈ as → ∀ H1, Ex H H1 → f x = true → Ev te ((wipe σ vs).set j (some (inj x))) H1 (v x)) :
    EvL (tLc wi (gName j) t te vs) σ H ((as.filter f).map v) := fun H0 e Q q => hI H0 e _ fun J H1 G Y e1 W hG hY Dl hD =>
  lc_it W (fun i H' => H1 Dl = none ∧ Ex H1 H' ∧ H' Dl = some (.lst (((as.take i).filter f).map v))) ⟨hD, Ex.new hD, by rw [upd_same]; rfl⟩ (fun i H' _ p => hG _ p.2.1) (fun i x0 H' H'' hi p y => by
    obtain ⟨rfl, hx0⟩ := hY _ _ _ _ y
    obtain ⟨p1, p2, p3⟩ := p
    rw [List.getElem?_map] at hx0
    obtain ⟨x, hx, rfl⟩ := Option.map_eq_some_iff.mp hx0
    have hm : x ∈ as := List.mem_of_getElem? hx
    rw [List.length_map] at hi
    have hlt : ((as.take i).filter f).length ≤ i := Nat.le_trans (List.length_filter_le _ _) (by rw [List.length_take]; omega)
    have ht1 : as.take (i + 1) = as.take i ++ [x] := by rw [List.take_add_one, hx]; rfl
    refine ⟨hw _, ht x hm H1 (e.trans e1) H'' p2 _ fun H3 e3 => ?_⟩
    cases hf : f x with
    | true =>
      refine he x hm H1 (e.trans e1) hf H3 (p2.trans e3) _ fun H4 e4 => ⟨_, e4 Dl _ (e3 Dl _ p3), sz_lt (by rw [List.length_map]; omega), p1, Ex.mut ((p2.trans e3).trans e4) p1, ?_⟩
      rw [upd_same, ht1, List.filter_append, List.map_append, List.filter_cons, if_pos hf]
      rfl
    | false =>
      refine ⟨p1, p2.trans e3, ?_⟩
      rw [ht1, List.filter_append, List.map_append, List.filter_cons, if_neg (by rw [hf]; decide)]
      show H3 Dl = some (.lst (_ ++ []))
      rw [List.append_nil]
      exact e3 Dl _ p3) (fun H' p => by
    have e2 : as.take (as.map inj).length = as := by rw [List.length_map]; exact List.take_length
    have p3 := p.2.2
    rw [e2] at p3
    exact q Dl H' (fresh_back e1 p.1) (e1.trans p.2.1) p3)
theorem et_yes : EvT tYes σ H true := fun H1 _ _ q => q H1 (Ex.refl H1)
/-- the comprehension without a condition -/
theorem el_map {α : Type} {as : List α} {inj : α → V} {j : Nat} {vs : List Nat} (v : α → V) (hI : EvI wi σ H (as.map inj)) (hz : as.length ≤ 40000) (hw : ∀ x, wipe ((wipe σ vs).set j (some x)) vs = wipe σ vs)
    (he : ∀ x, x ∈ as → ∀ H1, Ex H H1 → Ev te ((wipe σ vs).set j (some (inj x))) H1 (v x)) : EvL (tLc wi (gName j) tYes te vs) σ H (as.map v) := by
  have h := el_lc (t := tYes) (te := te) (fun _ => true) v hI hz hw (fun _ _ _ _ => et_yes) (fun x hx H1 e _ => he x hx H1 e)
  rwa [List.filter_eq_self.mpr (fun _ _ => rfl)] at h
theorem ev_any {bs : List Bool} (h : EvL te σ H (bs.map V.bl)) : Ev (tCB (rAny K) (tCons te tNil)) σ H (.bl (bs.any id)) := fun H1 e Q q => h H1 e _ fun p H2 hp e2 hx => ⟨p, bs, rfl, sq_of hx, q H2 e2⟩
theorem ev_all {bs : List Bool} (h : EvL te σ H (bs.map V.bl)) : Ev (tCB (rAll K) (tCons te tNil)) σ H (.bl (bs.all id)) := fun H1 e Q q => h H1 e _ fun p H2 hp e2 hx => ⟨p, bs, rfl, sq_of hx, q H2 e2⟩
/-- all and any over a comprehension without a condition -/
theorem ev_allc {α : Type} {as : List α} {inj : α → V} {j : Nat} {vs : List Nat} (p : α → Bool) (hI : EvI wi σ H (as.map inj)) (hz : as.length ≤ 40000) (hw : ∀ x, wipe ((wipe σ vs).set j (some x)) vs = wipe σ vs)
    (he : ∀ x, x ∈ as → ∀ H1, Ex H H1 → Ev te ((wipe σ vs).set j (some (inj x))) H1 (.bl (p x))) : Ev (tCB (rAll K) (tCons (tLc wi (gName j) tYes te vs) tNil)) σ H (.bl (as.all p)) := by
  have h := el_map (te := te) (fun x => .bl (p x)) hI hz hw he
  have e : as.map (fun x => V.bl (p x)) = (as.map p).map V.bl := by rw [List.map_map]; rfl
  rw [e] at h
  have g := ev_all (K := K) h
  rwa [show (as.map p).all id = as.all p by rw [List.all_map]; rfl] at g
theorem ev_anyc {α : Type} {as : List α} {inj : α → V} {j : Nat} {vs : List Nat} (p : α → Bool) (hI : EvI wi σ H (as.map inj)) (hz : as.length ≤ 40000) (hw : ∀ x, wipe ((wipe σ vs).set j (some x)) vs = wipe σ vs)
    (he : ∀ x, x ∈ as → ∀ H1, Ex H H1 → Ev te ((wipe σ vs).set j (some (inj x))) H1 (.bl (p x))) : Ev (tCB (rAny K) (tCons (tLc wi (gName j) tYes te vs) tNil)) σ H (.bl (as.any p)) := by
  have h := el_map (te := te) (fun x => .bl (p x)) hI hz hw he
  have e : as.map (fun x => V.bl (p x)) = (as.map p).map V.bl := by rw [List.map_map]; rfl
  rw [e] at h
  have g := ev_any (K := K) h
  rwa [show (as.map p).any id = as.any p by rw [List.any_map]; rfl] at g
end
end Wk
end
section
set_option Elab.async false
set_option linter.all false
set_option maxRecDepth 100000
set_option maxHeartbeats 4000000
/-! instances, what stands still when something changes -/
namespace Wk
open PySem PySem.Spec PyProof.Rows L2 Evl
/-- tuples never change -/
def Tu (H H' : Hp) : Prop := ∀ p xs, H p = some (.tup xs) → H' p = some (.tup xs)
theorem Tu.refl (H : Hp) : Tu H H := fun _ _ h => h
theorem Tu.trans {H H1 H2 : Hp} (a : Tu H H1) (b : Tu H1 H2) : Tu H H2 := fun p xs h => b p xs (a p xs h)
theorem Tu.of {H H' : Hp} (e : Ex H H') : Tu H H' := fun p xs h => e p _ h
theorem Tu.ins {H : Hp} {a C dx C' dx' : Addr} {fs fs' : List (Str × V)} (h : H a = some (.ins C dx fs)) : Tu H (upd H a (.ins C' dx' fs')) := fun p xs hp => by
  have : p ≠ a := fun e => by subst e; rw [h] at hp; cases hp
  rw [upd_ne this]; exact hp
theorem Tu.lst {H : Hp} {a : Addr} {xs ys : List V} (h : H a = some (.lst xs)) : Tu H (upd H a (.lst ys)) := fun p zs hp => by
  have : p ≠ a := fun e => by subst e; rw [h] at hp; cases hp
  rw [upd_ne this]; exact hp
theorem ex_del (H : Hp) (a : Addr) : Ex (del H a) H := fun b o h => by
  by_cases e : b = a
  · subst e; rw [del_same] at h; cases h
  · rw [del_ne e] at h; exact h
theorem del_none {H : Hp} {a b : Addr} (h : H b = none) : del H a b = none := by
  by_cases e : b = a
  · subst e; exact del_same
  · rw [del_ne e]; exact h
/-- what grows but for a, with something else at a -/
theorem ex_upd_del {H H' : Hp} {a : Addr} {o : HO} (e : Ex (del H a) H') : Ex (del H a) (upd H' a o) := Ex.mut e del_same
theorem few {n : Nat} (h : Nat.ble (n + 1) 1000 = true) : n < 1000 := Nat.le_of_ble_eq_true h
theorem few5' {n : Nat} (h : Nat.ble n 100000 = true) : n ≤ sizeLine := sz_of (Nat.le_of_ble_eq_true h)
theorem few5 {n : Nat} (h : Nat.ble n 100000 = true) : n ≤ 100000 := Nat.le_of_ble_eq_true h
theorem nq_of {H : Hp} {a b : Addr} {o u : HO} (ha : H a = some o) (hb : H b = some u) (h : o ≠ u) : a ≠ b := fun e => by subst e; rw [ha] at hb; exact h (Option.some.inj hb)
theorem ne_new {H : Hp} {a b : Addr} {o : HO} (ha : H a = some o) (hb : H b = none) : a ≠ b := fun e => by subst e; rw [ha] at hb; cases hb
section
variable {K : PySem.W.Frag} {σ : L2.St} {H H0 : Hp} {tl te ta tb tv : TE} {tr : TA} {xs ys : List V} {D : Ends} {tu tz : TS} {v : V} {f : Str} {C dx x : Addr} {fs : List (Str × V)}
theorem ev_fld (h : Ev ta σ H (.ref x)) (hx : H x = some (.ins C dx fs)) (c : Cls K C) (n : NoAttr K C f) (l : fs.lookup f = some v) : Ev (tFld K ta f) σ H v := fun H1 e Q q =>
  h H1 e _ fun H2 e2 => ⟨x, C, dx, fs, v, rfl, e2 _ _ (e _ _ hx), c, n, l, q H2 e2⟩
theorem s_fld (h : Ev tv σ H v) (ho : Ev ta σ H (.ref x)) (hx : H x = some (.ins C dx fs)) (c : Cls K C) (n : NoAttr K C f) (hl : fs.length < 1000) (k : ∀ H1, Ex H H1 → D.nx σ (upd H1 x (.ins C dx (putF f v fs)))) : sFld K ta tv f D σ H :=
  h H (Ex.refl H) _ fun H1 e1 => ho H1 e1 _ fun H2 e2 => ⟨x, C, dx, fs, rfl, e2 _ _ (e1 _ _ hx), c, n, hl, k H2 (e1.trans e2)⟩
theorem q_fld (h : Ev tv σ H v) (ho : Ev ta σ H (.ref x)) (hx : H x = some (.ins C dx fs)) (c : Cls K C) (n : NoAttr K C f) (hl : fs.length < 1000) (k : ∀ H1, Ex H H1 → tz D σ (upd H1 x (.ins C dx (putF f v fs)))) : tSeq (sFld K ta tv f) tz D σ H :=
  s_fld (D := { D with nx := tz D }) h ho hx c n hl k
theorem s_fldL (h : EvL tv σ H xs) (ho : Ev ta σ H (.ref x)) (hx : H x = some (.ins C dx fs)) (c : Cls K C) (n : NoAttr K C f) (hl : fs.length < 1000) (k : ∀ p H1, H p = none → Ex H H1 → H1 p = some (.lst xs) → D.nx σ (upd H1 x (.ins C dx (putF f (.ref p) fs)))) : sFld K ta tv f D σ H :=
  h H (Ex.refl H) _ fun p H1 hp e1 h1 => ho H1 e1 _ fun H2 e2 => ⟨x, C, dx, fs, rfl, e2 _ _ (e1 _ _ hx), c, n, hl, k p H2 hp (e1.trans e2) (e2 _ _ h1)⟩
theorem q_fldL (h : EvL tv σ H xs) (ho : Ev ta σ H (.ref x)) (hx : H x = some (.ins C dx fs)) (c : Cls K C) (n : NoAttr K C f) (hl : fs.length < 1000) (k : ∀ p H1, H p = none → Ex H H1 → H1 p = some (.lst xs) → tz D σ (upd H1 x (.ins C dx (putF f (.ref p) fs)))) : tSeq (sFld K ta tv f) tz D σ H :=
  s_fldL (D := { D with nx := tz D }) h ho hx c n hl k
theorem s_faug {a b : Int} (ho : Ev ta σ H (.ref x)) (h : Ev tv σ H (.int b)) (hx : H x = some (.ins C dx fs)) (c : Cls K C) (n : NoAttr K C f) (l : fs.lookup f = some (.int a)) (hl : fs.length < 1000) (k : ∀ H1, Ex H H1 → D.nx σ (upd H1 x (.ins C dx (putF f (.int (a + b)) fs)))) : sFldAug K ta tv rAdd f D σ H :=
  ho H (Ex.refl H) _ fun H1 e1 => ⟨x, C, dx, fs, _, rfl, e1 _ _ hx, c, n, l, h H1 e1 _ fun H2 e2 => ⟨a, b, rfl, rfl, dx, fs, e2 _ _ (e1 _ _ hx), hl, k H2 (e1.trans e2)⟩⟩
theorem q_faug {a b : Int} (ho : Ev ta σ H (.ref x)) (h : Ev tv σ H (.int b)) (hx : H x = some (.ins C dx fs)) (c : Cls K C) (n : NoAttr K C f) (l : fs.lookup f = some (.int a)) (hl : fs.length < 1000) (k : ∀ H1, Ex H H1 → tz D σ (upd H1 x (.ins C dx (putF f (.int (a + b)) fs)))) : tSeq (sFldAug K ta tv rAdd f) tz D σ H :=
  s_faug (D := { D with nx := tz D }) ho h hx c n l hl k
/-- x = o.pop() -/
theorem q_pop {l : Addr} {i : Nat} {y : V} (hl : H l = some (.lst xs)) (ha : Ev ta σ H (.ref l)) (hy : xs[xs.length - 1]? = some y) (k : ∀ H1, Ex H H1 → tz D (σ.set i (some y)) (upd H1 l (.lst xs.dropLast))) : tSeq (tAsg (tBM0 K "list" rPop ta) (gName i)) tz D σ H :=
  ha H (Ex.refl H) _ fun H1 e1 => ⟨Or.inl ⟨rfl, xs, sq_of (e1 l _ hl)⟩, l, xs, y, rfl, rfl, e1 _ _ hl, hy, k H1 e1⟩
/-- (e, o.pop()) -/
theorem s_tupPop {l : Addr} {y : V} {Q : VK} (h : Ev te σ H v) (ha : Ev ta σ H (.ref l)) (hl : H l = some (.lst xs)) (hy : xs[xs.length - 1]? = some y) (k : ∀ p H1, Ex H H1 → upd H1 l (.lst xs.dropLast) p = none → Q (.ref p) (upd (upd H1 l (.lst xs.dropLast)) p (.tup [v, y]))) :
    tTup (tCons te (tCons (tBM0 K "list" rPop ta) tNil)) σ H Q := h H (Ex.refl H) _ fun H1 e1 => ha H1 e1 _ fun H2 e2 => ⟨Or.inl ⟨rfl, xs, sq_of ((e1.trans e2) l _ hl)⟩, l, xs, y, rfl, rfl, (e1.trans e2) _ _ hl, hy, few5' rfl, fun p hp => k p H2 (e1.trans e2) hp⟩
/-- o.pop() -/
theorem q_dropPop {l : Addr} {y : V} (hl : H l = some (.lst xs)) (ha : Ev ta σ H (.ref l)) (hy : xs[xs.length - 1]? = some y) (k : ∀ H1, Ex H H1 → tz D σ (upd H1 l (.lst xs.dropLast))) : tSeq (tDrop (tBM0 K "list" rPop ta)) tz D σ H :=
  ha H (Ex.refl H) _ fun H1 e1 => ⟨Or.inl ⟨rfl, xs, sq_of (e1 l _ hl)⟩, l, xs, y, rfl, rfl, e1 _ _ hl, hy, k H1 e1⟩
/-- x = {} -/
theorem q_dnew {i : Nat} (k : ∀ p H1, H p = none → Ex H H1 → H1 p = some (.dK []) → tz D (σ.set i (some (.ref p))) H1) : tSeq (tAsg tDNewK (gName i)) tz D σ H := fun p hp => k p _ hp (Ex.new hp) upd_same
/-- the call of a method that gives a value and only grows -/
theorem ev_meth {m : Str} {sp : Sp} {E : XK} {vs : List V} (ho : Ev ta σ H (.ref x)) (hx : H x = some (.ins C dx fs)) (hm : fs.lookup m = none) (h : EvA tr σ H vs) (hs : SpV sp (.ref x :: vs) H v) : Ev (tMeth C m sp [] E ta tr) σ H v := fun H1 e Q q =>
  ho H1 e _ fun H2 e2 => ⟨x, dx, fs, rfl, e2 _ _ (e _ _ hx), hm, h H2 (e.trans e2) _ fun H3 e3 => by
    rw [List.append_nil]
    exact hs H3 ((e.trans e2).trans e3) Q (fun H4 e4 => q H4 ((e2.trans e3).trans e4)) E⟩
end
end Wk
end
section
set_option Elab.async false
set_option linter.all false
set_option maxRecDepth 100000
set_option maxHeartbeats 4000000
/-! the reading of terms without variables: the state by itself -/
namespace Wk
open PySem PySem.Spec PyProof.Rows L2 Evl
abbrev Sg := List Nat × Nat
structure RS where
  pl : Nat
  sg : List Sg
  sp : List Nat
  ct : List Nat
structure RA where
  x : Addr
  dx : Addr
  a : Addr
  b : Addr
  c : Addr
  nm : Addr
def SgOk (H : Hp) (v : V) (z : Sg) : Prop := ∃ p, v = .ref p ∧ H p = some (.tup [.str (tx z.1), .int (z.2 : Int)])
def SgL (H : Hp) (vs : List V) (zs : List Sg) : Prop := vs.length = zs.length ∧ ∀ (i : Nat) v z, vs[i]? = some v → zs[i]? = some z → SgOk H v z
theorem SgOk.tu {H H' : Hp} {v : V} {z : Sg} (t : Tu H H') (h : SgOk H v z) : SgOk H' v z := let ⟨p, e, h⟩ := h; ⟨p, e, t p _ h⟩
theorem SgL.tu {H H' : Hp} {vs : List V} {zs : List Sg} (t : Tu H H') (h : SgL H vs zs) : SgL H' vs zs := ⟨h.1, fun i v z a b => (h.2 i v z a b).tu t⟩
theorem SgL.nil (H : Hp) : SgL H [] [] := ⟨rfl, fun i v z a _ => by simp at a⟩
theorem SgL.app {H : Hp} {vs : List V} {zs : List Sg} {v : V} {z : Sg} (h : SgL H vs zs) (o : SgOk H v z) : SgL H (vs ++ [v]) (zs ++ [z]) := by
  obtain ⟨h1, h2⟩ := h
  refine ⟨by simp [h1], fun i u y a b => ?_⟩
  by_cases hi : i < vs.length
  · rw [List.getElem?_append_left hi] at a
    rw [List.getElem?_append_left (by omega)] at b
    exact h2 i u y a b
  · rw [List.getElem?_append_right (by omega)] at a
    rw [List.getElem?_append_right (by omega)] at b
    have : i - vs.length = 0 := by
      have := (List.getElem?_eq_some_iff.mp a).1
      simp at this
      omega
    rw [this] at a
    rw [← h1, this] at b
    cases a; cases b
    exact o
theorem SgL.set {H : Hp} {vs : List V} {zs : List Sg} {v : V} {z : Sg} {k : Nat} (h : SgL H vs zs) (o : SgOk H v z) : SgL H (vs.set k v) (zs.set k z) := by
  obtain ⟨h1, h2⟩ := h
  refine ⟨by simp [h1], fun i u y a b => ?_⟩
  rw [List.getElem?_set] at a b
  by_cases hi : k = i
  · subst hi
    rw [if_pos rfl] at a b
    split at a
    · split at b
      · cases a; cases b; exact o
      · cases b
    · cases a
  · rw [if_neg hi] at a b
    exact h2 i u y a b
def nis (ns : List Nat) : List V := ns.map fun (n : Nat) => V.int (n : Int)
theorem nis_len (ns : List Nat) : (nis ns).length = ns.length := List.length_map ..
theorem nis_last {ns : List Nat} (h : ns ≠ []) : (nis ns)[(nis ns).length - 1]? = some (.int ((ns.getLastD 0 : Nat) : Int)) := by
  rw [nis_len]
  unfold nis
  rw [List.getElem?_map, ← List.getLast?_eq_getElem?, List.getLast?_eq_some_getLast h]
  show some (V.int _) = _
  congr 3
  rw [List.getLastD_eq_getLast?, List.getLast?_eq_some_getLast h]
  rfl
theorem nis_drop (ns : List Nat) : (nis ns).dropLast = nis ns.dropLast := by unfold nis; rw [List.map_dropLast]
def Own (B : Hp) (R : RA) : Prop := B R.x = none ∧ B R.a = none ∧ B R.b = none ∧ B R.c = none ∧ R.a ≠ R.b ∧ R.a ≠ R.c ∧ R.b ≠ R.c
def fsR (l : List Nat) (R : RA) (n : Nat) : List (Str × V) := [("text", .str (tx l)), ("numbers", .ref R.nm), ("place", .int (n : Int)), ("signs", .ref R.a), ("spots", .ref R.b), ("counts", .ref R.c)]
def fsR' (l : List Nat) (R : RA) (n : Int) : List (Str × V) := [("text", .str (tx l)), ("numbers", .ref R.nm), ("place", .int n), ("signs", .ref R.a), ("spots", .ref R.b), ("counts", .ref R.c)]
structure Rdg (K : PySem.W.Frag) (l : List Nat) (R : RA) (s : RS) (H : Hp) : Prop where
  ins : H R.x = some (.ins (He.ga K "Reading") R.dx (fsR l R s.pl))
  sgs : ∃ vs, H R.a = some (.lst vs) ∧ SgL H vs s.sg
  sps : H R.b = some (.lst (nis s.sp))
  cts : H R.c = some (.lst (nis s.ct))
section
variable {K : PySem.W.Frag} {l : List Nat} {R : RA} {s : RS} {H H' : Hp}
theorem Rdg.mono (h : Rdg K l R s H) (e : Ex H H') : Rdg K l R s H' := ⟨e _ _ h.ins, let ⟨vs, a, b⟩ := h.sgs; ⟨vs, e _ _ a, b.tu (.of e)⟩, e _ _ h.sps, e _ _ h.cts⟩
theorem Rdg.place (h : Rdg K l R s H) (n : Nat) : Rdg K l R { s with pl := n } (upd H R.x (.ins (He.ga K "Reading") R.dx (fsR l R n))) := by
  obtain ⟨h1, ⟨vs, h2, h3⟩, h4, h5⟩ := h
  refine ⟨upd_same, ⟨vs, ?_, h3.tu (.ins h1)⟩, ?_, ?_⟩
  · rw [upd_ne (nq_of h2 h1 (by intro h; cases h))]; exact h2
  · rw [upd_ne (nq_of h4 h1 (by intro h; cases h))]; exact h4
  · rw [upd_ne (nq_of h5 h1 (by intro h; cases h))]; exact h5
theorem Rdg.signs (h : Rdg K l R s H) {B : Hp} (o : Own B R) {vs : List V} {zs : List Sg} (g : SgL H vs zs) : Rdg K l R { s with sg := zs } (upd H R.a (.lst vs)) := by
  obtain ⟨h1, ⟨us, h2, h3⟩, h4, h5⟩ := h
  refine ⟨?_, ⟨vs, upd_same, g.tu (.lst h2)⟩, ?_, ?_⟩
  · rw [upd_ne (nq_of h1 h2 (by intro h; cases h))]; exact h1
  · rw [upd_ne (Ne.symm o.2.2.2.2.1)]; exact h4
  · rw [upd_ne (Ne.symm o.2.2.2.2.2.1)]; exact h5
theorem Rdg.spots (h : Rdg K l R s H) {B : Hp} (o : Own B R) (ns : List Nat) : Rdg K l R { s with sp := ns } (upd H R.b (.lst (nis ns))) := by
  obtain ⟨h1, ⟨us, h2, h3⟩, h4, h5⟩ := h
  refine ⟨?_, ⟨us, ?_, h3.tu (.lst h4)⟩, upd_same, ?_⟩
  · rw [upd_ne (nq_of h1 h4 (by intro h; cases h))]; exact h1
  · rw [upd_ne o.2.2.2.2.1]; exact h2
  · rw [upd_ne (Ne.symm o.2.2.2.2.2.2)]; exact h5
theorem Rdg.counts (h : Rdg K l R s H) {B : Hp} (o : Own B R) (ns : List Nat) : Rdg K l R { s with ct := ns } (upd H R.c (.lst (nis ns))) := by
  obtain ⟨h1, ⟨us, h2, h3⟩, h4, h5⟩ := h
  refine ⟨?_, ⟨us, ?_, h3.tu (.lst h5)⟩, ?_, upd_same⟩
  · rw [upd_ne (nq_of h1 h5 (by intro h; cases h))]; exact h1
  · rw [upd_ne o.2.2.2.2.2.1]; exact h2
  · rw [upd_ne o.2.2.2.2.2.2]; exact h4
end
/-! what the methods do -/
def NoG (l : List Nat) : Prop := ∀ c, c ∈ l → c ∉ great
def putW (l : List Nat) (s : RS) : RS := { s with pl := s.pl + (wordOf (l.drop s.pl)).length, sg := s.sg ++ [(wordOf (l.drop s.pl), 0)] }
def openN (s : RS) : RS := { s with pl := s.pl + 1, sp := s.sp ++ [s.sg.length - 1], ct := s.ct ++ [1] }
def closeN (s : RS) : RS := { pl := s.pl + 1, sg := s.sg.set (s.sp.getLastD 0) ((s.sg.getD (s.sp.getLastD 0) ([], 0)).1, s.ct.getLastD 0), sp := s.sp.dropLast, ct := s.ct.dropLast }
/-- a word is a beginning -/
theorem wordOf_sub (l : List Nat) : ∀ c, c ∈ wordOf l → c ∈ l := by
  intro c h
  rw [wordOf_eq] at h
  split at h
  · exact List.mem_of_mem_take h
  · cases h
end Wk
end
section
set_option Elab.async false
set_option linter.all false
set_option maxRecDepth 100000
set_option maxHeartbeats 4000000
/-! xs[i] op= e for a list -/
namespace Wk
open PySem PySem.Spec PyProof.Rows L2 Evl
section
variable {X : Cx}
theorem get_list : PGet X (rIxL X.K) := by
  intro pins s σ H x y v u Q I rx ry h
  obtain ⟨p, xs, i, z, rfl, rfl, hq, he, q⟩ := h
  cases rx
  obtain ⟨t, rfl⟩ := ry
  obtain ⟨its, r, pl, hz⟩ := I.list hq
  obtain ⟨j, h1, h2, h3, h4, h5⟩ := atI_get he
  obtain ⟨w, ew, rw'⟩ := r.get h2
  have hl := r.length
  have hn := line63
  have fin : EP X pins σ Q w s := ⟨z, H, I, rw', q⟩
  by_cases h0 : 0 ≤ i
  · have hj : i.toNat = j := by
      rw [seqIndex_of h0 h5] at h1
      exact Option.some.inj h1
    exact wpAny_getItem_list pl.isList h0 (by omega) (by rw [hj]; simpa using ew) fin
  · have hj : (i + (its.toArray.size : Int)).toNat = j := by
      rw [seqIndex_neg (by omega) h4] at h1
      rw [List.size_toArray, ← hl]
      exact Option.some.inj h1
    exact wpAny_getItem_list_neg (Q := EP X pins σ Q) pl.isList (by omega) (by rw [List.size_toArray] <;> omega) (by omega) (by rw [hj]; simpa using ew) fin
end
section
variable {K : PySem.W.Frag} {σ : L2.St} {H : Hp} {ta ti te : TE} {xs : List V} {D : Ends} {tz : TS}
theorem ixN_last {n : Nat} (h : 0 < n) : ixN n (-1) = some (n - 1) := by
  unfold ixN
  rw [if_neg (by decide), if_pos (by omega)]
  congr 1
  omega
theorem atI_last {α : Type} {xs : List α} {a : α} (h : xs[xs.length - 1]? = some a) : atI xs (-1) = some a := by
  have : 0 < xs.length := by
    have := (List.getElem?_eq_some_iff.mp h).1
    omega
  unfold atI
  rw [ixN_last this]
  exact h
theorem last_app {α : Type} (xs : List α) (a : α) : (xs ++ [a])[(xs ++ [a]).length - 1]? = some a := by
  rw [List.length_append, List.length_singleton, Nat.add_sub_cancel, List.getElem?_append_right (Nat.le_refl _), Nat.sub_self]
  rfl
/-- xs[-1] op= e -/
theorem s_augLast {l : Addr} {f : Int → Int → Int} {a b : Int} (ho : Ev ta σ H (.ref l)) (hi : Ev ti σ H (.int (-1))) (he : Ev te σ H (.int b)) (hl : H l = some (.lst (xs ++ [.int a]))) (k : ∀ H1, Ex H H1 → D.nx σ (upd H1 l (.lst (xs ++ [.int (f a b)])))) :
    tAugS ta ti te (rIxL K) (ipI f) rSetL D σ H := ho H (Ex.refl H) _ fun H1 e1 => hi H1 e1 _ fun H2 e2 =>
  ⟨l, xs ++ [.int a], -1, .int a, rfl, rfl, sq_of ((e1.trans e2) _ _ hl), atI_last (last_app _ _), he H2 (e1.trans e2) _ fun H3 e3 => ⟨a, b, rfl, rfl, l, xs ++ [.int a], -1, xs.length, rfl, rfl, ((e1.trans e2).trans e3) _ _ hl, by
    rw [List.length_append, List.length_singleton, ixN_last (by omega), Nat.add_sub_cancel], by
    rw [List.set_append_right _ _ (Nat.le_refl _), Nat.sub_self]
    exact k H3 ((e1.trans e2).trans e3)⟩⟩
theorem q_augLast {l : Addr} {f : Int → Int → Int} {a b : Int} (ho : Ev ta σ H (.ref l)) (hi : Ev ti σ H (.int (-1))) (he : Ev te σ H (.int b)) (hl : H l = some (.lst (xs ++ [.int a]))) (k : ∀ H1, Ex H H1 → tz D σ (upd H1 l (.lst (xs ++ [.int (f a b)])))) :
    tSeq (tAugS ta ti te (rIxL K) (ipI f) rSetL) tz D σ H := s_augLast (D := { D with nx := tz D }) ho hi he hl k
theorem ev_m1 : Ev (tUn (rU fun i => .int (-i)) (tC (.int 1))) σ H (.int (-1)) := ev_un ev_c ru_neg
/-- o.m(), for what it does -/
theorem s_mt0 {sp : Sp} {E : XK} {x C dx : Addr} {fs : List (Str × V)} {m : Str} (ho : Ev ta σ H (.ref x)) (hx : H x = some (.ins C dx fs)) (hm : fs.lookup m = none) (k : ∀ H1, Ex H H1 → sp [.ref x] H1 (fun _ H2 => D.nx σ H2) E) : tDrop (tMeth C m sp [] E ta tNil) D σ H :=
  ho H (Ex.refl H) _ fun H1 e1 => ⟨x, dx, fs, rfl, e1 _ _ hx, hm, k H1 e1⟩
theorem q_mt0 {sp : Sp} {E : XK} {x C dx : Addr} {fs : List (Str × V)} {m : Str} (ho : Ev ta σ H (.ref x)) (hx : H x = some (.ins C dx fs)) (hm : fs.lookup m = none) (k : ∀ H1, Ex H H1 → sp [.ref x] H1 (fun _ H2 => tz D σ H2) E) : tSeq (tDrop (tMeth C m sp [] E ta tNil)) tz D σ H :=
  s_mt0 (D := { D with nx := tz D }) ho hx hm k
end
/-! what go_on does -/
def closeAll (l : List Nat) : Nat → RS → RS
  | 0, s => s
  | n + 1, s => if s.sp ≠ [] ∧ l[s.pl]? = some 41 then closeAll l n (closeN s) else s
def commaN (s : RS) : RS := { s with pl := s.pl + 1, ct := s.ct.dropLast ++ [s.ct.getLastD 0 + 1] }
def goOn (l : List Nat) (s : RS) : RS × Option Bool :=
  if l[s.pl]? = some 40 then (openN s, some true) else
  if (closeAll l s.sp.length s).sp = [] then (closeAll l s.sp.length s, some false) else
  if l[(closeAll l s.sp.length s).pl]? ≠ some 44 ∨ (closeAll l s.sp.length s).ct.getLastD 0 = 4 then (closeAll l s.sp.length s, none) else (commaN (closeAll l s.sp.length s), some true)
def oV : Option Bool → V
  | none => .non
  | some b => .bl b
structure RInv (l : List Nat) (s : RS) : Prop where
  pl : s.pl ≤ l.length
  ct : s.ct.length = s.sp.length
  sp : ∀ k, k ∈ s.sp → k < s.sg.length
  sg : s.sg.length ≤ s.pl
  sl : s.sp.length ≤ s.pl
theorem lt_of_at {l : List Nat} {i c : Nat} (h : l[i]? = some c) : i < l.length := (List.getElem?_eq_some_iff.mp h).1
theorem getLastD_mem {ns : List Nat} (h : ns ≠ []) : ns.getLastD 0 ∈ ns := by
  rw [List.getLastD_eq_getLast?, List.getLast?_eq_some_getLast h]
  exact List.getLast_mem h
theorem RInv.open {l : List Nat} {s : RS} (h : RInv l s) (h0 : 0 < s.sg.length) {c : Nat} (hc : l[s.pl]? = some c) : RInv l (openN s) := by
  obtain ⟨a1, a2, a3, a4, a5⟩ := h
  refine ⟨lt_of_at hc, ?_, ?_, ?_, ?_⟩
  · simp [openN, a2]
  · intro k hk
    simp only [openN, List.mem_append, List.mem_singleton] at hk
    rcases hk with hk | hk
    · exact a3 k hk
    · show k < s.sg.length
      omega
  · show s.sg.length ≤ s.pl + 1
    omega
  · simp [openN]; exact a5
theorem RInv.close {l : List Nat} {s : RS} (h : RInv l s) (h0 : s.sp ≠ []) {c : Nat} (hc : l[s.pl]? = some c) : RInv l (closeN s) := by
  obtain ⟨a1, a2, a3, a4, a5⟩ := h
  refine ⟨lt_of_at hc, ?_, ?_, ?_, ?_⟩
  · simp [closeN, a2]
  · intro k hk
    have := a3 k (List.dropLast_subset _ hk)
    simpa [closeN] using this
  · simp [closeN]; omega
  · simp [closeN]; omega
theorem RInv.comma {l : List Nat} {s : RS} (h : RInv l s) (h0 : s.sp ≠ []) {c : Nat} (hc : l[s.pl]? = some c) : RInv l (commaN s) := by
  obtain ⟨a1, a2, a3, a4, a5⟩ := h
  have : 0 < s.sp.length := List.length_pos_iff.mpr h0
  refine ⟨lt_of_at hc, ?_, a3, ?_, ?_⟩
  · simp [commaN, a2]; omega
  · simp [commaN]; omega
  · simp [commaN]; omega
theorem closeN_sp (s : RS) : (closeN s).sp.length = s.sp.length - 1 := by simp [closeN]
theorem RInv.closeAll {l : List Nat} : ∀ (n : Nat) (s : RS), RInv l s → RInv l (closeAll l n s)
  | 0, _, h => h
  | n + 1, s, h => by
    unfold Wk.closeAll
    split
    · rename_i hc
      exact RInv.closeAll n _ (h.close hc.1 hc.2)
    · exact h
theorem closeAll_sg (l : List Nat) : ∀ (n : Nat) (s : RS), (closeAll l n s).sg.length = s.sg.length
  | 0, _ => rfl
  | n + 1, s => by
    unfold Wk.closeAll
    split
    · rw [closeAll_sg l n]; simp [closeN]
    · rfl
theorem closeAll_step (l : List Nat) (s : RS) (h : s.sp ≠ []) (hc : l[s.pl]? = some 41) : closeAll l s.sp.length s = closeAll l (closeN s).sp.length (closeN s) := by
  have : 0 < s.sp.length := List.length_pos_iff.mpr h
  obtain ⟨n, hn⟩ : ∃ n, s.sp.length = n + 1 := ⟨s.sp.length - 1, by omega⟩
  rw [hn, closeN_sp, hn]
  show Wk.closeAll l (n + 1) s = _
  unfold Wk.closeAll
  rw [if_pos ⟨h, hc⟩]
  cases n <;> rfl
theorem closeAll_stop (l : List Nat) (s : RS) (h : ¬ (s.sp ≠ [] ∧ l[s.pl]? = some 41)) : closeAll l s.sp.length s = s := by
  cases s.sp.length with
  | zero => rfl
  | succ n => unfold Wk.closeAll; rw [if_neg h]
theorem goOn_inv {l : List Nat} {s : RS} (h : RInv l s) (h0 : 0 < s.sg.length) : RInv l (goOn l s).1 := by
  unfold goOn
  split
  · rename_i hc; exact h.open h0 hc
  · split
    · exact h.closeAll _ _
    · split
      · exact h.closeAll _ _
      · rename_i h1 h2
        simp only [not_or, Decidable.not_not] at h2
        exact (h.closeAll _ _).comma h1 h2.1
end Wk
end
section
set_option Elab.async false
set_option linter.all false
set_option maxRecDepth 100000
set_option maxHeartbeats 4000000
/-! values told by what they are in the heap; calls for what they do -/
namespace Wk
open PySem PySem.Spec PyProof.Rows L2 Evl
def EvX (te : TE) (σ : L2.St) (H : Hp) (P : V → Hp → Prop) : Prop := ∀ H1, Ex H H1 → ∀ Q : VK, (∀ v H2, Ex H1 H2 → P v H2 → Q v H2) → te σ H1 Q
def EvAX (ta : TA) (σ : L2.St) (H : Hp) (P : List V → Hp → Prop) : Prop := ∀ H1, Ex H H1 → ∀ Q : List V → Hp → Prop, (∀ v H2, Ex H1 H2 → P v H2 → Q v H2) → ta σ H1 Q
def Mo {α : Type} (P : α → Hp → Prop) : Prop := ∀ v H H', Ex H H' → P v H → P v H'
section
variable {K : PySem.W.Frag} {σ : L2.St} {H : Hp} {ta ti te tu0 : TE} {tr : TA} {xs : List V} {D : Ends} {tu tz : TS} {P R : V → Hp → Prop} {PA QA : List V → Hp → Prop} {v : V} {t : TT}
theorem EvX.mono {H' : Hp} (e : Ex H H') (h : EvX te σ H P) : EvX te σ H' P := fun H1 a Q q => h H1 (e.trans a) Q q
theorem EvAX.mono {H' : Hp} (e : Ex H H') (h : EvAX tr σ H PA) : EvAX tr σ H' PA := fun H1 a Q q => h H1 (e.trans a) Q q
theorem EvX.imp (h : EvX te σ H P) (i : ∀ v H, P v H → R v H) : EvX te σ H R := fun H1 a Q q => h H1 a Q fun v H2 e p => q v H2 e (i v H2 p)
theorem x_ev (h : Ev te σ H v) : EvX te σ H (fun x _ => x = v) := fun H1 e Q q => h H1 e Q fun H2 e2 => q v H2 e2 rfl
theorem x_evU (h : EvU te σ H xs) : EvX te σ H (fun x H' => ∃ p, x = .ref p ∧ H' p = some (.tup xs)) := fun H1 e Q q => h H1 e Q fun p H2 hp e2 h2 => q _ H2 e2 ⟨p, rfl, h2⟩
theorem x_evL (h : EvL te σ H xs) : EvX te σ H (fun x H' => ∃ p, x = .ref p ∧ H p = none ∧ H' p = some (.lst xs)) := fun H1 e Q q => h H1 e Q fun p H2 hp e2 h2 => q _ H2 e2 ⟨p, rfl, fresh_back e hp, h2⟩
theorem x_nil : EvAX tNil σ H (fun vs _ => vs = []) := fun H1 _ Q q => q [] H1 (Ex.refl H1) rfl
theorem x_cons (h : EvX te σ H P) (m : Mo P) (hr : EvAX tr σ H PA) : EvAX (tCons te tr) σ H (fun vs H => ∃ v r, vs = v :: r ∧ P v H ∧ PA r H) := fun H1 e Q q =>
  h H1 e _ fun v H2 e2 p => hr H2 (e.trans e2) _ fun r H3 e3 pr => q _ H3 (e2.trans e3) ⟨v, r, rfl, m v H2 H3 e3 p, pr⟩
theorem x_ofA {vs : List V} (h : EvA tr σ H vs) : EvAX tr σ H (fun us _ => us = vs) := fun H1 e Q q => h H1 e Q fun H2 e2 => q vs H2 e2 rfl
theorem x_tup (h : EvAX tr σ H PA) (m : Mo PA) (hl : ∀ vs H, PA vs H → vs.length ≤ 100000) : EvX (tTup tr) σ H (fun v H => ∃ p vs, v = .ref p ∧ H p = some (.tup vs) ∧ PA vs H) := fun H1 e Q q =>
  h H1 e _ fun vs H2 e2 p => ⟨sz_of (hl vs H2 p), fun a ha => q _ _ (e2.trans (Ex.new ha)) ⟨a, vs, rfl, upd_same, m vs H2 _ (Ex.new ha) p⟩⟩
theorem x_call {sp : Sp} {E : XK} {vs : List V} (h : EvA tr σ H vs) (hs : ∀ H1, Ex H H1 → ∀ Q : VK, (∀ v H2, Ex H1 H2 → P v H2 → Q v H2) → ∀ E, sp vs H1 Q E) : EvX (tCall sp [] E tr) σ H P := fun H1 e Q q =>
  h H1 e _ fun H2 e2 => by
    rw [List.append_nil]
    exact hs H2 (e.trans e2) Q (fun v H3 e3 p => q v H3 (e2.trans e3) p) E
theorem x_callX {sp : Sp} {E : XK} (h : EvAX tr σ H PA) (hs : ∀ vs H1, Ex H H1 → PA vs H1 → ∀ Q : VK, (∀ v H2, Ex H1 H2 → P v H2 → Q v H2) → ∀ E, sp vs H1 Q E) : EvX (tCall sp [] E tr) σ H P := fun H1 e Q q =>
  h H1 e _ fun vs H2 e2 pa => by
    rw [List.append_nil]
    exact hs vs H2 (e.trans e2) pa Q (fun v H3 e3 p => q v H3 (e2.trans e3) p) E
theorem x_if {b : Bool} (h : EvT t σ H b) (h1 : b = true → EvX ta σ H P) (h2 : b = false → EvX te σ H P) : EvX (tIf t ta te) σ H P := fun H1 e Q q => h H1 e _ fun H2 e2 => by
  cases b with
  | true => exact h1 rfl H2 (e.trans e2) Q fun v H3 e3 p => q v H3 (e2.trans e3) p
  | false => exact h2 rfl H2 (e.trans e2) Q fun v H3 e3 p => q v H3 (e2.trans e3) p
theorem sx_asg {i : Nat} (h : EvX te σ H P) (k : ∀ v H1, Ex H H1 → P v H1 → D.nx (σ.set i (some v)) H1) : tAsg te (gName i) D σ H := h H (Ex.refl H) _ fun v H1 e p => k v H1 e p
theorem qx_asg {i : Nat} (h : EvX te σ H P) (k : ∀ v H1, Ex H H1 → P v H1 → tz D (σ.set i (some v)) H1) : tSeq (tAsg te (gName i)) tz D σ H := sx_asg (D := { D with nx := tz D }) h k
theorem sx_ret (h : EvX te σ H P) (k : ∀ v H1, Ex H H1 → P v H1 → D.rt v H1) : tRet te D σ H := h H (Ex.refl H) _ k
theorem sx_app {l : Addr} (hl : H l = some (.lst xs)) (ha : Ev ta σ H (.ref l)) (h : EvX te σ H P) (hz : xs.length < 100000) (k : ∀ v H1, Ex H H1 → P v H1 → D.nx σ (upd H1 l (.lst (xs ++ [v])))) :
    tDrop (tBM K "list" rAppend ta (tCons te tNil)) D σ H := ha H (Ex.refl H) _ fun H1 e1 =>
  ⟨Or.inl ⟨rfl, xs, sq_of (e1 l _ hl)⟩, h H1 e1 _ fun v H2 e2 p => ⟨l, xs, v, rfl, rfl, e2 l _ (e1 l _ hl), sz_lt hz, k v H2 (e1.trans e2) p⟩⟩
theorem qx_app {l : Addr} (hl : H l = some (.lst xs)) (ha : Ev ta σ H (.ref l)) (h : EvX te σ H P) (hz : xs.length < 100000) (k : ∀ v H1, Ex H H1 → P v H1 → tz D σ (upd H1 l (.lst (xs ++ [v])))) :
    tSeq (tDrop (tBM K "list" rAppend ta (tCons te tNil))) tz D σ H := sx_app (D := { D with nx := tz D }) hl ha h hz k
/-- calls for what they do -/
theorem s_asgC {sp : Sp} {E : XK} {vs : List V} {i : Nat} (h : EvA tr σ H vs) (k : ∀ H1, Ex H H1 → sp vs H1 (fun v H2 => D.nx (σ.set i (some v)) H2) E) : tAsg (tCall sp [] E tr) (gName i) D σ H := h H (Ex.refl H) _ fun H1 e1 => by
  rw [List.append_nil]
  exact k H1 e1
theorem q_asgC {sp : Sp} {E : XK} {vs : List V} {i : Nat} (h : EvA tr σ H vs) (k : ∀ H1, Ex H H1 → sp vs H1 (fun v H2 => tz D (σ.set i (some v)) H2) E) : tSeq (tAsg (tCall sp [] E tr) (gName i)) tz D σ H := s_asgC (D := { D with nx := tz D }) h k
theorem s_dropC {sp : Sp} {E : XK} {vs : List V} (h : EvA tr σ H vs) (k : ∀ H1, Ex H H1 → sp vs H1 (fun v H2 => D.nx σ H2) E) : tDrop (tCall sp [] E tr) D σ H := h H (Ex.refl H) _ fun H1 e1 => by
  rw [List.append_nil]
  exact k H1 e1
theorem q_dropC {sp : Sp} {E : XK} {vs : List V} (h : EvA tr σ H vs) (k : ∀ H1, Ex H H1 → sp vs H1 (fun v H2 => tz D σ H2) E) : tSeq (tDrop (tCall sp [] E tr)) tz D σ H := s_dropC (D := { D with nx := tz D }) h k
theorem q_make {sp : Sp} {E : XK} {vs : List V} {i : Nat} {C : Addr} (h : EvA tr σ H vs) (k : ∀ H1 x dx, Ex H H1 → H1 x = none → H1 dx = none → dx ≠ x → sp (.ref x :: vs) (upd (upd H1 dx (.own x)) x (.ins C dx [])) (fun v H2 => v = .non ∧ tz D (σ.set i (some (.ref x))) H2) E) :
    tSeq (tAsg (tMake C sp [] E tr) (gName i)) tz D σ H := h H (Ex.refl H) _ fun H1 e1 x dx hx hdx hn => by
  rw [List.append_nil]
  exact k H1 x dx e1 hx hdx hn
theorem q_ifNotB (h : te σ H (fun x H1 => ∃ c, x = .bl c ∧ (if c = true then tz D σ H1 else tu { D with nx := tz D } σ H1))) : tSeq (tIfS (tNot (tB te)) tu tNext) tz D σ H := by
  show te σ H (fun x H1 => ∃ c, x = .bl c ∧ (if (!c) = true then tu { D with nx := tz D } σ H1 else tz D σ H1))
  have e : (fun x H1 => ∃ c, x = V.bl c ∧ (if (!c) = true then tu { D with nx := tz D } σ H1 else tz D σ H1)) = (fun x H1 => ∃ c, x = V.bl c ∧ (if c = true then tz D σ H1 else tu { D with nx := tz D } σ H1)) := by
    funext x H1
    congr 1
    funext c
    cases c <;> rfl
  rw [e]
  exact h
theorem x_mt0 {sp : Sp} {E : XK} {x C dx : Addr} {fs : List (Str × V)} {m : Str} {Q : VK} (ho : Ev ta σ H (.ref x)) (hx : H x = some (.ins C dx fs)) (hm : fs.lookup m = none) (k : ∀ H1, Ex H H1 → sp [.ref x] H1 Q E) : tMeth C m sp [] E ta tNil σ H Q :=
  ho H (Ex.refl H) _ fun H1 e1 => ⟨x, dx, fs, rfl, e1 _ _ hx, hm, k H1 e1⟩
theorem et_tru {b : Bool} (h : Ev te σ H v) (ht : ∀ H', Ex H H' → TruV K v H' b) : EvT (fun σ H Q => te σ H fun x H' => ∃ k, TruV K x H' k ∧ Q k H') σ H b := fun H1 e Q q => h H1 e _ fun H2 e2 => ⟨b, ht H2 (e.trans e2), q H2 e2⟩
/-- tuple(xs) of a list, of a tuple -/
theorem eu_tuple {a : Addr} (h : Ev te σ H (.ref a)) (hx : SqL K H a xs) : EvU (tCB (fun xs H Q => ∃ p ys, xs = [.ref p] ∧ ((SqL K H p ys ∧ ∀ l, H l = none → Q (.ref l) (upd H l (.tup ys))) ∨ (SqT K H p ys ∧ Q (.ref p) H))) (tCons te tNil)) σ H xs := fun H1 e Q q =>
  h H1 e _ fun H2 e2 => ⟨a, xs, rfl, .inl ⟨ex_l (e.trans e2) hx, fun l hl => q l _ (fresh_back e2 hl) (e2.trans (Ex.new hl)) upd_same⟩⟩
theorem eu_tupleN (h : EvL te σ H xs) : EvU (tCB (fun xs H Q => ∃ p ys, xs = [.ref p] ∧ ((SqL K H p ys ∧ ∀ l, H l = none → Q (.ref l) (upd H l (.tup ys))) ∨ (SqT K H p ys ∧ Q (.ref p) H))) (tCons te tNil)) σ H xs := fun H1 e Q q =>
  h H1 e _ fun a H2 ha e2 h2 => ⟨a, xs, rfl, .inl ⟨sq_of h2, fun l hl => q l _ (fresh_back e2 hl) (e2.trans (Ex.new hl)) upd_same⟩⟩
end
/-! reading a term -/
def readLoop (l : List Nat) : Nat → RS → Option RS
  | 0, _ => none
  | n + 1, s => if wordOf (l.drop s.pl) = [] then none else
    match (goOn l (putW l s)).2 with
    | none => none
    | some false => some (goOn l (putW l s)).1
    | some true => readLoop l n (goOn l (putW l s)).1
def readT (l : List Nat) (start : Nat) : Option (List Sg × Nat) := (readLoop l (l.length - start + 1) ⟨start, [], [], []⟩).map fun s => (s.sg, s.pl)
/-- a term as a value: the tuple of its signs -/
def TermAt (zs : List Sg) (v : V) (H : Hp) : Prop := ∃ q vs, v = .ref q ∧ H q = some (.tup vs) ∧ SgL H vs zs
theorem TermAt.mo (zs : List Sg) : Mo (TermAt zs) := fun v H H' e ⟨q, vs, a, b, c⟩ => ⟨q, vs, a, e _ _ b, c.tu (.of e)⟩
def ReadV (o : Option (List Sg × Nat)) (v : V) (H : Hp) : Prop := match o with
  | none => v = .non
  | some (zs, e) => ∃ p t, v = .ref p ∧ H p = some (.tup [t, .int (e : Int)]) ∧ TermAt zs t H
theorem ReadV.mo (o : Option (List Sg × Nat)) : Mo (ReadV o) := fun v H H' e h => by
  cases o with
  | none => exact h
  | some z => exact let ⟨p, t, a, b, c⟩ := h; ⟨p, t, a, e _ _ b, TermAt.mo _ _ _ _ e c⟩
theorem goOn_sg (l : List Nat) (s : RS) : (goOn l s).1.sg.length = s.sg.length := by
  unfold goOn
  split
  · rfl
  · split
    · exact closeAll_sg _ _ _
    · split
      · exact closeAll_sg _ _ _
      · exact closeAll_sg _ _ _
theorem closeAll_pl (l : List Nat) : ∀ (n : Nat) (s : RS), s.pl ≤ (closeAll l n s).pl
  | 0, _ => Nat.le_refl _
  | n + 1, s => by
    unfold Wk.closeAll
    split
    · exact Nat.le_trans (Nat.le_succ _) (closeAll_pl l n (closeN s))
    · exact Nat.le_refl _
theorem goOn_pl (l : List Nat) (s : RS) : s.pl ≤ (goOn l s).1.pl := by
  unfold goOn
  split
  · exact Nat.le_succ _
  · split
    · exact closeAll_pl _ _ _
    · split
      · exact closeAll_pl _ _ _
      · exact Nat.le_trans (closeAll_pl _ _ _) (Nat.le_succ _)
theorem putW_inv {l : List Nat} {s : RS} (h : RInv l s) (hw : wordOf (l.drop s.pl) ≠ []) : RInv l (putW l s) ∧ 0 < (putW l s).sg.length ∧ s.pl < (putW l s).pl := by
  have h0 : 0 < (wordOf (l.drop s.pl)).length := List.length_pos_iff.mpr hw
  have hwl : (wordOf (l.drop s.pl)).length ≤ l.length - s.pl := by
    have := alen_le 9 (l.drop s.pl)
    rw [List.length_drop] at this
    rw [wordOf_eq]
    split
    · unfold wd; rw [List.length_take, List.length_drop]; omega
    · simp
  obtain ⟨a1, a2, a3, a4, a5⟩ := h
  refine ⟨⟨?_, a2, ?_, ?_, ?_⟩, ?_, ?_⟩
  · show s.pl + _ ≤ _; omega
  · intro k hk
    have := a3 k hk
    simp [putW]
    omega
  · simp [putW]; omega
  · show s.sp.length ≤ s.pl + _
    omega
  · simp [putW]
  · show s.pl < s.pl + _
    omega
end Wk
end
section
set_option Elab.async false
set_option linter.all false
set_option maxRecDepth 100000
set_option maxHeartbeats 4000000
/-! xs.extend(a tuple) -/
namespace Wk
open PySem PySem.Spec PyProof.Rows L2 Evl
theorem meets_extT (l : Addr) (mine : Array Value) (n : Nat) (b : Addr) (its : Array Value) (hlong : ¬ (!mine.isEmpty && Builtin.List.listTooLong (mine.size + its.size)) = true) (hs1 : mine.size ≤ sizeLine) (hs2 : (mine ++ its).size ≤ sizeLine + 1) :
    Meets (Builtin.«list.extend» ⟨[.ref l, .ref b], []⟩) (fun _ R s => s.heap.get? l = some { cls := .type "list", data := .seq mine n } ∧ IsTup s.heap b its ∧
      R (.ok (.ret Value.none)) { s with heap := s.heap.update l (Obj.mapSeq fun x => x ++ its) }) :=
  .of_wp fun prog w A R s h => by
    obtain ⟨hl, ⟨o, ho, hc, n2, hd⟩, hR⟩ := h
    show wpAny _ A.in1 (Builtin.List.listExtendWith (.ref l) (.ref b) .none) _ _ s
    unfold Builtin.List.listExtendWith
    refine wpAny_bind (wpAny_typeOf ⟨o, ho, hc⟩ ?_)
    have h1 : (Builtin.List.listSameRef (.ref l) (.ref b) || Value.type "tuple" == Value.type "list" || Value.type "tuple" == Value.type "tuple") = true := by simp
    simp only [h1, if_true]
    refine wpAny_bind ?_
    unfold Builtin.List.listItems
    refine wpAny_bind (wpAny_seqItems ho hd (wpAny_pure ?_))
    refine wpAny_bind ?_
    refine wpAny_bind (wpAny_seqItems hl rfl (wpAny_pure ?_))
    rw [if_neg hlong]
    show wpAny _ A.in1 (updateSeq l (· ++ its) >>= fun _ => ret _) _ _ s
    refine wpAny_bind (wpAny_updateSeq hl rfl ?_ hs1 hs2)
    exact wpAny_pure ⟨_, rfl, hR⟩
def rExtendT : V → List V → Hp → VK → Prop := fun x vs H Q => ∃ l b xs zs, x = .ref l ∧ vs = [.ref b] ∧ H l = some (.lst xs) ∧ SqT0 H b zs ∧ xs.length + zs.length ≤ sizeLine ∧ Q .non (upd H l (.lst (xs ++ zs)))
  where SqT0 (H : Hp) (b : Addr) (zs : List V) : Prop := H b = some (.tup zs)
variable {X : Cx}
theorem mt_extendT : MtM X "list.extend" rExtendT := by
  intro pins s σ H x vs v us Q I rx rv h
  obtain ⟨l, b, xs, zs, rfl, rfl, hH, hB, hz, q⟩ := h
  cases rx
  obtain ⟨u, rfl, ru⟩ := rv.one
  cases ru
  obtain ⟨z, its, n, r, hl, e⟩ := I.lstM hH
  obtain ⟨its2, r2, tp, z2⟩ := I.tuple (st_of hB)
  have hl2 := r2.length
  have hsz : its.toArray.size + its2.toArray.size ≤ sizeLine := by rw [List.size_toArray, List.size_toArray]; omega
  refine call_meets F.slot_list_extend ⟨_, e, rfl⟩ F.entry_list_extend (F.args_list_extend_2 _ _)
    (meets_extT l its.toArray n b its2.toArray (by rw [notLongL hsz, Bool.and_false]; exact Bool.false_ne_true) (by rw [List.size_toArray]; omega) (by rw [Array.size_append]; omega)) ⟨e, tp, ?_⟩
  refine ⟨.non, _, I.lset (its' := its ++ its2) hH e (by simp) (r.append r2) (by rw [List.length_append]; omega), rfl, q⟩
end Wk
end
section
set_option Elab.async false
set_option linter.all false
set_option maxRecDepth 100000
set_option maxHeartbeats 4000000
/-! rows of values, literals, clauses -/
namespace Wk
open PySem PySem.Spec PyProof.Rows L2 Evl
def AllV {α : Type} (P : α → V → Hp → Prop) (as : List α) (vs : List V) (H : Hp) : Prop := vs.length = as.length ∧ ∀ (i : Nat) v a, vs[i]? = some v → as[i]? = some a → P a v H
/-- all but lists stay -/
def Nl (H H' : Hp) : Prop := ∀ a o, H a = some o → (∀ xs, o ≠ .lst xs) → H' a = some o
def Mn {α : Type} (P : α → Hp → Prop) : Prop := ∀ v H H', Nl H H' → P v H → P v H'
theorem Nl.of {H H' : Hp} (e : Ex H H') : Nl H H' := fun a o h _ => e a o h
theorem Nl.trans {H H1 H2 : Hp} (a : Nl H H1) (b : Nl H1 H2) : Nl H H2 := fun x o h n => b x o (a x o h n) n
theorem Nl.lst {H : Hp} {a : Addr} {xs ys : List V} (h : H a = some (.lst xs)) : Nl H (upd H a (.lst ys)) := fun b o hb n => by
  have : b ≠ a := fun e => by subst e; rw [h] at hb; exact n xs (Option.some.inj hb).symm
  rw [upd_ne this]; exact hb
theorem Nl.tu {H H' : Hp} (n : Nl H H') : Tu H H' := fun p xs h => n p _ h (fun ys e => by cases e)
theorem Mn.mo {α : Type} {P : α → Hp → Prop} (m : Mn P) : Mo P := fun v H H' e => m v H H' (.of e)
section
variable {α : Type} {P : α → V → Hp → Prop} {as : List α} {vs : List V} {H H' : Hp} {v : V} {a : α}
theorem AllV.mo (m : ∀ a, Mo (P a)) : Mo (AllV P as) := fun vs H H' e h => ⟨h.1, fun i v a x y => m a v H H' e (h.2 i v a x y)⟩
theorem AllV.mn (m : ∀ a, Mn (P a)) : Mn (AllV P as) := fun vs H H' e h => ⟨h.1, fun i v a x y => m a v H H' e (h.2 i v a x y)⟩
theorem AllV.nil : AllV P [] [] H := ⟨rfl, fun i v a h _ => by simp at h⟩
theorem AllV.app (h : AllV P as vs H) (o : P a v H) : AllV P (as ++ [a]) (vs ++ [v]) H := by
  obtain ⟨h1, h2⟩ := h
  refine ⟨by simp [h1], fun i u y p q => ?_⟩
  by_cases hi : i < vs.length
  · rw [List.getElem?_append_left hi] at p
    rw [List.getElem?_append_left (by omega)] at q
    exact h2 i u y p q
  · rw [List.getElem?_append_right (by omega)] at p
    rw [List.getElem?_append_right (by omega)] at q
    have : i - vs.length = 0 := by
      have := (List.getElem?_eq_some_iff.mp p).1
      simp at this
      omega
    rw [this] at p
    rw [← h1, this] at q
    cases p; cases q
    exact o
theorem AllV.fst (h : AllV P as vs H) : (vs.zip as).map Prod.fst = vs := List.map_fst_zip (Nat.le_of_eq h.1)
theorem AllV.snd (h : AllV P as vs H) : (vs.zip as).map Prod.snd = as := List.map_snd_zip (Nat.le_of_eq h.1.symm)
theorem AllV.mem (h : AllV P as vs H) : ∀ z, z ∈ vs.zip as → P z.2 z.1 H := fun z hz => by
  obtain ⟨i, hi⟩ := List.getElem?_of_mem hz
  rw [List.getElem?_zip_eq_some] at hi
  exact h.2 i _ _ hi.1 hi.2
theorem AllV.zlen (h : AllV P as vs H) : (vs.zip as).length = as.length := by rw [List.length_zip, h.1, Nat.min_self]
theorem zip_fm {β : Type} (f : α → Bool) (g : α → β) : ∀ (vs : List V) (as : List α), vs.length = as.length → ((vs.zip as).filter fun z => f z.2).map (fun z => g z.2) = (as.filter f).map g := by
  intro vs as h
  have e : ((vs.zip as).filter fun z => f z.2).map (fun z => g z.2) = (((vs.zip as).map Prod.snd).filter f).map g := by
    rw [List.filter_map, List.map_map]
    rfl
  rw [e, List.map_snd_zip (Nat.le_of_eq h.symm)]
theorem AllV.get {i : Nat} (h : AllV P as vs H) (hi : as[i]? = some a) : ∃ v, vs[i]? = some v ∧ P a v H := by
  have h0 := (List.getElem?_eq_some_iff.mp hi).1
  have h1 : i < vs.length := by rw [h.1]; exact h0
  exact ⟨vs[i], List.getElem?_eq_getElem h1, h.2 i _ _ (List.getElem?_eq_getElem h1) hi⟩
theorem AllV.at {i : Nat} (h : AllV P as vs H) (hi : vs[i]? = some v) : ∃ a, as[i]? = some a ∧ P a v H := by
  have h0 := (List.getElem?_eq_some_iff.mp hi).1
  have h1 : i < as.length := by rw [← h.1]; exact h0
  exact ⟨as[i], List.getElem?_eq_getElem h1, h.2 i _ _ hi (List.getElem?_eq_getElem h1)⟩
end
abbrev Lt := List Sg × Bool
abbrev Cl := List Sg × List Lt
theorem TermAt.mn (zs : List Sg) : Mn (TermAt zs) := fun v H H' n ⟨q, vs, a, b, c⟩ => ⟨q, vs, a, n.tu _ _ b, c.tu n.tu⟩
def LitAt (K : PySem.W.Frag) (z : Lt) (v : V) (H : Hp) : Prop := ∃ p dx t, v = .ref p ∧ H p = some (.ins (He.ga K "Literal") dx [("atom", t), ("is_denied", .bl z.2)]) ∧ TermAt z.1 t H
theorem LitAt.mn (K : PySem.W.Frag) (z : Lt) : Mn (LitAt K z) := fun v H H' n ⟨p, dx, t, a, b, c⟩ => ⟨p, dx, t, a, n _ _ b (fun xs e => by cases e), TermAt.mn _ _ _ _ n c⟩
def ClAt (K : PySem.W.Frag) (z : Cl) (v : V) (H : Hp) : Prop := ∃ p dx t b vs, v = .ref p ∧ H p = some (.ins (He.ga K "Clause") dx [("head", t), ("body", .ref b)]) ∧ TermAt z.1 t H ∧ H b = some (.lst vs) ∧ AllV (LitAt K) z.2 vs H
theorem ClAt.mo (K : PySem.W.Frag) (z : Cl) : Mo (ClAt K z) := fun v H H' e ⟨p, dx, t, b, vs, h1, h2, h3, h4, h5⟩ => ⟨p, dx, t, b, vs, h1, e _ _ h2, TermAt.mo _ _ _ _ e h3, e _ _ h4, AllV.mo (fun a => (LitAt.mn K a).mo) _ _ _ e h5⟩
/-- a clause whose row is none of B's -/
def ClAtB (K : PySem.W.Frag) (B : Hp) (z : Cl) (v : V) (H : Hp) : Prop := ∃ p dx t b vs, v = .ref p ∧ H p = some (.ins (He.ga K "Clause") dx [("head", t), ("body", .ref b)]) ∧ TermAt z.1 t H ∧ H b = some (.lst vs) ∧ AllV (LitAt K) z.2 vs H ∧ B b = none
theorem ClAtB.at {K : PySem.W.Frag} {B H : Hp} {z : Cl} {v : V} (h : ClAtB K B z v H) : ClAt K z v H := let ⟨p, dx, t, b, vs, h1, h2, h3, h4, h5, _⟩ := h; ⟨p, dx, t, b, vs, h1, h2, h3, h4, h5⟩
theorem ClAtB.back {K : PySem.W.Frag} {B B' H : Hp} {z : Cl} {v : V} (e : Ex B B') (h : ClAtB K B' z v H) : ClAtB K B z v H := let ⟨p, dx, t, b, vs, h1, h2, h3, h4, h5, h6⟩ := h; ⟨p, dx, t, b, vs, h1, h2, h3, h4, h5, fresh_back e h6⟩
theorem ClAtB.mo (K : PySem.W.Frag) (B : Hp) (z : Cl) : Mo (ClAtB K B z) := fun v H H' e ⟨p, dx, t, b, vs, h1, h2, h3, h4, h5, h6⟩ => ⟨p, dx, t, b, vs, h1, e _ _ h2, TermAt.mo _ _ _ _ e h3, e _ _ h4, AllV.mo (fun a => (LitAt.mn K a).mo) _ _ _ e h5, h6⟩
theorem nl_del {H : Hp} {a : Addr} {xs : List V} (h : H a = some (.lst xs)) : Nl H (del H a) := fun b o hb n => by
  have : b ≠ a := fun e => by subst e; rw [h] at hb; exact n xs (Option.some.inj hb).symm
  rw [del_ne this]; exact hb
theorem ClAtB.del {K : PySem.W.Frag} {B H : Hp} {z : Cl} {v : V} {f : Addr} {xs : List V} {o : HO} (h : ClAtB K B z v H) (hf : H f = some (.lst xs)) (hB : B f = some o) : ClAt K z v (del H f) := by
  obtain ⟨p, dx, t, b, vs, h1, h2, h3, h4, h5, h6⟩ := h
  have n := nl_del hf
  have hb : b ≠ f := fun e => by subst e; rw [hB] at h6; cases h6
  exact ⟨p, dx, t, b, vs, h1, n _ _ h2 (fun xs e => by cases e), TermAt.mn _ _ _ _ n h3, by rw [del_ne hb]; exact h4, AllV.mn (LitAt.mn K) _ _ _ n h5⟩
theorem del_upd {H : Hp} {a : Addr} {o : HO} : del (upd H a o) a = del H a := by
  funext b
  by_cases e : b = a
  · subst e; rw [del_same, del_same]
  · rw [del_ne e, del_ne e, upd_ne e]
theorem ex_deldel {H H' : Hp} {a : Addr} (e : Ex H H') : Ex (del H a) (del H' a) := fun b o h => by
  by_cases x : b = a
  · subst x; rw [del_same] at h; cases h
  · rw [del_ne x] at h ⊢; exact e b o h
section
variable {K : PySem.W.Frag} {σ : L2.St} {H : Hp} {wi : TI} {ta ti te : TE} {tr : TA} {xs : List V} {D : Ends} {tu tz : TS} {P : V → Hp → Prop} {PA : List V → Hp → Prop} {v : V}
theorem x_make {sp : Sp} {E : XK} {C : Addr} (h : EvAX tr σ H PA) (k : ∀ vs H1 x dx, Ex H H1 → PA vs H1 → H1 x = none → H1 dx = none → dx ≠ x → ∀ Q : VK, (∀ H2, Ex H1 H2 → P (.ref x) H2 → Q .non H2) → ∀ E, sp (.ref x :: vs) (upd (upd H1 dx (.own x)) x (.ins C dx [])) Q E) :
    EvX (tMake C sp [] E tr) σ H P := fun H1 e Q q => h H1 e _ fun vs H2 e2 pa x dx hx hdx hn => by
  rw [List.append_nil]
  exact k vs H2 x dx (e.trans e2) pa hx hdx hn _ (fun H3 e3 p => ⟨rfl, q _ H3 (e2.trans e3) p⟩) E
/-- a comprehension whose elements are told by what they are -/
theorem x_lc {j : Nat} {vs : List Nat} (P : Nat → V → Hp → Prop) (hm : ∀ i, Mn (P i)) (hI : EvI wi σ H xs) (hz : xs.length ≤ 40000) (hw : ∀ x, wipe ((wipe σ vs).set j (some x)) vs = wipe σ vs)
    (he : ∀ i x, xs[i]? = some x → ∀ H1, Ex H H1 → EvX te ((wipe σ vs).set j (some x)) H1 (P i)) :
    EvX (tLc wi (gName j) tYes te vs) σ H (fun v H' => ∃ p ys, v = .ref p ∧ H p = none ∧ H' p = some (.lst ys) ∧ ys.length = xs.length ∧ ∀ (i : Nat) y, ys[i]? = some y → P i y H') := fun H0 e Q q => hI H0 e _ fun J H1 G Y e1 W hG hY Dl hD =>
  lc_it W (fun i H' => H1 Dl = none ∧ Ex H1 H' ∧ ∃ ys, H' Dl = some (.lst ys) ∧ ys.length = i ∧ ∀ (k : Nat) y, ys[k]? = some y → P k y H') ⟨hD, Ex.new hD, [], upd_same, rfl, fun k y h => by simp at h⟩ (fun i H' _ p => hG _ p.2.1) (fun i x H' H'' hi p y => by
    obtain ⟨rfl, hx⟩ := hY _ _ _ _ y
    obtain ⟨p1, p2, ys, p3, p4, p5⟩ := p
    refine ⟨hw _, et_yes (σ := (wipe σ vs).set j (some x)) H'' (Ex.refl _) _ fun H3 e3 => ?_⟩
    show te _ H3 _
    refine he i x hx H1 (e.trans e1) H3 (p2.trans e3) _ fun u H4 e4 pu => ⟨ys, e4 Dl _ (e3 Dl _ p3), sz_lt (by omega), p1, Ex.mut ((p2.trans e3).trans e4) p1, ys ++ [u], upd_same, by simp [p4], fun k z hk => ?_⟩
    have n4 : Nl H4 (upd H4 Dl (.lst (ys ++ [u]))) := .lst (e4 Dl _ (e3 Dl _ p3))
    by_cases hlt : k < ys.length
    · rw [List.getElem?_append_left hlt] at hk
      exact hm k z _ _ ((Nl.of (e3.trans e4)).trans n4) (p5 k z hk)
    · rw [List.getElem?_append_right (by omega)] at hk
      have h0 : k - ys.length = 0 := by
        have := (List.getElem?_eq_some_iff.mp hk).1
        simp at this
        omega
      have hki : k = i := by omega
      rw [h0] at hk
      cases hk
      rw [hki]
      exact hm i u _ _ n4 pu) (fun H' ⟨p1, p2, ys, p3, p4, p5⟩ => q _ H' (e1.trans p2) ⟨Dl, ys, rfl, fresh_back (e.trans e1) p1, p3, p4, p5⟩)
end
section
variable {K : PySem.W.Frag} {σ : L2.St} {H : Hp} {wi : TI} {ta ti te tl : TE} {tr : TA} {xs : List V} {D : Ends} {tu tz : TS} {P : V → Hp → Prop} {PA : List V → Hp → Prop} {v : V} {g : TG}
/-- one argument -/
theorem x_one (h : EvX te σ H P) : EvAX (tCons te tNil) σ H (fun vs H => ∃ v, vs = [v] ∧ P v H) := fun H1 e Q q => h H1 e _ fun v H2 e2 p => q [v] H2 e2 ⟨v, rfl, p⟩
/-- a for over a list that is made -/
theorem s_forX {PL : Addr → List V → Hp → Prop} (h : EvX tl σ H (fun v H' => ∃ p ts, v = .ref p ∧ H p = none ∧ H' p = some (.lst ts) ∧ PL p ts H'))
    (k : ∀ p ts H1, H p = none → Ex H H1 → H1 p = some (.lst ts) → PL p ts H1 → ∃ Pv : Nat → L2.St → Hp → Prop, Pv 0 σ H1 ∧ (∀ i σ' H', i ≤ ts.length → Pv i σ' H' → SqL K H' p ts) ∧
      (∀ (i : Nat) x σ' H', ts[i]? = some x → Pv i σ' H' → g x σ' H' fun σ2 H2 => tu { D with nx := Pv (i + 1), ct := Pv (i + 1), bk := D.nx } σ2 H2) ∧ (∀ σ' H', Pv ts.length σ' H' → D.nx σ' H')) : tFor (iList K tl) g tu D σ H :=
  h H (Ex.refl H) _ fun v H1 e ⟨p, ts, ev, hp, h1, pl⟩ => by
    subst ev
    obtain ⟨Pv, k0, k1, k2, k3⟩ := k p ts H1 hp e h1 pl
    exact ⟨p, rfl, ⟨ts, sq_of h1⟩, for_list Pv k0 k1 k2 k3⟩
theorem q_forX {PL : Addr → List V → Hp → Prop} (h : EvX tl σ H (fun v H' => ∃ p ts, v = .ref p ∧ H p = none ∧ H' p = some (.lst ts) ∧ PL p ts H'))
    (k : ∀ p ts H1, H p = none → Ex H H1 → H1 p = some (.lst ts) → PL p ts H1 → ∃ Pv : Nat → L2.St → Hp → Prop, Pv 0 σ H1 ∧ (∀ i σ' H', i ≤ ts.length → Pv i σ' H' → SqL K H' p ts) ∧
      (∀ (i : Nat) x σ' H', ts[i]? = some x → Pv i σ' H' → g x σ' H' fun σ2 H2 => tu { D with nx := Pv (i + 1), ct := Pv (i + 1), bk := tz D } σ2 H2) ∧ (∀ σ' H', Pv ts.length σ' H' → tz D σ' H')) : tSeq (tFor (iList K tl) g tu) tz D σ H :=
  s_forX (D := { D with nx := tz D }) h k
/-- a for over enumerate([]) -/
theorem q_forEnum0 (h : EvX te σ H (fun v H' => ∃ p, v = .ref p ∧ H' p = some (.lst []))) (k : ∀ H1, Ex H H1 → tz D σ H1) : tSeq (tFor (iEnum K (tCons te tNil)) g tu) tz D σ H :=
  h H (Ex.refl H) _ fun v H1 e ⟨p, ev, h1⟩ => by
    subst ev
    exact ⟨p, [], rfl, sq_of h1, for_it (D := { D with nx := tz D }) (walk_enum (K := K) (a := p) (xs := [])) (fun _ σ' H' => σ' = σ ∧ H' = H1) ⟨rfl, rfl⟩ (fun i σ' H' _ ⟨_, e2⟩ => by rw [e2]; exact sq_of h1) (fun i x σ' H' H'' hi _ _ => absurd hi (Nat.not_lt_zero _)) (fun σ' H' ⟨e1, e2⟩ => by rw [e1, e2]; exact k H1 e)⟩
/-- for i, x in enumerate(a row that is made) -/
theorem q_forEnumL {i j : Nat} (h : EvL te σ H xs) (Pv : Addr → Nat → L2.St → Hp → Prop) (h0 : ∀ p H1, H p = none → Ex H H1 → H1 p = some (.lst xs) → Pv p 0 σ H1) (hl : ∀ p k σ' H', Pv p k σ' H' → H' p = some (.lst xs))
    (hs : ∀ p (k : Nat) x σ' H' H'', xs[k]? = some x → Pv p k σ' H' → Ex H' H'' → tu { D with nx := Pv p (k + 1), ct := Pv p (k + 1), bk := tz D } ((σ'.set i (some (.int (k : Int)))).set j (some x)) H'') (hd : ∀ p σ' H', Pv p xs.length σ' H' → tz D σ' H') :
    tSeq (tFor (iEnum K (tCons te tNil)) (gTup K 2 (gCons (gName i) (gCons (gName j) gNil))) tu) tz D σ H := h H (Ex.refl H) _ fun p H1 hp e h1 =>
  ⟨p, xs, rfl, sq_of h1, for_it (D := { D with nx := tz D }) (walk_enum (K := K) (a := p) (xs := xs)) (Pv p) (h0 p H1 hp e h1) (fun k σ' H' _ q => sq_of (hl p k σ' H' q)) (fun k x σ' H' H'' hk q ⟨T, a, b, ev, hT, eH, ha, hb⟩ => by
    subst ev
    subst eH
    cases ha
    exact ⟨T, _, rfl, st_of upd_same, rfl, _, _, rfl, _, _, rfl, rfl, hs p k b σ' H' _ hb q (Ex.new hT)⟩) (hd p)⟩
/-- xs.extend(a tuple) -/
theorem s_extT {l q : Addr} {zs : List V} (hl : H l = some (.lst xs)) (ha : Ev ta σ H (.ref l)) (h : Ev te σ H (.ref q)) (hq : H q = some (.tup zs)) (hz : xs.length + zs.length ≤ 100000) (k : ∀ H1, Ex H H1 → D.nx σ (upd H1 l (.lst (xs ++ zs)))) :
    tDrop (tBM K "list" rExtendT ta (tCons te tNil)) D σ H := ha H (Ex.refl H) _ fun H1 e1 =>
  ⟨Or.inl ⟨rfl, xs, sq_of (e1 l _ hl)⟩, h H1 e1 _ fun H2 e2 => ⟨l, q, xs, zs, rfl, rfl, (e1.trans e2) l _ hl, (e1.trans e2) q _ hq, sz_of hz, k H2 (e1.trans e2)⟩⟩
end
theorem SgL.cat {H : Hp} {vs ws : List V} {zs as : List Sg} (h : SgL H vs zs) (g : SgL H ws as) : SgL H (vs ++ ws) (zs ++ as) := by
  obtain ⟨h1, h2⟩ := h
  obtain ⟨g1, g2⟩ := g
  refine ⟨by simp [h1, g1], fun i v z a b => ?_⟩
  by_cases hi : i < vs.length
  · rw [List.getElem?_append_left hi] at a
    rw [List.getElem?_append_left (by omega)] at b
    exact h2 i v z a b
  · rw [List.getElem?_append_right (by omega)] at a
    rw [List.getElem?_append_right (by omega), ← h1] at b
    exact g2 _ v z a b
/-! how deep a term is -/
def izs (ns : List Int) : List V := ns.map V.int
theorem izs_len (ns : List Int) : (izs ns).length = ns.length := List.length_map ..
theorem izs_last {ns : List Int} (h : ns ≠ []) : (izs ns)[(izs ns).length - 1]? = some (.int (ns.getLastD 0)) := by
  rw [izs_len]
  unfold izs
  rw [List.getElem?_map, ← List.getLast?_eq_getElem?, List.getLast?_eq_some_getLast h, List.getLastD_eq_getLast?, List.getLast?_eq_some_getLast h]
  rfl
theorem izs_drop (ns : List Int) : (izs ns).dropLast = izs ns.dropLast := by unfold izs; rw [List.map_dropLast]
theorem izs_snoc {ns : List Int} (h : ns ≠ []) : izs ns = izs ns.dropLast ++ [.int (ns.getLastD 0)] := by
  conv => lhs; rw [← List.dropLast_concat_getLast h]
  unfold izs
  rw [List.map_append, List.getLastD_eq_getLast?, List.getLast?_eq_some_getLast h]
  rfl
theorem izs_ne {ns : List Int} (h : decide (((izs ns).length : Int) > 0) = true) : ns ≠ [] := fun e => by
  subst e
  exact absurd h (by decide)
def dClose : Nat → List Int → List Int
  | 0, st => st
  | n + 1, st => if st ≠ [] ∧ st.getLastD 0 = 0 then (if st.dropLast = [] then dClose n [] else dClose n (st.dropLast.dropLast ++ [st.dropLast.getLastD 0 - 1])) else st
def dStep (s : Int × List Int) (z : Sg) : Int × List Int := (if (s.2.length : Int) + 1 > s.1 then (s.2.length : Int) + 1 else s.1, dClose (s.2.length + 1) (s.2 ++ [(z.2 : Int)]))
def depthOf (zs : List Sg) : Int := (zs.foldl dStep (0, [])).1
theorem dClose_nil (n : Nat) : dClose n [] = [] := by
  cases n with
  | zero => rfl
  | succ n => unfold dClose; rw [if_neg (fun h => h.1 rfl)]
theorem dClose_step (st : List Int) (h : st ≠ [] ∧ st.getLastD 0 = 0) : dClose st.length st = if st.dropLast = [] then dClose ([] : List Int).length [] else dClose (st.dropLast.dropLast ++ [st.dropLast.getLastD 0 - 1]).length (st.dropLast.dropLast ++ [st.dropLast.getLastD 0 - 1]) := by
  have h0 := List.length_pos_iff.mpr h.1
  obtain ⟨n, hn⟩ : ∃ n, st.length = n + 1 := ⟨st.length - 1, by omega⟩
  rw [hn]
  conv => lhs; unfold dClose
  rw [if_pos h]
  by_cases hd : st.dropLast = []
  · rw [if_pos hd, if_pos hd, dClose_nil, dClose_nil]
  · rw [if_neg hd, if_neg hd]
    have h1 := List.length_pos_iff.mpr hd
    have h2 : st.dropLast.length = n := by simp; omega
    have h3 : (st.dropLast.dropLast ++ [st.dropLast.getLastD 0 - 1]).length = n := by
      rw [List.length_append, List.length_singleton, List.length_dropLast]
      omega
    rw [h3]
theorem dClose_stop (st : List Int) (h : ¬ (st ≠ [] ∧ st.getLastD 0 = 0)) : dClose st.length st = st := by
  cases st.length with
  | zero => rfl
  | succ n => unfold dClose; rw [if_neg h]
theorem any_false {α : Type} (as : List α) : (as.any fun _ => false) = false := by simp
end Wk
end
section
set_option Elab.async false
set_option linter.all false
set_option maxRecDepth 100000
set_option maxHeartbeats 4000000
/-! literals and clauses of a line, by themselves -/
namespace Wk
open PySem PySem.Spec PyProof.Rows L2 Evl
theorem cut_take (l : List Nat) (a n : Nat) : cutS (tx l) (some (a : Int)) (some ((a : Int) + (n : Int))) = tx ((l.drop a).take n) := by
  show tx (((tx l).cps.toList.drop (HT.sIx (tx l).length 0 (some (a : Int)))).take (HT.sIx (tx l).length (tx l).length (some ((a : Int) + (n : Int))) - HT.sIx (tx l).length 0 (some (a : Int)))) = _
  rw [← Int.natCast_add, HT.sIx_nat, HT.sIx_nat, tx_len]
  have e : (tx l).cps.toList = l := rfl
  rw [e]
  by_cases h : a ≤ l.length
  · rw [Nat.min_eq_left h]
    by_cases h2 : a + n ≤ l.length
    · rw [Nat.min_eq_left h2, Nat.add_sub_cancel_left]
    · rw [Nat.min_eq_right (by omega), List.take_of_length_le (by rw [List.length_drop]; omega), List.take_of_length_le (by rw [List.length_drop]; omega)]
  · rw [Nat.min_eq_right (by omega), Nat.min_eq_right (by omega), List.drop_eq_nil_of_le (Nat.le_refl _), List.drop_eq_nil_of_le (show l.length ≤ a by omega)]
    simp
def notW : List Nat := [110, 111, 116, 32]
theorem not_eq : ("not " : Str) = tx notW := by decide +kernel
def isNot (l : List Nat) (s : Nat) : Bool := decide ((l.drop s).take 4 = notW)
def readLit (l : List Nat) (s : Nat) : Option (Lt × Nat) := match readT l (s + if isNot l s then 4 else 0) with
  | none => none
  | some (zs, e) => if depthOf zs > 4 then none else some ((zs, isNot l s), e)
def bodyLoop (l : List Nat) : Nat → List Nat → Nat → List Lt → Option (List Lt)
  | 0, _, _, _ => none
  | n + 1, ah, pl, bs => if l.drop pl = [46] then some bs else if (l.drop pl).take ah.length ≠ ah ∨ bs.length = 4 then none else
    match readLit l (pl + ah.length) with
    | none => none
    | some (b, e) => bodyLoop l n [44, 32] e (bs ++ [b])
def readCl (l : List Nat) : Option Cl := match readLit l 0 with
  | none => none
  | some ((hd, dn), pl) => if dn = true ∨ l.length > 200 then none else (bodyLoop l (l.length + 1) [32, 58, 45, 32] pl []).map fun bs => (hd, bs)
theorem readLoop_inv {l : List Nat} : ∀ (n : Nat) (s s' : RS), RInv l s → readLoop l n s = some s' → RInv l s' ∧ 0 < s'.sg.length ∧ s.pl < s'.pl
  | 0, _, _, _, h => by cases h
  | n + 1, s, s', hi, h => by
    unfold readLoop at h
    split at h
    · cases h
    · rename_i hw
      obtain ⟨i1, i2, i3⟩ := putW_inv hi hw
      have i4 := goOn_inv i1 i2
      have i5 := goOn_pl l (putW l s)
      have i6 := goOn_sg l (putW l s)
      split at h
      · cases h
      · cases h
        exact ⟨i4, by omega, by omega⟩
      · obtain ⟨j1, j2, j3⟩ := readLoop_inv n _ _ i4 h
        exact ⟨j1, j2, by omega⟩
theorem readT_sz {l : List Nat} {s e : Nat} {zs : List Sg} (hs : s ≤ l.length) (h : readT l s = some (zs, e)) : 0 < zs.length ∧ zs.length ≤ l.length ∧ s < e ∧ e ≤ l.length := by
  unfold readT at h
  obtain ⟨s', h1, h2⟩ := Option.map_eq_some_iff.mp h
  cases h2
  obtain ⟨j1, j2, j3⟩ := readLoop_inv (l.length - s + 1) ⟨s, [], [], []⟩ s' ⟨hs, rfl, fun _ h => (by cases h), Nat.zero_le _, Nat.zero_le _⟩ h1
  exact ⟨j2, Nat.le_trans j1.sg j1.pl, j3, j1.pl⟩
theorem isNot_le {l : List Nat} {s : Nat} (hs : s ≤ l.length) : s + (if isNot l s then 4 else 0) ≤ l.length := by
  split
  · rename_i h
    have h1 := congrArg List.length (of_decide_eq_true h)
    rw [List.length_take, List.length_drop] at h1
    have : notW.length = 4 := rfl
    omega
  · omega
theorem readLit_sz {l : List Nat} {s e : Nat} {b : Lt} (hs : s ≤ l.length) (h : readLit l s = some (b, e)) : 0 < b.1.length ∧ b.1.length ≤ l.length ∧ s < e ∧ e ≤ l.length := by
  unfold readLit at h
  split at h
  · cases h
  · rename_i zs e' ht
    split at h
    · cases h
    · cases h
      have := readT_sz (isNot_le hs) ht
      exact ⟨this.1, this.2.1, by omega, this.2.2.2⟩
def LitR (K : PySem.W.Frag) (b : Lt) (e : Nat) (v : V) (H : Hp) : Prop := ∃ p lv, v = .ref p ∧ H p = some (.tup [lv, .int (e : Int)]) ∧ LitAt K b lv H
def ReadL (K : PySem.W.Frag) (o : Option (Lt × Nat)) (v : V) (H : Hp) : Prop := match o with
  | none => v = .non
  | some (b, e) => LitR K b e v H
def ReadC (K : PySem.W.Frag) (B : Hp) (o : Option Cl) (v : V) (H : Hp) : Prop := match o with
  | none => v = .non
  | some z => ClAtB K B z v H
theorem LitR.mn (K : PySem.W.Frag) (b : Lt) (e : Nat) : Mn (LitR K b e) := fun v H H' n ⟨p, lv, h1, h2, h3⟩ => ⟨p, lv, h1, n.tu _ _ h2, LitAt.mn _ _ _ _ _ n h3⟩
/-! programs -/
def progT (ls : List (List Nat)) : List Nat := (ls.map (· ++ [10])).flatten
theorem split_prog (ls : List (List Nat)) (h : ∀ l, l ∈ ls → 10 ∉ l) : TL.spl [10] 0 [] (progT ls) = ls ++ [[]] := by
  induction ls with
  | nil => rfl
  | cons l ls ih =>
    have e : progT (l :: ls) = l ++ ([10] ++ progT ls) := by
      show (l ++ [10]) ++ progT ls = _
      rw [List.append_assoc]
    rw [e, TL.spl_part1 (h l List.mem_cons_self), ih (fun m hm => h m (List.mem_cons_of_mem _ hm))]
    rfl
theorem split_txt (ls : List (List Nat)) (h : ∀ l, l ∈ ls → 10 ∉ l) : Txt.split (tx (progT ls)) "\n" = ls.map tx ++ [tx []] := by
  have e : ("\n" : Str) = tx [10] := by decide +kernel
  rw [e]
  have := SX.split_S (a := progT ls) (b := [10]) (by decide) (by decide)
  rw [split_prog ls h, List.map_append] at this
  exact this
theorem cut_last (xs : List V) (x : V) : cutV (xs ++ [x]) none (some (-1)) = xs := by
  have e1 : HT.sIx (xs ++ [x]).length 0 none = 0 := rfl
  have e2 : HT.sIx (xs ++ [x]).length (xs ++ [x]).length (some (-1)) = xs.length := by
    rw [List.length_append, List.length_singleton]
    unfold HT.sIx
    simp
    omega
  unfold cutV
  rw [e1, e2, List.drop_zero, Nat.sub_zero, List.take_left]
/-- raised -/
def BadE (K : PySem.W.Frag) (nm : Str) (H : Hp) (E : XK) : Prop := ∀ d H', Ex H H' → H' d = some (.xd [("name", .str nm)]) → E (.ref (He.ga K "BadArgument")) (some d) H'
theorem BadE.mono {K : PySem.W.Frag} {nm : Str} {H H' : Hp} {E : XK} (e : Ex H H') (h : BadE K nm H E) : BadE K nm H' E := fun d H2 e2 h2 => h d H2 (e.trans e2) h2
end Wk
end
section
set_option Elab.async false
set_option linter.all false
set_option maxRecDepth 100000
set_option maxHeartbeats 4000000
/-! programs of names of one sign -/
namespace Wk
open PySem PySem.Spec PyProof.Rows L2 Evl
abbrev Rw := Nat × List Nat × List Nat
def t1 (c : Nat) : List Sg := [([c], 0)]
def clOf (r : Rw) : Cl := (t1 r.1, r.2.1.map (fun c => (t1 c, false)) ++ r.2.2.map (fun c => (t1 c, true)))
def nmV (c : Nat) : V := .str (tx [c])
def nmL (cs : List Nat) : List V := cs.map nmV
theorem nmL_len (cs : List Nat) : (nmL cs).length = cs.length := List.length_map ..
theorem nmV_inj {a b : Nat} (h : nmV a = nmV b) : a = b := by
  have := tx_inj (V.str.inj h)
  exact (List.cons.inj this).1
def RowAtB (B : Hp) (r : Rw) (v : V) (H : Hp) : Prop := ∃ p w d, v = .ref p ∧ H p = some (.tup [nmV r.1, .ref w, .ref d]) ∧ H w = some (.lst (nmL r.2.1)) ∧ H d = some (.lst (nmL r.2.2)) ∧ B w = none ∧ B d = none
def RowAt (r : Rw) (v : V) (H : Hp) : Prop := ∃ p w d, v = .ref p ∧ H p = some (.tup [nmV r.1, .ref w, .ref d]) ∧ H w = some (.lst (nmL r.2.1)) ∧ H d = some (.lst (nmL r.2.2))
theorem RowAt.mo (r : Rw) : Mo (RowAt r) := fun v H H' e ⟨p, w, d, h1, h2, h3, h4⟩ => ⟨p, w, d, h1, e _ _ h2, e _ _ h3, e _ _ h4⟩
theorem RowAtB.del {B H : Hp} {r : Rw} {v : V} {f : Addr} {xs : List V} {o : HO} (h : RowAtB B r v H) (hf : H f = some (.lst xs)) (hB : B f = some o) : RowAt r v (del H f) := by
  obtain ⟨p, w, d, h1, h2, h3, h4, h5, h6⟩ := h
  have hw : w ≠ f := fun e => by subst e; rw [hB] at h5; cases h5
  have hd : d ≠ f := fun e => by subst e; rw [hB] at h6; cases h6
  exact ⟨p, w, d, h1, (nl_del hf).tu _ _ h2, by rw [del_ne hw]; exact h3, by rw [del_ne hd]; exact h4⟩
def RowsAt (rs : List Rw) (a : Addr) (H : Hp) : Prop := ∃ vs, H a = some (.lst vs) ∧ AllV RowAt rs vs H
theorem RowsAt.ex {rs : List Rw} {a : Addr} {H H' : Hp} (e : Ex H H') (h : RowsAt rs a H) : RowsAt rs a H' := let ⟨vs, h1, h2⟩ := h; ⟨vs, e _ _ h1, AllV.mo RowAt.mo _ _ _ e h2⟩
/-! dicts that are sets of names -/
def dk (ns : List Nat) : List (Key × V) := ns.map fun c => (Sum.inr (tx [c]), V.bl true)
def addN (ns : List Nat) (c : Nat) : List Nat := if c ∈ ns then ns else ns ++ [c]
theorem key_inj {a b : Nat} : ((Sum.inr (tx [a]) : Key) = Sum.inr (tx [b])) ↔ a = b := by
  constructor
  · intro h
    have := tx_inj (Sum.inr.inj h)
    exact (List.cons.inj this).1
  · intro h; rw [h]
theorem val_dk (ns : List Nat) (c : Nat) : (valV (dk ns) (Sum.inr (tx [c]))).isSome = decide (c ∈ ns) := by
  rw [← valV_any]
  induction ns with
  | nil => rfl
  | cons a ns ih =>
    show (decide ((Sum.inr (tx [a]) : Key) = Sum.inr (tx [c])) || (dk ns).any _) = _
    rw [ih]
    by_cases h : a = c
    · subst h; simp
    · have : ¬ ((Sum.inr (tx [a]) : Key) = Sum.inr (tx [c])) := fun e => h (key_inj.mp e)
      rw [decide_eq_false this, Bool.false_or, decide_eq_decide, List.mem_cons]
      constructor
      · intro x; exact .inr x
      · rintro (x | x)
        · exact absurd x.symm h
        · exact x
theorem put_dk (ns : List Nat) (c : Nat) : putK (dk ns) (Sum.inr (tx [c])) (.bl true) = dk (addN ns c) := by
  unfold putK addN
  rw [valV_any, val_dk]
  by_cases h : c ∈ ns
  · rw [if_pos (decide_eq_true h), if_pos h]
    unfold dk
    rw [List.map_map]
    apply List.map_congr_left
    intro a ha
    show (if (Sum.inr (tx [a]) : Key) = Sum.inr (tx [c]) then ((Sum.inr (tx [a]) : Key), V.bl true) else (Sum.inr (tx [a]), V.bl true)) = _
    split <;> rfl
  · rw [if_neg (by rw [decide_eq_false h]; decide), if_neg h]
    unfold dk
    rw [List.map_append]
    rfl
theorem dk_len (ns : List Nat) : (dk ns).length = ns.length := List.length_map ..
theorem addN_mem {ns : List Nat} {c a : Nat} : a ∈ addN ns c ↔ a ∈ ns ∨ a = c := by
  unfold addN
  split
  · rename_i h
    constructor
    · intro x; exact .inl x
    · rintro (x | x)
      · exact x
      · rw [x]; exact h
  · rw [List.mem_append, List.mem_singleton]
theorem addN_nodup {ns : List Nat} {c : Nat} (h : ns.Nodup) : (addN ns c).Nodup := by
  unfold addN
  split
  · exact h
  · rename_i hc
    rw [List.nodup_append]
    exact ⟨h, by simp, fun a ha b hb => by rw [List.mem_singleton.mp hb]; intro e; exact hc (e ▸ ha)⟩
theorem addN_len (ns : List Nat) (c : Nat) : (addN ns c).length ≤ ns.length + 1 := by
  unfold addN
  split
  · omega
  · simp
section
variable {K : PySem.W.Frag} {σ : L2.St} {H : Hp} {ta td te ty tv : TE} {tr : TA} {xs ys : List V} {D : Ends} {tu tz : TS} {ns : List Nat} {c : Nat} {d : Addr}
theorem ev_din (h : Ev ty σ H (nmV c)) (ho : Ev td σ H (.ref d)) (hd : H d = some (.dK (dk ns))) : Ev (tDIn ty td) σ H (.bl (decide (c ∈ ns))) := fun H1 e Q q =>
  h H1 e _ fun H2 e2 => ho H2 (e.trans e2) _ fun H3 e3 => ⟨d, _, rfl, DGet.k (k := Sum.inr (tx [c])) (e3 _ _ (e2 _ _ (e _ _ hd))), by rw [val_dk]; exact q H3 (e2.trans e3)⟩
theorem ev_dnotin (h : Ev ty σ H (nmV c)) (ho : Ev td σ H (.ref d)) (hd : H d = some (.dK (dk ns))) : Ev (tDNotIn ty td) σ H (.bl (!decide (c ∈ ns))) := fun H1 e Q q =>
  h H1 e _ fun H2 e2 => ho H2 (e.trans e2) _ fun H3 e3 => ⟨d, _, rfl, DGet.k (k := Sum.inr (tx [c])) (e3 _ _ (e2 _ _ (e _ _ hd))), by rw [val_dk]; exact q H3 (e2.trans e3)⟩
theorem s_dput (hv : Ev tv σ H (.bl true)) (ho : Ev td σ H (.ref d)) (h : Ev ty σ H (nmV c)) (hd : H d = some (.dK (dk ns))) (hl : ns.length < 100000) (k : ∀ H1, Ex H H1 → D.nx σ (upd H1 d (.dK (dk (addN ns c))))) : sDPut td ty tv D σ H :=
  hv H (Ex.refl H) _ fun H1 e1 => ho H1 e1 _ fun H2 e2 => h H2 (e1.trans e2) _ fun H3 e3 => ⟨d, _, rfl, DPut.k (k := Sum.inr (tx [c])) (v := .bl true) (((e1.trans e2).trans e3) _ _ hd) (by rw [dk_len]; exact sz_lt hl), by rw [put_dk]; exact k H3 ((e1.trans e2).trans e3)⟩
theorem q_dput (hv : Ev tv σ H (.bl true)) (ho : Ev td σ H (.ref d)) (h : Ev ty σ H (nmV c)) (hd : H d = some (.dK (dk ns))) (hl : ns.length < 100000) (k : ∀ H1, Ex H H1 → tz D σ (upd H1 d (.dK (dk (addN ns c))))) : tSeq (sDPut td ty tv) tz D σ H :=
  s_dput (D := { D with nx := tz D }) hv ho h hd hl k
/-- new list + list -/
theorem el_cat {q : Addr} (h : EvL ta σ H xs) (hb : Ev te σ H (.ref q)) (hq : H q = some (.lst ys)) (hz : xs.length + ys.length ≤ 100000) : EvL (tOp rCat ta te) σ H (xs ++ ys) := fun H1 e Q k =>
  h H1 e _ fun p H2 hp e2 h2 => hb H2 (e.trans e2) _ fun H3 e3 => ⟨p, q, xs, ys, rfl, rfl, e3 _ _ h2, ((e.trans e2).trans e3) _ _ hq, sz_of hz, fun o ho => k o _ (fresh_back (e2.trans e3) ho) ((e2.trans e3).trans (Ex.new ho)) upd_same⟩
theorem el_catN (h : EvL ta σ H xs) (hb : EvL te σ H ys) (hz : xs.length + ys.length ≤ 100000) : EvL (tOp rCat ta te) σ H (xs ++ ys) := fun H1 e Q k =>
  h H1 e _ fun p H2 hp e2 h2 => hb H2 (e.trans e2) _ fun q H3 hq e3 h3 => ⟨p, q, xs, ys, rfl, rfl, e3 _ _ h2, h3, sz_of hz, fun o ho => k o _ (fresh_back (e2.trans e3) ho) ((e2.trans e3).trans (Ex.new ho)) upd_same⟩
end
/-! rising names -/
theorem sortedS_cs : ∀ cs : List Nat, sortedS (cs.map fun c => tx [c]) = true → cs.Pairwise (· ≤ ·) := by
  have step : ∀ (cs : List Nat) (p : Nat), risingS (tx [p]) (cs.map fun c => tx [c]) = true → (p :: cs).Pairwise (· ≤ ·) := by
    intro cs
    induction cs with
    | nil => intro p _; exact List.pairwise_singleton ..
    | cons c cs ih =>
      intro p h
      have h' : (!ltCps [c] [p] && risingS (tx [c]) (cs.map fun c => tx [c])) = true := h
      obtain ⟨h1, h2⟩ := Bool.and_eq_true_iff.mp h'
      have h3 := ih c h2
      have hpc : p ≤ c := by
        have e : ltCps [c] [p] = decide (c < p) := by
          simp [ltCps]
        rw [e] at h1
        simpa using h1
      refine List.pairwise_cons.mpr ⟨fun a ha => ?_, h3⟩
      rcases List.mem_cons.mp ha with x | x
      · omega
      · have := (List.pairwise_cons.mp h3).1 a x
        omega
  intro cs h
  cases cs with
  | nil => exact List.Pairwise.nil
  | cons c cs => exact step cs c h
theorem sorted_unique : ∀ (as bs : List Nat), as.Perm bs → as.Pairwise (· ≤ ·) → bs.Pairwise (· ≤ ·) → as = bs
  | [], bs, h, _, _ => (List.Perm.nil_eq h)
  | a :: as, bs, h, ha, hb => by
    cases bs with
    | nil => exact absurd h.length_eq (by simp)
    | cons b bs =>
      have h1 := List.pairwise_cons.mp ha
      have h2 := List.pairwise_cons.mp hb
      have hab : a = b := by
        have x1 : a ∈ b :: bs := h.mem_iff.mp List.mem_cons_self
        have x2 : b ∈ a :: as := h.mem_iff.mpr List.mem_cons_self
        rcases List.mem_cons.mp x1 with e | e
        · exact e
        · rcases List.mem_cons.mp x2 with e2 | e2
          · exact e2.symm
          · have := h2.1 a e
            have := h1.1 b e2
            omega
      subst hab
      rw [sorted_unique as bs h.cons_inv h1.2 h2.2]
def addAll (ns : List Nat) (cs : List Nat) : List Nat := cs.foldl addN ns
def rowNs (r : Rw) : List Nat := r.1 :: (r.2.1 ++ r.2.2)
def keysOf (rs : List Rw) : List Nat := rs.foldl (fun ns r => addAll ns (rowNs r)) []
def sortN (ns : List Nat) : List Nat := ns.mergeSort (fun a b => decide (a ≤ b))
def namesOf (rs : List Rw) : List Nat := sortN (keysOf rs)
theorem sortN_perm (ns : List Nat) : (sortN ns).Perm ns := List.mergeSort_perm ns _
theorem sortN_sorted (ns : List Nat) : (sortN ns).Pairwise (· ≤ ·) := by
  have := List.pairwise_mergeSort (le := fun a b : Nat => decide (a ≤ b)) (by intro a b c h1 h2; simp at *; omega) (by intro a b; simp; omega) ns
  exact this.imp (by intro a b h; simpa using h)
theorem map_perm_tx {ys : List Str} {ns : List Nat} (h : ys.Perm (ns.map fun c => tx [c])) (hs : sortedS ys = true) : ys = (sortN ns).map fun c => tx [c] := by
  obtain ⟨cs, h1, h2⟩ : ∃ cs : List Nat, ys = cs.map (fun c => tx [c]) ∧ cs.Perm ns := by
    have inj : ∀ a b : Nat, tx [a] = tx [b] → a = b := fun a b e => (List.cons.inj (tx_inj e)).1
    let g : Str → Nat := fun s => s.cps.toList.headD 0
    have hg : ∀ c : Nat, g (tx [c]) = c := fun c => rfl
    refine ⟨ys.map g, ?_, ?_⟩
    · rw [List.map_map]
      have : ∀ y, y ∈ ys → ((fun c => tx [c]) ∘ g) y = y := by
        intro y hy
        obtain ⟨c, _, hc⟩ := List.mem_map.mp (h.mem_iff.mp hy)
        rw [← hc]
        rfl
      rw [List.map_congr_left this, List.map_id']
    · have := h.map g
      rw [List.map_map] at this
      have e : ns.map (g ∘ fun c => tx [c]) = ns := by
        have : (g ∘ fun c => tx [c]) = id := by funext c; rfl
        rw [this, List.map_id]
      rwa [e] at this
  subst h1
  rw [sorted_unique cs (sortN ns) (h2.trans (sortN_perm ns).symm) (sortedS_cs cs hs) (sortN_sorted ns)]
theorem clOf_wanted (r : Rw) : ((clOf r).2.filter fun z => !z.2).map (fun z => nmV ((z.1.headD ([], 0)).1.headD 0)) = nmL r.2.1 := by
  unfold clOf
  dsimp only
  rw [List.filter_append, List.filter_map, List.filter_map]
  have e1 : (List.filter ((fun z : Lt => !z.2) ∘ fun c => (t1 c, false)) r.2.1) = r.2.1 := List.filter_eq_self.mpr (fun _ _ => rfl)
  have e2 : (List.filter ((fun z : Lt => !z.2) ∘ fun c => (t1 c, true)) r.2.2) = [] := List.filter_eq_nil_iff.mpr (fun _ _ => by simp)
  rw [e1, e2, List.map_nil, List.append_nil, List.map_map]
  rfl
theorem clOf_denied (r : Rw) : ((clOf r).2.filter fun z => z.2).map (fun z => nmV ((z.1.headD ([], 0)).1.headD 0)) = nmL r.2.2 := by
  unfold clOf
  dsimp only
  rw [List.filter_append, List.filter_map, List.filter_map]
  have e1 : (List.filter ((fun z : Lt => z.2) ∘ fun c => (t1 c, true)) r.2.2) = r.2.2 := List.filter_eq_self.mpr (fun _ _ => rfl)
  have e2 : (List.filter ((fun z : Lt => z.2) ∘ fun c => (t1 c, false)) r.2.1) = [] := List.filter_eq_nil_iff.mpr (fun _ _ => by simp)
  rw [e1, e2, List.map_nil, List.nil_append, List.map_map]
  rfl
theorem el_sortedD {σ : L2.St} {H : Hp} {td : TE} {ns : List Nat} {d : Addr} (h : Ev td σ H (.ref d)) (hd : H d = some (.dK (dk ns))) (h64 : ns.length < 64) : EvL (tCB (fun xs H Q => ∃ (a : Addr) (kvs : List (Key × V)) (ks : List Str), xs = [.ref a] ∧ Rd H a (.dK kvs) ∧ kvs.map (·.1) = ks.map Sum.inr ∧ ks.length < 64 ∧
    ∀ ys p, ys.Perm ks → sortedS ys = true → H p = none → Q (.ref p) (upd H p (.lst (ys.map V.str)))) (tCons td tNil)) σ H (nmL (sortN ns)) := fun H1 e Q q => h H1 e _ fun H2 e2 =>
  ⟨d, dk ns, ns.map fun c => tx [c], rfl, .inl (e2 _ _ (e _ _ hd)), by unfold dk; rw [List.map_map, List.map_map]; rfl, by rw [List.length_map]; exact h64, fun ys p hp hs hn => by
    rw [map_perm_tx hp hs]
    refine q p _ (fresh_back e2 hn) (e2.trans (Ex.new hn)) ?_
    rw [upd_same]
    unfold nmL
    rw [List.map_map]
    rfl⟩
theorem addAll_len (cs : List Nat) : ∀ ns : List Nat, (addAll ns cs).length ≤ ns.length + cs.length := by
  induction cs with
  | nil => intro ns; exact Nat.le_refl _
  | cons c cs ih =>
    intro ns
    have := ih (addN ns c)
    have := addN_len ns c
    show (addAll (addN ns c) cs).length ≤ _
    rw [List.length_cons]
    omega
theorem addAll_take {ns cs : List Nat} {j c : Nat} (h : cs[j]? = some c) : addAll ns (cs.take (j + 1)) = addN (addAll ns (cs.take j)) c := by
  rw [List.take_add_one, h]
  show addAll ns (cs.take j ++ [c]) = _
  unfold addAll
  rw [List.foldl_append]
  rfl
theorem keysOf_take {rs : List Rw} {i : Nat} {r : Rw} (h : rs[i]? = some r) : keysOf (rs.take (i + 1)) = addAll (keysOf (rs.take i)) (rowNs r) := by
  rw [List.take_add_one, h]
  show keysOf (rs.take i ++ [r]) = _
  unfold keysOf
  rw [List.foldl_append]
  rfl
theorem clOf_one (r : Rw) : (((clOf r).1 :: (clOf r).2.map Prod.fst).all fun t => decide (t.length = 1)) = true := by
  rw [List.all_eq_true]
  intro t ht
  simp only [clOf, List.mem_cons, List.map_append, List.map_map, List.mem_append, List.mem_map] at ht
  rcases ht with h | ⟨c, _, h⟩ | ⟨c, _, h⟩
  · rw [h]; rfl
  · rw [← h]; rfl
  · rw [← h]; rfl
end Wk
end
section
set_option Elab.async false
set_option linter.all false
set_option maxRecDepth 100000
set_option maxHeartbeats 4000000
/-! what comes of clauses: the least set, by passes -/
namespace Wk
open PySem PySem.Spec PyProof.Rows L2 Evl
theorem inV_nm (c : Nat) (ks : List Nat) : inV (nmV c) (nmL ks) = decide (c ∈ ks) := by
  unfold inV nmL
  rw [List.any_map]
  induction ks with
  | nil => rfl
  | cons k ks ih =>
    rw [List.any_cons, ih]
    have e : ((fun y => eqV y (nmV c)) ∘ nmV) k = decide (k = c) := by
      show (decide (tx [k] = tx [c])) = _
      rw [decide_eq_decide]
      constructor
      · intro h; exact (List.cons.inj (tx_inj h)).1
      · intro h; rw [h]
    rw [e]
    by_cases h : k = c
    · subst h; simp
    · rw [decide_eq_false h, Bool.false_or, decide_eq_decide, List.mem_cons]
      constructor
      · intro x; exact .inr x
      · rintro (x | x)
        · exact absurd x.symm h
        · exact x
theorem flat_nm (ks : List Nat) : (nmL ks).all flatV = true := by
  unfold nmL
  rw [List.all_map]
  exact List.all_eq_true.mpr (fun _ _ => rfl)
section
variable {K : PySem.W.Frag} {σ : L2.St} {H : Hp} {ta tb : TE} {c : Nat} {ks : List Nat} {a : Addr}
theorem ev_inT (h : Ev ta σ H (nmV c)) (hb : Ev tb σ H (.ref a)) (hx : SqT K H a (nmL ks)) : Ev (tOp (rIn K false) ta tb) σ H (.bl (decide (c ∈ ks))) := by
  rw [← inV_nm]
  exact ev_op h hb (rv_isT hx rfl (flat_nm ks))
theorem ev_inL (h : Ev ta σ H (nmV c)) (hb : Ev tb σ H (.ref a)) (hx : SqL K H a (nmL ks)) : Ev (tOp (rIn K false) ta tb) σ H (.bl (decide (c ∈ ks))) := by
  rw [← inV_nm]
  exact ev_op h hb (rv_isL hx rfl (flat_nm ks))
theorem ev_niL (h : Ev ta σ H (nmV c)) (hb : Ev tb σ H (.ref a)) (hx : SqL K H a (nmL ks)) : Ev (tOp (rIn K true) ta tb) σ H (.bl (!decide (c ∈ ks))) := by
  rw [← inV_nm]
  exact ev_op h hb (rv_niL hx rfl (flat_nm ks))
theorem ev_niT (h : Ev ta σ H (nmV c)) (hb : Ev tb σ H (.ref a)) (hx : SqT K H a (nmL ks)) : Ev (tOp (rIn K true) ta tb) σ H (.bl (!decide (c ∈ ks))) := by
  rw [← inV_nm]
  exact ev_op h hb (rv_niT hx rfl (flat_nm ks))
end
/-! the passes -/
def pStep (ok : Rw → Bool) (s : List Nat × Bool) (r : Rw) : List Nat × Bool := if (ok r && (decide (r.1 ∉ s.1) && r.2.1.all fun c => decide (c ∈ s.1))) = true then (s.1 ++ [r.1], true) else s
def pass (ok : Rw → Bool) (rs : List Rw) (f : List Nat) : List Nat × Bool := rs.foldl (pStep ok) (f, false)
def fixN (ok : Rw → Bool) (rs : List Rw) : Nat → List Nat → List Nat
  | 0, f => f
  | n + 1, f => if (pass ok rs f).2 = true then fixN ok rs n (pass ok rs f).1 else f
def fixOf (ok : Rw → Bool) (rs : List Rw) : List Nat := fixN ok rs (rs.length + 2) []
/-- rows whose head is not there -/
def unm (rs : List Rw) (f : List Nat) : Nat := (rs.filter fun r => decide (r.1 ∉ f)).length
theorem unm_le (rs : List Rw) (f : List Nat) : unm rs f ≤ rs.length := List.length_filter_le _ _
theorem unm_mono {f g : List Nat} (h : ∀ c, c ∈ f → c ∈ g) : ∀ rs : List Rw, unm rs g ≤ unm rs f
  | [] => Nat.le_refl _
  | r :: rs => by
    have ih := unm_mono h rs
    unfold unm at *
    rw [List.filter_cons, List.filter_cons]
    by_cases hf : r.1 ∈ f
    · rw [if_neg (by simp [h _ hf]), if_neg (by simp [hf])]
      exact ih
    · by_cases hg : r.1 ∈ g
      · rw [if_neg (by simp [hg]), if_pos (by simp [hf])]
        simp only [List.length_cons]
        omega
      · rw [if_pos (by simp [hg]), if_pos (by simp [hf])]
        simp only [List.length_cons]
        omega
theorem unm_lt {f g : List Nat} (h : ∀ c, c ∈ f → c ∈ g) {r : Rw} (hf : r.1 ∉ f) (hg : r.1 ∈ g) : ∀ rs : List Rw, r ∈ rs → unm rs g < unm rs f
  | [], hr => by cases hr
  | q :: rs, hr => by
    have mono := unm_mono h rs
    unfold unm at *
    rw [List.filter_cons, List.filter_cons]
    rcases List.mem_cons.mp hr with e | hr2
    · subst e
      rw [if_neg (by simp [hg]), if_pos (by simp [hf])]
      simp only [List.length_cons]
      omega
    · have ih := unm_lt h hf hg rs hr2
      unfold unm at ih
      by_cases hf' : q.1 ∈ f
      · rw [if_neg (by simp [h _ hf']), if_neg (by simp [hf'])]
        exact ih
      · by_cases hg' : q.1 ∈ g
        · rw [if_neg (by simp [hg']), if_pos (by simp [hf'])]
          simp only [List.length_cons]
          omega
        · rw [if_pos (by simp [hg']), if_pos (by simp [hf'])]
          simp only [List.length_cons]
          omega
/-- what the passes keep -/
theorem pass_inv (ok : Rw → Bool) (f : List Nat) : ∀ (rs all : List Rw) (s : List Nat × Bool), (∀ r, r ∈ rs → r ∈ all) → (∀ c, c ∈ f → c ∈ s.1) → (s.2 = true → unm all s.1 < unm all f) → (s.2 = false → s.1 = f) →
    (∀ c, c ∈ f → c ∈ (rs.foldl (pStep ok) s).1) ∧ ((rs.foldl (pStep ok) s).2 = true → unm all (rs.foldl (pStep ok) s).1 < unm all f) ∧ ((rs.foldl (pStep ok) s).2 = false → (rs.foldl (pStep ok) s).1 = f)
  | [], _, s, _, h1, h2, h3 => ⟨h1, h2, h3⟩
  | r :: rs, all, s, h0, h1, h2, h3 => by
    show (∀ c, c ∈ f → c ∈ (rs.foldl (pStep ok) (pStep ok s r)).1) ∧ _
    by_cases hc : (ok r && (decide (r.1 ∉ s.1) && r.2.1.all fun c => decide (c ∈ s.1))) = true
    · have e : pStep ok s r = (s.1 ++ [r.1], true) := if_pos hc
      rw [List.foldl_cons, e]
      refine pass_inv ok f rs all _ (fun q hq => h0 q (List.mem_cons_of_mem _ hq)) (fun c hcf => List.mem_append_left _ (h1 c hcf)) (fun _ => ?_) (fun h => by cases h)
      have hn : r.1 ∉ s.1 := by
        have := Bool.and_eq_true_iff.mp (Bool.and_eq_true_iff.mp hc).2
        exact of_decide_eq_true this.1
      have hlt : unm all (s.1 ++ [r.1]) < unm all s.1 := unm_lt (fun c h => List.mem_append_left _ h) hn (by simp) all (h0 r List.mem_cons_self)
      have hle : unm all s.1 ≤ unm all f := unm_mono h1 all
      exact Nat.lt_of_lt_of_le hlt hle
    · have e : pStep ok s r = s := if_neg hc
      rw [List.foldl_cons, e]
      exact pass_inv ok f rs all s (fun q hq => h0 q (List.mem_cons_of_mem _ hq)) h1 h2 h3
theorem pass_new {ok : Rw → Bool} {rs : List Rw} {f : List Nat} (h : (pass ok rs f).2 = true) : unm rs (pass ok rs f).1 < unm rs f := (pass_inv ok f rs rs (f, false) (fun _ h => h) (fun _ h => h) (fun h => by cases h) (fun _ => rfl)).2.1 h
theorem pass_old {ok : Rw → Bool} {rs : List Rw} {f : List Nat} (h : (pass ok rs f).2 = false) : (pass ok rs f).1 = f := (pass_inv ok f rs rs (f, false) (fun _ h => h) (fun _ h => h) (fun h => by cases h) (fun _ => rfl)).2.2 h
theorem pass_take {ok : Rw → Bool} {rs : List Rw} {f : List Nat} {i : Nat} {r : Rw} (h : rs[i]? = some r) : (rs.take (i + 1)).foldl (pStep ok) (f, false) = pStep ok ((rs.take i).foldl (pStep ok) (f, false)) r := by
  rw [List.take_add_one, h]
  show (rs.take i ++ [r]).foldl _ _ = _
  rw [List.foldl_append]
  rfl
theorem pStep_len (ok : Rw → Bool) (s : List Nat × Bool) (r : Rw) : (pStep ok s r).1.length ≤ s.1.length + 1 := by
  unfold pStep
  split
  · simp
  · omega
theorem pStep_nodup {ok : Rw → Bool} {s : List Nat × Bool} {r : Rw} (h : s.1.Nodup) : (pStep ok s r).1.Nodup := by
  unfold pStep
  split
  · rename_i hc
    have hn : r.1 ∉ s.1 := by
      have := Bool.and_eq_true_iff.mp (Bool.and_eq_true_iff.mp hc).2
      exact of_decide_eq_true this.1
    rw [List.nodup_append]
    exact ⟨h, by simp, fun a ha b hb => by rw [List.mem_singleton.mp hb]; intro e; exact hn (e ▸ ha)⟩
  · exact h
theorem pStep_yes {ok : Rw → Bool} {s : List Nat × Bool} {r : Rw} (h : (ok r && (decide (r.1 ∉ s.1) && r.2.1.all fun c => decide (c ∈ s.1))) = true) : pStep ok s r = (addN s.1 r.1, true) := by
  have hn : r.1 ∉ s.1 := by
    have := Bool.and_eq_true_iff.mp (Bool.and_eq_true_iff.mp h).2
    exact of_decide_eq_true this.1
  unfold pStep addN
  rw [if_pos h, if_neg hn]
theorem pStep_no {ok : Rw → Bool} {s : List Nat × Bool} {r : Rw} (h : (ok r && (decide (r.1 ∉ s.1) && r.2.1.all fun c => decide (c ∈ s.1))) = false) : pStep ok s r = s := by
  unfold pStep
  rw [if_neg (by rw [h]; decide)]
theorem pStep_cnt {ok : Rw → Bool} {s : List Nat × Bool} {r : Rw} {all : List Rw} (hr : r ∈ all) (h : s.1.length + unm all s.1 ≤ all.length) : (pStep ok s r).1.length + unm all (pStep ok s r).1 ≤ all.length := by
  unfold pStep
  split
  · rename_i hc
    have hn : r.1 ∉ s.1 := by
      have := Bool.and_eq_true_iff.mp (Bool.and_eq_true_iff.mp hc).2
      exact of_decide_eq_true this.1
    have hlt : unm all (s.1 ++ [r.1]) < unm all s.1 := unm_lt (fun c h => List.mem_append_left _ h) hn (by simp) all hr
    simp only [List.length_append, List.length_singleton]
    omega
  · exact h
def okB (ks : List Nat) (r : Rw) : Bool := !(r.2.2.any fun c => decide (c ∈ ks))
def okH (ts fs : List Nat) (r : Rw) : Bool := !((r.2.1.any fun c => decide (c ∈ fs)) || r.2.2.any fun c => decide (c ∈ ts))
end Wk
end
section
set_option Elab.async false
set_option linter.all false
set_option maxRecDepth 100000
set_option maxHeartbeats 4000000
/-! cases; walks over a dict -/
namespace Wk
open PySem PySem.Spec PyProof.Rows L2 Evl
def CaseAt (K : PySem.W.Frag) (ts fs : List Nat) (v : V) (H : Hp) : Prop := ∃ p dx t f, v = .ref p ∧ H p = some (.ins (He.ga K "Case") dx [("true", .ref t), ("false", .ref f)]) ∧ H t = some (.dK (dk ts)) ∧ H f = some (.dK (dk fs))
theorem CaseAt.mo (K : PySem.W.Frag) (ts fs : List Nat) : Mo (CaseAt K ts fs) := fun v H H' e ⟨p, dx, t, f, h1, h2, h3, h4⟩ => ⟨p, dx, t, f, h1, e _ _ h2, e _ _ h3, e _ _ h4⟩
theorem CaseAt.mn (K : PySem.W.Frag) (ts fs : List Nat) : Mn (CaseAt K ts fs) := fun v H H' n ⟨p, dx, t, f, h1, h2, h3, h4⟩ => ⟨p, dx, t, f, h1, n _ _ h2 (fun xs e => by cases e), n _ _ h3 (fun xs e => by cases e), n _ _ h4 (fun xs e => by cases e)⟩
section
variable {K : PySem.W.Frag} {σ : L2.St} {H : Hp} {ta td te ty tv : TE} {tr : TA} {D : Ends} {tu tz : TS} {d : Addr} {u : HO} {v : V}
theorem ev_lock (hd : H d = some u) (mu : Mut (some u)) (h : ∀ od, Ev te σ (upd H d (.frz od u)) v) : Ev (tLockE te) σ H v := fun H1 e Q q =>
  ⟨d, u, e _ _ hd, mu, fun od => h od _ (fun a o ha => by
    by_cases x : a = d
    · subst x; rw [upd_same] at ha ⊢; exact ha
    · rw [upd_ne x] at ha ⊢; exact e a o ha) _ fun H2 e2 => ⟨e2 _ _ upd_same, q _ (fun a o ha => by
    by_cases x : a = d
    · subst x; rw [upd_same]; rw [e _ _ hd] at ha; exact ha
    · rw [upd_ne x]; exact e2 a o (by rw [upd_ne x]; exact ha))⟩⟩
theorem dk_keys (ns : List Nat) : (dk ns).map (fun p => kV p.1) = ns.map nmV := by unfold dk; rw [List.map_map]; rfl
/-- names of a dict, while it is walked over -/
theorem ei_dk {o : Obj} {ns : List Nat} (h : Ev ta σ H (.ref d)) (hx : H d = some (.frz o (.dK (dk ns)))) : EvI (iKeys ta) σ H (ns.map nmV) := by
  rw [← dk_keys]
  exact ei_K h hx
/-- what is in a dict that may be walked over -/
theorem ev_dinF {ns : List Nat} {c : Nat} (h : Ev ty σ H (nmV c)) (ho : Ev td σ H (.ref d)) (hd : Rd H d (.dK (dk ns))) : Ev (tDIn ty td) σ H (.bl (decide (c ∈ ns))) := fun H1 e Q q =>
  h H1 e _ fun H2 e2 => ho H2 (e.trans e2) _ fun H3 e3 => ⟨d, _, rfl, .inl ⟨dk ns, Sum.inr (tx [c]), ex_rd (e.trans (e2.trans e3)) hd, rfl, rfl⟩, by rw [val_dk]; exact q H3 (e2.trans e3)⟩
/-- dict(d) -/
theorem x_dict {ns : List Nat} (h : Ev td σ H (.ref d)) (hd : H d = some (.dK (dk ns))) : EvX (tCB (fun xs H Q => ∃ (a : Addr) (kvs : List (Key × V)), xs = [.ref a] ∧ Rd H a (.dK kvs) ∧ ∀ p, H p = none → Q (.ref p) (upd H p (.dK kvs))) (tCons td tNil)) σ H (fun v H' => ∃ p, v = .ref p ∧ H p = none ∧ H' p = some (.dK (dk ns))) := fun H1 e Q q =>
  h H1 e _ fun H2 e2 => ⟨d, dk ns, rfl, .inl (e2 _ _ (e _ _ hd)), fun p hp => q _ _ (e2.trans (Ex.new hp)) ⟨p, rfl, fresh_back (e.trans e2) hp, upd_same⟩⟩
/-- x, y = e1, e2 -/
theorem q_parX {i j : Nat} {P : V → Hp → Prop} {R : Hp → V → Hp → Prop} (h1 : EvX ta σ H P) (h2 : ∀ H1, Ex H H1 → EvX te σ H1 (R H1)) (k : ∀ v1 v2 H1 H2, Ex H H1 → P v1 H1 → Ex H1 H2 → R H1 v2 H2 → tz D ((σ.set i (some v1)).set j (some v2)) H2) : tSeq (tPar i j (tCons ta (tCons te tNil))) tz D σ H :=
  h1 H (Ex.refl H) _ fun v1 H1 e1 p1 => h2 H1 e1 H1 (Ex.refl H1) _ fun v2 H2 e2 p2 => ⟨v1, v2, rfl, k v1 v2 H1 H2 e1 p1 e2 p2⟩
end
end Wk
end
section
set_option Elab.async false
set_option linter.all false
set_option maxRecDepth 100000
set_option maxHeartbeats 4000000
/-! cases that grow -/
namespace Wk
open PySem PySem.Spec PyProof.Rows L2 Evl
def okF (ts fs : List Nat) (r : Rw) : Bool := (r.2.1.all (fun c => decide (c ∈ ts)) && r.2.2.all (fun c => decide (c ∈ fs))) && !decide (r.1 ∈ ts)
def forcedT (rs : List Rw) (ts fs : List Nat) : List Nat := (rs.filter (okF ts fs)).map (·.1)
def forcedF (rs : List Rw) (ts fs : List Nat) : List Nat := (namesOf rs).filter fun c => !decide (c ∈ fixOf (okH ts fs) rs) && !decide (c ∈ fs)
def ForcedAt (xs ys : List Nat) (u : V) (H : Hp) : Prop := ∃ p t f, u = .ref p ∧ H p = some (.tup [.ref t, .ref f]) ∧ H t = some (.lst (nmL xs)) ∧ H f = some (.lst (nmL ys))
theorem forcedT_len (rs : List Rw) (ts fs : List Nat) : (forcedT rs ts fs).length ≤ rs.length := by unfold forcedT; rw [List.length_map]; exact List.length_filter_le _ _
theorem forcedT_take {rs : List Rw} {ts fs : List Nat} {i : Nat} {r : Rw} (h : rs[i]? = some r) : forcedT (rs.take (i + 1)) ts fs = forcedT (rs.take i) ts fs ++ (if okF ts fs r = true then [r.1] else []) := by
  unfold forcedT
  rw [List.take_add_one, h]
  show ((rs.take i ++ [r]).filter _).map _ = _
  rw [List.filter_append, List.map_append, List.filter_cons]
  split <;> rfl
def shutB (ts fs : List Nat) : Bool := ts.any fun c => decide (c ∈ fs)
/-- a case with all that it says -/
def growN (rs : List Rw) : Nat → List Nat → List Nat → List Nat × List Nat
  | 0, ts, fs => (ts, fs)
  | n + 1, ts, fs => if shutB ts fs = true then (ts, fs) else
    if forcedT rs ts fs = [] ∧ forcedF rs ts fs = [] then (ts, fs) else growN rs n (addAll ts (forcedT rs ts fs)) (addAll fs (forcedF rs ts fs))
/-- names that are not there -/
def miss (ns f : List Nat) : Nat := (ns.filter fun c => !decide (c ∈ f)).length
theorem miss_mono {f g : List Nat} (h : ∀ c, c ∈ f → c ∈ g) : ∀ ns : List Nat, miss ns g ≤ miss ns f
  | [] => Nat.le_refl _
  | a :: ns => by
    have ih := miss_mono h ns
    unfold miss at *
    rw [List.filter_cons, List.filter_cons]
    by_cases hf : a ∈ f
    · rw [if_neg (by simp [h _ hf]), if_neg (by simp [hf])]
      exact ih
    · by_cases hg : a ∈ g
      · rw [if_neg (by simp [hg]), if_pos (by simp [hf])]
        simp only [List.length_cons]
        omega
      · rw [if_pos (by simp [hg]), if_pos (by simp [hf])]
        simp only [List.length_cons]
        omega
theorem miss_lt {f g : List Nat} (h : ∀ c, c ∈ f → c ∈ g) {a : Nat} (hf : a ∉ f) (hg : a ∈ g) : ∀ ns : List Nat, a ∈ ns → miss ns g < miss ns f
  | [], hr => by cases hr
  | q :: ns, hr => by
    have mono := miss_mono h ns
    unfold miss at *
    rw [List.filter_cons, List.filter_cons]
    rcases List.mem_cons.mp hr with e | hr2
    · subst e
      rw [if_neg (by simp [hg]), if_pos (by simp [hf])]
      simp only [List.length_cons]
      omega
    · have ih := miss_lt h hf hg ns hr2
      unfold miss at ih
      by_cases hf' : q ∈ f
      · rw [if_neg (by simp [h _ hf']), if_neg (by simp [hf'])]
        exact ih
      · by_cases hg' : q ∈ g
        · rw [if_neg (by simp [hg']), if_pos (by simp [hf'])]
          simp only [List.length_cons]
          omega
        · rw [if_pos (by simp [hg']), if_pos (by simp [hf'])]
          simp only [List.length_cons]
          omega
theorem addAll_mem {cs : List Nat} : ∀ {f : List Nat} {a : Nat}, a ∈ addAll f cs ↔ a ∈ f ∨ a ∈ cs := by
  induction cs with
  | nil => intro f a; simp [addAll]
  | cons c cs ih =>
    intro f a
    show a ∈ addAll (addN f c) cs ↔ _
    rw [ih, addN_mem, List.mem_cons]
    constructor
    · rintro ((h | h) | h)
      · exact .inl h
      · exact .inr (.inl h)
      · exact .inr (.inr h)
    · rintro (h | h | h)
      · exact .inl (.inl h)
      · exact .inl (.inr h)
      · exact .inr h
theorem addN_cnt {ns f : List Nat} {c : Nat} (hc : c ∈ ns) : (addN f c).length + miss ns (addN f c) ≤ f.length + miss ns f := by
  by_cases h : c ∈ f
  · unfold addN; rw [if_pos h]; exact Nat.le_refl _
  · have hlt := miss_lt (f := f) (g := addN f c) (fun a ha => addN_mem.mpr (.inl ha)) h (addN_mem.mpr (.inr rfl)) ns hc
    have := addN_len f c
    omega
theorem addAll_cnt {ns : List Nat} : ∀ {cs f : List Nat}, (∀ c, c ∈ cs → c ∈ ns) → (addAll f cs).length + miss ns (addAll f cs) ≤ f.length + miss ns f := by
  intro cs
  induction cs with
  | nil => intro f _; exact Nat.le_refl _
  | cons c cs ih =>
    intro f h
    have h1 := ih (f := addN f c) (fun a ha => h a (List.mem_cons_of_mem _ ha))
    have h2 := addN_cnt (f := f) (h c List.mem_cons_self)
    show (addAll (addN f c) cs).length + miss ns (addAll (addN f c) cs) ≤ _
    omega
theorem keysOf_mem {rs : List Rw} : ∀ {a : Nat}, a ∈ keysOf rs ↔ ∃ r, r ∈ rs ∧ a ∈ rowNs r := by
  have gen : ∀ (rs : List Rw) (f : List Nat) (a : Nat), a ∈ rs.foldl (fun ns r => addAll ns (rowNs r)) f ↔ a ∈ f ∨ ∃ r, r ∈ rs ∧ a ∈ rowNs r := by
    intro rs
    induction rs with
    | nil => intro f a; simp
    | cons r rs ih =>
      intro f a
      rw [List.foldl_cons, ih, addAll_mem]
      constructor
      · rintro ((h | h) | ⟨q, h1, h2⟩)
        · exact .inl h
        · exact .inr ⟨r, List.mem_cons_self, h⟩
        · exact .inr ⟨q, List.mem_cons_of_mem _ h1, h2⟩
      · rintro (h | ⟨q, h1, h2⟩)
        · exact .inl (.inl h)
        · rcases List.mem_cons.mp h1 with e | h1
          · subst e; exact .inl (.inr h2)
          · exact .inr ⟨q, h1, h2⟩
  intro a
  have := gen rs [] a
  simpa [keysOf] using this
theorem namesOf_mem {rs : List Rw} {a : Nat} : a ∈ namesOf rs ↔ ∃ r, r ∈ rs ∧ a ∈ rowNs r := by
  unfold namesOf
  rw [(sortN_perm _).mem_iff]
  exact keysOf_mem
theorem forcedT_names {rs : List Rw} {ts fs : List Nat} {c : Nat} (h : c ∈ forcedT rs ts fs) : c ∈ namesOf rs ∧ c ∉ ts := by
  unfold forcedT at h
  obtain ⟨r, hr, rfl⟩ := List.mem_map.mp h
  obtain ⟨h1, h2⟩ := List.mem_filter.mp hr
  refine ⟨namesOf_mem.mpr ⟨r, h1, List.mem_cons_self⟩, ?_⟩
  unfold okF at h2
  have := (Bool.and_eq_true_iff.mp h2).2
  simpa using this
theorem forcedF_names {rs : List Rw} {ts fs : List Nat} {c : Nat} (h : c ∈ forcedF rs ts fs) : c ∈ namesOf rs ∧ c ∉ fs := by
  unfold forcedF at h
  obtain ⟨h1, h2⟩ := List.mem_filter.mp h
  have := (Bool.and_eq_true_iff.mp h2).2
  exact ⟨h1, by simpa using this⟩
/-- with something forced, fewer names are open -/
theorem grow_lt {rs : List Rw} {ts fs : List Nat} (h : ¬ (forcedT rs ts fs = [] ∧ forcedF rs ts fs = [])) :
    miss (namesOf rs) (addAll ts (forcedT rs ts fs)) + miss (namesOf rs) (addAll fs (forcedF rs ts fs)) < miss (namesOf rs) ts + miss (namesOf rs) fs := by
  have m1 := miss_mono (f := ts) (g := addAll ts (forcedT rs ts fs)) (fun c hc => addAll_mem.mpr (.inl hc)) (namesOf rs)
  have m2 := miss_mono (f := fs) (g := addAll fs (forcedF rs ts fs)) (fun c hc => addAll_mem.mpr (.inl hc)) (namesOf rs)
  by_cases h1 : forcedT rs ts fs = []
  · have h2 : forcedF rs ts fs ≠ [] := fun e => h ⟨h1, e⟩
    obtain ⟨c, hc⟩ := List.exists_mem_of_ne_nil _ h2
    have := miss_lt (f := fs) (g := addAll fs (forcedF rs ts fs)) (fun c hc => addAll_mem.mpr (.inl hc)) (forcedF_names hc).2 (addAll_mem.mpr (.inr hc)) _ (forcedF_names hc).1
    omega
  · obtain ⟨c, hc⟩ := List.exists_mem_of_ne_nil _ h1
    have := miss_lt (f := ts) (g := addAll ts (forcedT rs ts fs)) (fun c hc => addAll_mem.mpr (.inl hc)) (forcedT_names hc).2 (addAll_mem.mpr (.inr hc)) _ (forcedT_names hc).1
    omega
def openOf (rs : List Rw) (ts fs : List Nat) : Option Nat := (namesOf rs).find? fun c => !decide (c ∈ ts) && !decide (c ∈ fs)
def nmO : Option Nat → V
  | none => .non
  | some c => nmV c
theorem find_first {ns : List Nat} {p : Nat → Bool} {i c : Nat} (hc : ns[i]? = some c) (hno : ∀ d, d ∈ ns.take i → p d = false) (hb : p c = true) : ns.find? p = some c := by
  induction ns generalizing i with
  | nil => simp at hc
  | cons a ns ih =>
    cases i with
    | zero =>
      cases hc
      rw [List.find?_cons, hb]
    | succ i =>
      have h1 : p a = false := hno a (by simp)
      rw [List.find?_cons, h1]
      exact ih hc (fun d hd => hno d (by rw [List.take_succ_cons]; exact List.mem_cons_of_mem _ hd))
def growOf (rs : List Rw) (ts fs : List Nat) : List Nat × List Nat := growN rs (miss (namesOf rs) ts + miss (namesOf rs) fs + 1) ts fs
section
variable {K : PySem.W.Frag} {σ : L2.St} {H : Hp} {ta td te : TE} {tr : TA} {D : Ends} {tu tz : TS} {P : V → Hp → Prop}
/-- x, y = e, a pair -/
theorem q_asgTupX {i j : Nat} {P2 : V → V → Hp → Prop} (h : EvX te σ H (fun u H' => ∃ p x y, u = .ref p ∧ H' p = some (.tup [x, y]) ∧ P2 x y H')) (k : ∀ x y H1, Ex H H1 → P2 x y H1 → tz D ((σ.set i (some x)).set j (some y)) H1) :
    tSeq (tAsg te (gTup K 2 (gCons (gName i) (gCons (gName j) gNil)))) tz D σ H := h H (Ex.refl H) _ fun u H1 e ⟨p, x, y, eu, hp, p2⟩ => by
  subst eu
  exact ⟨p, _, rfl, st_of hp, rfl, _, _, rfl, _, _, rfl, rfl, k x y H1 e p2⟩
theorem x_meth {m : Str} {sp : Sp} {E : XK} {vs : List V} {x C dx : Addr} {fs : List (Str × V)} (ho : Ev ta σ H (.ref x)) (hx : H x = some (.ins C dx fs)) (hm : fs.lookup m = none) (h : EvA tr σ H vs) (hs : ∀ H1, Ex H H1 → ∀ Q : VK, (∀ v H2, Ex H1 H2 → P v H2 → Q v H2) → ∀ E, sp (.ref x :: vs) H1 Q E) :
    EvX (tMeth C m sp [] E ta tr) σ H P := fun H1 e Q q =>
  ho H1 e _ fun H2 e2 => ⟨x, dx, fs, rfl, e2 _ _ (e _ _ hx), hm, h H2 (e.trans e2) _ fun H3 e3 => by
    rw [List.append_nil]
    exact hs H3 ((e.trans e2).trans e3) Q (fun v H4 e4 p => q v H4 ((e2.trans e3).trans e4) p) E⟩
end
theorem ev_lenT {K : PySem.W.Frag} {σ : L2.St} {H : Hp} {ta : TE} {p : Addr} {xs : List V} (ha : Ev ta σ H (.ref p)) (h : SqT K H p xs) : Ev (tCB (rLenS K) (tCons ta tNil)) σ H (.int (xs.length : Int)) := fun H1 e Q q =>
  ha H1 e _ fun H2 e2 => ⟨p, xs, rfl, .inr (ex_t (e.trans e2) h), q H2 e2⟩
theorem ev_chainI {σ : L2.St} {H : Hp} {ta tb tc : TE} {i j k : Int} (ha : Ev ta σ H (.int i)) (hb : Ev tb σ H (.int j)) (hc : Ev tc σ H (.int k)) : Ev (tChain (rI0 fun i j => .bl (decide (i ≤ j))) (rI0 fun i j => .bl (decide (i ≤ j))) ta tb tc) σ H (.bl (decide (i ≤ j) && decide (j ≤ k))) := fun H1 e Q q =>
  ha H1 e _ fun H2 e2 => hb H2 (e.trans e2) _ fun H3 e3 => ⟨i, j, rfl, rfl, decide (i ≤ j), rfl, by
    cases h : decide (i ≤ j) with
    | true =>
      rw [if_pos rfl]
      refine hc H3 (e.trans (e2.trans e3)) _ fun H4 e4 => ⟨j, k, rfl, rfl, ?_⟩
      rw [h, Bool.true_and] at q
      exact q H4 (e2.trans (e3.trans e4))
    | false =>
      rw [if_neg (by decide)]
      rw [h, Bool.false_and] at q
      exact q H3 (e2.trans e3)⟩
theorem x_catL {σ : L2.St} {H : Hp} {ta tb : TE} {xs : List V} {PL : List V → Hp → Prop} (h : EvL ta σ H xs) (hb : EvX tb σ H (fun v H' => ∃ q ys, v = .ref q ∧ H' q = some (.lst ys) ∧ PL ys H')) (hm : ∀ ys H H', Ex H H' → PL ys H → PL ys H') (hz : ∀ ys H, PL ys H → xs.length + ys.length ≤ 100000) :
    EvX (tOp rCat ta tb) σ H (fun v H' => ∃ p ys, v = .ref p ∧ H' p = some (.lst (xs ++ ys)) ∧ PL ys H') := fun H1 e Q k =>
  h H1 e _ fun p H2 hp e2 h2 => hb H2 (e.trans e2) _ fun v H3 e3 ⟨q, ys, ev, hq, pl⟩ => by
    subst ev
    exact ⟨p, q, xs, ys, rfl, rfl, e3 _ _ h2, hq, sz_of (hz ys H3 pl), fun o ho => k _ _ ((e2.trans e3).trans (Ex.new ho)) ⟨o, ys, rfl, upd_same, hm ys _ _ (Ex.new ho) pl⟩⟩
end Wk
end
section
set_option Elab.async false
set_option linter.all false
set_option maxRecDepth 100000
set_option maxHeartbeats 4000000
/-! trees of cases -/
namespace Wk
open PySem PySem.Spec PyProof.Rows L2 Evl
def uo (rs : List Rw) (ts fs : List Nat) : Nat := miss (namesOf rs) (ts ++ fs)
theorem growN_sub (rs : List Rw) : ∀ (n : Nat) (ts fs : List Nat), (∀ c, c ∈ ts → c ∈ (growN rs n ts fs).1) ∧ (∀ c, c ∈ fs → c ∈ (growN rs n ts fs).2)
  | 0, ts, fs => ⟨fun _ h => h, fun _ h => h⟩
  | n + 1, ts, fs => by
    unfold growN
    split
    · exact ⟨fun _ h => h, fun _ h => h⟩
    · split
      · exact ⟨fun _ h => h, fun _ h => h⟩
      · have ih := growN_sub rs n (addAll ts (forcedT rs ts fs)) (addAll fs (forcedF rs ts fs))
        exact ⟨fun c h => ih.1 c (addAll_mem.mpr (.inl h)), fun c h => ih.2 c (addAll_mem.mpr (.inl h))⟩
theorem growN_cnt (rs : List Rw) : ∀ (n : Nat) (ts fs : List Nat), (growN rs n ts fs).1.length + miss (namesOf rs) (growN rs n ts fs).1 ≤ ts.length + miss (namesOf rs) ts ∧ (growN rs n ts fs).2.length + miss (namesOf rs) (growN rs n ts fs).2 ≤ fs.length + miss (namesOf rs) fs
  | 0, ts, fs => ⟨Nat.le_refl _, Nat.le_refl _⟩
  | n + 1, ts, fs => by
    unfold growN
    split
    · exact ⟨Nat.le_refl _, Nat.le_refl _⟩
    · split
      · exact ⟨Nat.le_refl _, Nat.le_refl _⟩
      · have ih := growN_cnt rs n (addAll ts (forcedT rs ts fs)) (addAll fs (forcedF rs ts fs))
        have c1 := addAll_cnt (ns := namesOf rs) (f := ts) (cs := forcedT rs ts fs) (fun c hc => (forcedT_names hc).1)
        have c2 := addAll_cnt (ns := namesOf rs) (f := fs) (cs := forcedF rs ts fs) (fun c hc => (forcedF_names hc).1)
        exact ⟨Nat.le_trans ih.1 c1, Nat.le_trans ih.2 c2⟩
theorem uo_grow (rs : List Rw) (ts fs : List Nat) : uo rs (growOf rs ts fs).1 (growOf rs ts fs).2 ≤ uo rs ts fs := by
  refine miss_mono (fun c hc => ?_) _
  have := growN_sub rs (miss (namesOf rs) ts + miss (namesOf rs) fs + 1) ts fs
  rcases List.mem_append.mp hc with h | h
  · exact List.mem_append_left _ (this.1 c h)
  · exact List.mem_append_right _ (this.2 c h)
theorem openOf_some {rs : List Rw} {ts fs : List Nat} {c : Nat} (h : openOf rs ts fs = some c) : c ∈ namesOf rs ∧ c ∉ ts ∧ c ∉ fs := by
  unfold openOf at h
  have h1 := List.mem_of_find?_eq_some h
  have h2 := List.find?_some h
  simp at h2
  exact ⟨h1, h2.1, h2.2⟩
theorem uo_true {rs : List Rw} {ts fs : List Nat} {c : Nat} (h : openOf rs ts fs = some c) : uo rs (addN ts c) fs < uo rs ts fs := by
  obtain ⟨h1, h2, h3⟩ := openOf_some h
  refine miss_lt (fun a ha => ?_) (a := c) (by simp [h2, h3]) (List.mem_append_left _ (addN_mem.mpr (.inr rfl))) _ h1
  rcases List.mem_append.mp ha with x | x
  · exact List.mem_append_left _ (addN_mem.mpr (.inl x))
  · exact List.mem_append_right _ x
theorem uo_false {rs : List Rw} {ts fs : List Nat} {c : Nat} (h : openOf rs ts fs = some c) : uo rs ts (addN fs c) < uo rs ts fs := by
  obtain ⟨h1, h2, h3⟩ := openOf_some h
  refine miss_lt (fun a ha => ?_) (a := c) (by simp [h2, h3]) (List.mem_append_right _ (addN_mem.mpr (.inr rfl))) _ h1
  rcases List.mem_append.mp ha with x | x
  · exact List.mem_append_left _ x
  · exact List.mem_append_right _ (addN_mem.mpr (.inl x))
abbrev Nd := Option Nat
def treeF (rs : List Rw) : Nat → List Nat → List Nat → Option (List Nd)
  | 0, _, _ => none
  | n + 1, ts, fs => if shutB (growOf rs ts fs).1 (growOf rs ts fs).2 = true then some [none] else
    match openOf rs (growOf rs ts fs).1 (growOf rs ts fs).2 with
    | none => none
    | some c => match treeF rs n (addN (growOf rs ts fs).1 c) (growOf rs ts fs).2 with
      | none => none
      | some a => match treeF rs n (growOf rs ts fs).1 (addN (growOf rs ts fs).2 c) with
        | none => none
        | some b => some (some c :: (a ++ b))
def treeOf (rs : List Rw) (ts fs : List Nat) : Option (List Nd) := treeF rs (uo rs ts fs + 1) ts fs
theorem treeF_fuel (rs : List Rw) : ∀ (n m : Nat) (ts fs : List Nat), uo rs ts fs + 1 ≤ n → uo rs ts fs + 1 ≤ m → treeF rs n ts fs = treeF rs m ts fs
  | 0, _, _, _, h, _ => absurd h (by omega)
  | _ + 1, 0, _, _, _, h => absurd h (by omega)
  | n + 1, m + 1, ts, fs, h1, h2 => by
    unfold treeF
    have hg := uo_grow rs ts fs
    split
    · rfl
    · cases ho : openOf rs (growOf rs ts fs).1 (growOf rs ts fs).2 with
      | none => rfl
      | some c =>
        have u1 := uo_true ho
        have u2 := uo_false ho
        dsimp only
        rw [treeF_fuel rs n m (addN (growOf rs ts fs).1 c) (growOf rs ts fs).2 (by omega) (by omega), treeF_fuel rs n m (growOf rs ts fs).1 (addN (growOf rs ts fs).2 c) (by omega) (by omega)]
theorem treeOf_eq (rs : List Rw) (ts fs : List Nat) : treeOf rs ts fs = if shutB (growOf rs ts fs).1 (growOf rs ts fs).2 = true then some [none] else
    match openOf rs (growOf rs ts fs).1 (growOf rs ts fs).2 with
    | none => none
    | some c => match treeOf rs (addN (growOf rs ts fs).1 c) (growOf rs ts fs).2 with
      | none => none
      | some a => match treeOf rs (growOf rs ts fs).1 (addN (growOf rs ts fs).2 c) with
        | none => none
        | some b => some (some c :: (a ++ b)) := by
  have hg := uo_grow rs ts fs
  conv => lhs; unfold treeOf treeF
  split
  · rfl
  · cases ho : openOf rs (growOf rs ts fs).1 (growOf rs ts fs).2 with
    | none => rfl
    | some c =>
      have u1 := uo_true ho
      have u2 := uo_false ho
      dsimp only
      rw [treeF_fuel rs (uo rs ts fs) (uo rs (addN (growOf rs ts fs).1 c) (growOf rs ts fs).2 + 1) (addN (growOf rs ts fs).1 c) (growOf rs ts fs).2 (by omega) (by omega), treeF_fuel rs (uo rs ts fs) (uo rs (growOf rs ts fs).1 (addN (growOf rs ts fs).2 c) + 1) (growOf rs ts fs).1 (addN (growOf rs ts fs).2 c) (by omega) (by omega)]
      rfl
/-- what waits, the next one first -/
def treeAll (rs : List Rw) : List (List Nat × List Nat) → Option (List Nd)
  | [] => some []
  | c :: r => match treeOf rs c.1 c.2 with
    | none => none
    | some a => match treeAll rs r with
      | none => none
      | some b => some (a ++ b)
def load (rs : List Rw) : List (List Nat × List Nat) → Nat
  | [] => 0
  | c :: r => (2 ^ (uo rs c.1 c.2 + 1) - 1) + load rs r
def nodeL : Nd → List V
  | none => [.str "shut"]
  | some c => [.str "split", nmV c]
def NodeAt (o : Nd) (v : V) (H : Hp) : Prop := ∃ p, v = .ref p ∧ H p = some (.tup (nodeL o))
theorem NodeAt.mn (o : Nd) : Mn (NodeAt o) := fun v H H' n ⟨p, h1, h2⟩ => ⟨p, h1, n.tu _ _ h2⟩
theorem CaseAt.mn2 (K : PySem.W.Frag) (c : List Nat × List Nat) : Mn (CaseAt K c.1 c.2) := CaseAt.mn K c.1 c.2
section
variable {K : PySem.W.Frag} {σ : L2.St} {H : Hp} {ta te to : TE} {tr : TA} {D : Ends} {tu tz : TS} {xs : List V}
/-- x = f(e, o.pop()) -/
theorem q_callPop {sp : Sp} {E : XK} {i : Nat} {l : Addr} {x y : V} (ha : Ev ta σ H x) (ho : Ev to σ H (.ref l)) (hl : H l = some (.lst xs)) (hy : xs[xs.length - 1]? = some y) (k : ∀ H1, Ex H H1 → sp [x, y] (upd H1 l (.lst xs.dropLast)) (fun v H2 => tz D (σ.set i (some v)) H2) E) :
    tSeq (tAsg (tCall sp [] E (tCons ta (tCons (tBM0 K "list" rPop to) tNil))) (gName i)) tz D σ H := ha H (Ex.refl H) _ fun H1 e1 => ho H1 e1 _ fun H2 e2 =>
  ⟨Or.inl ⟨rfl, xs, sq_of ((e1.trans e2) l _ hl)⟩, l, xs, y, rfl, rfl, (e1.trans e2) _ _ hl, hy, by
    show sp [x, y] _ _ _
    exact k H2 (e1.trans e2)⟩
theorem x_lst {PA : List V → Hp → Prop} (h : EvAX tr σ H PA) (m : Mo PA) (hl : ∀ vs H, PA vs H → vs.length ≤ 100000) : EvX (tLst tr) σ H (fun v H => ∃ p vs, v = .ref p ∧ H p = some (.lst vs) ∧ PA vs H) := fun H1 e Q q =>
  h H1 e _ fun vs H2 e2 p => ⟨sz_of (hl vs H2 p), fun a ha => q _ _ (e2.trans (Ex.new ha)) ⟨a, vs, rfl, upd_same, m vs H2 _ (Ex.new ha) p⟩⟩
theorem s_extX {l : Addr} {PL : List V → Hp → Prop} (hl : H l = some (.lst xs)) (ha : Ev ta σ H (.ref l)) (h : EvX te σ H (fun v H' => ∃ q zs, v = .ref q ∧ H' q = some (.lst zs) ∧ PL zs H')) (hz : ∀ zs H, PL zs H → xs.length + zs.length ≤ 100000) (k : ∀ zs H1, Ex H H1 → PL zs H1 → D.nx σ (upd H1 l (.lst (xs ++ zs)))) :
    tDrop (tBM K "list" rExtend ta (tCons te tNil)) D σ H := ha H (Ex.refl H) _ fun H1 e1 =>
  ⟨Or.inl ⟨rfl, xs, sq_of (e1 l _ hl)⟩, h H1 e1 _ fun v H2 e2 ⟨q, zs, ev, hq, pl⟩ => by
    subst ev
    exact ⟨l, q, xs, zs, rfl, rfl, (e1.trans e2) l _ hl, hq, sz_of (hz zs H2 pl), k zs H2 (e1.trans e2) pl⟩⟩
end
theorem AllV.snoc {α : Type} {P : α → V → Hp → Prop} {as : List α} {a : α} {vs : List V} {H : Hp} (h : AllV P (as ++ [a]) vs H) : ∃ vs0 v, vs = vs0 ++ [v] ∧ AllV P as vs0 H ∧ P a v H := by
  have hl := h.1
  rw [List.length_append, List.length_singleton] at hl
  have hne : vs ≠ [] := fun e => by rw [e] at hl; simp at hl
  refine ⟨vs.dropLast, vs.getLast hne, (List.dropLast_concat_getLast hne).symm, ⟨by rw [List.length_dropLast]; omega, fun i v b hv hb => ?_⟩, ?_⟩
  · have hi : i < as.length := (List.getElem?_eq_some_iff.mp hb).1
    refine h.2 i v b ?_ (by rw [List.getElem?_append_left hi]; exact hb)
    rw [← List.dropLast_concat_getLast hne, List.getElem?_append_left (by rw [List.length_dropLast]; omega)]
    exact hv
  · refine h.2 as.length _ a ?_ (by rw [List.getElem?_append_right (Nat.le_refl _), Nat.sub_self]; rfl)
    rw [List.getLast_eq_getElem, List.getElem?_eq_getElem (by omega)]
    congr 1
    congr 1
    omega
theorem load_pos (rs : List Rw) (c : List Nat × List Nat) (r : List (List Nat × List Nat)) : load rs r < load rs (c :: r) := by
  show load rs r < (2 ^ (uo rs c.1 c.2 + 1) - 1) + load rs r
  have : 2 ≤ 2 ^ (uo rs c.1 c.2 + 1) := by
    rw [Nat.pow_succ]
    have := Nat.one_le_two_pow (n := uo rs c.1 c.2)
    omega
  omega
theorem load_split (rs : List Rw) (c A B : List Nat × List Nat) (r : List (List Nat × List Nat)) (hA : uo rs A.1 A.2 < uo rs c.1 c.2) (hB : uo rs B.1 B.2 < uo rs c.1 c.2) : load rs (A :: B :: r) + 1 ≤ load rs (c :: r) := by
  show (2 ^ (uo rs A.1 A.2 + 1) - 1) + ((2 ^ (uo rs B.1 B.2 + 1) - 1) + load rs r) + 1 ≤ (2 ^ (uo rs c.1 c.2 + 1) - 1) + load rs r
  have h1 : 2 ^ (uo rs A.1 A.2 + 1) ≤ 2 ^ uo rs c.1 c.2 := Nat.pow_le_pow_right (by omega) hA
  have h2 : 2 ^ (uo rs B.1 B.2 + 1) ≤ 2 ^ uo rs c.1 c.2 := Nat.pow_le_pow_right (by omega) hB
  have h3 : 2 ^ (uo rs c.1 c.2 + 1) = 2 * 2 ^ uo rs c.1 c.2 := by rw [Nat.pow_succ]; omega
  have h4 := Nat.one_le_two_pow (n := uo rs c.1 c.2)
  have h5 := Nat.one_le_two_pow (n := uo rs A.1 A.2 + 1)
  have h6 := Nat.one_le_two_pow (n := uo rs B.1 B.2 + 1)
  omega
theorem treeAll_eq (rs : List Rw) (c : List Nat × List Nat) (r : List (List Nat × List Nat)) : treeAll rs (c :: r) = match treeOf rs c.1 c.2 with
    | none => none
    | some a => match treeAll rs r with
      | none => none
      | some b => some (a ++ b) := rfl
theorem treeAll_some {rs : List Rw} {c : List Nat × List Nat} {r : List (List Nat × List Nat)} {a : List Nd} (F : List Nd) (h : treeOf rs c.1 c.2 = some a) : (treeAll rs (c :: r)).map (F ++ ·) = (treeAll rs r).map ((F ++ a) ++ ·) := by
  rw [treeAll_eq, h]
  cases treeAll rs r with
  | none => rfl
  | some b => simp
theorem treeAll_none {rs : List Rw} {c : List Nat × List Nat} {r : List (List Nat × List Nat)} (F : List Nd) (h : treeOf rs c.1 c.2 = none) : (treeAll rs (c :: r)).map (F ++ ·) = none := by
  rw [treeAll_eq, h]
  rfl
theorem treeAll_split {rs : List Rw} {c A B : List Nat × List Nat} {r : List (List Nat × List Nat)} {x : Nd} (F : List Nd) (h : treeOf rs c.1 c.2 = match treeOf rs A.1 A.2 with
    | none => none
    | some a => match treeOf rs B.1 B.2 with
      | none => none
      | some b => some (x :: (a ++ b))) : (treeAll rs (c :: r)).map (F ++ ·) = (treeAll rs (A :: B :: r)).map ((F ++ [x]) ++ ·) := by
  rw [treeAll_eq, h, treeAll_eq rs A, treeAll_eq rs B]
  cases treeOf rs A.1 A.2 with
  | none => rfl
  | some a =>
    cases treeOf rs B.1 B.2 with
    | none => rfl
    | some b =>
      cases treeAll rs r with
      | none => rfl
      | some d => simp
theorem load_len (rs : List Rw) : ∀ r : List (List Nat × List Nat), r.length ≤ load rs r
  | [] => Nat.le_refl _
  | c :: r => by
    have := load_len rs r
    have := load_pos rs c r
    rw [List.length_cons]
    omega
end Wk
end
section
set_option Elab.async false
set_option linter.all false
set_option maxRecDepth 100000
set_option maxHeartbeats 4000000
/-! the law's dice -/
namespace Wk
open PySem PySem.Spec PyProof.Rows L2 Evl
/-- dice that were rolled at most k times -/
def DiceAt (k : Nat) (d : Addr) (H : Hp) : Prop := ∃ (b m : Int) (c : Nat), 0 ≤ b ∧ 0 ≤ m ∧ m < 2147480009 ∧ c ≤ k ∧ H d = some (.lst [.int b, .int m, .int (c : Int)])
theorem DiceAt.ex {k : Nat} {d : Addr} {H H' : Hp} (e : Ex H H') (h : DiceAt k d H) : DiceAt k d H' := let ⟨b, m, c, h1, h2, h3, h4, h5⟩ := h; ⟨b, m, c, h1, h2, h3, h4, e _ _ h5⟩
section
variable {K : PySem.W.Frag} {σ : L2.St} {H : Hp} {ta te to : TE}
theorem ev_int1 {i : Int} (h : Ev te σ H (.int i)) : Ev (tCB (fun xs H Q => (∃ i, xs = [.int i] ∧ Q (.int i) H) ∨ ∃ k, xs = [.bl k] ∧ Q (.int (if k then 1 else 0)) H) (tCons te tNil)) σ H (.int i) := fun H1 e Q q => h H1 e _ fun H2 e2 => .inl ⟨i, rfl, q H2 e2⟩
end
end Wk
end
section
set_option Elab.async false
set_option linter.all false
set_option maxRecDepth 100000
set_option maxHeartbeats 4000000
/-! what rolls: all stays but the dice -/
namespace Wk
open PySem PySem.Spec PyProof.Rows L2 Evl
def Ed (d : Addr) (H H' : Hp) : Prop := Ex (del H d) H'
theorem Ed.of {d : Addr} {H H' : Hp} (e : Ex H H') : Ed d H H' := (ex_del H d).trans e
theorem Ed.refl (d : Addr) (H : Hp) : Ed d H H := ex_del H d
theorem Ed.trans {d : Addr} {H H1 H2 : Hp} (a : Ed d H H1) (b : Ed d H1 H2) : Ed d H H2 := fun x o h => by
  have hx : x ≠ d := fun e => by subst e; rw [del_same] at h; cases h
  exact b x o (by rw [del_ne hx]; exact a x o h)
theorem Ed.at {d a : Addr} {H H' : Hp} {o : HO} (e : Ed d H H') (h : H a = some o) (hn : a ≠ d) : H' a = some o := e a o (by rw [del_ne hn]; exact h)
/-- a value made by at most c rolls -/
def ED (te : TE) (σ : L2.St) (d : Addr) (H : Hp) (c : Nat) (P : V → Hp → Prop) : Prop := ∀ k H1, Ed d H H1 → DiceAt k d H1 → k + c ≤ 90000 → ∀ Q : VK, (∀ v H2, Ed d H1 H2 → DiceAt (k + c) d H2 → P v H2 → Q v H2) → te σ H1 Q
theorem DiceAt.mono {k l : Nat} {d : Addr} {H : Hp} (h : DiceAt k d H) (hl : k ≤ l) : DiceAt l d H := let ⟨b, m, c, h1, h2, h3, h4, h5⟩ := h; ⟨b, m, c, h1, h2, h3, Nat.le_trans h4 hl, h5⟩
/-- kept by rolls -/
def Md {α : Type} (d : Addr) (P : α → Hp → Prop) : Prop := ∀ v H H', Ed d H H' → P v H → P v H'
section
variable {K : PySem.W.Frag} {σ : L2.St} {H : Hp} {ta te tl : TE} {tr : TA} {D : Ends} {tu tz : TS} {d : Addr} {P : V → Hp → Prop}
theorem ED.mono {H' : Hp} {c : Nat} (e : Ed d H H') (h : ED te σ d H c P) : ED te σ d H' c P := fun k H1 a x y Q q => h k H1 (e.trans a) x y Q q


end
end Wk
end
section
set_option Elab.async false
set_option linter.all false
set_option maxRecDepth 100000
set_option maxHeartbeats 4000000
/-! rows of names as data; trees judged -/
namespace Wk
open PySem PySem.Spec PyProof.Rows L2 Evl
def Lo (ns : List Nat) : Prop := ∀ c, c ∈ ns → c < 1000
def datN (ns : List Nat) : List PyData := ns.map fun c => PyData.str (tx [c])
def datS (xs : List Str) : List PyData := xs.map PyData.str
theorem datN_S (ns : List Nat) : datN ns = datS (ns.map fun c => tx [c]) := by unfold datN datS; rw [List.map_map]; rfl
theorem nmL_S (ns : List Nat) : nmL ns = (ns.map fun c => tx [c]).map V.str := by unfold nmL; rw [List.map_map]; rfl
theorem dpS {K : PySem.W.Frag} {H : Hp} : ∀ xs : List Str, DpAll K H (xs.map V.str) (datS xs)
  | [] => .nil
  | x :: xs => .cons (.str x) (dpS xs)
theorem dpN {K : PySem.W.Frag} {H : Hp} (ns : List Nat) : DpAll K H (nmL ns) (datN ns) := by rw [datN_S, nmL_S]; exact dpS _
def okS (xs : List Str) : Bool := xs.all PyData.strOk
theorem depthS : ∀ xs : List Str, PyData.depthAll (datS xs) = 0
  | [] => by simp [datS, PyData.depthAll]
  | x :: xs => by
    have ih := depthS xs
    unfold datS at ih ⊢
    rw [List.map_cons, PyData.depthAll, ih, PyData.depth]
    rfl
theorem layS : ∀ xs : List Str, PyData.canLayAll0 (datS xs) = okS xs
  | [] => by simp [datS, PyData.canLayAll0, okS]
  | x :: xs => by
    have ih := layS xs
    unfold datS at ih ⊢
    unfold okS at ih ⊢
    rw [List.map_cons, PyData.canLayAll0, ih, PyData.canLay0, List.all_cons]
theorem shS_l {xs : List Str} (h : okS xs = true) : SeqAt.shaped (.list (datS xs)) = true := by
  unfold SeqAt.shaped
  rw [PyData.canLay0, layS, h, PyData.depth, depthS]
  rfl
theorem shS_t {xs : List Str} (h : okS xs = true) : SeqAt.shaped (.tuple (datS xs)) = true := by
  unfold SeqAt.shaped
  rw [PyData.canLay0, layS, h, PyData.depth, depthS]
  rfl
theorem okS_nm {ns : List Nat} (h : Lo ns) : okS (ns.map fun c => tx [c]) = true := by
  unfold okS
  rw [List.all_map, List.all_eq_true]
  intro c hc
  have := h c hc
  show (tx [c]).cps.all (· < 0x110000) = true
  simp
  omega
theorem eqvS : ∀ xs ys : List Str, PyData.eqvAll (datS xs) (datS ys) = decide (xs = ys)
  | [], [] => by simp [datS, PyData.eqvAll]
  | [], y :: ys => by simp [datS, PyData.eqvAll]
  | x :: xs, [] => by simp [datS, PyData.eqvAll]
  | x :: xs, y :: ys => by
    have ih := eqvS xs ys
    unfold datS at ih ⊢
    rw [List.map_cons, List.map_cons, PyData.eqvAll, PyData.eqv, ih]
    by_cases h : x = y
    · subst h; simp
    · simp [h]
theorem sing_inj : ∀ {as bs : List Nat}, (as.map fun c => tx [c]) = (bs.map fun c => tx [c]) → as = bs
  | [], [], _ => rfl
  | [], b :: bs, h => by simp at h
  | a :: as, [], h => by simp at h
  | a :: as, b :: bs, h => by
    rw [List.map_cons, List.map_cons] at h
    obtain ⟨h1, h2⟩ := List.cons.inj h
    have := (List.cons.inj (tx_inj h1)).1
    rw [this, sing_inj h2]
theorem eqvN (as bs : List Nat) : PyData.eqvAll (datN as) (datN bs) = decide (as = bs) := by
  rw [datN_S, datN_S, eqvS, decide_eq_decide]
  exact ⟨sing_inj, fun h => by rw [h]⟩
section
variable {K : PySem.W.Frag} {σ : L2.St} {H : Hp} {ta tb : TE} {as bs : List Nat}
/-- two new lists of names, alike or not -/
theorem ev_eqNL (ha : EvL ta σ H (nmL as)) (hb : EvL tb σ H (nmL bs)) (la : Lo as) (lb : Lo bs) : Ev (tOp (rEqD K) ta tb) σ H (.bl (decide (as = bs))) := fun H1 e Q q =>
  ha H1 e _ fun p H2 hp e2 h2 => hb H2 (e.trans e2) _ fun o H3 ho e3 h3 => ⟨.list (datN as), .list (datN bs), .lst (sq_of (e3 _ _ h2)) (dpN as), .lst (sq_of h3) (dpN bs), by rw [datN_S]; exact shS_l (okS_nm la), by rw [datN_S]; exact shS_l (okS_nm lb), by
    rw [PyData.eqv, eqvN]
    exact q H3 (e2.trans e3)⟩
/-- a tuple of texts against a new one -/
theorem ev_eqTS {xs ys : List Str} {a : Addr} (ha : Ev ta σ H (.ref a)) (h : H a = some (.tup (xs.map V.str))) (hb : EvU tb σ H (ys.map V.str)) (la : okS xs = true) (lb : okS ys = true) : Ev (tOp (rEqD K) ta tb) σ H (.bl (decide (xs = ys))) := fun H1 e Q q =>
  ha H1 e _ fun H2 e2 => hb H2 (e.trans e2) _ fun o H3 ho e3 h3 => ⟨.tuple (datS xs), .tuple (datS ys), .tup (st_of ((e.trans (e2.trans e3)) _ _ h)) (dpS xs), .tup (st_of h3) (dpS ys), shS_t la, shS_t lb, by
    rw [PyData.eqv, eqvS]
    exact q H3 (e2.trans e3)⟩
theorem ev_neTS {xs ys : List Str} {a : Addr} (ha : Ev ta σ H (.ref a)) (h : H a = some (.tup (xs.map V.str))) (hb : EvU tb σ H (ys.map V.str)) (la : okS xs = true) (lb : okS ys = true) : Ev (tOp (rNeD K) ta tb) σ H (.bl (!decide (xs = ys))) := fun H1 e Q q =>
  ha H1 e _ fun H2 e2 => hb H2 (e.trans e2) _ fun o H3 ho e3 h3 => ⟨.tuple (datS xs), .tuple (datS ys), .tup (st_of ((e.trans (e2.trans e3)) _ _ h)) (dpS xs), .tup (st_of h3) (dpS ys), shS_t la, shS_t lb, by
    rw [PyData.eqv, eqvS]
    exact q H3 (e2.trans e3)⟩
end
/-! rows of names -/
def TupN (ns : List Nat) (v : V) (H : Hp) : Prop := ∃ p, v = .ref p ∧ H p = some (.tup (nmL ns))
theorem TupN.mn (ns : List Nat) : Mn (TupN ns) := fun v H H' n ⟨p, h1, h2⟩ => ⟨p, h1, n.tu _ _ h2⟩
theorem snoc_ind {P : List Nat → Prop} (h0 : P []) (h1 : ∀ ns c, P ns → P (ns ++ [c])) : ∀ ns, P ns := by
  intro ns
  rw [← List.reverse_reverse ns]
  induction ns.reverse with
  | nil => exact h0
  | cons c r ih => rw [List.reverse_cons]; exact h1 _ _ ih
/-- all choices of names, each rising as they are -/
def subN : List Nat → List (List Nat) := fun ns => ns.foldl (fun f c => f ++ f.map (· ++ [c])) [[]]
theorem subN_snoc (ns : List Nat) (c : Nat) : subN (ns ++ [c]) = subN ns ++ (subN ns).map (· ++ [c]) := by unfold subN; rw [List.foldl_append]; rfl
theorem subN_len : ∀ ns : List Nat, (subN ns).length = 2 ^ ns.length := by
  refine snoc_ind rfl fun ns c ih => ?_
  rw [subN_snoc, List.length_append, List.length_map, ih, List.length_append]
  show _ = 2 ^ (ns.length + 1)
  rw [Nat.pow_succ]
  omega
theorem subN_mem : ∀ ns : List Nat, ∀ s, s ∈ subN ns ↔ s.Sublist ns := by
  refine snoc_ind (fun s => ?_) fun ns c ih s => ?_
  · show s ∈ [[]] ↔ _
    simp
  · rw [subN_snoc, List.mem_append, List.mem_map]
    constructor
    · rintro (h | ⟨t, h, rfl⟩)
      · exact ((ih s).mp h).trans (List.sublist_append_left _ _)
      · exact ((ih t).mp h).append (List.Sublist.refl [c])
    · intro h
      obtain ⟨a, b, rfl, ha, hb⟩ := List.sublist_append_iff.mp h
      rcases List.sublist_cons_iff.mp hb with h2 | ⟨r, h2, h3⟩
      · left; rw [List.sublist_nil.mp h2, List.append_nil]; exact (ih a).mpr ha
      · right; exact ⟨a, (ih a).mpr ha, by rw [h2, List.sublist_nil.mp h3]⟩
section
variable {α β : Type} {P : α → V → Hp → Prop} {as bs : List α} {a : α} {vs ws : List V} {v : V} {H : Hp}
theorem AllV.cons (o : P a v H) (h : AllV P as vs H) : AllV P (a :: as) (v :: vs) H := ⟨by rw [List.length_cons, List.length_cons, h.1], fun i x b hx hb => by
  cases i with
  | zero => cases hx; cases hb; exact o
  | succ i => exact h.2 i x b hx hb⟩
theorem AllV.uncons (h : AllV P (a :: as) (v :: vs) H) : P a v H ∧ AllV P as vs H := ⟨h.2 0 v a rfl rfl, by have := h.1; simpa using this, fun i x b hx hb => h.2 (i + 1) x b hx hb⟩
theorem AllV.ne {h : AllV P as (v :: vs) H} : ∃ a bs, as = a :: bs := by
  cases as with
  | nil => exact absurd h.1 (by simp)
  | cons a bs => exact ⟨a, bs, rfl⟩
theorem AllV.perm {ys : List V} (p : ys.Perm vs) : ∀ {as : List α}, AllV P as vs H → ∃ bs, bs.Perm as ∧ AllV P bs ys H := by
  induction p with
  | nil => exact fun {as} h => ⟨as, List.Perm.refl _, h⟩
  | @cons x l m p ih =>
    intro as h
    obtain ⟨a, as', rfl⟩ := AllV.ne (h := h)
    obtain ⟨h1, h2⟩ := h.uncons
    obtain ⟨bs, q1, q2⟩ := ih h2
    exact ⟨a :: bs, List.Perm.cons a q1, q2.cons h1⟩
  | @swap x y l =>
    intro as h
    obtain ⟨a, as', rfl⟩ := AllV.ne (h := h)
    obtain ⟨h1, h2⟩ := h.uncons
    obtain ⟨b, bs, rfl⟩ := AllV.ne (h := h2)
    obtain ⟨h3, h4⟩ := h2.uncons
    exact ⟨b :: a :: bs, List.Perm.swap a b bs, (h4.cons h1).cons h3⟩
  | @trans l m n p1 p2 ih1 ih2 =>
    intro as h
    obtain ⟨bs, q1, q2⟩ := ih2 h
    obtain ⟨cs, q3, q4⟩ := ih1 q2
    exact ⟨cs, q3.trans q1, q4⟩
theorem AllV.cat {us : List V} (h : AllV P as vs H) (g : AllV P bs us H) : AllV P (as ++ bs) (vs ++ us) H := by
  refine ⟨by rw [List.length_append, List.length_append, h.1, g.1], fun i x b hx hb => ?_⟩
  rcases Nat.lt_or_ge i as.length with c | c
  · rw [List.getElem?_append_left (by rw [h.1]; exact c)] at hx
    rw [List.getElem?_append_left c] at hb
    exact h.2 i x b hx hb
  · rw [List.getElem?_append_right (by rw [h.1]; exact c)] at hx
    rw [List.getElem?_append_right c] at hb
    rw [h.1] at hx
    exact g.2 _ x b hx hb
theorem AllV.ofMap {f : β → α} {bs : List β} (hl : ws.length = bs.length) (h : ∀ (i : Nat) w b, ws[i]? = some w → bs[i]? = some b → P (f b) w H) : AllV P (bs.map f) ws H := ⟨by rw [List.length_map, hl], fun i w a hw ha => by
  rw [List.getElem?_map] at ha
  obtain ⟨b, hb, rfl⟩ := Option.map_eq_some_iff.mp ha
  exact h i w b hw hb⟩
end
abbrev rLstS (K : PySem.W.Frag) : List V → Hp → VK → Prop := fun xs H Q => ∃ p ys, xs = [.ref p] ∧ (SqL K H p ys ∨ SqT K H p ys) ∧ ∀ l, H l = none → Q (.ref l) (upd H l (.lst ys))
section
variable {K : PySem.W.Frag} {σ : L2.St} {H : Hp} {tl ta tb te : TE} {t : TT} {vs : List Nat} {P R : V → Hp → Prop} {xs ys : List V}
theorem x_lcX {g : TG} (h : EvX tl σ H P) (k : ∀ v H1, Ex H H1 → P v H1 → EvX (tLc (iList K (tC v)) g t te vs) σ H1 R) : EvX (tLc (iList K tl) g t te vs) σ H R := fun H1 e Q q =>
  h H1 e _ fun v H2 e2 p => k v H2 (e.trans e2) p H2 (Ex.refl _) Q fun v H3 e3 r => q v H3 (e2.trans e3) r
/-- list(t) -/
theorem el_listT {p : Addr} (h : Ev te σ H (.ref p)) (hp : H p = some (.tup xs)) : EvL (tCB (rLstS K) (tCons te tNil)) σ H xs := fun H1 e Q q => h H1 e _ fun H2 e2 => ⟨p, xs, rfl, .inr (st_of ((e.trans e2) _ _ hp)), fun l hl => q l _ (fresh_back e2 hl) (e2.trans (Ex.new hl)) upd_same⟩
/-- t + u, u new and not empty -/
theorem x_catT {a : Addr} (ha : Ev ta σ H (.ref a)) (h : H a = some (.tup xs)) (hb : EvU tb σ H ys) (hy : ys ≠ []) (hz : xs.length + ys.length ≤ 100000) : EvX (tOp (rCatA K) ta tb) σ H (fun v H' => ∃ p, v = .ref p ∧ H' p = some (.tup (xs ++ ys))) := fun H1 e Q q =>
  ha H1 e _ fun H2 e2 => hb H2 (e.trans e2) _ fun o H3 ho e3 h3 => ⟨a, o, xs, ys, rfl, rfl, st_of ((e.trans (e2.trans e3)) _ _ h), st_of h3, sz_of hz, fun hx => by
    subst hx
    exact q _ H3 (e2.trans e3) ⟨o, rfl, h3⟩, fun _ hy' => absurd hy' hy, fun _ _ p hp => q _ _ ((e2.trans e3).trans (Ex.new hp)) ⟨p, rfl, upd_same⟩⟩
end
section
variable {K : PySem.W.Frag} {σ : L2.St} {H : Hp} {ta tb te : TE} {xs : List V}
theorem x_catR {q : Addr} {PL : List V → Hp → Prop} (ha : Ev ta σ H (.ref q)) (hq : H q = some (.lst xs)) (hb : EvX tb σ H (fun v H' => ∃ p ys, v = .ref p ∧ H' p = some (.lst ys) ∧ PL ys H')) (hm : ∀ ys H H', Ex H H' → PL ys H → PL ys H') (hz : ∀ ys H, PL ys H → xs.length + ys.length ≤ 100000) :
    EvX (tOp rCat ta tb) σ H (fun v H' => ∃ p ys, v = .ref p ∧ H' p = some (.lst (xs ++ ys)) ∧ PL ys H') := fun H1 e Q k =>
  ha H1 e _ fun H2 e2 => hb H2 (e.trans e2) _ fun v H3 e3 ⟨p, ys, ev, hp, pl⟩ => ⟨q, p, xs, ys, rfl, ev, ((e.trans e2).trans e3) _ _ hq, hp, sz_of (hz ys H3 pl), fun o ho => k _ _ ((e2.trans e3).trans (Ex.new ho)) ⟨o, ys, rfl, upd_same, hm ys _ _ (Ex.new ho) pl⟩⟩
/-- the order of rows of names -/
def txs (ns : List Nat) : List Str := ns.map fun c => tx [c]
def leN (a b : List Nat) : Bool := PySem.W.dataLe false TXT.encT (txs a) (txs b)
def sortNN (ss : List (List Nat)) : List (List Nat) := ss.mergeSort leN
theorem sortNN_txs (ss : List (List Nat)) : TXT.sortT (ss.map txs) = (sortNN ss).map txs := (PySem.W.sort_maps (r := leN) (s := PySem.W.dataLe false TXT.encT) txs (l := ss) fun _ _ _ _ => rfl).symm
theorem sortNN_perm (ss : List (List Nat)) : (sortNN ss).Perm ss := List.mergeSort_perm _ _
theorem sortNN_len (ss : List (List Nat)) : (sortNN ss).length = ss.length := (sortNN_perm ss).length_eq
theorem each_tupN {H : Hp} : ∀ {ss : List (List Nat)} {ys : List V}, AllV TupN ss ys H → PySem.W.EachIs (fun x b => ∃ t : Addr, x = V.ref t ∧ H t = some (.tup (b.map V.str))) ys (ss.map txs)
  | [], [], _ => .nil
  | [], _ :: _, h => absurd h.1 (by simp)
  | _ :: _, [], h => absurd h.1 (by simp)
  | s :: ss, y :: ys, h => by
    obtain ⟨⟨t, h1, h2⟩, h3⟩ := AllV.uncons h
    exact .cons ⟨t, h1, by rw [h2, nmL_S]; rfl⟩ (each_tupN h3)
theorem tupN_each {H : Hp} : ∀ {ss : List (List Nat)} {ys : List V}, PySem.W.EachIs (fun x b => ∃ t : Addr, x = V.ref t ∧ H t = some (.tup (b.map V.str))) ys (ss.map txs) → AllV TupN ss ys H
  | [], _, h => by cases h; exact AllV.nil
  | s :: ss, _, h => by
    cases h with
    | cons a b =>
      obtain ⟨t, h1, h2⟩ := a
      exact AllV.cons ⟨t, h1, by rw [h2, nmL_S]; rfl⟩ (tupN_each b)
/-- sorted rows of names -/
theorem x_sortTx {p : Addr} {ys : List V} {ss : List (List Nat)} (h : Ev te σ H (.ref p)) (hp : H p = some (.lst ys)) (hs : AllV TupN ss ys H) (h0 : ∀ s r, ss = s :: r → s = []) :
    EvX (tCB (TXT.rSortTx K) (tCons te tNil)) σ H (fun v H' => ∃ q zs, v = .ref q ∧ H q = none ∧ H' q = some (.lst zs) ∧ AllV TupN (sortNN ss) zs H') := fun H1 e Q k =>
  h H1 e _ fun H2 e2 => by
    have e12 := e.trans e2
    have hs2 := AllV.mo (fun a => (TupN.mn a).mo) _ _ _ e12 hs
    refine ⟨p, _, ss.map txs, rfl, sq_of (e12 _ _ hp), each_tupN hs2, fun b r hb => ?_, fun zs q pm hq => ?_⟩
    · cases ss with
      | nil => cases hb
      | cons s r' =>
        have := h0 s r' rfl
        subst this
        exact (List.cons.inj hb).1.symm
    · rw [sortNN_txs] at pm
      exact k _ _ (e2.trans (Ex.new hq)) ⟨q, zs, rfl, fresh_back e12 hq, upd_same, AllV.mo (fun a => (TupN.mn a).mo) _ _ _ (Ex.new hq) (tupN_each pm)⟩
end
theorem AllV.ofPairs {α : Type} {P : α → V → Hp → Prop} {H : Hp} : ∀ l : List (V × α), (∀ z, z ∈ l → P z.2 z.1 H) → AllV P (l.map Prod.snd) (l.map Prod.fst) H
  | [], _ => AllV.nil
  | z :: l, h => AllV.cons (h z List.mem_cons_self) (AllV.ofPairs l fun y hy => h y (List.mem_cons_of_mem _ hy))
theorem pass_heads {ok : Rw → Bool} : ∀ (rs : List Rw) (s : List Nat × Bool) (c : Nat), c ∈ (rs.foldl (pStep ok) s).1 → c ∈ s.1 ∨ ∃ r, r ∈ rs ∧ c = r.1
  | [], s, c, h => .inl h
  | r :: rs, s, c, h => by
    rcases pass_heads rs (pStep ok s r) c h with h | ⟨q, h1, h2⟩
    · unfold pStep at h
      split at h
      · rcases List.mem_append.mp h with h | h
        · exact .inl h
        · exact .inr ⟨r, List.mem_cons_self, by simpa using h⟩
      · exact .inl h
    · exact .inr ⟨q, List.mem_cons_of_mem _ h1, h2⟩
theorem fixN_heads {ok : Rw → Bool} {rs : List Rw} : ∀ (n : Nat) (f : List Nat) (c : Nat), c ∈ fixN ok rs n f → c ∈ f ∨ ∃ r, r ∈ rs ∧ c = r.1
  | 0, f, c, h => .inl h
  | n + 1, f, c, h => by
    unfold fixN at h
    split at h
    · rcases fixN_heads n _ c h with h | h
      · exact pass_heads rs (f, false) c h
      · exact .inr h
    · exact .inl h
theorem fixOf_names {ok : Rw → Bool} {rs : List Rw} {c : Nat} (h : c ∈ fixOf ok rs) : c ∈ namesOf rs := by
  rcases fixN_heads _ _ _ h with h | ⟨r, h1, h2⟩
  · cases h
  · exact namesOf_mem.mpr ⟨r, h1, by rw [h2]; exact List.mem_cons_self⟩
def isW (rs : List Rw) (s : List Nat) : Bool := decide (sortN (fixOf (okB s) rs) = s)
def wsOf (rs : List Rw) : List (List Nat) := (sortNN (subN (namesOf rs))).filter (isW rs)
theorem subN_head : ∀ ns : List Nat, ∃ r, subN ns = [] :: r := by
  refine snoc_ind ⟨[], rfl⟩ fun ns c ⟨r, h⟩ => ?_
  exact ⟨_, by rw [subN_snoc, h, List.cons_append]⟩
theorem wsOf_mem {rs : List Rw} {s : List Nat} : s ∈ wsOf rs ↔ s ∈ subN (namesOf rs) ∧ isW rs s = true := by
  unfold wsOf
  rw [List.mem_filter, (sortNN_perm _).mem_iff]
theorem Lo.sort {ns : List Nat} (h : Lo ns) : Lo (sortN ns) := fun c hc => h c ((sortN_perm ns).mem_iff.mp hc)
theorem Lo.fix {rs : List Rw} {ok : Rw → Bool} (h : Lo (namesOf rs)) : Lo (sortN (fixOf ok rs)) := Lo.sort fun c hc => h c (fixOf_names hc)
end Wk
end
section
set_option Elab.async false
set_option linter.all false
set_option maxRecDepth 100000
set_option maxHeartbeats 4000000
/-! rising rows of names; dicts made of pairs -/
namespace Wk
open PySem PySem.Spec PyProof.Rows L2 Evl
/-- strictly rising -/
def risB (ns : List Nat) : Bool := decide (ns.Pairwise (· < ·))
theorem ris_nodup {ns : List Nat} (h : ns.Pairwise (· < ·)) : ns.Nodup := h.imp fun h => Nat.ne_of_lt h
theorem lt_of_le_nd : ∀ {ns : List Nat}, ns.Pairwise (· ≤ ·) → ns.Nodup → ns.Pairwise (· < ·)
  | [], _, _ => List.Pairwise.nil
  | x :: l, h, d => by
    obtain ⟨h1, h2⟩ := List.pairwise_cons.mp h
    obtain ⟨d1, d2⟩ := List.nodup_cons.mp d
    refine List.pairwise_cons.mpr ⟨fun y hy => ?_, lt_of_le_nd h2 d2⟩
    have := h1 y hy
    rcases Nat.lt_or_eq_of_le this with c | c
    · exact c
    · exact absurd (c ▸ hy) d1
/-- the texts of a set of names, in a row of names -/
theorem back_nm : ∀ (l : List Str) (ns : List Nat), (∀ k, k ∈ l → k ∈ ns.map fun c => tx [c]) → ∃ m : List Nat, l = m.map fun c => tx [c]
  | [], _, _ => ⟨[], rfl⟩
  | k :: l, ns, h => by
    obtain ⟨c, hc, e⟩ := List.mem_map.mp (h k List.mem_cons_self)
    obtain ⟨m, hm⟩ := back_nm l ns fun k hk => h k (List.mem_cons_of_mem _ hk)
    exact ⟨c :: m, by rw [hm, ← e]; rfl⟩
theorem sing_mem {c : Nat} {ns : List Nat} : tx [c] ∈ (ns.map fun c => tx [c]) ↔ c ∈ ns := by
  rw [List.mem_map]
  constructor
  · rintro ⟨d, hd, e⟩
    have := (List.cons.inj (tx_inj e)).1
    rw [← this]; exact hd
  · intro h; exact ⟨c, h, rfl⟩
theorem nodup_back {m : List Nat} (h : (m.map fun c => tx [c]).Nodup) : m.Nodup := by
  unfold List.Nodup at h ⊢
  rw [List.pairwise_map] at h
  exact h.imp fun h e => h (by rw [e])
/-- the members of a set of names, sorted -/
theorem set_sorted {l ys : List Str} {ns : List Nat} (hn : l.Nodup) (hm : ∀ k, k ∈ l ↔ k ∈ ns.map fun c => tx [c]) (pm : ys.Perm l) (hs : sortedS ys = true) :
    ∃ m : List Nat, ys = m.map (fun c => tx [c]) ∧ m.Pairwise (· < ·) ∧ ∀ c, c ∈ m ↔ c ∈ ns := by
  obtain ⟨m, rfl⟩ := back_nm l ns fun k hk => (hm k).mp hk
  have h1 := map_perm_tx pm hs
  refine ⟨sortN m, h1, lt_of_le_nd (sortN_sorted m) ((sortN_perm m).nodup_iff.mpr (nodup_back hn)), fun c => ?_⟩
  rw [(sortN_perm m).mem_iff, ← sing_mem, hm, sing_mem]
theorem ris_unique {a b : List Nat} (ha : a.Pairwise (· < ·)) (hb : b.Pairwise (· < ·)) (h : ∀ c, c ∈ a ↔ c ∈ b) : a = b :=
  sorted_unique a b ((List.perm_ext_iff_of_nodup (ris_nodup ha) (ris_nodup hb)).mpr h) (ha.imp fun h => Nat.le_of_lt h) (hb.imp fun h => Nat.le_of_lt h)
theorem ris_eq {m ns : List Nat} (h1 : m.Pairwise (· < ·)) (h2 : ∀ c, c ∈ m ↔ c ∈ ns) : decide (ns = m) = risB ns := by
  unfold risB
  rw [decide_eq_decide]
  constructor
  · intro e; rw [e]; exact h1
  · intro h; exact ris_unique h h1 fun c => (h2 c).symm
theorem addAll_nodup : ∀ (ns f : List Nat), ns.Nodup → (∀ c, c ∈ ns → c ∉ f) → addAll f ns = f ++ ns
  | [], f, _, _ => by simp [addAll]
  | c :: ns, f, h, hf => by
    obtain ⟨h1, h2⟩ := List.nodup_cons.mp h
    have e : addAll f (c :: ns) = addAll (addN f c) ns := rfl
    have e2 : addN f c = f ++ [c] := by unfold addN; rw [if_neg (hf c List.mem_cons_self)]
    rw [e, e2, addAll_nodup ns _ h2 fun d hd => ?_]
    · simp
    · rw [List.mem_append, List.mem_singleton]
      rintro (x | x)
      · exact hf d (List.mem_cons_of_mem _ hd) x
      · exact h1 (x ▸ hd)
theorem mergeK_dk : ∀ (ns f : List Nat), mergeK (dk f) (dk ns) = dk (addAll f ns)
  | [], f => rfl
  | c :: ns, f => by
    show mergeK (putK (dk f) (Sum.inr (tx [c])) (.bl true)) (dk ns) = _
    rw [put_dk, mergeK_dk ns]
    rfl
theorem pairs_back {K : PySem.W.Frag} {H : Hp} : ∀ (ns : List Nat) (ys : List V), ys.length = ns.length → (∀ (i : Nat) y, ys[i]? = some y → ∃ c q, ns[i]? = some c ∧ y = V.ref q ∧ H q = some (.tup [nmV c, .bl true])) →
    ∃ ps : List Addr, ys = ps.map V.ref ∧ Paired (fun p kv => SqT K H p [kV kv.1, kv.2]) ps (dk ns)
  | [], ys, hl, _ => by
    cases ys with
    | nil => exact ⟨[], rfl, .nil⟩
    | cons y ys => simp at hl
  | c :: ns, ys, hl, h => by
    cases ys with
    | nil => simp at hl
    | cons y ys =>
      obtain ⟨c', q, h1, rfl, h2⟩ := h 0 y rfl
      cases h1
      obtain ⟨ps, e1, e2⟩ := pairs_back ns ys (by simpa using hl) fun i y hy => h (i + 1) y hy
      exact ⟨q :: ps, by rw [e1]; rfl, .cons (st_of h2) e2⟩
theorem addAll_nd : ∀ (ns f : List Nat), f.Nodup → (addAll f ns).Nodup
  | [], f, h => h
  | c :: ns, f, h => addAll_nd ns (addN f c) (addN_nodup h)
/-- the names of a row, rising, each once -/
def riseOf (ns : List Nat) : List Nat := sortN (addAll [] ns)
theorem riseOf_ris (ns : List Nat) : (riseOf ns).Pairwise (· < ·) := lt_of_le_nd (sortN_sorted _) ((sortN_perm _).nodup_iff.mpr (addAll_nd ns [] List.nodup_nil))
theorem riseOf_mem {ns : List Nat} {c : Nat} : c ∈ riseOf ns ↔ c ∈ ns := by
  unfold riseOf
  rw [(sortN_perm _).mem_iff, addAll_mem]
  simp
theorem riseOf_eq (ns : List Nat) : decide (ns = riseOf ns) = risB ns := ris_eq (riseOf_ris ns) fun _ => riseOf_mem
theorem keysOf_nd (rs : List Rw) : (keysOf rs).Nodup := by
  have : ∀ (rs : List Rw) (f : List Nat), f.Nodup → (rs.foldl (fun ns r => addAll ns (rowNs r)) f).Nodup := by
    intro rs
    induction rs with
    | nil => intro f h; exact h
    | cons r rs ih => intro f h; exact ih _ (addAll_nd _ _ h)
  exact this rs [] List.nodup_nil
theorem namesOf_ris (rs : List Rw) : (namesOf rs).Pairwise (· < ·) := lt_of_le_nd (sortN_sorted _) ((sortN_perm _).nodup_iff.mpr (keysOf_nd rs))
section
variable {K : PySem.W.Frag} {σ : L2.St} {H : Hp} {ta tb te : TE} {P : Program} {w : World}
/-- sorted(set(t)), names of a tuple or a list -/
theorem el_setA {p : Addr} {ns : List Nat} (h : Ev te σ H (.ref p)) (hp : H p = some (.tup (nmL ns)) ∨ H p = some (.lst (nmL ns))) (hn : ns.length < 64) : EvL (tCB (TXS.rSortX P w) (tCons (tCB (TXS.rSetX K P w) (tCons te tNil)) tNil)) σ H (nmL (riseOf ns)) := fun H1 e Q q =>
  h H1 e _ fun H2 e2 => ⟨p, ns.map fun c => tx [c], rfl, by
    rw [← nmL_S]
    rcases hp with hp | hp
    · exact .inr (st_of ((e.trans e2) _ _ hp))
    · exact .inl (sq_of ((e.trans e2) _ _ hp)), by rw [List.length_map]; exact hn, fun o ys ho hd hm hl => ⟨o, ys, rfl, upd_same, by rw [List.length_map] at hl; omega, fun zs r pm hs hr => by
    obtain ⟨m, e1, e2', e3⟩ := set_sorted hd hm pm hs
    have em : m = riseOf ns := ris_unique e2' (riseOf_ris ns) fun c => by rw [e3, riseOf_mem]
    refine q r _ (fresh_back (e2.trans (Ex.new ho)) hr) ((e2.trans (Ex.new ho)).trans (Ex.new hr)) ?_
    rw [upd_same, e1, ← nmL_S, em]⟩⟩
/-- dict([(c, True) for c in t]) -/
theorem x_dictP {ns : List Nat} (h : EvX te σ H (fun v H' => ∃ a ys, v = .ref a ∧ H' a = some (.lst ys) ∧ ys.length = ns.length ∧ ∀ (i : Nat) y, ys[i]? = some y → ∃ c q, ns[i]? = some c ∧ y = V.ref q ∧ H' q = some (.tup [nmV c, .bl true]))) (hn : ns.Nodup) :
    EvX (tCB (fun xs H Q => ∃ (a : Addr) (ps : List Addr) (kvs : List (Key × V)), xs = [.ref a] ∧ SqL K H a (ps.map V.ref) ∧ Paired (fun p kv => SqT K H p [kV kv.1, kv.2]) ps kvs ∧ ∀ p, H p = none → Q (.ref p) (upd H p (.dK (mergeK [] kvs)))) (tCons te tNil)) σ H (fun v H' => ∃ p, v = .ref p ∧ H p = none ∧ H' p = some (.dK (dk ns))) := fun H1 e Q q =>
  h H1 e _ fun v H2 e2 ⟨a, ys, ev, ha, hl, hy⟩ => by
    obtain ⟨ps, e1, e3⟩ := pairs_back (K := K) ns ys hl hy
    refine ⟨a, ps, dk ns, by rw [ev], sq_of (by rw [← e1]; exact ha), e3, fun p hp => q _ _ (e2.trans (Ex.new hp)) ⟨p, rfl, fresh_back (e.trans e2) hp, ?_⟩⟩
    have e4 : mergeK [] (dk ns) = dk ns := by
      rw [show ([] : List (Key × V)) = dk [] from rfl, mergeK_dk, addAll_nodup ns [] hn (fun _ _ h => by cases h)]
      rfl
    rw [upd_same, e4]
end
end Wk
end
section
set_option Elab.async false
set_option linter.all false
set_option maxRecDepth 100000
set_option maxHeartbeats 4000000
/-! nodes as rows of texts; trees judged -/
namespace Wk
open PySem PySem.Spec PyProof.Rows L2 Evl
def NodeS (xs : List Str) (v : V) (H : Hp) : Prop := ∃ p, v = .ref p ∧ H p = some (.tup (xs.map V.str))
theorem NodeS.mn (xs : List Str) : Mn (NodeS xs) := fun v H H' n ⟨p, h1, h2⟩ => ⟨p, h1, n.tu _ _ h2⟩
def nodeS : Nd → List Str
  | none => [("shut" : Str)]
  | some c => [("split" : Str), tx [c]]
abbrev shutS : List Str := [("shut" : Str)]
theorem NodeAt.s {o : Nd} {v : V} {H : Hp} (h : NodeAt o v H) : NodeS (nodeS o) v H := by
  cases o <;> exact h
theorem NodeS.at {o : Nd} {v : V} {H : Hp} (h : NodeS (nodeS o) v H) : NodeAt o v H := by
  cases o <;> exact h
def splB (rs : List Rw) (xs : List Str) : Bool := match xs with
  | [x, y] => decide (x = ("split" : Str)) && decide (y ∈ (namesOf rs).map fun c => tx [c])
  | _ => false
def ndB (rs : List Rw) (xs : List Str) : Bool := splB rs xs || decide (xs = shutS)
def rowB (rs : List Rw) (nodes : List (List Str)) : Bool := (decide (1 ≤ nodes.length) && decide (nodes.length ≤ 200)) && nodes.all (ndB rs)
def ndOf (xs : List Str) : Nd := match xs with
  | [_, y] => some (y.cps.toList.headD 0)
  | _ => none
theorem ndB_back {rs : List Rw} {xs : List Str} (h : ndB rs xs = true) : xs = nodeS (ndOf xs) ∧ ∀ c, ndOf xs = some c → c ∈ namesOf rs := by
  unfold ndB at h
  rw [Bool.or_eq_true] at h
  rcases h with h | h
  · match xs, h with
    | [x, y], h =>
      unfold splB at h
      rw [Bool.and_eq_true] at h
      have hx := of_decide_eq_true h.1
      have hy := of_decide_eq_true h.2
      obtain ⟨c, hc, rfl⟩ := List.mem_map.mp hy
      have e : ndOf [x, tx [c]] = some c := rfl
      rw [e]
      refine ⟨by rw [hx]; rfl, fun d hd => ?_⟩
      cases hd
      exact hc
    | [], h => simp [splB] at h
    | [_], h => simp [splB] at h
    | _ :: _ :: _ :: _, h => simp [splB] at h
  · have := of_decide_eq_true h
    rw [this]
    exact ⟨rfl, fun c hc => by cases hc⟩
theorem ndB_of {rs : List Rw} {o : Nd} (h : ∀ c, o = some c → c ∈ namesOf rs) : ndB rs (nodeS o) = true := by
  cases o with
  | none => unfold ndB; rw [Bool.or_eq_true]; right; exact decide_eq_true (rfl : nodeS none = shutS)
  | some c =>
    unfold ndB
    rw [Bool.or_eq_true]
    left
    show (decide (("split" : Str) = "split") && decide (tx [c] ∈ (namesOf rs).map fun c => tx [c])) = true
    rw [Bool.and_eq_true]
    exact ⟨decide_eq_true (rfl : ("split" : Str) = "split"), decide_eq_true (sing_mem.mpr (h c rfl))⟩
theorem ndOf_S (o : Nd) : ndOf (nodeS o) = o := by cases o <;> rfl
theorem nodeS_shut {o : Nd} : nodeS o = shutS ↔ o = none := by
  cases o with
  | none => exact ⟨fun _ => rfl, fun _ => rfl⟩
  | some c => exact ⟨fun h => absurd (congrArg List.length h) (by simp [nodeS]), fun h => by cases h⟩
/-- a tree gone along: what waits, the next one first -/
def judge (rs : List Rw) : List (List Nat × List Nat) → List Nd → Bool
  | [], [] => true
  | _ :: _, [] => false
  | [], _ :: _ => false
  | c :: W, none :: r => shutB (growOf rs c.1 c.2).1 (growOf rs c.1 c.2).2 && judge rs W r
  | c :: W, some n :: r => judge rs ((addN (growOf rs c.1 c.2).1 n, (growOf rs c.1 c.2).2) :: ((growOf rs c.1 c.2).1, addN (growOf rs c.1 c.2).2 n) :: W) r
def areB (rs : List Rw) (ts fs : List Nat) (nodes : List (List Str)) : Bool := rowB rs nodes && judge rs [(ts, fs)] (nodes.map ndOf)
theorem inV_S (y : Str) (ks : List Nat) : inV (V.str y) (nmL ks) = decide (y ∈ ks.map fun c => tx [c]) := by
  unfold inV nmL
  rw [List.any_map]
  induction ks with
  | nil => rfl
  | cons k ks ih =>
    rw [List.any_cons, ih, List.map_cons]
    have e : ((fun z => eqV z (V.str y)) ∘ nmV) k = decide (tx [k] = y) := rfl
    rw [e]
    by_cases h : tx [k] = y
    · subst h; simp
    · have h2 : ¬ y = tx [k] := fun e => h e.symm
      simp [h, h2]
section
variable {K : PySem.W.Frag} {σ : L2.St} {H : Hp} {ta tb te : TE} {tr : TA} {y : Str} {ks : List Nat} {a : Addr}
theorem ev_inLS (h : Ev ta σ H (.str y)) (hb : Ev tb σ H (.ref a)) (hx : SqL K H a (nmL ks)) : Ev (tOp (rIn K false) ta tb) σ H (.bl (decide (y ∈ ks.map fun c => tx [c]))) := by
  rw [← inV_S]
  exact ev_op h hb (rv_isL hx rfl (flat_nm ks))
end
theorem SzCs_small {rs : List Rw} {ts fs : List Nat} (h1 : ts.length ≤ 10) (h2 : fs.length ≤ 10) (h3 : (namesOf rs).length ≤ 10) : ts.length + miss (namesOf rs) ts ≤ 1000 ∧ fs.length + miss (namesOf rs) fs ≤ 1000 := by
  have a : miss (namesOf rs) ts ≤ 10 := Nat.le_trans (List.length_filter_le _ _) h3
  have b : miss (namesOf rs) fs ≤ 10 := Nat.le_trans (List.length_filter_le _ _) h3
  omega
end Wk
end
section
set_option Elab.async false
set_option linter.all false
set_option maxRecDepth 100000
set_option maxHeartbeats 4000000
/-! cases told by lists -/
namespace Wk
open PySem PySem.Spec PyProof.Rows L2 Evl
def Eqm (a b : List Nat) : Prop := ∀ c, c ∈ a ↔ c ∈ b
theorem Eqm.refl (a : List Nat) : Eqm a a := fun _ => Iff.rfl
theorem Eqm.dec {a b : List Nat} (h : Eqm a b) (c : Nat) : decide (c ∈ a) = decide (c ∈ b) := by rw [decide_eq_decide]; exact h c
theorem shut_eqm {t f t0 f0 : List Nat} (h1 : Eqm t t0) (h2 : Eqm f f0) : shutB t f = shutB t0 f0 := by
  unfold shutB
  rw [Bool.eq_iff_iff, List.any_eq_true, List.any_eq_true]
  constructor
  · rintro ⟨c, hc, h⟩; exact ⟨c, (h1 c).mp hc, by rw [← h2.dec]; exact h⟩
  · rintro ⟨c, hc, h⟩; exact ⟨c, (h1 c).mpr hc, by rw [h2.dec]; exact h⟩
theorem all_eqm {a b : List Nat} (h : Eqm a b) : (fun c => decide (c ∈ a)) = fun c => decide (c ∈ b) := funext fun c => h.dec c
theorem okF_eqm {t f t0 f0 : List Nat} (h1 : Eqm t t0) (h2 : Eqm f f0) : okF t f = okF t0 f0 := by
  funext r
  unfold okF
  rw [all_eqm h1, all_eqm h2, h1.dec]
theorem okH_eqm {t f t0 f0 : List Nat} (h1 : Eqm t t0) (h2 : Eqm f f0) : okH t f = okH t0 f0 := by
  funext r
  unfold okH
  rw [all_eqm h1, all_eqm h2]
theorem okB_eqm {t t0 : List Nat} (h1 : Eqm t t0) : okB t = okB t0 := by
  funext r
  unfold okB
  rw [all_eqm h1]
theorem forcedT_eqm {rs : List Rw} {t f t0 f0 : List Nat} (h1 : Eqm t t0) (h2 : Eqm f f0) : forcedT rs t f = forcedT rs t0 f0 := by unfold forcedT; rw [okF_eqm h1 h2]
theorem forcedF_eqm {rs : List Rw} {t f t0 f0 : List Nat} (h1 : Eqm t t0) (h2 : Eqm f f0) : forcedF rs t f = forcedF rs t0 f0 := by
  unfold forcedF
  rw [okH_eqm h1 h2]
  congr 1
  funext c
  rw [h2.dec]
theorem Eqm.app {t t0 m : List Nat} (h : Eqm t t0) : Eqm (t ++ m) (addAll t0 m) := fun c => by rw [List.mem_append, addAll_mem, h c]
theorem Eqm.addN {t t0 : List Nat} {n : Nat} (h : Eqm t t0) : Eqm (t ++ [n]) (addN t0 n) := fun c => by rw [List.mem_append, addN_mem, List.mem_singleton, h c]
/-- n passes -/
def itN (ok : Rw → Bool) (rs : List Rw) : Nat → List Nat
  | 0 => []
  | n + 1 => (pass ok rs (itN ok rs n)).1
def itF (ok : Rw → Bool) (rs : List Rw) : Nat → List Nat → List Nat
  | 0, f => f
  | n + 1, f => itF ok rs n (pass ok rs f).1
theorem itF_succ (ok : Rw → Bool) (rs : List Rw) : ∀ n f, itF ok rs (n + 1) f = (pass ok rs (itF ok rs n f)).1
  | 0, f => rfl
  | n + 1, f => itF_succ ok rs n (pass ok rs f).1
theorem itN_F (ok : Rw → Bool) (rs : List Rw) : ∀ n, itN ok rs n = itF ok rs n []
  | 0 => rfl
  | n + 1 => by rw [itF_succ, ← itN_F ok rs n]; rfl
theorem itF_stable {ok : Rw → Bool} {rs : List Rw} {f : List Nat} (h : (pass ok rs f).1 = f) : ∀ n, itF ok rs n f = f
  | 0 => rfl
  | n + 1 => by show itF ok rs n (pass ok rs f).1 = f; rw [h]; exact itF_stable h n
theorem itF_fix {ok : Rw → Bool} {rs : List Rw} : ∀ (n m : Nat) (f : List Nat), unm rs f ≤ n → unm rs f < m → itF ok rs n f = fixN ok rs m f
  | n, 0, f, _, h => absurd h (Nat.not_lt_zero _)
  | 0, m + 1, f, h, _ => by
    show f = if (pass ok rs f).2 = true then fixN ok rs m (pass ok rs f).1 else f
    split
    · rename_i hp
      have := pass_new hp
      omega
    · rfl
  | n + 1, m + 1, f, h1, h2 => by
    show itF ok rs n (pass ok rs f).1 = if (pass ok rs f).2 = true then fixN ok rs m (pass ok rs f).1 else f
    split
    · rename_i hp
      have := pass_new hp
      exact itF_fix n m _ (by omega) (by omega)
    · rename_i hp
      have e := pass_old (show (pass ok rs f).2 = false from by simpa using hp)
      rw [e]
      exact itF_stable e n
theorem itN_fix (ok : Rw → Bool) (rs : List Rw) : itN ok rs (rs.length + 1) = fixOf ok rs := by
  rw [itN_F]
  have := unm_le rs []
  exact itF_fix _ _ _ (by omega) (by omega)
theorem pStep_fst (ok : Rw → Bool) (s : List Nat × Bool) (r : Rw) : (pStep ok s r).1 = if (ok r && (decide (r.1 ∉ s.1) && r.2.1.all fun c => decide (c ∈ s.1))) = true then s.1 ++ [r.1] else s.1 := by
  unfold pStep
  split <;> rfl
theorem fold_cnt {ok : Rw → Bool} {all : List Rw} : ∀ (rs : List Rw) (s : List Nat × Bool), (∀ r, r ∈ rs → r ∈ all) → s.1.length + unm all s.1 ≤ all.length → (rs.foldl (pStep ok) s).1.length + unm all (rs.foldl (pStep ok) s).1 ≤ all.length
  | [], s, _, h => h
  | r :: rs, s, hm, h => fold_cnt rs _ (fun q hq => hm q (List.mem_cons_of_mem _ hq)) (pStep_cnt (hm r List.mem_cons_self) h)
theorem itN_cnt (ok : Rw → Bool) (rs : List Rw) : ∀ n, (itN ok rs n).length + unm rs (itN ok rs n) ≤ rs.length
  | 0 => by have := unm_le rs []; show 0 + _ ≤ _; show 0 + unm rs [] ≤ _; omega
  | n + 1 => fold_cnt rs (itN ok rs n, false) (fun _ h => h) (itN_cnt ok rs n)
end Wk
end
section
set_option Elab.async false
set_option linter.all false
set_option maxRecDepth 100000
set_option maxHeartbeats 4000000
/-! the plain law: worlds and trees of cases -/
namespace Wk
open PySem PySem.Spec PyProof.Rows L2 Evl
def addsB (ok : Rw → Bool) (f : List Nat) (r : Rw) : Bool := ok r && (decide (r.1 ∉ f) && r.2.1.all fun c => decide (c ∈ f))
theorem pStep_eq (ok : Rw → Bool) (s : List Nat × Bool) (r : Rw) : pStep ok s r = if addsB ok s.1 r = true then (s.1 ++ [r.1], true) else s := rfl
theorem fold_true {ok : Rw → Bool} : ∀ (rs : List Rw) (s : List Nat × Bool), s.2 = true → (rs.foldl (pStep ok) s).2 = true
  | [], s, h => h
  | r :: rs, s, h => fold_true rs _ (by rw [pStep_eq]; split; rfl; exact h)
theorem fold_still {ok : Rw → Bool} : ∀ (rs : List Rw) (f : List Nat), (rs.foldl (pStep ok) (f, false)).2 = false → ∀ r, r ∈ rs → addsB ok f r = false
  | [], f, _, r, hr => by cases hr
  | q :: rs, f, h, r, hr => by
    have h' : (rs.foldl (pStep ok) (pStep ok (f, false) q)).2 = false := h
    have hq : addsB ok f q = false := by
      cases c : addsB ok f q with
      | false => rfl
      | true =>
        have e : pStep ok (f, false) q = (f ++ [q.1], true) := by rw [pStep_eq]; exact if_pos c
        rw [e, fold_true rs _ rfl] at h'
        cases h'
    have e : pStep ok (f, false) q = (f, false) := by rw [pStep_eq]; exact if_neg (by rw [hq]; decide)
    rw [e] at h'
    rcases List.mem_cons.mp hr with x | x
    · rw [x]; exact hq
    · exact fold_still rs f h' r x
theorem fixN_still {ok : Rw → Bool} {rs : List Rw} : ∀ (n : Nat) (f : List Nat), unm rs f < n → (pass ok rs (fixN ok rs n f)).2 = false
  | 0, f, h => absurd h (Nat.not_lt_zero _)
  | n + 1, f, h => by
    unfold fixN
    split
    · rename_i hp
      have := pass_new hp
      exact fixN_still n _ (by omega)
    · rename_i hp
      simpa using hp
theorem fix_closed {ok : Rw → Bool} {rs : List Rw} {r : Rw} (hr : r ∈ rs) (ho : ok r = true) (hw : ∀ c, c ∈ r.2.1 → c ∈ fixOf ok rs) : r.1 ∈ fixOf ok rs := by
  have h := fold_still rs _ (fixN_still (ok := ok) (rs := rs) (rs.length + 2) [] (by have := unm_le rs []; omega)) r hr
  have h2 : addsB ok (fixOf ok rs) r = false := h
  unfold addsB at h2
  rw [ho, Bool.true_and, List.all_eq_true.mpr (fun c hc => decide_eq_true (hw c hc)), Bool.and_true] at h2
  exact Decidable.not_not.mp (of_decide_eq_false h2)
theorem fold_least {ok : Rw → Bool} {S : Nat → Prop} : ∀ (rs : List Rw) (s : List Nat × Bool), (∀ r, r ∈ rs → ok r = true → (∀ c, c ∈ r.2.1 → S c) → S r.1) → (∀ c, c ∈ s.1 → S c) → ∀ c, c ∈ (rs.foldl (pStep ok) s).1 → S c
  | [], s, _, h, c, hc => h c hc
  | r :: rs, s, hS, h, c, hc => by
    refine fold_least rs (pStep ok s r) (fun q hq => hS q (List.mem_cons_of_mem _ hq)) (fun d hd => ?_) c hc
    rw [pStep_eq] at hd
    split at hd
    · rename_i ha
      unfold addsB at ha
      rw [Bool.and_eq_true, Bool.and_eq_true] at ha
      rcases List.mem_append.mp hd with x | x
      · exact h d x
      · rw [List.mem_singleton.mp x]
        exact hS r List.mem_cons_self ha.1 fun e he => h e (of_decide_eq_true (List.all_eq_true.mp ha.2.2 e he))
    · exact h d hd
theorem fix_least {ok : Rw → Bool} {rs : List Rw} {S : Nat → Prop} (hS : ∀ r, r ∈ rs → ok r = true → (∀ c, c ∈ r.2.1 → S c) → S r.1) : ∀ c, c ∈ fixOf ok rs → S c := by
  have : ∀ (n : Nat) (f : List Nat), (∀ c, c ∈ f → S c) → ∀ c, c ∈ fixN ok rs n f → S c := by
    intro n
    induction n with
    | zero => intro f h c hc; exact h c hc
    | succ n ih =>
      intro f h c hc
      unfold fixN at hc
      split at hc
      · exact ih _ (fun d hd => fold_least rs (f, false) hS h d hd) c hc
      · exact h c hc
  exact this _ [] (fun c hc => by cases hc)
theorem fold_nodup {ok : Rw → Bool} : ∀ (rs : List Rw) (s : List Nat × Bool), s.1.Nodup → (rs.foldl (pStep ok) s).1.Nodup
  | [], s, h => h
  | r :: rs, s, h => fold_nodup rs _ (pStep_nodup h)
theorem fix_nodup (ok : Rw → Bool) (rs : List Rw) : (fixOf ok rs).Nodup := by
  have : ∀ (n : Nat) (f : List Nat), f.Nodup → (fixN ok rs n f).Nodup := by
    intro n
    induction n with
    | zero => intro f h; exact h
    | succ n ih =>
      intro f h
      unfold fixN
      split
      · exact ih _ (fold_nodup rs (f, false) h)
      · exact h
  exact this _ [] List.nodup_nil
theorem fix_ris (ok : Rw → Bool) (rs : List Rw) : (sortN (fixOf ok rs)).Pairwise (· < ·) := lt_of_le_nd (sortN_sorted _) ((sortN_perm _).nodup_iff.mpr (fix_nodup ok rs))
/-! worlds -/
theorem isW_mem {rs : List Rw} {s : List Nat} (h : isW rs s = true) (c : Nat) : c ∈ s ↔ c ∈ fixOf (okB s) rs := by
  have := of_decide_eq_true h
  rw [← (sortN_perm (fixOf (okB s) rs)).mem_iff, this]
def Fit (t f s : List Nat) : Prop := (∀ c, c ∈ t → c ∈ s) ∧ ∀ c, c ∈ f → c ∉ s
theorem okB_iff {s : List Nat} {r : Rw} : okB s r = true ↔ ∀ c, c ∈ r.2.2 → c ∉ s := by
  unfold okB
  rw [Bool.not_eq_true', List.any_eq_false]
  exact ⟨fun h c hc hs => h c hc (decide_eq_true hs), fun h c hc hs => h c hc (of_decide_eq_true hs)⟩
theorem okH_iff {t f : List Nat} {r : Rw} : okH t f r = true ↔ (∀ c, c ∈ r.2.1 → c ∉ f) ∧ ∀ c, c ∈ r.2.2 → c ∉ t := by
  unfold okH
  rw [Bool.not_eq_true', Bool.or_eq_false_iff, List.any_eq_false, List.any_eq_false]
  exact ⟨fun h => ⟨fun c hc hs => h.1 c hc (decide_eq_true hs), fun c hc hs => h.2 c hc (decide_eq_true hs)⟩, fun h => ⟨fun c hc hs => h.1 c hc (of_decide_eq_true hs), fun c hc hs => h.2 c hc (of_decide_eq_true hs)⟩⟩
theorem okF_iff {t f : List Nat} {r : Rw} : okF t f r = true ↔ ((∀ c, c ∈ r.2.1 → c ∈ t) ∧ ∀ c, c ∈ r.2.2 → c ∈ f) ∧ r.1 ∉ t := by
  unfold okF
  rw [Bool.and_eq_true, Bool.and_eq_true, List.all_eq_true, List.all_eq_true, Bool.not_eq_true', decide_eq_false_iff_not]
  exact ⟨fun h => ⟨⟨fun c hc => of_decide_eq_true (h.1.1 c hc), fun c hc => of_decide_eq_true (h.1.2 c hc)⟩, h.2⟩, fun h => ⟨⟨fun c hc => decide_eq_true (h.1.1 c hc), fun c hc => decide_eq_true (h.1.2 c hc)⟩, h.2⟩⟩
theorem world_step {rs : List Rw} {s : List Nat} (h : isW rs s = true) {r : Rw} (hr : r ∈ rs) (h1 : ∀ c, c ∈ r.2.1 → c ∈ s) (h2 : ∀ c, c ∈ r.2.2 → c ∉ s) : r.1 ∈ s :=
  (isW_mem h _).mpr (fix_closed hr (okB_iff.mpr h2) fun c hc => (isW_mem h c).mp (h1 c hc))
theorem rows_names {rs : List Rw} {r : Rw} (hr : r ∈ rs) : r.1 ∈ namesOf rs ∧ (∀ c, c ∈ r.2.1 → c ∈ namesOf rs) ∧ ∀ c, c ∈ r.2.2 → c ∈ namesOf rs :=
  ⟨namesOf_mem.mpr ⟨r, hr, List.mem_cons_self⟩, fun c hc => namesOf_mem.mpr ⟨r, hr, List.mem_cons_of_mem _ (List.mem_append_left _ hc)⟩, fun c hc => namesOf_mem.mpr ⟨r, hr, List.mem_cons_of_mem _ (List.mem_append_right _ hc)⟩⟩
end Wk
end
section
set_option Elab.async false
set_option linter.all false
set_option maxRecDepth 100000
set_option maxHeartbeats 4000000
/-! stages, worlds between them, rows of steps -/
namespace Wk
open PySem PySem.Spec PyProof.Rows L2 Evl
theorem ris_sub {a b : List Nat} (ha : a.Pairwise (· < ·)) (hb : b.Pairwise (· < ·)) (h : ∀ c, c ∈ a → c ∈ b) : a.Sublist b := by
  have e : a = b.filter fun c => decide (c ∈ a) := ris_unique ha (hb.sublist List.filter_sublist) fun c => by
    rw [List.mem_filter]
    exact ⟨fun hc => ⟨h c hc, decide_eq_true hc⟩, fun hc => of_decide_eq_true hc.2⟩
  rw [e]
  exact List.filter_sublist
def Bo (rs : List Rw) (s : List Nat) : List Nat := sortN (fixOf (okB s) rs)
theorem Bo_mem {rs : List Rw} {s : List Nat} {c : Nat} : c ∈ Bo rs s ↔ c ∈ fixOf (okB s) rs := (sortN_perm _).mem_iff
theorem Bo_ris (rs : List Rw) (s : List Nat) : (Bo rs s).Pairwise (· < ·) := fix_ris _ _
theorem Bo_anti {rs : List Rw} {s t : List Nat} (h : ∀ c, c ∈ s → c ∈ t) : ∀ c, c ∈ Bo rs t → c ∈ Bo rs s := fun c hc =>
  Bo_mem.mpr (fix_least (S := fun c => c ∈ fixOf (okB s) rs) (fun r hr ho hw => fix_closed hr (okB_iff.mpr fun d hd hs => okB_iff.mp ho d hd (h d hs)) hw) c (Bo_mem.mp hc))
theorem Bo_eqm {rs : List Rw} {s t : List Nat} (h : Eqm s t) : Bo rs s = Bo rs t := by unfold Bo; rw [okB_eqm h]
theorem Bo_names {rs : List Rw} {s : List Nat} {c : Nat} (h : c ∈ Bo rs s) : c ∈ namesOf rs := fixOf_names (Bo_mem.mp h)
theorem Bo_sub (rs : List Rw) (s : List Nat) : (Bo rs s).Sublist (namesOf rs) := ris_sub (Bo_ris rs s) (namesOf_ris rs) fun _ => Bo_names
theorem Bo_len (rs : List Rw) (s : List Nat) : (Bo rs s).length ≤ (namesOf rs).length := (Bo_sub rs s).length_le
theorem isW_Bo {rs : List Rw} {s : List Nat} : isW rs s = true ↔ Bo rs s = s := by
  unfold isW Bo
  rw [decide_eq_true_iff]
def stgN (rs : List Rw) : Nat → List Nat → List (List Nat × List Nat)
  | 0, _ => []
  | n + 1, l => (l, Bo rs l) :: if Bo rs (Bo rs l) = l then [] else stgN rs n (Bo rs (Bo rs l))
def stOf (rs : List Rw) : List (List Nat × List Nat) := stgN rs ((namesOf rs).length + 1) []
structure Asc (rs : List Rw) (l : List Nat) : Prop where
  ris : l.Pairwise (· < ·)
  up : ∀ c, c ∈ l → c ∈ Bo rs (Bo rs l)
  names : ∀ c, c ∈ l → c ∈ namesOf rs
theorem Asc.nil (rs : List Rw) : Asc rs [] := ⟨List.Pairwise.nil, fun c h => (by cases h), fun c h => (by cases h)⟩
theorem Asc.step {rs : List Rw} {l : List Nat} (h : Asc rs l) : Asc rs (Bo rs (Bo rs l)) := ⟨Bo_ris _ _, Bo_anti (Bo_anti h.up), fun _ => Bo_names⟩
theorem Asc.len {rs : List Rw} {l : List Nat} (h : Asc rs l) : l.length ≤ (namesOf rs).length := (ris_sub h.ris (namesOf_ris rs) h.names).length_le
theorem Asc.grow {rs : List Rw} {l : List Nat} (h : Asc rs l) (hne : Bo rs (Bo rs l) ≠ l) : l.length < (Bo rs (Bo rs l)).length := by
  have hs := ris_sub h.ris (Bo_ris rs (Bo rs l)) h.up
  rcases Nat.lt_or_eq_of_le hs.length_le with x | x
  · exact x
  · exact absurd (hs.eq_of_length x).symm hne
theorem stgN_len {rs : List Rw} : ∀ (n : Nat) (l : List Nat), (stgN rs n l).length ≤ n
  | 0, _ => Nat.le_refl _
  | n + 1, l => by
    unfold stgN
    rw [List.length_cons]
    split
    · simp
    · have := stgN_len (rs := rs) n (Bo rs (Bo rs l))
      omega
/-- the last stage -/
theorem stgN_last {rs : List Rw} {P : List Nat → Prop} (hP : ∀ l, P l → P (Bo rs (Bo rs l))) : ∀ (n : Nat) (l : List Nat), (namesOf rs).length < l.length + n → Asc rs l → P l → ∃ pre lo, stgN rs n l = pre ++ [(lo, Bo rs lo)] ∧ Bo rs (Bo rs lo) = lo ∧ Asc rs lo ∧ P lo
  | 0, l, h, a, _ => absurd a.len (by omega)
  | n + 1, l, h, a, p => by
    unfold stgN
    by_cases c : Bo rs (Bo rs l) = l
    · rw [if_pos c]
      exact ⟨[], l, rfl, c, a, p⟩
    · rw [if_neg c]
      have hg := a.grow c
      obtain ⟨pre, lo, h1, h2⟩ := stgN_last hP n _ (by omega) a.step (hP l p)
      exact ⟨(l, Bo rs l) :: pre, lo, by rw [h1]; rfl, h2⟩
def loOf (rs : List Rw) : List Nat := ((stOf rs).getLast?.getD ([], [])).1
def hiOf (rs : List Rw) : List Nat := ((stOf rs).getLast?.getD ([], [])).2
theorem st_last {rs : List Rw} {P : List Nat → Prop} (h0 : P []) (hP : ∀ l, P l → P (Bo rs (Bo rs l))) : (∃ pre, stOf rs = pre ++ [(loOf rs, hiOf rs)]) ∧ hiOf rs = Bo rs (loOf rs) ∧ Bo rs (hiOf rs) = loOf rs ∧ Asc rs (loOf rs) ∧ P (loOf rs) := by
  obtain ⟨pre, lo, h1, h2, h3, h4⟩ := stgN_last hP ((namesOf rs).length + 1) [] (by simp) (Asc.nil rs) h0
  have e : stOf rs = pre ++ [(lo, Bo rs lo)] := h1
  have e1 : loOf rs = lo := by unfold loOf; rw [e]; simp
  have e2 : hiOf rs = Bo rs lo := by unfold hiOf; rw [e]; simp
  rw [e1, e2]
  exact ⟨⟨pre, e⟩, rfl, h2, h3, h4⟩
theorem hi_eq (rs : List Rw) : hiOf rs = Bo rs (loOf rs) := (st_last (rs := rs) (P := fun _ => True) trivial fun _ _ => trivial).2.1
theorem lo_eq (rs : List Rw) : Bo rs (hiOf rs) = loOf rs := (st_last (rs := rs) (P := fun _ => True) trivial fun _ _ => trivial).2.2.1
theorem lo_asc (rs : List Rw) : Asc rs (loOf rs) := (st_last (rs := rs) (P := fun _ => True) trivial fun _ _ => trivial).2.2.2.1
theorem hi_ris (rs : List Rw) : (hiOf rs).Pairwise (· < ·) := by rw [hi_eq]; exact Bo_ris _ _
theorem hi_names {rs : List Rw} {c : Nat} (h : c ∈ hiOf rs) : c ∈ namesOf rs := by rw [hi_eq] at h; exact Bo_names h
theorem lo_hi {rs : List Rw} : ∀ c, c ∈ loOf rs → c ∈ hiOf rs := by
  have h := (st_last (rs := rs) (P := fun l => ∀ c, c ∈ l → c ∈ Bo rs l) (fun c h => by cases h) fun l hl => ?_).2.2.2.2
  · rw [hi_eq]
    exact h
  · have h1 : ∀ c, c ∈ Bo rs (Bo rs l) → c ∈ Bo rs l := Bo_anti hl
    exact Bo_anti h1
/-- worlds lie between -/
theorem lo_world {rs : List Rw} {s : List Nat} (h : isW rs s = true) : ∀ c, c ∈ loOf rs → c ∈ s := by
  have e := isW_Bo.mp h
  refine (st_last (rs := rs) (P := fun l => ∀ c, c ∈ l → c ∈ s) (fun c h => by cases h) fun l hl => ?_).2.2.2.2
  have h1 : ∀ c, c ∈ s → c ∈ Bo rs l := fun c hc => Bo_anti hl c (by rw [e]; exact hc)
  intro c hc
  have := Bo_anti h1 c hc
  rwa [e] at this
theorem world_hi {rs : List Rw} {s : List Nat} (h : isW rs s = true) : ∀ c, c ∈ s → c ∈ hiOf rs := fun c hc => by
  rw [hi_eq]
  exact Bo_anti (lo_world h) c (by rw [isW_Bo.mp h]; exact hc)
/-! steps -/
/-- a step: a number, yes or no, a text of one sign, a row of such texts and of ones -/
inductive Sv
  | int (n : Int)
  | bl (b : Bool)
  | str (c : Nat)
  | tup (xs : List (Option Nat))
def inNs (ns : List Nat) (o : Option Nat) : Bool := match o with
  | some c => decide (c ∈ ns)
  | none => false
def msOf (xs : List (Option Nat)) : List Nat := xs.filterMap id
def unfB (rs : List Rw) (T F ms : List Nat) : Bool := rs.all fun r => !(decide (r.1 ∈ ms) && (okH T F r && !(r.2.1.any fun c => decide (c ∈ ms))))
def intB (rs : List Rw) (T F : List Nat) (n : Int) : Option Rw := if 0 ≤ n then (rs[n.toNat]?).filter fun r => (r.2.1.all fun c => decide (c ∈ T)) && r.2.2.all fun c => decide (c ∈ F) else none
def stepB (rs : List Rw) (T F : List Nat) : Sv → Option (List Nat × List Nat)
  | .int n => (intB rs T F n).map fun r => (addN T r.1, F)
  | .tup xs => if (decide (1 ≤ xs.length) && decide (xs.length ≤ 10)) && (xs.all (inNs (namesOf rs)) && unfB rs T F (msOf xs)) then some (T, addAll F (msOf xs)) else none
  | _ => none
def walkB (rs : List Rw) : List Sv → List Nat × List Nat → Option (List Nat × List Nat)
  | [], z => some z
  | s :: r, z => (stepB rs z.1 z.2 s).bind (walkB rs r)
theorem walkB_app (rs : List Rw) : ∀ (a b : List Sv) (z : List Nat × List Nat), walkB rs (a ++ b) z = (walkB rs a z).bind (walkB rs b)
  | [], b, z => rfl
  | s :: a, b, z => by
    rw [List.cons_append, walkB, walkB]
    cases stepB rs z.1 z.2 s with
    | none => rfl
    | some y => exact walkB_app rs a b y
theorem intB_some {rs : List Rw} {T F : List Nat} {n : Int} {r : Rw} (h : intB rs T F n = some r) : 0 ≤ n ∧ rs[n.toNat]? = some r ∧ (∀ c, c ∈ r.2.1 → c ∈ T) ∧ ∀ c, c ∈ r.2.2 → c ∈ F := by
  unfold intB at h
  split at h
  · rename_i h0
    rw [Option.filter_eq_some_iff, Bool.and_eq_true, List.all_eq_true, List.all_eq_true] at h
    exact ⟨h0, h.1, fun c hc => of_decide_eq_true (h.2.1 c hc), fun c hc => of_decide_eq_true (h.2.2 c hc)⟩
  · cases h
theorem intB_of {rs : List Rw} {T F : List Nat} {i : Nat} {r : Rw} (h : rs[i]? = some r) (h1 : ∀ c, c ∈ r.2.1 → c ∈ T) (h2 : ∀ c, c ∈ r.2.2 → c ∈ F) : intB rs T F (i : Int) = some r := by
  unfold intB
  rw [if_pos (by omega), Int.toNat_natCast, h, Option.filter_some, if_pos]
  rw [Bool.and_eq_true, List.all_eq_true, List.all_eq_true]
  exact ⟨fun c hc => decide_eq_true (h1 c hc), fun c hc => decide_eq_true (h2 c hc)⟩
theorem unfB_iff {rs : List Rw} {T F ms : List Nat} : unfB rs T F ms = true ↔ ∀ r, r ∈ rs → r.1 ∈ ms → okH T F r = true → ∃ c, c ∈ r.2.1 ∧ c ∈ ms := by
  unfold unfB
  rw [List.all_eq_true]
  constructor
  · intro h r hr h1 h2
    have := h r hr
    rw [decide_eq_true h1, h2, Bool.true_and, Bool.true_and, Bool.not_not, List.any_eq_true] at this
    obtain ⟨c, hc, hd⟩ := this
    exact ⟨c, hc, of_decide_eq_true hd⟩
  · intro h r hr
    rw [Bool.not_eq_true', Bool.and_eq_false_iff, Bool.and_eq_false_iff]
    by_cases c1 : r.1 ∈ ms
    · cases c2 : okH T F r with
      | false => exact .inr (.inl rfl)
      | true =>
        obtain ⟨c, hc, hd⟩ := h r hr c1 c2
        exact .inr (.inr (by rw [Bool.not_eq_false', List.any_eq_true]; exact ⟨c, hc, decide_eq_true hd⟩))
    · exact .inl (decide_eq_false c1)
theorem msOf_some (ms : List Nat) : msOf (ms.map some) = ms := by unfold msOf; simp
/-- what right steps tell -/
structure Tl (rs : List Rw) (T F : List Nat) : Prop where
  nT : T.Nodup
  nF : F.Nodup
  tn : ∀ c, c ∈ T → c ∈ namesOf rs
  fn : ∀ c, c ∈ F → c ∈ namesOf rs
  lo : ∀ c, c ∈ T → c ∈ loOf rs
  hi : ∀ c, c ∈ F → c ∉ hiOf rs
theorem Tl.nil (rs : List Rw) : Tl rs [] [] := ⟨List.nodup_nil, List.nodup_nil, fun c h => (by cases h), fun c h => (by cases h), fun c h => (by cases h), fun c h => (by cases h)⟩
theorem ms_names {ns : List Nat} {xs : List (Option Nat)} (h : xs.all (inNs ns) = true) : xs = (msOf xs).map some ∧ ∀ c, c ∈ msOf xs → c ∈ ns := by
  induction xs with
  | nil => exact ⟨rfl, fun c hc => by cases hc⟩
  | cons o xs ih =>
    rw [List.all_cons, Bool.and_eq_true] at h
    obtain ⟨h1, h2⟩ := h
    cases o with
    | none => cases h1
    | some d =>
      obtain ⟨i1, i2⟩ := ih h2
      have e : msOf (some d :: xs) = d :: msOf xs := rfl
      rw [e]
      refine ⟨by rw [List.map_cons, ← i1], fun c hc => ?_⟩
      rcases List.mem_cons.mp hc with x | x
      · rw [x]; exact of_decide_eq_true h1
      · exact i2 c x
/-- no high name is in an unfounded row -/
theorem unf_hi {rs : List Rw} {T F ms : List Nat} (h : Tl rs T F) (hu : unfB rs T F ms = true) : ∀ c, c ∈ ms → c ∉ hiOf rs := by
  have : ∀ c, c ∈ fixOf (okB (loOf rs)) rs → c ∈ fixOf (okB (loOf rs)) rs ∧ c ∉ ms := by
    refine fix_least (S := fun c => c ∈ fixOf (okB (loOf rs)) rs ∧ c ∉ ms) fun r hr ho hw => ⟨fix_closed hr ho fun c hc => (hw c hc).1, fun hm => ?_⟩
    have hok : okH T F r = true := okH_iff.mpr ⟨fun c hc hf => h.hi c hf (by rw [hi_eq]; exact Bo_mem.mpr (hw c hc).1), fun c hc ht => okB_iff.mp ho c hc (h.lo c ht)⟩
    obtain ⟨c, hc, hcm⟩ := unfB_iff.mp hu r hr hm hok
    exact (hw c hc).2 hcm
  intro c hc hh
  rw [hi_eq] at hh
  exact (this c (Bo_mem.mp hh)).2 hc
theorem addN_nd {f : List Nat} {c : Nat} (h : f.Nodup) : (addN f c).Nodup := by
  have := addAll_nd [c] f h
  exact this
theorem stepB_tl {rs : List Rw} {T F : List Nat} (h : Tl rs T F) {s : Sv} {z : List Nat × List Nat} (hs : stepB rs T F s = some z) : Tl rs z.1 z.2 := by
  cases s with
  | int n =>
    obtain ⟨r, hr, rfl⟩ := Option.map_eq_some_iff.mp hs
    obtain ⟨h0, h1, h2, h3⟩ := intB_some hr
    have hrm := List.mem_of_getElem? h1
    refine ⟨addN_nd h.nT, h.nF, fun c hc => ?_, h.fn, fun c hc => ?_, h.hi⟩
    · rcases addN_mem.mp hc with x | x
      · exact h.tn c x
      · rw [x]; exact (rows_names hrm).1
    · rcases addN_mem.mp hc with x | x
      · exact h.lo c x
      · rw [x, ← lo_eq]
        refine Bo_mem.mpr (fix_closed hrm (okB_iff.mpr fun d hd => h.hi d (h3 d hd)) fun d hd => Bo_mem.mp ?_)
        rw [lo_eq]
        exact h.lo d (h2 d hd)
  | tup xs =>
    have hs' : (if (decide (1 ≤ xs.length) && decide (xs.length ≤ 10)) && (xs.all (inNs (namesOf rs)) && unfB rs T F (msOf xs)) then some (T, addAll F (msOf xs)) else none) = some z := hs
    split at hs'
    · rename_i hb
      cases hs'
      rw [Bool.and_eq_true, Bool.and_eq_true (xs.all _)] at hb
      obtain ⟨h1, h2⟩ := ms_names hb.2.1
      refine ⟨h.nT, addAll_nd _ _ h.nF, h.tn, fun c hc => ?_, h.lo, fun c hc => ?_⟩
      · rcases addAll_mem.mp hc with x | x
        · exact h.fn c x
        · exact h2 c x
      · rcases addAll_mem.mp hc with x | x
        · exact h.hi c x
        · exact unf_hi h hb.2.2 c x
    · cases hs'
  | bl b => exact absurd hs (by unfold stepB; exact fun h => by cases h)
  | str c => exact absurd hs (by unfold stepB; exact fun h => by cases h)
theorem walkB_tl {rs : List Rw} : ∀ (ss : List Sv) (z y : List Nat × List Nat), Tl rs z.1 z.2 → walkB rs ss z = some y → Tl rs y.1 y.2
  | [], z, y, h, e => by cases e; exact h
  | s :: ss, z, y, h, e => by
    rw [walkB] at e
    obtain ⟨x, h1, h2⟩ := Option.bind_eq_some_iff.mp e
    exact walkB_tl ss x y (stepB_tl h h1) h2
/-- nothing more can be told -/
structure Full (rs : List Rw) (T F : List Nat) : Prop where
  tr : ∀ r, r ∈ rs → (∀ c, c ∈ r.2.1 → c ∈ T) → (∀ c, c ∈ r.2.2 → c ∈ F) → r.1 ∈ T
  fa : ∀ c, c ∈ namesOf rs → c ∉ F → c ∈ fixOf (okH T F) rs
theorem Full.lo {rs : List Rw} {T F : List Nat} (h : Full rs T F) : (∀ c, c ∈ loOf rs → c ∈ T) ∧ ∀ c, c ∈ namesOf rs → c ∉ hiOf rs → c ∈ F := by
  have key : ∀ l, (∀ c, c ∈ l → c ∈ T) → ∀ c, c ∈ namesOf rs → c ∉ Bo rs l → c ∈ F := fun l hl c hn hc => by
    apply Decidable.byContradiction
    intro hf
    refine hc (Bo_mem.mpr (fix_least (S := fun c => c ∈ fixOf (okB l) rs) (fun r hr ho hw => fix_closed hr (okB_iff.mpr fun d hd hs => (okH_iff.mp ho).2 d hd (hl d hs)) hw) c (h.fa c hn hf)))
  have h1 := (st_last (rs := rs) (P := fun l => ∀ c, c ∈ l → c ∈ T) (fun c h => by cases h) fun l hl c hc => ?_).2.2.2.2
  · refine ⟨h1, fun c hn hc => key _ h1 c hn ?_⟩
    rw [← hi_eq]
    exact hc
  · exact fix_least (S := fun c => c ∈ T) (fun r hr ho hw => h.tr r hr hw fun d hd => key l hl d ((rows_names hr).2.2 d hd) (okB_iff.mp ho d hd)) c (Bo_mem.mp hc)
def nevOf (rs : List Rw) : List Nat := (namesOf rs).filter fun c => !decide (c ∈ hiOf rs)
theorem nev_mem {rs : List Rw} {c : Nat} : c ∈ nevOf rs ↔ c ∈ namesOf rs ∧ c ∉ hiOf rs := by
  unfold nevOf
  rw [List.mem_filter, Bool.not_eq_true', decide_eq_false_iff_not]
theorem full_told {rs : List Rw} {T F : List Nat} (h : Full rs T F) (t : Tl rs T F) : riseOf T = loOf rs ∧ riseOf F = nevOf rs :=
  ⟨ris_unique (riseOf_ris _) (lo_asc rs).ris fun c => by rw [riseOf_mem]; exact ⟨t.lo c, h.lo.1 c⟩, ris_unique (riseOf_ris _) ((namesOf_ris rs).sublist List.filter_sublist) fun c => by
    rw [riseOf_mem, nev_mem]
    exact ⟨fun hc => ⟨t.fn c hc, t.hi c hc⟩, fun hc => h.lo.2 c hc.1 hc.2⟩⟩
theorem sortN_rise {l : List Nat} (h : l.Nodup) : sortN l = riseOf l := ris_unique (lt_of_le_nd (sortN_sorted _) ((sortN_perm _).nodup_iff.mpr h)) (riseOf_ris _) fun c => by rw [riseOf_mem, (sortN_perm _).mem_iff]
end Wk
end
section
set_option Elab.async false
set_option linter.all false
set_option maxRecDepth 100000
set_option maxHeartbeats 4000000
/-! data of rows, alike -/
namespace Wk
open PySem PySem.Spec PyProof.Rows L2 Evl
mutual
theorem dp_mo {K : PySem.W.Frag} {H H' : Hp} (e : Ex H H') : ∀ (d : PyData) (v : V), Dp K H v d → Dp K H' v d
  | .none, _, h => by cases h; exact .non
  | .bool b, _, h => by cases h; exact .bl b
  | .int i, _, h => by cases h; exact .int i
  | .str x, _, h => by cases h; exact .str x
  | .list ds, _, h => by
    cases h with
    | lst hs ha => exact .lst (ex_l e hs) (dpAll_mo e ds _ ha)
  | .tuple ds, _, h => by
    cases h with
    | tup hs ha => exact .tup (ex_t e hs) (dpAll_mo e ds _ ha)
  | .dict _, _, h => by cases h
theorem dpAll_mo {K : PySem.W.Frag} {H H' : Hp} (e : Ex H H') : ∀ (ds : List PyData) (vs : List V), DpAll K H vs ds → DpAll K H' vs ds
  | [], _, h => by cases h; exact .nil
  | d :: ds, _, h => by
    cases h with
    | cons h1 h2 => exact .cons (dp_mo e d _ h1) (dpAll_mo e ds _ h2)
end
theorem dpAll_of {α : Type} {P : α → V → Hp → Prop} {f : α → PyData} {K : PySem.W.Frag} {H : Hp} : ∀ {as : List α} {vs : List V}, AllV P as vs H → (∀ a v, a ∈ as → P a v H → Dp K H v (f a)) → DpAll K H vs (as.map f)
  | [], [], _, _ => .nil
  | [], v :: vs, h, _ => absurd h.1 (by simp)
  | a :: as, [], h, _ => absurd h.1 (by simp)
  | a :: as, v :: vs, h, hf => .cons (hf a v List.mem_cons_self h.uncons.1) (dpAll_of h.uncons.2 fun b w hb => hf b w (List.mem_cons_of_mem _ hb))
/-- data that can be laid, not deep -/
def LayD (n : Nat) (d : PyData) : Prop := PyData.canLay0 d = true ∧ PyData.depth d ≤ n
theorem LayD.sh {n : Nat} {d : PyData} (h : LayD n d) (hn : n ≤ 64) : SeqAt.shaped d = true := by
  unfold SeqAt.shaped
  rw [h.1, Bool.true_and]
  exact decide_eq_true (Nat.le_trans h.2 hn)
theorem okAll {n : Nat} : ∀ {ds : List PyData}, (∀ d, d ∈ ds → LayD n d) → PyData.canLayAll0 ds = true ∧ PyData.depthAll ds ≤ n
  | [], _ => ⟨by simp [PyData.canLayAll0], by simp [PyData.depthAll]⟩
  | d :: ds, h => by
    obtain ⟨h1, h2⟩ := h d List.mem_cons_self
    obtain ⟨i1, i2⟩ := okAll (ds := ds) fun x hx => h x (List.mem_cons_of_mem _ hx)
    refine ⟨by rw [PyData.canLayAll0, h1, i1]; rfl, ?_⟩
    rw [PyData.depthAll]
    omega
theorem LayD.tup {n : Nat} {ds : List PyData} (h : ∀ d, d ∈ ds → LayD n d) : LayD (n + 1) (.tuple ds) := by
  obtain ⟨h1, h2⟩ := okAll h
  refine ⟨by rw [PyData.canLay0, h1], ?_⟩
  rw [PyData.depth]
  omega
theorem LayD.mono {n m : Nat} {d : PyData} (h : LayD n d) (hn : n ≤ m) : LayD m d := ⟨h.1, Nat.le_trans h.2 hn⟩
theorem LayD.refl {n : Nat} {d : PyData} (h : LayD n d) : PyData.eqv d d = true := PySem.SeqAt.eqv_refl_plain d (PySem.PyData.plain_of_canLay0 d h.1)
theorem okD_int (i : Int) : LayD 0 (.int i) := ⟨by simp [PyData.canLay0], by simp [PyData.depth]⟩
theorem okD_str {x : Str} (h : PyData.strOk x = true) : LayD 0 (.str x) := ⟨by simp [PyData.canLay0, h], by simp [PyData.depth]⟩
theorem okD_nm {c : Nat} (h : c < 1000) : LayD 0 (.str (tx [c])) := okD_str (by
  show (tx [c]).cps.all (· < 0x110000) = true
  simp
  omega)
def dT (ns : List Nat) : PyData := .tuple (datN ns)
theorem okD_T {ns : List Nat} (h : Lo ns) : LayD 1 (dT ns) := LayD.tup fun d hd => by
  unfold datN at hd
  obtain ⟨c, hc, rfl⟩ := List.mem_map.mp hd
  exact okD_nm (h c hc)
theorem dp_T {K : PySem.W.Frag} {H : Hp} {p : Addr} {ns : List Nat} (h : H p = some (.tup (nmL ns))) : Dp K H (.ref p) (dT ns) := .tup (st_of h) (dpN ns)
section
variable {K : PySem.W.Frag} {σ : L2.St} {H : Hp} {ta tb : TE}
/-- two values of the same data are alike -/
theorem ev_eqD {d : PyData} {n : Nat} (ha : EvX ta σ H (fun v H' => Dp K H' v d)) (hb : EvX tb σ H (fun v H' => Dp K H' v d)) (ok : LayD n d) (hn : n ≤ 64) : Ev (tOp (rEqD K) ta tb) σ H (.bl true) := fun H1 e Q q =>
  ha H1 e _ fun x H2 e2 px => hb H2 (e.trans e2) _ fun y H3 e3 py => ⟨d, d, dp_mo e3 d x px, py, ok.sh hn, ok.sh hn, by rw [ok.refl]; exact q H3 (e2.trans e3)⟩
theorem ev_eqDD {d f : PyData} {n : Nat} (ha : EvX ta σ H (fun v H' => Dp K H' v d)) (hb : EvX tb σ H (fun v H' => Dp K H' v f)) (ok : LayD n d) (ok2 : LayD n f) (hn : n ≤ 64) : Ev (tOp (rEqD K) ta tb) σ H (.bl (PyData.eqv d f)) := fun H1 e Q q =>
  ha H1 e _ fun x H2 e2 px => hb H2 (e.trans e2) _ fun y H3 e3 py => ⟨d, f, dp_mo e3 d x px, py, ok.sh hn, ok2.sh hn, q H3 (e2.trans e3)⟩
end
end Wk
end
section
set_option Elab.async false
set_option linter.all false
set_option maxRecDepth 100000
set_option maxHeartbeats 4000000
/-! t[::-1] of a tuple -/
namespace L2
open PySem PySem.Spec PyProof.Rows HT
section
variable {prog : Program} {w : World} {A : Around} {E : Value → Shared → Prop} {s : Shared}
theorem places_rev (n : Nat) : Builtin.Slice.slicePlaces ((n : Int) - 1) (-1) (-1) = n := by
  unfold Builtin.Slice.slicePlaces
  rw [if_neg (by decide)]
  by_cases h : (n : Int) - 1 > -1
  · rw [if_pos h]
    have e : ((n : Int) - 1 - -1 - 1) / (- -1) + 1 = (n : Int) := by
      rw [show (- -1 : Int) = 1 by decide, Int.ediv_one]
      omega
    rw [e, Int.toNat_natCast]
  · rw [if_neg h]
    have : n = 0 := by omega
    rw [this]
    rfl
theorem sliceApplied_rev {sl : Addr} {vk : Value} {n : Nat} {Q : Int × Int × Nat → Shared → Prop} (hs : s.heap.IsSliceOf sl .none .none vk) (pk : IsPart vk (some (-1)))
    (h : Q ((n : Int) - 1, -1, n) s) : wpAny (model prog w) A (Builtin.Slice.sliceApplied (.ref sl) (pure (n : Int))) Q E s := by
  obtain ⟨os, hos, hcs, hds⟩ := id hs
  unfold Builtin.Slice.sliceApplied Builtin.Slice.sliceFields
  refine wpAny_bind (wpAny_bind (wpAny_field hos hds (x := .none) rfl (wpAny_bind (wpAny_field hos hds (x := .none) rfl (wpAny_bind (wpAny_field hos hds (x := vk) rfl (wpAny_pure ?_)))))))
  refine wpAny_bind (slicePart_ pk ?_)
  show wpAny _ _ (if ((-1 : Int) == 0) = true then _ else _) _ _ s
  rw [if_neg (by decide)]
  refine wpAny_bind (slicePart_none (wpAny_bind (slicePart_none (wpAny_bind (wpAny_pure ?_)))))
  show wpAny _ _ (pure ((n : Int) - 1, (-1 : Int), Builtin.Slice.slicePlaces ((n : Int) - 1) (-1) (-1))) _ _ s
  rw [places_rev]
  exact wpAny_pure h
theorem pick_rev (xs : Array Value) : ((List.range xs.size).filterMap fun (m : Nat) => xs[(((xs.size : Int) - 1) + (m : Int) * (-1)).toNat]?).toArray = xs.toList.reverse.toArray := by
  have e : (List.range xs.size).filterMap (fun (m : Nat) => xs[(((xs.size : Int) - 1) + (m : Int) * (-1)).toNat]?) = ((List.range xs.size).map fun k => xs.size - 1 - k).filterMap (xs[·]?) := by
    rw [List.filterMap_map]
    refine congrArg (fun f => (List.range xs.size).filterMap f) (funext fun m => ?_)
    have q : (((xs.size : Int) - 1) + (m : Int) * (-1)).toNat = xs.size - 1 - m := by omega
    show xs[_]? = xs[_]?
    rw [q]
  rw [e, PySem.W.krv_range, List.filterMap_reverse, PySem.W.krv_all]
theorem getItem_tuple_rev {t sl : Addr} {items : Array Value} {vk : Value} {Q : Value → Shared → Prop} (ht : IsTup s.heap t items) (hs : s.heap.IsSliceOf sl .none .none vk) (pk : IsPart vk (some (-1)))
    (h : Q (.ref s.heap.objs.size) { s with heap := s.heap.push (seqObj "tuple" items.toList.reverse.toArray 0) }) (hz : items.size ≤ sizeLine) : wpAny (model prog w) A (getItem (.ref t) (.ref sl)) Q E s := by
  obtain ⟨os, hos, hcs, hds⟩ := id hs
  have hTs : s.TypeIs (.ref sl) "slice" := ⟨os, hos, hcs⟩
  have htake : items.toList.reverse.toArray.size ≤ sizeLine := by
    rw [List.size_toArray, List.length_reverse, Array.length_toList]
    exact hz
  unfold getItem
  try with_reducible refine wpAny_holding ?_
  first | refine wpAny_bind (wpAny_pure ?_) | skip
  refine wpAny_bind (wpAny_sequenceKey ht.typeIs (by decide) ?_)
  refine wpAny_bind (wpAny_callSpecial?_slot (name := Str.ofString "__getitem__") ht.typeIs PyProof.Rows.slot_tuple_getitem
    (wpAny_call_entry PyProof.Rows.slot_tuple_getitem ht.typeIs entry_tuple_getitem ?_ (args_tuple_getitem _ _)))
  show wpAny _ _ (Builtin.Tuple.tupleItemsOf (.ref t) >>= _) _ _ s
  refine wpAny_bind (tupleItemsOf_ ht ?_)
  refine wpAny_bind (wpAny_typeOf hTs ?_)
  rw [if_pos (by decide)]
  refine wpAny_bind (sliceApplied_rev hs pk ?_)
  have hno : ¬ (((items.size : Int) - 1 == 0 && (-1 : Int) == 1 && items.size == items.size) = true) := by
    intro q
    rw [Bool.and_eq_true, Bool.and_eq_true] at q
    exact absurd q.1.2 (by decide)
  show wpAny _ _ (if ((items.size : Int) - 1 == 0 && (-1 : Int) == 1 && items.size == items.size) = true then _ else _) _ _ s
  rw [if_neg hno, pick_rev]
  first
    | exact wpAny_bind (m := Builtin.Tuple.tupleExact _) (wpAny_newObj_type (wpAny_pure ⟨_, rfl, wpAny_pure h⟩) htake)
    | exact wpAny_bind (m := Builtin.Tuple.tupleExact _) (wpAny_newObj_type (wpAny_bind (wpAny_pure (wpAny_pure ⟨_, rfl, wpAny_pure h⟩))) htake)
    | exact wpAny_bind (wpAny_bind (m := Builtin.Tuple.tupleExact _) (wpAny_newObj_type (wpAny_pure (wpAny_pure ⟨_, rfl, wpAny_pure h⟩)) htake))
    | exact wpAny_bind (wpAny_bind (m := Builtin.Tuple.tupleExact _) (wpAny_newObj_type (wpAny_pure ⟨_, rfl, wpAny_pure h⟩) htake))
end
section
variable {X : Cx} {e : Expr} {te : TE} {ke : Expr} {tk : TE} {pos p2 : Pos}
/-- t[::-1] -/
def rRevT (K : PySem.W.Frag) : V → Hp → VK → Prop := fun x H Q => ∃ a xs, x = .ref a ∧ SqT K H a xs ∧ ∀ p, H p = none → Q (.ref p) (upd H p (.tup xs.reverse))
def tRevT (K : PySem.W.Frag) (te tk : TE) : TE := fun σ H Q => te σ H fun x H1 => tk σ H1 fun k H2 => k = .int (-1) ∧ rRevT K x H2 Q
theorem Vals.rev : ∀ {xs : List V} {us : List Value}, Vals xs us → Vals xs.reverse us.reverse
  | _, _, .nil => .nil
  | _, _, .cons r t => by
    rw [List.reverse_cons, List.reverse_cons]
    exact Vals.append (Vals.rev t) (.cons r .nil)
theorem pe_revT (he : PE X e te) (hk : PE X ke tk) : PE X (.Subscript e (.Slice none none (some ke) p2) pos) (tRevT X.K te tk) := by
  refine ⟨fun pins s σ H Q I h => ?_⟩
  refine Subscript_ (thn (he.run pins s σ H _ I h) fun v s1 ⟨x, H1, I1, r1, q1⟩ => ?_)
  refine wpAny_Slice ?_
  repeat rw [evalPart_none]
  refine wpAny_pure ?_
  refine wpAny_pure ?_
  rw [evalPart_some]
  refine thn (hk.run pins s1 σ H1 _ I1 q1) fun vk s3 ⟨k, H3, I3, rk, ek, a, xs, ex, hx, q⟩ => ?_
  subst ek; subst ex
  obtain ⟨tt, rfl⟩ := rk
  have pk : IsPart (Value.int (-1) tt) (some (-1)) := .int (-1) tt
  cases r1
  have I4 : Inv X pins σ H3 { s3 with heap := s3.heap.push { cls := .type "slice", data := .fields #[.none, .none, .int (-1) tt] } } := I3.kept (t' := s3.toks) fun b ob q => Heap.get?_push_of_some _ q
  obtain ⟨its, r, ht, hz⟩ := I4.tuple hx
  have hlen : its.toArray.size = xs.length := by rw [List.size_toArray]; exact r.length.symm
  show wpAny (model X.prog X.w) X.A (subscriptTail e (.Slice none none (some ke) p2) (.ref a) (.ref s3.heap.objs.size)) (EP X pins σ Q) X.xe { s3 with heap := s3.heap.push { cls := .type "slice", data := .fields #[.none, .none, .int (-1) tt] } }
  refine tail_any (ops := [.ref a, .ref s3.heap.objs.size]) (T := "tuple") ht.typeIs PyProof.Rows.slot_tuple_getitem.lookup (getItem_tuple_rev ht (Heap.IsSliceOf.new ..) pk ?_ (by rw [hlen]; exact hz)) (by with_unfolding_all rfl)
  refine ⟨.ref _, upd H3 _ (.tup xs.reverse), I4.laid (t' := s3.toks) (o := .tup xs.reverse) (fun b ob q => Heap.get?_push_of_some _ q) (Nat.le_refl _) ?_, rfl, q _ (I4.hok.fresh (Nat.le_refl _))⟩
  refine ⟨by rw [List.length_reverse]; exact hz, its.reverse, Vals.rev r, ?_⟩
  have := IsTup.new { s3 with heap := s3.heap.push { cls := .type "slice", data := .fields #[.none, .none, .int (-1) tt] } }.heap its.reverse.toArray
  simpa using this
end
end L2
end
section
set_option Elab.async false
set_option linter.all false
set_option maxRecDepth 100000
set_option maxHeartbeats 4000000
namespace Tx
open PySem PySem.Spec PyProof.Rows L2 Evl Wk
section
variable {w : World} {K : PySem.W.Frag} {mg : Str → Option Value} {base : Heap}

def sp_is_text (K : PySem.W.Frag) : Sp := fun vs H Q _ => ∃ v m, vs = [v, .int m] ∧ ((∃ z, v = .str z ∧ z.length ≤ sizeLine ∧ Q (.bl (decide ((z.length : Int) ≤ m))) H) ∨ (∃ t, TyX K H v (.type t) ∧ kitB t "str" = some false ∧ Q (.bl false) H))
theorem sc_is_text : FnScope ["value", "most"] ["value", "most"] (defScope s_is_text) := ⟨rfl, rfl, rfl, by decide +kernel, rfl, by decide +kernel, by decide +kernel⟩
theorem ok_is_text (Z : Zx K mg) : OkD prog w K mg base CX0 1 "is_text" ["value", "most"] (sp_is_text K) := by
  obtain ⟨fd, F0⟩ := Z.fun_ 1
  have F : Fun K "is_text" "is_text" s_is_text (He.ga K "is_text") fd := Wk.fun_of F0
  have n_isinstance := Z.free 67 (x := "isinstance")
  have n_len := Z.free 68 (x := "len")
  have n_str := Z.free 75 (x := "str")
  refine ⟨fd, ?_, F.binds (ps := ["value", "most"]) fun _ _ _ _ _ _ us hl => match us, hl with | [_, _], _ => rfl, Z.glo 1, F.kp⟩
  refine F.ok sc_is_text (fun vs H Q E h => ?_) (fun cdv A outer s H vs Q E hr h => ?_)
  · obtain ⟨v, m, rfl, h⟩ := h
    rfl
  · obtain ⟨v, m, rfl, h⟩ := h
    refine ⟨_, (pss_one (ps_ret (pe_and (pe_callB call_isi (by rfl) n_isinstance (by decide +kernel) (pa_cons (pv 0) (pa_cons (pe_bltn (v := .ty "str") (by rfl) n_str (by decide +kernel) rfl) pa_nil))) (pe_one (pe_cmpR op_le (pe_callB call_len_str (by rfl) n_len (by decide +kernel) (pa_cons (pv 0) pa_nil)) (pv 1) (nomark _)))))), ?_⟩
    rcases h with ⟨z, rfl, hz, q⟩ | ⟨t, ht, hb, q⟩
    · refine ⟨_, rfl, _, _, _, _, _, rfl, .ty _, .base (.str _), kit_ty (by decide +kernel), true, rfl, ?_⟩
      exact ⟨_, rfl, z, rfl, hz, _, rfl, _, _, rfl, rfl, q⟩
    · refine ⟨_, rfl, _, _, _, _, _, rfl, .ty _, ht, kit_ty hb, false, rfl, ?_⟩
      exact q
def sp_is_variable (K : PySem.W.Frag) : Sp := fun vs H Q _ => ∃ v, vs = [v] ∧ ((∃ i, v = .int i ∧ Q (.bl true) H) ∨ (∃ a xs, v = .ref a ∧ H a = some (.tup xs) ∧ Q (.bl false) H))
theorem sc_is_variable : FnScope ["sign"] ["sign"] (defScope s_is_variable) := ⟨rfl, rfl, rfl, by decide +kernel, rfl, by decide +kernel, by decide +kernel⟩
theorem ok_is_variable (Z : Zx K mg) : OkD prog w K mg base CX0 1 "is_variable" ["sign"] (sp_is_variable K) := by
  obtain ⟨fd, F0⟩ := Z.fun_ 3
  have F : Fun K "is_variable" "is_variable" s_is_variable (He.ga K "is_variable") fd := Wk.fun_of F0
  have n_int := Z.free 66 (x := "int")
  have n_isinstance := Z.free 67 (x := "isinstance")
  refine ⟨fd, ?_, F.binds (ps := ["sign"]) fun _ _ _ _ _ _ us hl => match us, hl with | [_], _ => rfl, Z.glo 3, F.kp⟩
  refine F.ok sc_is_variable (fun vs H Q E h => ?_) (fun cdv A outer s H vs Q E hr h => ?_)
  · obtain ⟨v, rfl, h⟩ := h
    rfl
  · obtain ⟨v, rfl, h⟩ := h
    refine ⟨_, (pss_one (ps_ret (pe_callB call_isi (by rfl) n_isinstance (by decide +kernel) (pa_cons (pv 0) (pa_cons (pe_bltn (v := .ty "int") (by rfl) n_int (by decide +kernel) rfl) pa_nil))))), ?_⟩
    rcases h with ⟨i, rfl, q⟩ | ⟨a, xs, rfl, ha, q⟩
    · exact ⟨_, rfl, _, _, _, _, _, rfl, .ty _, .base (.int _), kit_ty (by decide +kernel), q⟩
    · exact ⟨_, rfl, _, _, _, _, _, rfl, .ty _, .base (.tup ha), kit_ty (by decide +kernel), q⟩

end
end Tx
end
section
set_option Elab.async false
set_option linter.all false
set_option maxRecDepth 100000
set_option maxHeartbeats 4000000
namespace Tx
open PySem PySem.Spec PyProof.Rows L2 Evl Wk
section
variable {w : World} {K : PySem.W.Frag} {mg : Str → Option Value} {base : Heap}

def sp_word_at : Sp := fun vs H Q _ => ∃ (l : List Nat) (s : Nat), vs = [.str (tx l), .int (s : Int)] ∧ l.length ≤ 5000 ∧ s ≤ l.length ∧ ∀ H', Ex H H' → Q (.str (tx (wordOf (l.drop s)))) H'
theorem sc_word_at : FnScope ["text", "start", "end", "word", "is_good", "sign"] ["text", "start"] (defScope s_word_at) := ⟨rfl, rfl, rfl, by decide +kernel, rfl, by decide +kernel, by decide +kernel⟩
theorem ok_word_at (Z : Zx K mg) : OkD prog w K mg base CX0 1 "word_at" ["text", "start"] (sp_word_at) := by
  obtain ⟨fd, F0⟩ := Z.fun_ 7
  have F : Fun K "word_at" "word_at" s_word_at (He.ga K "word_at") fd := Wk.fun_of F0
  have c_DIGITS := Z.str 81 (x := "DIGITS")
  have c_GREAT := Z.str 80 (x := "GREAT")
  have c_MOST_NAME := Z.int 78 (x := "MOST_NAME")
  have c_SMALL := Z.str 79 (x := "SMALL")
  have n_any := Z.free 63 (x := "any")
  have n_len := Z.free 68 (x := "len")
  refine ⟨fd, ?_, F.binds (ps := ["text", "start"]) fun _ _ _ _ _ _ us hl => match us, hl with | [_, _], _ => rfl, Z.glo 7, F.kp⟩
  refine F.ok sc_word_at (fun vs H Q E h => ?_) (fun cdv A outer s H vs Q E hr h => ?_)
  · obtain ⟨l, s, rfl, hl, hs, k⟩ := h
    rfl
  · obtain ⟨l, s, rfl, hl, hs, k⟩ := h
    refine ⟨_, (pss_cons (ps_set (i := 2) sc_word_at.nd rfl (by first | exact Or.inl rfl | exact Or.inr rfl) (pv 1)) (pss_cons (ps_while PassesOwn.never (pw_and (pt_cmpR op_lt (pv 2) (pe_callB call_len_str (by rfl) n_len (by decide +kernel) (pa_cons (pv 0) pa_nil)) (nomark _)) (pw_and (pt_cmpR op_le (pe_op op_sub (pv 2) (pv 1)) (pe_gi c_MOST_NAME) (nomark _)) (pw_and1 (pt_cmpR op_in_sign (pe_ix ix_str (pv 0) (pv 2) (fun _ _ => rfl)) (pe_op op_add_str (pe_op op_add_str (pe_gs c_SMALL) (pe_gs c_GREAT)) (pe_gs c_DIGITS)) rfl)))).pt (pss_one (ps_aug (i := 2) sc_word_at.nd rfl (by first | exact Or.inl rfl | exact Or.inr rfl) pe_int ip_add))) (pss_cons (ps_set (i := 3) sc_word_at.nd rfl (by first | exact Or.inl rfl | exact Or.inr rfl) (pe_slice sl_str (pv 0) (po_some (pv 1)) (po_some (pv 2)))) (pss_cons (ps_set (i := 4) sc_word_at.nd rfl (by first | exact Or.inl rfl | exact Or.inr rfl) (pe_and (pe_cmpR op_ne (pv 3) pe_str (nomark _)) (pe_and (pe_cmpR op_le (pe_callB call_len_str (by rfl) n_len (by decide +kernel) (pa_cons (pv 3) pa_nil)) (pe_gi c_MOST_NAME) (nomark _)) (pe_one (pe_cmpR op_notIn_sign (pe_ix ix_str (pv 3) pe_int (fun _ _ => rfl)) (pe_gs c_DIGITS) rfl))))) (pss_one (ps_ret (pe_ifExp (pw_and (pt_val (pv 4)) (pw_and1 (pt_not (pt_val (pe_callB (cr_any rfl) (by rfl) n_any (by decide +kernel) (pa_cons (pe_lc (own := [("sign", 5)]) rfl sc_word_at.nd (pi_str (pe_slice sl_str (pv 3) (po_some pe_int) po_none)) (blkOk_by (own := [("sign", 5)]) (N := ["text", "start", "end", "word", "is_good", "sign"]) (sc := defScope s_word_at) (by decide +kernel)) (fun _ _ _ _ _ => pg_name (i := 5) sc_word_at.nd rfl (by first | exact Or.inl rfl | exact Or.inr rfl)) (fun _ _ _ _ _ => pts_nil) (fun _ _ _ _ _ => (pe_cmpR op_in_sign (pv 5) (pe_gs c_GREAT) rfl))) pa_nil)))))).pt (pv 3) pe_str))))))), ?_⟩
    have hz : (tx l).length ≤ sizeLine := tx_sz hl
    refine q_asg (ev_var rfl) (fun H1 e1 => ?_)
    refine q_while (fun m σ H' => ∃ i : Nat, m = alen 9 (l.drop s) - i ∧ σ = [some (.str (tx l)), some (.int (s : Int)), some (.int ((s + i : Nat) : Int)), none, none, none] ∧ i ≤ alen 9 (l.drop s) ∧ Ex H1 H') (alen 9 (l.drop s)) ⟨0, rfl, rfl, Nat.zero_le _, Ex.refl _⟩ ?_
    rintro m σ H' ⟨i, rfl, rfl, hi, e2⟩
    have hd : (l.drop s).length = l.length - s := List.length_drop
    refine ⟨decide (i < alen 9 (l.drop s)), ?_, fun hb H2 e3 => ?_, fun hb H2 e3 => ?_⟩
    · refine et_is (et_and (et_test (ev_op (ev_var rfl) (ev_lenS (ev_var rfl) hz) rv_I0)) (fun hA => et_and (et_test (ev_op (ev_op (ev_var rfl) (ev_var rfl) rv_I0) ev_c rv_I0)) (fun _ => et_test (ev_al (ev_ixS (c := (l.drop s).getD i 0) (ev_var rfl) (ev_var rfl) ?_ (by omega)))))) ?_
      · have h1 : s + i < l.length := by
          have := of_decide_eq_true hA
          rw [tx_len] at this
          omega
        have h2 : i < (l.drop s).length := by omega
        rw [List.getD_eq_getElem?_getD, List.getElem?_eq_getElem h2, List.getElem_drop]
        exact List.getElem?_eq_getElem h1
      · rw [← alen_next hi, tx_len]
        have a1 : decide (((s + i : Nat) : Int) < ((l.length : Nat) : Int)) = decide (i < (l.drop s).length) := by
          rw [decide_eq_decide]; omega
        have a2 : decide (((s + i : Nat) : Int) - (s : Int) ≤ 8) = decide (i ≤ 8) := by
          rw [decide_eq_decide]; omega
        rw [a1, a2]
    · have hlt := of_decide_eq_true hb
      refine ⟨fun σ' H' => σ' = [some (.str (tx l)), some (.int (s : Int)), some (.int ((s + (i + 1) : Nat) : Int)), none, none, none] ∧ Ex H1 H', ?_, ?_⟩
      · rintro σ2 H3 ⟨rfl, e4⟩
        exact ⟨_, by omega, i + 1, rfl, rfl, by omega, e4⟩
      · exact s_aug rfl ev_c fun H4 e4 => ⟨rfl, (e2.trans e3).trans e4⟩
    · have hi2 : i = alen 9 (l.drop s) := by
        have := of_decide_eq_false hb
        omega
      subst hi2
      have hw1 := alen_le 9 (l.drop s)
      have hw2 : (wd (l.drop s)).length ≤ 9 := by unfold wd; rw [List.length_take]; omega
      have hcut : cutS (tx l) (some (s : Int)) (some ((s + alen 9 (l.drop s) : Nat) : Int)) = tx (wd (l.drop s)) := by
        rw [cut_tx l (by omega) (by omega)]
        unfold wd
        rw [show s + alen 9 (l.drop s) - s = alen 9 (l.drop s) by omega]
      refine q_asg (v := .str (tx (wd (l.drop s)))) (ev_is (ev_slS (ev_var rfl) (eo_some (ev_var rfl)) (eo_some (ev_var rfl)) hz) (congrArg V.str hcut)) (fun H3 e4 => ?_)
      generalize hwd : wd (l.drop s) = wd0 at *
      have hz2 : (tx wd0).length ≤ sizeLine := tx_sz (by omega : wd0.length ≤ 9)
      refine q_asg (v := .bl (wd0 != [] && (decide (wd0.length ≤ 8) && !decide (wd0.headD 0 ∈ digs)))) (ev_andV (ev_is (ev_op (ev_var rfl) ev_c (rv_ne (by rfl))) ?_) (fun h1 => ev_andV (ev_is (ev_op (ev_lenS (ev_var rfl) hz2) ev_c rv_I0) ?_) (fun _ => ev_is (ev_op (ev_ixS (i := 0) (c := wd0.headD 0) (ev_var rfl) ev_c ?_ (by omega)) ev_c rv_niS) ?_))) (fun H4 e5 => ?_)
      · rw [tx_nil]
        cases wd0 with
        | nil => rfl
        | cons c r =>
          have : ¬ (V.str (tx (c :: r)) = V.str (tx [])) := fun h => by
            have := tx_inj (V.str.inj h)
            cases this
          rw [decide_eq_false this]
          rfl
      · rw [tx_len]
        congr 1
        rw [decide_eq_decide]
        omega
      · cases wd0 with
        | nil => exact absurd h1 (by decide)
        | cons c r => rfl
      · rw [digs_eq]
      · cases hgood : wd0 != [] && (decide (wd0.length ≤ 8) && !decide (wd0.headD 0 ∈ digs)) with
        | false =>
          refine s_ret (v := .str (tx (wordOf (l.drop s)))) (ev_if (b := false) (et_is (et_and (a := false) (b := false) (et_B (ev_var rfl)) (fun h => absurd h (by decide))) rfl) (fun h => absurd h (by decide)) (fun _ => ev_is ev_c ?_)) (fun H5 e6 => k H5 (e1.trans (e2.trans (e3.trans (e4.trans (e5.trans e6))))))
          rw [wordOf_eq, hwd, goodW_eq, hgood, tx_nil]
          rfl
        | true =>
          refine s_ret (v := .str (tx (wordOf (l.drop s)))) (ev_if (b := !(wd0.drop 1).any fun d => decide (d ∈ great)) (et_is (et_and (a := true) (et_B (ev_var rfl)) (fun _ => et_not (et_B (ev_anyc (p := fun d => decide (d ∈ great)) (ei_S (l := wd0.drop 1) (ev_is (ev_slS (ev_var rfl) (eo_some ev_c) eo_none hz2) (congrArg V.str (cut_from wd0 1)))) (by rw [List.length_drop]; omega) (fun _ => rfl) (fun d hd H6 e7 => ev_is (ev_op (ev_var rfl) ev_c rv_inS) (by rw [great_eq])))))) (Bool.true_and _)) (fun h => ev_is (ev_var rfl) ?_) (fun h => ev_is ev_c ?_)) (fun H5 e6 => k H5 (e1.trans (e2.trans (e3.trans (e4.trans (e5.trans e6))))))
          · rw [wordOf_eq, hwd, goodW_eq, hgood, h]
            rfl
          · rw [wordOf_eq, hwd, goodW_eq, hgood, h, tx_nil]
            rfl

end
end Tx
end
section
set_option Elab.async false
set_option linter.all false
set_option maxRecDepth 100000
set_option maxHeartbeats 4000000
namespace Tx
open PySem PySem.Spec PyProof.Rows L2 Evl Wk
section
variable {w : World} {K : PySem.W.Frag} {mg : Str → Option Value} {base : Heap}

def sp_Reading_init (K : PySem.W.Frag) : Sp := fun vs H Q _ => ∃ (B : Hp) (x dx : Addr) (l : List Nat) (nm : Addr), vs = [.ref x, .str (tx l), .ref nm] ∧ B x = none ∧ Ex B H ∧ H x = some (.ins (He.ga K "Reading") dx []) ∧
  ∀ H' a b c, Ex B H' → Own B ⟨x, dx, a, b, c, nm⟩ → Rdg K l ⟨x, dx, a, b, c, nm⟩ ⟨0, [], [], []⟩ H' → Q .non H'
def sp_Reading_is_at (K : PySem.W.Frag) : Sp := fun vs H Q _ => ∃ (l : List Nat) (R : RA) (s : RS) (c : Nat), vs = [.ref R.x, .str (tx [c])] ∧ Rdg K l R s H ∧ l.length ≤ 5000 ∧ ∀ H', Ex H H' → Q (.bl (decide (l[s.pl]? = some c))) H'
def sp_Reading_put_word (K : PySem.W.Frag) : Sp := fun vs H Q _ => ∃ (B : Hp) (l : List Nat) (R : RA) (s : RS), vs = [.ref R.x] ∧ Own B R ∧ Rdg K l R s H ∧ Ex B H ∧ l.length ≤ 5000 ∧ s.pl ≤ l.length ∧ s.sg.length ≤ 5000 ∧ NoG l ∧
  (wordOf (l.drop s.pl) = [] → ∀ H', Ex B H' → Tu H H' → Rdg K l R s H' → Q (.bl false) H') ∧ (wordOf (l.drop s.pl) ≠ [] → ∀ H', Ex B H' → Tu H H' → Rdg K l R (putW l s) H' → Q (.bl true) H')
def sp_Reading_open_name (K : PySem.W.Frag) : Sp := fun vs H Q _ => ∃ (B : Hp) (l : List Nat) (R : RA) (s : RS), vs = [.ref R.x] ∧ Own B R ∧ Rdg K l R s H ∧ Ex B H ∧ 0 < s.sg.length ∧ s.sg.length ≤ 5000 ∧ s.sp.length ≤ 5000 ∧ s.ct.length ≤ 5000 ∧
  ∀ H', Ex B H' → Tu H H' → Rdg K l R (openN s) H' → Q .non H'
def sp_Reading_close_name (K : PySem.W.Frag) : Sp := fun vs H Q _ => ∃ (B : Hp) (l : List Nat) (R : RA) (s : RS), vs = [.ref R.x] ∧ Own B R ∧ Rdg K l R s H ∧ Ex B H ∧ s.sg.length ≤ 5000 ∧ s.sp ≠ [] ∧ s.ct ≠ [] ∧ s.sp.getLastD 0 < s.sg.length ∧
  ∀ H', Ex B H' → Tu H H' → Rdg K l R (closeN s) H' → Q .non H'
theorem sc_Reading___init__ : FnScope ["self", "text", "names"] ["self", "text", "names"] (defScope s_Reading___init__) := ⟨rfl, rfl, rfl, by decide +kernel, rfl, by decide +kernel, by decide +kernel⟩
theorem ok_Reading___init__ (Z : Zx K mg) : OkC prog w K mg base 1 "Reading" ["self", "text", "names"] (sp_Reading_init K) := by
  obtain ⟨fd, F0⟩ := Z.fun_ 8
  have F : Fun K "__init__" "Reading.__init__" s_Reading___init__ (He.ma K (He.ga K "Reading") "__init__") fd := Wk.fun_of F0
  have na_Reading_text := Z.noat 95 (x := "Reading") (f := "text")
  have na_Reading_numbers := Z.noat 96 (x := "Reading") (f := "numbers")
  have na_Reading_place := Z.noat 97 (x := "Reading") (f := "place")
  have na_Reading_signs := Z.noat 98 (x := "Reading") (f := "signs")
  have na_Reading_spots := Z.noat 99 (x := "Reading") (f := "spots")
  have na_Reading_counts := Z.noat 100 (x := "Reading") (f := "counts")
  have cl_Reading := Z.cls 92 (x := "Reading")
  refine ⟨fd, ?_, F.binds (ps := ["self", "text", "names"]) fun _ _ _ _ _ _ us hl => match us, hl with | [_, _, _], _ => rfl, Z.glo 55, Z.mkr 93⟩
  refine F.ok sc_Reading___init__ (fun vs H Q E h => ?_) (fun cdv A outer s H vs Q E hr h => ?_)
  · obtain ⟨B, x, dx, l, nm, rfl, hB, e, hx, k⟩ := h
    rfl
  · obtain ⟨B, x, dx, l, nm, rfl, hB, e, hx, k⟩ := h
    refine ⟨_, (pss_cons (ps_fld (pv 0) (pv 1) rfl) (pss_cons (ps_fld (pv 0) (pv 2) rfl) (pss_cons (ps_fld (pv 0) pe_int rfl) (pss_cons (ps_fld (pv 0) (pe_lst pa_nil) rfl) (pss_cons (ps_fld (pv 0) (pe_lst pa_nil) rfl) (pss_one (ps_fld (pv 0) (pe_lst pa_nil) rfl))))))), ?_⟩
    have hlen : ∀ fs : List (Str × V), fs.length ≤ 6 → fs.length < 1000 := fun _ h => by omega
    refine q_fld (v := .str (tx l)) (ev_var rfl) (ev_var rfl) hx cl_Reading na_Reading_text (few rfl) (fun H1 e1 => ?_)
    refine q_fld (v := .ref nm) (ev_var rfl) (ev_var rfl) upd_same cl_Reading na_Reading_numbers (few rfl) (fun H2 e2 => ?_)
    refine q_fld (v := .int 0) ev_c (ev_var rfl) upd_same cl_Reading na_Reading_place (few rfl) (fun H3 e3 => ?_)
    have E1 := Ex.mut (e.trans e1) hB (o := .ins (He.ga K "Reading") dx (putF "text" (.str (tx l)) []))
    have E2 := Ex.mut (E1.trans e2) hB (o := .ins (He.ga K "Reading") dx (putF "numbers" (.ref nm) (putF "text" (.str (tx l)) [])))
    have E3 := Ex.mut (E2.trans e3) hB (o := .ins (He.ga K "Reading") dx (putF "place" (.int 0) (putF "numbers" (.ref nm) (putF "text" (.str (tx l)) []))))
    refine q_fldL (xs := []) (el_lst ea_nil (by decide)) (ev_var rfl) upd_same cl_Reading na_Reading_signs (few rfl) (fun a H4 ha e4 ha1 => ?_)
    have x4 := e4 _ _ upd_same
    have E4 := Ex.mut (E3.trans e4) hB (o := .ins (He.ga K "Reading") dx (putF "signs" (.ref a) (putF "place" (.int 0) (putF "numbers" (.ref nm) (putF "text" (.str (tx l)) [])))))
    refine q_fldL (xs := []) (el_lst ea_nil (by decide)) (ev_var rfl) upd_same cl_Reading na_Reading_spots (few rfl) (fun b H5 hb e5 hb1 => ?_)
    have x5 := e5 _ _ upd_same
    have E5 := Ex.mut (E4.trans e5) hB (o := .ins (He.ga K "Reading") dx (putF "spots" (.ref b) (putF "signs" (.ref a) (putF "place" (.int 0) (putF "numbers" (.ref nm) (putF "text" (.str (tx l)) []))))))
    have a4 : upd H4 x (.ins (He.ga K "Reading") dx (putF "signs" (.ref a) (putF "place" (.int 0) (putF "numbers" (.ref nm) (putF "text" (.str (tx l)) []))))) a = some (.lst []) := by
      rw [upd_ne (nq_of ha1 x4 (by intro h; cases h))]; exact ha1
    have a5 := e5 _ _ a4
    refine s_fldL (xs := []) (el_lst ea_nil (by decide)) (ev_var rfl) upd_same cl_Reading na_Reading_counts (few rfl) (fun c H6 hc e6 hc1 => ?_)
    have x6 := e6 _ _ upd_same
    have b5 : upd H5 x (.ins (He.ga K "Reading") dx (putF "spots" (.ref b) (putF "signs" (.ref a) (putF "place" (.int 0) (putF "numbers" (.ref nm) (putF "text" (.str (tx l)) [])))))) b = some (.lst []) := by
      rw [upd_ne (nq_of hb1 x5 (by intro h; cases h))]; exact hb1
    have a51 : upd H5 x (.ins (He.ga K "Reading") dx (putF "spots" (.ref b) (putF "signs" (.ref a) (putF "place" (.int 0) (putF "numbers" (.ref nm) (putF "text" (.str (tx l)) [])))))) a = some (.lst []) := by
      rw [upd_ne (nq_of a5 x5 (by intro h; cases h))]; exact a5
    have hab : a ≠ b := ne_new a4 hb
    have hac : a ≠ c := ne_new a51 hc
    have hbc : b ≠ c := ne_new b5 hc
    refine k _ a b c (Ex.mut (E5.trans e6) hB) ⟨hB, fresh_back E3 ha, fresh_back E4 hb, fresh_back E5 hc, hab, hac, hbc⟩ ⟨upd_same, ⟨[], ?_, SgL.nil _⟩, ?_, ?_⟩
    · show upd H6 x _ a = _
      have := e6 _ _ a51
      rw [upd_ne (nq_of this x6 (by intro h; cases h))]; exact this
    · show upd H6 x _ b = _
      have := e6 _ _ b5
      rw [upd_ne (nq_of this x6 (by intro h; cases h))]; exact this
    · show upd H6 x _ c = _
      rw [upd_ne (nq_of hc1 x6 (by intro h; cases h))]; exact hc1
theorem sc_Reading_is_at : FnScope ["self", "sign"] ["self", "sign"] (defScope s_Reading_is_at) := ⟨rfl, rfl, rfl, by decide +kernel, rfl, by decide +kernel, by decide +kernel⟩
theorem ok_Reading_is_at (Z : Zx K mg) : OkM prog w K mg base 1 "Reading" "is_at" ["self", "sign"] (sp_Reading_is_at K) := by
  obtain ⟨fd, F0⟩ := Z.fun_ 9
  have F : Fun K "is_at" "Reading.is_at" s_Reading_is_at (He.ma K (He.ga K "Reading") "is_at") fd := Wk.fun_of F0
  have n_len := Z.free 68 (x := "len")
  have na_Reading_text := Z.noat 95 (x := "Reading") (f := "text")
  have na_Reading_place := Z.noat 97 (x := "Reading") (f := "place")
  have cl_Reading := Z.cls 92 (x := "Reading")
  refine ⟨fd, ?_, F.binds (ps := ["self", "sign"]) fun _ _ _ _ _ _ us hl => match us, hl with | [_, _], _ => rfl, Z.cls 92, Z.meth 101⟩
  refine F.ok sc_Reading_is_at (fun vs H Q E h => ?_) (fun cdv A outer s H vs Q E hr h => ?_)
  · obtain ⟨l, R, s, c, rfl, r, hl, k⟩ := h
    rfl
  · obtain ⟨l, R, s, c, rfl, r, hl, k⟩ := h
    refine ⟨_, (pss_one (ps_ret (pe_and (pe_cmpR op_lt (pe_fld (pv 0) (by rfl)) (pe_callB call_len_str (by rfl) n_len (by decide +kernel) (pa_cons (pe_fld (pv 0) (by rfl)) pa_nil)) (nomark _)) (pe_one (pe_cmpR op_eq (pe_ix ix_str (pe_fld (pv 0) (by rfl)) (pe_fld (pv 0) (by rfl)) (fun _ _ => rfl)) (pv 1) (nomark _)))))), ?_⟩
    have ft := fun (σ : L2.St) (ta : TE) (h : Ev ta σ H (.ref R.x)) => ev_fld (f := "text") h r.ins cl_Reading na_Reading_text (v := .str (tx l)) rfl
    have fp := fun (σ : L2.St) (ta : TE) (h : Ev ta σ H (.ref R.x)) => ev_fld (f := "place") h r.ins cl_Reading na_Reading_place (v := .int (s.pl : Int)) rfl
    refine s_ret (v := .bl (decide (l[s.pl]? = some c))) (ev_is (ev_andV (a := decide (s.pl < l.length)) (ev_is (ev_op (fp _ _ (ev_var rfl)) (ev_lenS (ft _ _ (ev_var rfl)) (tx_sz hl)) rv_I0) ?_) (fun h => ev_is (w := .bl (decide (l.getD s.pl 0 = c))) (ev_op (ev_ixS (c := l.getD s.pl 0) (ft _ _ (ev_var rfl)) (fp _ _ (ev_var rfl)) ?_ (by omega)) (ev_var rfl) (rv_eq (by rfl))) ?_)) ?_) k
    · rw [tx_len]
      congr 1
      rw [decide_eq_decide]
      omega
    · have := of_decide_eq_true h
      rw [List.getD_eq_getElem?_getD, List.getElem?_eq_getElem this]
      rfl
    · congr 1
      rw [decide_eq_decide]
      constructor
      · intro h
        have := tx_inj (V.str.inj h)
        exact (List.cons.inj this).1
      · intro h
        rw [h]
    · congr 1
      by_cases h : s.pl < l.length
      · rw [decide_eq_true h, Bool.true_and, List.getD_eq_getElem?_getD, List.getElem?_eq_getElem h, decide_eq_decide]
        constructor
        · intro h; exact congrArg some h
        · intro h; exact Option.some.inj h
      · rw [decide_eq_false h, Bool.false_and]
        symm
        rw [decide_eq_false_iff_not]
        intro h2
        rw [List.getElem?_eq_none (by omega)] at h2
        cases h2
theorem sc_Reading_put_word : FnScope ["self", "word"] ["self"] (defScope s_Reading_put_word) := ⟨rfl, rfl, rfl, by decide +kernel, rfl, by decide +kernel, by decide +kernel⟩
theorem ok_Reading_put_word (Z : Zx K mg) : OkM prog w K mg base 2 "Reading" "put_word" ["self"] (sp_Reading_put_word K) := by
  obtain ⟨fd, F0⟩ := Z.fun_ 10
  have F : Fun K "put_word" "Reading.put_word" s_Reading_put_word (He.ma K (He.ga K "Reading") "put_word") fd := Wk.fun_of F0
  have c_GREAT := Z.str 80 (x := "GREAT")
  obtain ⟨_, g_word_at, b_word_at, m_word_at, k_word_at⟩ := ok_word_at (w := w) (base := base) Z
  have n_len := Z.free 68 (x := "len")
  have na_Reading_text := Z.noat 95 (x := "Reading") (f := "text")
  have na_Reading_numbers := Z.noat 96 (x := "Reading") (f := "numbers")
  have na_Reading_place := Z.noat 97 (x := "Reading") (f := "place")
  have na_Reading_signs := Z.noat 98 (x := "Reading") (f := "signs")
  have cl_Reading := Z.cls 92 (x := "Reading")
  refine ⟨fd, ?_, F.binds (ps := ["self"]) fun _ _ _ _ _ _ us hl => match us, hl with | [_], _ => rfl, Z.cls 92, Z.meth 102⟩
  refine F.ok sc_Reading_put_word (fun vs H Q E h => ?_) (fun cdv A outer s H vs Q E hr h => ?_)
  · obtain ⟨B, l, R, s, rfl, o, r, e, hl, hpl, hsg, hG, k0, k1⟩ := h
    rfl
  · obtain ⟨B, l, R, s, rfl, o, r, e, hl, hpl, hsg, hG, k0, k1⟩ := h
    refine ⟨_, (pss_cons (ps_set (i := 1) sc_Reading_put_word.nd rfl (by first | exact Or.inl rfl | exact Or.inr rfl) (pe_call g_word_at (hr.mono (by decide)) (by rfl) m_word_at k_word_at b_word_at .nil pass0 (pa_cons (pe_fld (pv 0) (by rfl)) (pa_cons (pe_fld (pv 0) (by rfl)) pa_nil)))) (pss_cons (ps_if (pt_cmpR op_eq (pv 1) pe_str (nomark _)) (pss_one (ps_ret pe_bl)) pss_nil) (pss_cons (ps_fldaug (pv 0) (pe_callB call_len_str (by rfl) n_len (by decide +kernel) (pa_cons (pv 1) pa_nil)) in_add) (pss_cons (ps_if (pt_cmpR op_in_sign (pe_ix ix_str (pv 1) pe_int (fun _ _ => rfl)) (pe_gs c_GREAT) rfl) (pss_one ps_never) (pss_one (ps_expr (pe_bm PySem.F.plainAttrs_list PySem.F.slot_list_append PySem.F.type_list_append mt_append (pe_fld (pv 0) (by rfl)) (pa_cons (pe_tup (pa_cons (pv 1) (pa_cons pe_int pa_nil))) pa_nil))))) (pss_one (ps_ret pe_bl)))))), ?_⟩
    have ft := fun (σ : L2.St) (ta : TE) (H0 : Hp) (s : RS) (r : Rdg K l R s H0) (h : Ev ta σ H0 (.ref R.x)) => ev_fld (f := "text") h r.ins cl_Reading na_Reading_text (v := .str (tx l)) rfl
    have fp := fun (σ : L2.St) (ta : TE) (H0 : Hp) (s : RS) (r : Rdg K l R s H0) (h : Ev ta σ H0 (.ref R.x)) => ev_fld (f := "place") h r.ins cl_Reading na_Reading_place (v := .int (s.pl : Int)) rfl
    have fs := fun (σ : L2.St) (ta : TE) (H0 : Hp) (s : RS) (r : Rdg K l R s H0) (h : Ev ta σ H0 (.ref R.x)) => ev_fld (f := "signs") h r.ins cl_Reading na_Reading_signs (v := .ref R.a) rfl
    have hw1 := alen_le 9 (l.drop s.pl)
    generalize hw : wordOf (l.drop s.pl) = w0 at *
    have hwl : w0.length ≤ (l.drop s.pl).length ∧ w0.length ≤ 9 := by
      rw [← hw, wordOf_eq]
      split
      · unfold wd
        rw [List.length_take]
        omega
      · simp
    have hd : (l.drop s.pl).length = l.length - s.pl := List.length_drop
    refine q_asg (v := .str (tx w0)) (ev_call (ea_cons (ft _ _ _ s r (ev_var rfl)) (ea_cons (fp _ _ _ s r (ev_var rfl)) ea_nil)) (fun H1 e1 Q1 q1 E1 => ⟨l, s.pl, rfl, hl, hpl, fun H' e' => by rw [hw]; exact q1 H' e'⟩)) (fun H1 e1 => ?_)
    refine q_when (b := decide (w0 = [])) (et_is (et_test (ev_op (ev_var rfl) ev_c (rv_eq (by rfl)))) ?_) (fun hb H2 e2 => ?_) (fun hb H2 e2 => ?_)
    · rw [decide_eq_decide, tx_nil]
      constructor
      · intro h; exact tx_inj (V.str.inj h)
      · intro h; rw [h]
    · exact s_ret ev_c fun H3 e3 => k0 (of_decide_eq_true hb) H3 (e.trans ((e1.trans e2).trans e3)) (.of ((e1.trans e2).trans e3)) (r.mono ((e1.trans e2).trans e3))
    · have hne : w0 ≠ [] := of_decide_eq_false hb
      have r2 := r.mono (e1.trans e2)
      refine q_faug (a := (s.pl : Int)) (ev_var rfl) (ev_lenS (ev_var rfl) (tx_sz (by omega : w0.length ≤ 9))) r2.ins cl_Reading na_Reading_place rfl (few rfl) (fun H3 e3 => ?_)
      have r3 := (r2.mono e3).place (s.pl + w0.length)
      have hf : putF "place" (.int ((s.pl : Int) + ((tx w0).length : Int))) (fsR l R s.pl) = fsR l R (s.pl + w0.length) := by
        rw [tx_len]
        show fsR' l R _ = fsR' l R _
        rw [Int.natCast_add]
      rw [hf]
      have B3 : Ex B (upd H3 R.x (.ins (He.ga K "Reading") R.dx (fsR l R (s.pl + w0.length)))) := Ex.mut (e.trans ((e1.trans e2).trans e3)) o.1
      have T3 : Tu H (upd H3 R.x (.ins (He.ga K "Reading") R.dx (fsR l R (s.pl + w0.length)))) := (Tu.of ((e1.trans e2).trans e3)).trans (.ins (e3 _ _ r2.ins))
      refine q_if (b := false) (et_is (et_test (ev_op (ev_ixS (i := 0) (c := w0.headD 0) (ev_var rfl) ev_c ?_ (by omega)) ev_c rv_inS)) ?_) (fun h => absurd h (by decide)) (fun _ H4 e4 => ?_)
      · cases w0 with
        | nil => exact absurd rfl hne
        | cons c t => rfl
      · rw [great_eq]
        refine decide_eq_false (hG _ ?_)
        refine List.mem_of_mem_drop (i := s.pl) (wordOf_sub _ _ ?_)
        rw [hw]
        cases w0 with
        | nil => exact absurd rfl hne
        | cons c t => exact List.mem_cons_self
      · have r4 := r3.mono e4
        obtain ⟨vs, v1, v2⟩ := r4.sgs
        refine s_appU (xs := vs) v1 (fs _ _ _ _ r4 (ev_var rfl)) (eu_tup (ea_cons (ev_var rfl) (ea_cons ev_c ea_nil)) (few5 rfl)) (by have := v2.1; dsimp only at this; omega) (fun p H5 hp e5 h5 => ?_)
        have v5 := e5 _ _ v1
        dsimp only
        refine s_ret ev_c (fun H6 e6 => ?_)
        refine k1 hne H6 ?_ ?_ ?_
        · exact (Ex.mut ((B3.trans e4).trans e5) o.2.1).trans e6
        · exact (T3.trans ((Tu.of (e4.trans e5)).trans (.lst v5))).trans (.of e6)
        · have g := (r4.mono e5).signs o (vs := vs ++ [.ref p]) (zs := s.sg ++ [(w0, 0)]) ((v2.tu (.of e5)).app ⟨p, rfl, h5⟩)
          have g2 := g.mono e6
          unfold putW
          rw [hw]
          exact g2
theorem sc_Reading_open_name : FnScope ["self"] ["self"] (defScope s_Reading_open_name) := ⟨rfl, rfl, rfl, by decide +kernel, rfl, by decide +kernel, by decide +kernel⟩
theorem ok_Reading_open_name (Z : Zx K mg) : OkM prog w K mg base 1 "Reading" "open_name" ["self"] (sp_Reading_open_name K) := by
  obtain ⟨fd, F0⟩ := Z.fun_ 11
  have F : Fun K "open_name" "Reading.open_name" s_Reading_open_name (He.ma K (He.ga K "Reading") "open_name") fd := Wk.fun_of F0
  have n_len := Z.free 68 (x := "len")
  have na_Reading_place := Z.noat 97 (x := "Reading") (f := "place")
  have na_Reading_signs := Z.noat 98 (x := "Reading") (f := "signs")
  have na_Reading_spots := Z.noat 99 (x := "Reading") (f := "spots")
  have na_Reading_counts := Z.noat 100 (x := "Reading") (f := "counts")
  have cl_Reading := Z.cls 92 (x := "Reading")
  refine ⟨fd, ?_, F.binds (ps := ["self"]) fun _ _ _ _ _ _ us hl => match us, hl with | [_], _ => rfl, Z.cls 92, Z.meth 103⟩
  refine F.ok sc_Reading_open_name (fun vs H Q E h => ?_) (fun cdv A outer s H vs Q E hr h => ?_)
  · obtain ⟨B, l, R, s, rfl, o, r, e, h0, h1, h2, h3, k⟩ := h
    rfl
  · obtain ⟨B, l, R, s, rfl, o, r, e, h0, h1, h2, h3, k⟩ := h
    refine ⟨_, (pss_cons (ps_fldaug (pv 0) pe_int in_add) (pss_cons (ps_expr (pe_bm PySem.F.plainAttrs_list PySem.F.slot_list_append PySem.F.type_list_append mt_append (pe_fld (pv 0) (by rfl)) (pa_cons (pe_op op_sub (pe_callB call_len_seq (by rfl) n_len (by decide +kernel) (pa_cons (pe_fld (pv 0) (by rfl)) pa_nil)) pe_int) pa_nil))) (pss_one (ps_expr (pe_bm PySem.F.plainAttrs_list PySem.F.slot_list_append PySem.F.type_list_append mt_append (pe_fld (pv 0) (by rfl)) (pa_cons pe_int pa_nil)))))), ?_⟩
    obtain ⟨vs, v1, v2⟩ := r.sgs
    refine q_faug (a := (s.pl : Int)) (ev_var rfl) ev_c r.ins cl_Reading na_Reading_place rfl (few rfl) (fun H1 e1 => ?_)
    have r1 := (r.mono e1).place (s.pl + 1)
    have hf : putF "place" (.int ((s.pl : Int) + 1)) (fsR l R s.pl) = fsR l R (s.pl + 1) := rfl
    rw [hf]
    have B1 : Ex B (upd H1 R.x (.ins (He.ga K "Reading") R.dx (fsR l R (s.pl + 1)))) := Ex.mut (e.trans e1) o.1
    have T1 : Tu H (upd H1 R.x (.ins (He.ga K "Reading") R.dx (fsR l R (s.pl + 1)))) := (Tu.of e1).trans (.ins (e1 _ _ r.ins))
    obtain ⟨us, u1, u2⟩ := r1.sgs
    refine q_app (xs := nis s.sp) (v := .int ((s.sg.length - 1 : Nat) : Int)) r1.sps (ev_fld (f := "spots") (ev_var rfl) r1.ins cl_Reading na_Reading_spots rfl) (ev_is (ev_op (ev_len (ev_fld (f := "signs") (ev_var rfl) r1.ins cl_Reading na_Reading_signs rfl) (sq_of u1)) ev_c rv_I0) ?_) (by rw [nis_len]; omega) (fun H2 e2 => ?_)
    · have := u2.1
      dsimp only at this
      congr 1
      omega
    have r2 := (r1.mono e2).spots o (s.sp ++ [s.sg.length - 1])
    have hs : nis s.sp ++ [V.int ((s.sg.length - 1 : Nat) : Int)] = nis (s.sp ++ [s.sg.length - 1]) := by unfold nis; rw [List.map_append]; rfl
    rw [hs]
    refine s_app (xs := nis s.ct) (v := .int 1) r2.cts (ev_fld (f := "counts") (ev_var rfl) r2.ins cl_Reading na_Reading_counts rfl) ev_c (by rw [nis_len]; omega) (fun H3 e3 => ?_)
    have r3 := (r2.mono e3).counts o (s.ct ++ [1])
    have hc : nis s.ct ++ [V.int 1] = nis (s.ct ++ [1]) := by unfold nis; rw [List.map_append]; rfl
    rw [hc]
    refine k _ (Ex.mut ((Ex.mut (B1.trans e2) o.2.2.1).trans e3) o.2.2.2.1) ?_ r3
    exact ((T1.trans (.of e2)).trans (.lst (e2 _ _ r1.sps))).trans ((Tu.of e3).trans (.lst (e3 _ _ r2.cts)))
theorem sc_Reading_close_name : FnScope ["self", "spot"] ["self"] (defScope s_Reading_close_name) := ⟨rfl, rfl, rfl, by decide +kernel, rfl, by decide +kernel, by decide +kernel⟩
theorem ok_Reading_close_name (Z : Zx K mg) : OkM prog w K mg base 1 "Reading" "close_name" ["self"] (sp_Reading_close_name K) := by
  obtain ⟨fd, F0⟩ := Z.fun_ 12
  have F : Fun K "close_name" "Reading.close_name" s_Reading_close_name (He.ma K (He.ga K "Reading") "close_name") fd := Wk.fun_of F0
  have na_Reading_place := Z.noat 97 (x := "Reading") (f := "place")
  have na_Reading_signs := Z.noat 98 (x := "Reading") (f := "signs")
  have na_Reading_spots := Z.noat 99 (x := "Reading") (f := "spots")
  have na_Reading_counts := Z.noat 100 (x := "Reading") (f := "counts")
  have cl_Reading := Z.cls 92 (x := "Reading")
  refine ⟨fd, ?_, F.binds (ps := ["self"]) fun _ _ _ _ _ _ us hl => match us, hl with | [_], _ => rfl, Z.cls 92, Z.meth 104⟩
  refine F.ok sc_Reading_close_name (fun vs H Q E h => ?_) (fun cdv A outer s H vs Q E hr h => ?_)
  · obtain ⟨B, l, R, s, rfl, o, r, e, h1, h2, h3, h4, k⟩ := h
    rfl
  · obtain ⟨B, l, R, s, rfl, o, r, e, h1, h2, h3, h4, k⟩ := h
    refine ⟨_, (pss_cons (ps_fldaug (pv 0) pe_int in_add) (pss_cons (ps_set (i := 1) sc_Reading_close_name.nd rfl (by first | exact Or.inl rfl | exact Or.inr rfl) (pe_bm0 PySem.F.plainAttrs_list PySem.F.slot_list_pop PySem.F.type_list_pop mt_pop (pe_fld (pv 0) (by rfl)))) (pss_one (ps_asg (pe_tup (pa_cons (pe_ix ix_tup (pe_ix ix_list (pe_fld (pv 0) (by rfl)) (pv 1) (fun _ _ => rfl)) pe_int (fun _ _ => rfl)) (pa_cons (pe_bm0 PySem.F.plainAttrs_list PySem.F.slot_list_pop PySem.F.type_list_pop mt_pop (pe_fld (pv 0) (by rfl))) pa_nil))) (pg_sub (pe_fld (pv 0) (by rfl)) (pv 1) set_list))))), ?_⟩
    refine q_faug (a := (s.pl : Int)) (ev_var rfl) ev_c r.ins cl_Reading na_Reading_place rfl (few rfl) (fun H1 e1 => ?_)
    have r1 := (r.mono e1).place (s.pl + 1)
    have hf : putF "place" (.int ((s.pl : Int) + 1)) (fsR l R s.pl) = fsR l R (s.pl + 1) := rfl
    rw [hf]
    have B1 : Ex B (upd H1 R.x (.ins (He.ga K "Reading") R.dx (fsR l R (s.pl + 1)))) := Ex.mut (e.trans e1) o.1
    have T1 : Tu H (upd H1 R.x (.ins (He.ga K "Reading") R.dx (fsR l R (s.pl + 1)))) := (Tu.of e1).trans (.ins (e1 _ _ r.ins))
    generalize upd H1 R.x (.ins (He.ga K "Reading") R.dx (fsR l R (s.pl + 1))) = G1 at *
    refine q_pop (xs := nis s.sp) r1.sps (ev_fld (f := "spots") (ev_var rfl) r1.ins cl_Reading na_Reading_spots rfl) (nis_last h2) (fun H2 e2 => ?_)
    rw [nis_drop]
    have r2 := (r1.mono e2).spots o s.sp.dropLast
    have B2 := Ex.mut (o := .lst (nis s.sp.dropLast)) (B1.trans e2) o.2.2.1
    have T2 : Tu H (upd H2 R.b (.lst (nis s.sp.dropLast))) := (T1.trans (.of e2)).trans (.lst (e2 _ _ r1.sps))
    generalize upd H2 R.b (.lst (nis s.sp.dropLast)) = G2 at *
    obtain ⟨vs, v1, v2, v3⟩ := r2.sgs
    dsimp only at v2 v3
    have hlt : s.sp.getLastD 0 < vs.length := by omega
    obtain ⟨p, ep, hp⟩ := v3 (s.sp.getLastD 0) (vs[s.sp.getLastD 0]) (s.sg.getD (s.sp.getLastD 0) ([], 0)) (List.getElem?_eq_getElem hlt) (by rw [List.getD_eq_getElem?_getD, List.getElem?_eq_getElem h4]; rfl)
    have hix : atI vs (s.sp.getLastD 0 : Nat) = some (.ref p) := by
      rw [atI_nat (List.getElem?_eq_getElem hlt), ep]
    refine s_tupPop (l := R.c) (xs := nis s.ct) (y := .int (s.ct.getLastD 0 : Nat)) (v := .str (tx (s.sg.getD (s.sp.getLastD 0) ([], 0)).1)) ?_ ?_ r2.cts (nis_last h3) (fun q H3 e3 hq => ?_)
    · exact ev_op (ev_op (ev_fld (f := "signs") (ev_var rfl) r2.ins cl_Reading na_Reading_signs rfl) (ev_var rfl) (rv_ixL (sq_of v1) hix)) ev_c (rv_ixT (i := 0) (st_of hp) rfl)
    · exact ev_fld (f := "counts") (ev_var rfl) r2.ins cl_Reading na_Reading_counts rfl
    rw [nis_drop] at hq
    rw [nis_drop]
    have r3 := (r2.mono e3).counts o s.ct.dropLast
    have B3 := Ex.mut (o := .lst (nis s.ct.dropLast)) (B2.trans e3) o.2.2.2.1
    have T3 : Tu H (upd H3 R.c (.lst (nis s.ct.dropLast))) := (T2.trans (.of e3)).trans (.lst (e3 _ _ r2.cts))
    generalize upd H3 R.c (.lst (nis s.ct.dropLast)) = G3 at *
    have e4 : Ex G3 (upd G3 q (.tup [.str (tx (s.sg.getD (s.sp.getLastD 0) ([], 0)).1), .int (s.ct.getLastD 0 : Nat)])) := Ex.new hq
    have hq2 : upd G3 q (.tup [.str (tx (s.sg.getD (s.sp.getLastD 0) ([], 0)).1), .int (s.ct.getLastD 0 : Nat)]) q = some (.tup [.str (tx (s.sg.getD (s.sp.getLastD 0) ([], 0)).1), .int (s.ct.getLastD 0 : Nat)]) := upd_same
    generalize upd G3 q (.tup [.str (tx (s.sg.getD (s.sp.getLastD 0) ([], 0)).1), .int (s.ct.getLastD 0 : Nat)]) = G4 at *
    have r4 := r3.mono e4
    obtain ⟨us, u1, u2⟩ := r4.sgs
    have ul := u2.1
    dsimp only at ul
    refine ev_fld (K := K) (ta := tVar 0) (f := "signs") (ev_var rfl) r4.ins cl_Reading na_Reading_signs rfl G4 (Ex.refl _) _ (fun H5 e5 => ?_)
    refine ⟨_, rfl, R.a, us, _, _, rfl, rfl, e5 _ _ u1, ixN_nat (by omega), ?_⟩
    have r5 := r4.mono e5
    refine k _ (Ex.mut ((B3.trans e4).trans e5) o.2.1) ((T3.trans (.of (e4.trans e5))).trans (.lst (e5 _ _ u1))) (r5.signs o (zs := s.sg.set (s.sp.getLastD 0) ((s.sg.getD (s.sp.getLastD 0) ([], 0)).1, s.ct.getLastD 0)) ((u2.tu (.of e5)).set ⟨q, rfl, e5 _ _ hq2⟩))

end
end Tx
end
section
set_option Elab.async false
set_option linter.all false
set_option maxRecDepth 100000
set_option maxHeartbeats 4000000
namespace Tx
open PySem PySem.Spec PyProof.Rows L2 Evl Wk
section
variable {w : World} {K : PySem.W.Frag} {mg : Str → Option Value} {base : Heap}

def sp_go_on (K : PySem.W.Frag) : Sp := fun vs H Q _ => ∃ (B : Hp) (l : List Nat) (R : RA) (s : RS), vs = [.ref R.x] ∧ Own B R ∧ Rdg K l R s H ∧ Ex B H ∧ l.length ≤ 5000 ∧ RInv l s ∧ 0 < s.sg.length ∧
  ∀ H', Ex B H' → Tu H H' → Rdg K l R (goOn l s).1 H' → Q (oV (goOn l s).2) H'
theorem sc_go_on : FnScope ["reading"] ["reading"] (defScope s_go_on) := ⟨rfl, rfl, rfl, by decide +kernel, rfl, by decide +kernel, by decide +kernel⟩
theorem ok_go_on (Z : Zx K mg) : OkD prog w K mg base CX0 2 "go_on" ["reading"] (sp_go_on K) := by
  obtain ⟨fd, F0⟩ := Z.fun_ 13
  have F : Fun K "go_on" "go_on" s_go_on (He.ga K "go_on") fd := Wk.fun_of F0
  have c_MOST_PARTS := Z.int 77 (x := "MOST_PARTS")
  obtain ⟨_, g_is_variable, b_is_variable, m_is_variable, k_is_variable⟩ := ok_is_variable (w := w) (base := base) Z
  obtain ⟨_, g_Reading_close_name, b_Reading_close_name, c_Reading_close_name, m_Reading_close_name⟩ := ok_Reading_close_name (w := w) (base := base) Z
  obtain ⟨_, g_Reading_is_at, b_Reading_is_at, c_Reading_is_at, m_Reading_is_at⟩ := ok_Reading_is_at (w := w) (base := base) Z
  obtain ⟨_, g_Reading_open_name, b_Reading_open_name, c_Reading_open_name, m_Reading_open_name⟩ := ok_Reading_open_name (w := w) (base := base) Z
  have n_len := Z.free 68 (x := "len")
  have na_Reading_place := Z.noat 97 (x := "Reading") (f := "place")
  have na_Reading_signs := Z.noat 98 (x := "Reading") (f := "signs")
  have na_Reading_spots := Z.noat 99 (x := "Reading") (f := "spots")
  have na_Reading_counts := Z.noat 100 (x := "Reading") (f := "counts")
  have cl_Reading := Z.cls 92 (x := "Reading")
  refine ⟨fd, ?_, F.binds (ps := ["reading"]) fun _ _ _ _ _ _ us hl => match us, hl with | [_], _ => rfl, Z.glo 8, F.kp⟩
  refine F.ok sc_go_on (fun vs H Q E h => ?_) (fun cdv A outer s H vs Q E hr h => ?_)
  · obtain ⟨B, l, R, s, rfl, o, r, e, hl, inv, h0, k⟩ := h
    rfl
  · obtain ⟨B, l, R, s, rfl, o, r, e, hl, inv, h0, k⟩ := h
    refine ⟨_, (pss_cons (ps_if (pw_and (pt_val (pe_meth (pv 0) c_Reading_is_at m_Reading_is_at g_Reading_is_at (hr.mono (by decide)) b_Reading_is_at .nil pass0 (pa_cons pe_str pa_nil))) (pw_and1 (pt_not (pt_val (pe_call g_is_variable (hr.mono (by decide)) (by rfl) m_is_variable k_is_variable b_is_variable .nil pass0 (pa_cons (pe_ix ix_list (pe_fld (pv 0) (by rfl)) (pe_un un_neg pe_int) (fun _ _ => rfl)) pa_nil)))))).pt (pss_cons (ps_expr (pe_meth0 (pv 0) c_Reading_open_name m_Reading_open_name g_Reading_open_name (hr.mono (by decide)) b_Reading_open_name .nil pass0)) (pss_one (ps_ret pe_bl))) pss_nil) (pss_cons (ps_while PassesOwn.never (pw_and (pt_cmpR op_gt (pe_callB call_len_seq (by rfl) n_len (by decide +kernel) (pa_cons (pe_fld (pv 0) (by rfl)) pa_nil)) pe_int (nomark _)) (pw_and1 (pt_val (pe_meth (pv 0) c_Reading_is_at m_Reading_is_at g_Reading_is_at (hr.mono (by decide)) b_Reading_is_at .nil pass0 (pa_cons pe_str pa_nil))))).pt (pss_one (ps_expr (pe_meth0 (pv 0) c_Reading_close_name m_Reading_close_name g_Reading_close_name (hr.mono (by decide)) b_Reading_close_name .nil pass0)))) (pss_cons (ps_if (pt_cmpR op_eq (pe_callB call_len_seq (by rfl) n_len (by decide +kernel) (pa_cons (pe_fld (pv 0) (by rfl)) pa_nil)) pe_int (nomark _)) (pss_one (ps_ret pe_bl)) pss_nil) (pss_cons (ps_if (pw_or (pt_not (pt_val (pe_meth (pv 0) c_Reading_is_at m_Reading_is_at g_Reading_is_at (hr.mono (by decide)) b_Reading_is_at .nil pass0 (pa_cons pe_str pa_nil)))) (pw_or1 (pt_cmpR op_eq (pe_ix ix_list (pe_fld (pv 0) (by rfl)) (pe_un un_neg pe_int) (fun _ _ => rfl)) (pe_gi c_MOST_PARTS) (nomark _)))).pt (pss_one (ps_ret pe_non)) pss_nil) (pss_cons (ps_fldaug (pv 0) pe_int in_add) (pss_cons (ps_augS (pe_fld (pv 0) (by rfl)) (pe_un un_neg pe_int) get_list pe_int ip_add set_list) (pss_one (ps_ret pe_bl)))))))), ?_⟩
    have fsg := fun (σ : L2.St) (ta : TE) (H0 : Hp) (s : RS) (r : Rdg K l R s H0) (h : Ev ta σ H0 (.ref R.x)) => ev_fld (K := K) (f := "signs") h r.ins cl_Reading na_Reading_signs (v := .ref R.a) rfl
    have fsp := fun (σ : L2.St) (ta : TE) (H0 : Hp) (s : RS) (r : Rdg K l R s H0) (h : Ev ta σ H0 (.ref R.x)) => ev_fld (K := K) (f := "spots") h r.ins cl_Reading na_Reading_spots (v := .ref R.b) rfl
    have fct := fun (σ : L2.St) (ta : TE) (H0 : Hp) (s : RS) (r : Rdg K l R s H0) (h : Ev ta σ H0 (.ref R.x)) => ev_fld (K := K) (f := "counts") h r.ins cl_Reading na_Reading_counts (v := .ref R.c) rfl
    have isat := fun (σ : L2.St) (ta : TE) (H0 : Hp) (s : RS) (E : XK) (z : Str) (c : Nat) (hz : z = tx [c]) (r : Rdg K l R s H0) (h : Ev ta σ H0 (.ref R.x)) => ev_meth (m := "is_at") (sp := sp_Reading_is_at K) (E := E) (v := .bl (decide (l[s.pl]? = some c))) h r.ins rfl (ea_cons (ta := tC (.str z)) (ev_is ev_c (congrArg V.str hz)) ea_nil) (fun H1 e1 Q1 q1 E1 => ⟨l, R, s, c, rfl, r.mono e1, hl, fun H' e' => q1 H' e'⟩)
    have z40 : ("(" : Str) = tx [40] := by decide +kernel
    have z41 : (")" : Str) = tx [41] := by decide +kernel
    have z44 : ("," : Str) = tx [44] := by decide +kernel
    obtain ⟨vs, v1, v2, v3⟩ := r.sgs
    have hlast : vs[vs.length - 1]? = some vs[vs.length - 1] := List.getElem?_eq_getElem (by omega)
    obtain ⟨p, ep, hp⟩ := v3 (vs.length - 1) _ (s.sg[s.sg.length - 1]) hlast (by rw [v2]; exact List.getElem?_eq_getElem (by omega))
    rw [ep] at hlast
    refine q_when (b := decide (l[s.pl]? = some 40)) (et_is (et_and (et_B (isat _ _ _ _ _ _ _ z40 r (ev_var rfl))) (fun _ => et_not (et_B (ev_call (z := .bl false) (ea_cons (ev_op (fsg _ _ _ _ r (ev_var rfl)) ev_m1 (rv_ixL (sq_of v1) (atI_last hlast))) ea_nil) (fun H1 e1 Q1 q1 E1 => ⟨.ref p, rfl, .inr ⟨p, _, rfl, e1 _ _ hp, q1 H1 (Ex.refl _)⟩⟩))))) (by rw [Bool.not_false, Bool.and_true])) (fun hb H1 e1 => ?_) (fun hb H1 e1 => ?_)
    · have hc := of_decide_eq_true hb
      have g : goOn l s = (openN s, some true) := if_pos hc
      have := inv.sg
      have := inv.sl
      have := inv.ct
      have := inv.pl
      refine q_mt0 (ev_var rfl) (r.mono e1).ins rfl (fun H2 e2 => ⟨B, l, R, s, rfl, o, r.mono (e1.trans e2), e.trans (e1.trans e2), h0, by omega, by omega, by omega, fun H3 b3 t3 r3 => ?_⟩)
      refine s_ret ev_c (fun H4 e4 => ?_)
      have kk := k H4 (b3.trans e4) (((Tu.of (e1.trans e2)).trans t3).trans (.of e4)) (by rw [g]; exact r3.mono e4)
      rw [g] at kk
      exact kk
    · have hc := of_decide_eq_false hb
      have g : goOn l s = if (closeAll l s.sp.length s).sp = [] then (closeAll l s.sp.length s, some false) else
          if l[(closeAll l s.sp.length s).pl]? ≠ some 44 ∨ (closeAll l s.sp.length s).ct.getLastD 0 = 4 then (closeAll l s.sp.length s, none) else (commaN (closeAll l s.sp.length s), some true) := if_neg hc
      refine q_while (fun m σ' H' => σ' = [some (.ref R.x)] ∧ ∃ s', m = s'.sp.length ∧ RInv l s' ∧ Rdg K l R s' H' ∧ Ex B H' ∧ Tu H H' ∧ closeAll l s.sp.length s = closeAll l s'.sp.length s') s.sp.length ⟨rfl, s, rfl, inv, r.mono e1, e.trans e1, .of e1, rfl⟩ ?_
      rintro m σ' H' ⟨rfl, s', rfl, inv', r', b', t', g'⟩
      refine ⟨decide (s'.sp ≠ [] ∧ l[s'.pl]? = some 41), ?_, fun hb2 H2 e2 => ?_, fun hb2 H2 e2 => ?_⟩
      · refine et_is (et_and (et_test (ev_op (ev_len (fsp _ _ _ _ r' (ev_var rfl)) (sq_of r'.sps)) ev_c rv_I0)) (fun _ => et_B (isat _ _ _ _ _ _ _ z41 r' (ev_var rfl)))) ?_
        rw [nis_len, Bool.decide_and]
        congr 1
        rw [decide_eq_decide]
        constructor
        · intro h h2
          rw [h2] at h
          exact absurd h (by decide)
        · intro h
          have := List.length_pos_iff.mpr h
          show (0 : Int) < _
          omega
      · have hc2 := of_decide_eq_true hb2
        refine ⟨fun σ2 H3 => σ2 = [some (.ref R.x)] ∧ Rdg K l R (closeN s') H3 ∧ Ex B H3 ∧ Tu H H3, ?_, ?_⟩
        · rintro σ2 H3 ⟨rfl, r3, b3, t3⟩
          refine ⟨_, ?_, rfl, closeN s', rfl, inv'.close hc2.1 hc2.2, r3, b3, t3, ?_⟩
          · rw [closeN_sp]
            have := List.length_pos_iff.mpr hc2.1
            omega
          · rw [g']; exact closeAll_step l s' hc2.1 hc2.2
        · have i1 := inv'.sg
          have i2 := inv'.pl
          have i3 := inv'.ct
          have i4 := List.length_pos_iff.mpr hc2.1
          refine s_mt0 (ev_var rfl) (r'.mono e2).ins rfl (fun H3 e3 => ⟨B, l, R, s', rfl, o, r'.mono (e2.trans e3), b'.trans (e2.trans e3), by omega, hc2.1, fun h => by rw [h] at i3; simp at i3; omega, inv'.sp _ (getLastD_mem hc2.1), fun H4 b4 t4 r4 => ?_⟩)
          exact ⟨rfl, r4, b4, (t'.trans (.of (e2.trans e3))).trans t4⟩
      · have hc2 := of_decide_eq_false hb2
        have g2 := closeAll_stop l s' hc2
        rw [g', g2] at g
        have r2 := r'.mono e2
        refine q_when (b := decide (s'.sp = [])) (et_is (et_test (ev_op (ev_len (fsp _ _ _ _ r2 (ev_var rfl)) (sq_of r2.sps)) ev_c (rv_eq (by rfl)))) ?_) (fun hb3 H3 e3 => ?_) (fun hb3 H3 e3 => ?_)
        · rw [nis_len, decide_eq_decide]
          constructor
          · intro h
            have := V.int.inj h
            exact List.length_eq_zero_iff.mp (by omega)
          · intro h; rw [h]; rfl
        · have h3 := of_decide_eq_true hb3
          rw [if_pos h3] at g
          refine s_ret ev_c (fun H4 e4 => ?_)
          have kk := k H4 (b'.trans ((e2.trans e3).trans e4)) (t'.trans (.of ((e2.trans e3).trans e4))) (by rw [g]; exact r'.mono ((e2.trans e3).trans e4))
          rw [g] at kk
          exact kk
        · have h3 := of_decide_eq_false hb3
          rw [if_neg h3] at g
          have r3 := r2.mono e3
          have i3 := inv'.ct
          have hne : s'.ct ≠ [] := fun h => by
            rw [h] at i3
            have := List.length_pos_iff.mpr h3
            simp at i3
            omega
          refine q_when (b := decide (l[s'.pl]? ≠ some 44 ∨ s'.ct.getLastD 0 = 4)) (et_is (et_or (et_not (et_B (isat _ _ _ _ _ _ _ z44 r3 (ev_var rfl)))) (fun _ => et_test (ev_op (ev_op (fct _ _ _ _ r3 (ev_var rfl)) ev_m1 (rv_ixL (sq_of r3.cts) (atI_last (nis_last hne)))) ev_c (rv_eq (by rfl))))) ?_) (fun hb4 H4 e4 => ?_) (fun hb4 H4 e4 => ?_)
          · rw [Bool.decide_or, decide_not]
            congr 1
            rw [decide_eq_decide]
            constructor
            · intro h
              have := V.int.inj h
              omega
            · intro h; rw [h]; rfl
          · have h4 := of_decide_eq_true hb4
            rw [if_pos h4] at g
            refine s_ret ev_c (fun H5 e5 => ?_)
            have kk := k H5 (b'.trans (((e2.trans e3).trans e4).trans e5)) (t'.trans (.of (((e2.trans e3).trans e4).trans e5))) (by rw [g]; exact r'.mono (((e2.trans e3).trans e4).trans e5))
            rw [g] at kk
            exact kk
          · have h4 := of_decide_eq_false hb4
            rw [if_neg h4] at g
            have r4 := r3.mono e4
            refine q_faug (a := (s'.pl : Int)) (ev_var rfl) ev_c r4.ins cl_Reading na_Reading_place rfl (few rfl) (fun H5 e5 => ?_)
            have r5 := (r4.mono e5).place (s'.pl + 1)
            have hf : putF "place" (.int ((s'.pl : Int) + 1)) (fsR l R s'.pl) = fsR l R (s'.pl + 1) := rfl
            rw [hf]
            have B5 : Ex B (upd H5 R.x (.ins (He.ga K "Reading") R.dx (fsR l R (s'.pl + 1)))) := Ex.mut (b'.trans (((e2.trans e3).trans e4).trans e5)) o.1
            have T5 : Tu H (upd H5 R.x (.ins (He.ga K "Reading") R.dx (fsR l R (s'.pl + 1)))) := (t'.trans (.of (((e2.trans e3).trans e4).trans e5))).trans (.ins (e5 _ _ r4.ins))
            generalize upd H5 R.x (.ins (He.ga K "Reading") R.dx (fsR l R (s'.pl + 1))) = G5 at *
            have hct : nis s'.ct = nis s'.ct.dropLast ++ [.int ((s'.ct.getLastD 0 : Nat) : Int)] := by
              conv => lhs; rw [← List.dropLast_concat_getLast hne]
              unfold nis
              rw [List.map_append, List.getLastD_eq_getLast?, List.getLast?_eq_some_getLast hne]
              rfl
            have r5c := r5.cts
            dsimp only at r5c
            rw [hct] at r5c
            refine q_augLast (xs := nis s'.ct.dropLast) (a := ((s'.ct.getLastD 0 : Nat) : Int)) (fct _ _ _ _ r5 (ev_var rfl)) ev_m1 ev_c r5c (fun H6 e6 => ?_)
            refine s_ret ev_c (fun H7 e7 => ?_)
            have r6 := (r5.mono e6).counts o (s'.ct.dropLast ++ [s'.ct.getLastD 0 + 1])
            have hnew : nis s'.ct.dropLast ++ [V.int ((s'.ct.getLastD 0 : Nat) + 1 : Int)] = nis (s'.ct.dropLast ++ [s'.ct.getLastD 0 + 1]) := by unfold nis; rw [List.map_append]; rfl
            rw [← hnew] at r6
            have kk := k H7 ((Ex.mut (B5.trans e6) o.2.2.2.1).trans e7) ((T5.trans ((Tu.of e6).trans (.lst (e6 _ _ r5c)))).trans (.of e7)) (by rw [g]; exact r6.mono e7)
            rw [g] at kk
            exact kk

end
end Tx
end
section
set_option Elab.async false
set_option linter.all false
set_option maxRecDepth 100000
set_option maxHeartbeats 4000000
namespace Tx
open PySem PySem.Spec PyProof.Rows L2 Evl Wk
section
variable {w : World} {K : PySem.W.Frag} {mg : Str → Option Value} {base : Heap}

def sp_read_term (K : PySem.W.Frag) : Sp := fun vs H Q _ => ∃ (l : List Nat) (start : Nat) (nm : Addr), vs = [.str (tx l), .int (start : Int), .ref nm] ∧ l.length ≤ 5000 ∧ start ≤ l.length ∧ NoG l ∧ ∀ v H', Ex H H' → ReadV (readT l start) v H' → Q v H'
theorem sc_read_term : FnScope ["text", "start", "names", "reading", "is_open"] ["text", "start", "names"] (defScope s_read_term) := ⟨rfl, rfl, rfl, by decide +kernel, rfl, by decide +kernel, by decide +kernel⟩
theorem ok_read_term (Z : Zx K mg) : OkD prog w K mg base CX0 3 "read_term" ["text", "start", "names"] (sp_read_term K) := by
  obtain ⟨fd, F0⟩ := Z.fun_ 14
  have F : Fun K "read_term" "read_term" s_read_term (He.ga K "read_term") fd := Wk.fun_of F0
  obtain ⟨_, g_go_on, b_go_on, m_go_on, k_go_on⟩ := ok_go_on (w := w) (base := base) Z
  obtain ⟨_, g_Reading, b_Reading, m_Reading, k_Reading⟩ := ok_Reading___init__ (w := w) (base := base) Z
  obtain ⟨_, g_Reading_put_word, b_Reading_put_word, c_Reading_put_word, m_Reading_put_word⟩ := ok_Reading_put_word (w := w) (base := base) Z
  have n_tuple := Z.free 76 (x := "tuple")
  have na_Reading_place := Z.noat 97 (x := "Reading") (f := "place")
  have na_Reading_signs := Z.noat 98 (x := "Reading") (f := "signs")
  have cl_Reading := Z.cls 92 (x := "Reading")
  refine ⟨fd, ?_, F.binds (ps := ["text", "start", "names"]) fun _ _ _ _ _ _ us hl => match us, hl with | [_, _, _], _ => rfl, Z.glo 9, F.kp⟩
  refine F.ok sc_read_term (fun vs H Q E h => ?_) (fun cdv A outer s H vs Q E hr h => ?_)
  · obtain ⟨l, start, nm, rfl, hl, hs, hG, k⟩ := h
    rfl
  · obtain ⟨l, start, nm, rfl, hl, hs, hG, k⟩ := h
    refine ⟨_, (pss_cons (ps_set (i := 3) sc_read_term.nd rfl (by first | exact Or.inl rfl | exact Or.inr rfl) (pe_make k_Reading g_Reading (hr.mono (by decide)) (by rfl) m_Reading b_Reading .nil pass0 (pa_cons (pv 0) (pa_cons (pv 2) pa_nil)))) (pss_cons (ps_fld (pv 3) (pv 1) rfl) (pss_cons (ps_set (i := 4) sc_read_term.nd rfl (by first | exact Or.inl rfl | exact Or.inr rfl) pe_bl) (pss_cons (ps_while PassesOwn.never (pt_truth (pv 4) (fun _ => rfl)) (pss_cons (ps_if (pt_not (pt_val (pe_meth0 (pv 3) c_Reading_put_word m_Reading_put_word g_Reading_put_word (hr.mono (by decide)) b_Reading_put_word .nil pass0))) (pss_one (ps_ret pe_non)) pss_nil) (pss_one (ps_set (i := 4) sc_read_term.nd rfl (by first | exact Or.inl rfl | exact Or.inr rfl) (pe_call g_go_on (hr.mono (by decide)) (by rfl) m_go_on k_go_on b_go_on .nil pass0 (pa_cons (pv 3) pa_nil)))))) (pss_one (ps_ret (pe_ifExp (pt_cmpR op_isN (pv 4) pe_non (nomark _)) pe_non (pe_tup (pa_cons (pe_callTy call_tuple_of (by rfl) n_tuple (by decide +kernel) (pa_cons (pe_fld (pv 3) (by rfl)) pa_nil)) (pa_cons (pe_fld (pv 3) (by rfl)) pa_nil)))))))))), ?_⟩
    refine q_make (ea_cons (ev_var rfl) (ea_cons (ev_var rfl) ea_nil)) (fun B x dx e1 hx hdx hn => ?_)
    have e2 : Ex B (upd (upd B dx (.own x)) x (.ins (He.ga K "Reading") dx [])) := Ex.mut (Ex.new hdx) hx
    refine ⟨B, x, dx, l, nm, rfl, hx, e2, upd_same, fun H2 a b c e3 o r2 => ⟨rfl, ?_⟩⟩
    generalize hR : RA.mk x dx a b c nm = R at *
    have hRx : x = R.x := by rw [← hR]
    subst hRx
    refine q_fld (v := .int (start : Int)) (ev_var rfl) (ev_var rfl) r2.ins cl_Reading na_Reading_place (few rfl) (fun H3 e4 => ?_)
    have r3 := (r2.mono e4).place start
    have hf : putF "place" (.int (start : Int)) (fsR l R 0) = fsR l R start := rfl
    dsimp only at r3 ⊢
    rw [hf]
    have B3 : Ex B (upd H3 R.x (.ins (He.ga K "Reading") R.dx (fsR l R start))) := Ex.mut (e3.trans e4) o.1
    generalize upd H3 R.x (.ins (He.ga K "Reading") R.dx (fsR l R start)) = G3 at *
    refine q_asg ev_c (fun H4 e5 => ?_)
    refine q_while (fun m σ' H' => ∃ s ob, σ' = [some (.str (tx l)), some (.int (start : Int)), some (.ref nm), some (.ref R.x), some (oV ob)] ∧ Rdg K l R s H' ∧ Ex B H' ∧ RInv l s ∧
      (ob = some true → ∃ n, m = n + 1 ∧ l.length - s.pl + 1 ≤ n ∧ readLoop l (l.length - start + 1) ⟨start, [], [], []⟩ = readLoop l n s) ∧ (ob = some false → m = 0 ∧ readLoop l (l.length - start + 1) ⟨start, [], [], []⟩ = some s) ∧ (ob = none → m = 0 ∧ readLoop l (l.length - start + 1) ⟨start, [], [], []⟩ = none))
      (l.length - start + 2) ⟨⟨start, [], [], []⟩, some true, rfl, r3.mono e5, B3.trans e5, ⟨hs, rfl, fun _ h => (by cases h), Nat.zero_le _, Nat.zero_le _⟩, fun _ => ⟨_, rfl, Nat.le_refl _, rfl⟩, fun h => (by cases h), fun h => (by cases h)⟩ ?_
    rintro m σ' H' ⟨s, ob, rfl, r, b', inv, w1, w2, w3⟩
    refine ⟨decide (ob = some true), et_tru (K := K) (ev_var rfl) (fun H5 e6 => ?_), fun hb H5 e6 => ?_, fun hb H5 e6 => ?_⟩
    · cases ob with
      | none => rfl
      | some z => cases z <;> rfl
    · have hob := of_decide_eq_true hb
      subst hob
      obtain ⟨n, rfl, hn, hres⟩ := w1 rfl
      obtain ⟨n', rfl⟩ : ∃ n', n = n' + 1 := ⟨n - 1, by omega⟩
      refine ⟨fun σ2 H6 => ∃ m', m' < n' + 1 + 1 ∧ ∃ s ob, σ2 = [some (.str (tx l)), some (.int (start : Int)), some (.ref nm), some (.ref R.x), some (oV ob)] ∧ Rdg K l R s H6 ∧ Ex B H6 ∧ RInv l s ∧
        (ob = some true → ∃ n, m' = n + 1 ∧ l.length - s.pl + 1 ≤ n ∧ readLoop l (l.length - start + 1) ⟨start, [], [], []⟩ = readLoop l n s) ∧ (ob = some false → m' = 0 ∧ readLoop l (l.length - start + 1) ⟨start, [], [], []⟩ = some s) ∧ (ob = none → m' = 0 ∧ readLoop l (l.length - start + 1) ⟨start, [], [], []⟩ = none), fun _ _ h => h, ?_⟩
      have hsg := inv.sg
      have hpl := inv.pl
      refine q_ifNotB (x_mt0 (ev_var rfl) (r.mono e6).ins rfl (fun H6 e7 => ⟨B, l, R, s, rfl, o, r.mono (e6.trans e7), b'.trans (e6.trans e7), hl, inv.pl, by omega, hG, fun hw H7 b7 t7 r7 => ?_, fun hw H7 b7 t7 r7 => ?_⟩))
      · refine ⟨false, rfl, ?_⟩
        rw [if_neg (by decide)]
        refine s_ret ev_c (fun H8 e8 => k _ H8 (e1.trans (b7.trans e8)) ?_)
        have : readT l start = none := by
          unfold readT
          rw [hres]
          unfold readLoop
          rw [if_pos hw]
          rfl
        rw [this]
        rfl
      · refine ⟨true, rfl, ?_⟩
        rw [if_pos rfl]
        obtain ⟨i1, i2, i3⟩ := putW_inv inv hw
        refine s_asgC (ea_cons (ev_var rfl) ea_nil) (fun H8 e8 => ⟨B, l, R, putW l s, rfl, o, r7.mono e8, b7.trans e8, hl, i1, i2, fun H9 b9 t9 r9 => ?_⟩)
        have i4 := goOn_inv i1 i2
        have i5 := goOn_pl l (putW l s)
        have i6 := i4.pl
        have hstep : readLoop l (n' + 1) s = match (goOn l (putW l s)).2 with
          | none => none
          | some false => some (goOn l (putW l s)).1
          | some true => readLoop l n' (goOn l (putW l s)).1 := by
          conv => lhs; unfold readLoop
          rw [if_neg hw]
          try rfl
        rw [hstep] at hres
        refine ⟨(match (goOn l (putW l s)).2 with | some true => n' + 1 | _ => 0), ?_, (goOn l (putW l s)).1, (goOn l (putW l s)).2, rfl, r9, b9, i4, fun h => ?_, fun h => ?_, fun h => ?_⟩
        · split <;> omega
        · rw [h] at hres ⊢
          exact ⟨n', rfl, by omega, hres⟩
        · rw [h] at hres ⊢
          exact ⟨rfl, hres⟩
        · rw [h] at hres ⊢
          exact ⟨rfl, hres⟩
    · have hob := of_decide_eq_false hb
      have r5 := r.mono e6
      obtain ⟨vs, v1, v2⟩ := r5.sgs
      refine sx_ret (P := ReadV (readT l start)) (x_if (b := decide (ob = none)) (et_is (et_test (b := decide (oV ob = .non)) (ev_op (ev_var rfl) ev_c (fun H6 e7 Q1 q1 => ⟨rfl, q1 H6 (Ex.refl _)⟩))) ?_) (fun h => ?_) (fun h => ?_)) (fun v H6 e7 p => k v H6 (e1.trans ((b'.trans e6).trans e7)) p)
      · rw [decide_eq_decide]
        cases ob with
        | none => simp [oV]
        | some z => simp [oV]
      · have := (w3 (of_decide_eq_true h)).2
        have g : readT l start = none := by unfold readT; rw [this]; rfl
        rw [g]
        exact (x_ev ev_c).imp fun _ _ h => h
      · have hF : ob = some false := by
          cases ob with
          | none => exact absurd rfl (of_decide_eq_false h)
          | some z => cases z with
            | true => exact absurd rfl hob
            | false => rfl
        have := (w2 hF).2
        have g : readT l start = some (s.sg, s.pl) := by unfold readT; rw [this]; rfl
        rw [g]
        refine (x_tup (x_cons (P := TermAt s.sg) (fun H6 e7 Q1 q1 => eu_tuple (K := K) (ev_fld (f := "signs") (ev_var rfl) r5.ins cl_Reading na_Reading_signs rfl) (sq_of v1) H6 e7 _ (fun p H7 hp e8 h8 => q1 _ H7 e8 ⟨p, vs, rfl, h8, v2.tu (.of (e7.trans e8))⟩)) (TermAt.mo _) (x_ofA (ea_cons (ev_fld (f := "place") (ev_var rfl) r5.ins cl_Reading na_Reading_place rfl) ea_nil))) ?_ ?_).imp ?_
        · rintro us H8 H9 e9 ⟨t, rr, rfl, h1, h2⟩
          exact ⟨t, rr, rfl, TermAt.mo _ _ _ _ e9 h1, h2⟩
        · rintro us H8 ⟨t, rr, rfl, h1, rfl⟩
          exact few5 rfl
        · rintro u H8 ⟨p, us, rfl, h8, t, rr, rfl, h1, rfl⟩
          exact ⟨p, t, rfl, h8, h1⟩

end
end Tx
end
section
set_option Elab.async false
set_option linter.all false
set_option maxRecDepth 100000
set_option maxHeartbeats 4000000
namespace Tx
open PySem PySem.Spec PyProof.Rows L2 Evl Wk
section
variable {w : World} {K : PySem.W.Frag} {mg : Str → Option Value} {base : Heap}

def sp_is_atom : Sp := fun vs H Q _ => ∃ (zs : List Sg) (v : V), vs = [v] ∧ TermAt zs v H ∧ zs ≠ [] ∧ ∀ H', Ex H H' → Q (.bl true) H'
theorem sc_is_atom : FnScope ["term"] ["term"] (defScope s_is_atom) := ⟨rfl, rfl, rfl, by decide +kernel, rfl, by decide +kernel, by decide +kernel⟩
theorem ok_is_atom (Z : Zx K mg) : OkD prog w K mg base CX0 2 "is_atom" ["term"] (sp_is_atom) := by
  obtain ⟨fd, F0⟩ := Z.fun_ 21
  have F : Fun K "is_atom" "is_atom" s_is_atom (He.ga K "is_atom") fd := Wk.fun_of F0
  obtain ⟨_, g_is_variable, b_is_variable, m_is_variable, k_is_variable⟩ := ok_is_variable (w := w) (base := base) Z
  refine ⟨fd, ?_, F.binds (ps := ["term"]) fun _ _ _ _ _ _ us hl => match us, hl with | [_], _ => rfl, Z.glo 14, F.kp⟩
  refine F.ok sc_is_atom (fun vs H Q E h => ?_) (fun cdv A outer s H vs Q E hr h => ?_)
  · obtain ⟨zs, v, rfl, ⟨q, vs, rfl, h1, h2⟩, hne, k⟩ := h
    rfl
  · obtain ⟨zs, v, rfl, ⟨q, vs, rfl, h1, h2⟩, hne, k⟩ := h
    refine ⟨_, (pss_one (ps_ret (pe_not (pe_call g_is_variable (hr.mono (by decide)) (by rfl) m_is_variable k_is_variable b_is_variable .nil pass0 (pa_cons (pe_ix ix_tup (pv 0) pe_int (fun _ _ => rfl)) pa_nil))))), ?_⟩
    have h0 : 0 < vs.length := by rw [h2.1]; exact List.length_pos_iff.mpr hne
    obtain ⟨p, ep, hp⟩ := h2.2 0 (vs[0]) (zs[0]'(by rw [← h2.1]; exact h0)) (List.getElem?_eq_getElem h0) (List.getElem?_eq_getElem _)
    refine s_ret (v := .bl true) (ev_notV (a := false) (ev_call (z := .bl false) (ea_cons (ev_op (ev_var rfl) ev_c (rv_ixT (i := 0) (v := .ref p) (st_of h1) (atI_nat (by rw [List.getElem?_eq_getElem h0, ep])))) ea_nil) (fun H1 e1 Q1 q1 E1 => ⟨.ref p, rfl, .inr ⟨p, _, rfl, e1 _ _ hp, q1 H1 (Ex.refl _)⟩⟩))) k
def sp_depth_of : Sp := fun vs H Q _ => ∃ (zs : List Sg) (v : V), vs = [v] ∧ TermAt zs v H ∧ zs.length ≤ 5000 ∧ ∀ H', Ex H H' → Q (.int (depthOf zs)) H'
theorem sc_depth_of : FnScope ["term", "found", "open_parts", "sign", "many"] ["term"] (defScope s_depth_of) := ⟨rfl, rfl, rfl, by decide +kernel, rfl, by decide +kernel, by decide +kernel⟩
theorem ok_depth_of (Z : Zx K mg) : OkD prog w K mg base CX0 2 "depth_of" ["term"] (sp_depth_of) := by
  obtain ⟨fd, F0⟩ := Z.fun_ 6
  have F : Fun K "depth_of" "depth_of" s_depth_of (He.ga K "depth_of") fd := Wk.fun_of F0
  obtain ⟨_, g_is_variable, b_is_variable, m_is_variable, k_is_variable⟩ := ok_is_variable (w := w) (base := base) Z
  have n_len := Z.free 68 (x := "len")
  have n_max := Z.free 70 (x := "max")
  refine ⟨fd, ?_, F.binds (ps := ["term"]) fun _ _ _ _ _ _ us hl => match us, hl with | [_], _ => rfl, Z.glo 6, F.kp⟩
  refine F.ok sc_depth_of (fun vs H Q E h => ?_) (fun cdv A outer s H vs Q E hr h => ?_)
  · obtain ⟨zs, v, rfl, ⟨q, vs, rfl, h1, h2⟩, hl, k⟩ := h
    rfl
  · obtain ⟨zs, v, rfl, ⟨q, vs, rfl, h1, h2⟩, hl, k⟩ := h
    refine ⟨_, (pss_cons (ps_set (i := 1) sc_depth_of.nd rfl (by first | exact Or.inl rfl | exact Or.inr rfl) pe_int) (pss_cons (ps_set (i := 2) sc_depth_of.nd rfl (by first | exact Or.inl rfl | exact Or.inr rfl) (pe_lst pa_nil)) (pss_cons (ps_for PassesOwn.never rfl (pi_tup (pv 0)) (pg_name (i := 3) sc_depth_of.nd rfl (by first | exact Or.inl rfl | exact Or.inr rfl)) (pss_cons (ps_set (i := 1) sc_depth_of.nd rfl (by first | exact Or.inl rfl | exact Or.inr rfl) (pe_callB (call_max2 rfl) (by rfl) n_max (by decide +kernel) (pa_cons (pv 1) (pa_cons (pe_op op_add (pe_callB call_len_seq (by rfl) n_len (by decide +kernel) (pa_cons (pv 2) pa_nil)) pe_int) pa_nil)))) (pss_cons (ps_set (i := 4) sc_depth_of.nd rfl (by first | exact Or.inl rfl | exact Or.inr rfl) (pe_ifExp (pt_val (pe_call g_is_variable (hr.mono (by decide)) (by rfl) m_is_variable k_is_variable b_is_variable .nil pass0 (pa_cons (pv 3) pa_nil))) pe_int (pe_ix ix_tup (pv 3) pe_int (fun _ _ => rfl)))) (pss_cons (ps_expr (pe_bm PySem.F.plainAttrs_list PySem.F.slot_list_append PySem.F.type_list_append mt_append (pv 2) (pa_cons (pv 4) pa_nil))) (pss_one (ps_while PassesOwn.never (pw_and (pt_cmpR op_gt (pe_callB call_len_seq (by rfl) n_len (by decide +kernel) (pa_cons (pv 2) pa_nil)) pe_int (nomark _)) (pw_and1 (pt_cmpR op_eq (pe_ix ix_list (pv 2) (pe_un un_neg pe_int) (fun _ _ => rfl)) pe_int (nomark _)))).pt (pss_cons (ps_expr (pe_bm0 PySem.F.plainAttrs_list PySem.F.slot_list_pop PySem.F.type_list_pop mt_pop (pv 2))) (pss_one (ps_if (pt_cmpR op_gt (pe_callB call_len_seq (by rfl) n_len (by decide +kernel) (pa_cons (pv 2) pa_nil)) pe_int (nomark _)) (pss_one (ps_augS (pv 2) (pe_un un_neg pe_int) get_list pe_int ip_sub set_list)) pss_nil))))))))) (pss_one (ps_ret (pv 1)))))), ?_⟩
    refine q_asg ev_c (fun H1 e1 => ?_)
    refine q_asgL (xs := []) (el_lst ea_nil (few5 rfl)) (fun o H2 ho e2 h3 => ?_)
    have hB : H o = none := fresh_back e1 ho
    refine q_forT (K := K) (xs := vs) (ev_var rfl) (st_of ((e1.trans e2) _ _ h1)) (fun i σ' H' => ∃ s3 s4, σ' = [some (.ref q), some (.int ((zs.take i).foldl dStep (0, [])).1), some (.ref o), s3, s4] ∧ Ex H H' ∧ H' o = some (.lst (izs ((zs.take i).foldl dStep (0, [])).2)) ∧ ((zs.take i).foldl dStep (0, [])).2.length ≤ i) (fun H3 e3 => ⟨none, none, rfl, (e1.trans e2).trans e3, e3 _ _ h3, Nat.zero_le _⟩) (fun i σ' H' hi ⟨s3, s4, hσ, e, _⟩ => st_of (e _ _ h1)) ?_ ?_
    · rintro i x σ' H' hx ⟨s3, s4, rfl, e, ho1, hlen⟩
      obtain ⟨z, hz, p, rfl, hp⟩ := AllV.at (P := fun z v H => SgOk H v z) (as := zs) h2 hx
      have hi : i < vs.length := (List.getElem?_eq_some_iff.mp hx).1
      have hi2 := h2.1
      have hfold : (zs.take (i + 1)).foldl dStep (0, []) = dStep ((zs.take i).foldl dStep (0, [])) z := by
        rw [List.take_add_one, hz]
        show ((zs.take i) ++ [z]).foldl dStep (0, []) = _
        rw [List.foldl_append]
        rfl
      rw [hfold]
      generalize (zs.take i).foldl dStep (0, []) = S at *
      obtain ⟨m, st⟩ := S
      dsimp only at ho1 hlen ⊢
      have hil := izs_len st
      refine q_asg (v := .int (if (st.length : Int) + 1 > m then (st.length : Int) + 1 else m)) (ev_is (ev_max2 (ev_var rfl) (ev_op (ev_len (ev_var rfl) (sq_of ho1)) ev_c rv_I0)) (by rw [hil])) (fun H3 e3 => ?_)
      refine q_asg (v := .int (z.2 : Int)) (ev_if (b := false) (et_B (ev_call (z := .bl false) (ea_cons (ev_var rfl) ea_nil) (fun H4 e4 Q1 q1 E1 => ⟨.ref p, rfl, .inr ⟨p, _, rfl, e4 _ _ (e3 _ _ (e _ _ hp)), q1 H4 (Ex.refl _)⟩⟩))) (fun h => absurd h (by decide)) (fun _ => ev_op (ev_var rfl) ev_c (rv_ixT (i := 1) (st_of (e3 _ _ (e _ _ hp))) rfl))) (fun H4 e4 => ?_)
      have ho4 := e4 _ _ (e3 _ _ ho1)
      refine q_app (xs := izs st) ho4 (ev_var rfl) (ev_var rfl) (by rw [hil]; omega) (fun H5 e5 => ?_)
      have hsnoc : izs st ++ [V.int (z.2 : Int)] = izs (st ++ [(z.2 : Int)]) := by unfold izs; rw [List.map_append]; rfl
      rw [hsnoc]
      have E5 : Ex H (upd H5 o (.lst (izs (st ++ [(z.2 : Int)])))) := Ex.mut (((e.trans e3).trans e4).trans e5) hB
      have ho5 : upd H5 o (.lst (izs (st ++ [(z.2 : Int)]))) o = some (.lst (izs (st ++ [(z.2 : Int)]))) := upd_same
      generalize upd H5 o (.lst (izs (st ++ [(z.2 : Int)]))) = G5 at *
      refine s_while (fun n σ2 H' => ∃ st', n = st'.length ∧ σ2 = [some (.ref q), some (.int (if (st.length : Int) + 1 > m then (st.length : Int) + 1 else m)), some (.ref o), some (.ref p), some (.int (z.2 : Int))] ∧ Ex H H' ∧ H' o = some (.lst (izs st')) ∧ st'.length ≤ i + 1 ∧ dClose (st.length + 1) (st ++ [(z.2 : Int)]) = dClose st'.length st') (st.length + 1) ⟨st ++ [(z.2 : Int)], by simp, rfl, E5, ho5, by simp; exact hlen, by simp⟩ ?_
      rintro n σ2 H' ⟨st', rfl, rfl, e', ho', hl', hc'⟩
      have hil' := izs_len st'
      refine ⟨decide (st' ≠ [] ∧ st'.getLastD 0 = 0), ?_, fun hb H6 e6 => ?_, fun hb H6 e6 => ?_⟩
      · refine et_is (et_and (et_test (ev_op (ev_len (ev_var rfl) (sq_of ho')) ev_c rv_I0)) (fun hA => et_test (ev_op (ev_op (ev_var rfl) ev_m1 (rv_ixL (sq_of ho') (atI_last (izs_last (izs_ne hA))))) ev_c (rv_eq (by rfl))))) ?_
        rw [Bool.decide_and]
        congr 1
        · rw [decide_eq_decide, hil']
          constructor
          · intro h h2
            rw [h2] at h
            exact absurd h (by decide)
          · intro h
            have := List.length_pos_iff.mpr h
            show (0 : Int) < _
            omega
        · rw [decide_eq_decide]
          constructor
          · intro h; exact V.int.inj h
          · intro h; rw [h]
      · have hc := of_decide_eq_true hb
        have h0 := List.length_pos_iff.mpr hc.1
        have hstep := dClose_step st' hc
        refine ⟨fun σ3 H7 => ∃ st2, st2.length < st'.length ∧ σ3 = [some (.ref q), some (.int (if (st.length : Int) + 1 > m then (st.length : Int) + 1 else m)), some (.ref o), some (.ref p), some (.int (z.2 : Int))] ∧ Ex H H7 ∧ H7 o = some (.lst (izs st2)) ∧ dClose st'.length st' = dClose st2.length st2, ?_, ?_⟩
        · rintro σ3 H7 ⟨st2, g1, rfl, g3, g4, g5⟩
          exact ⟨_, g1, st2, rfl, rfl, g3, g4, by omega, hc'.trans g5⟩
        · refine q_dropPop (xs := izs st') (e6 _ _ ho') (ev_var rfl) (izs_last hc.1) (fun H7 e7 => ?_)
          rw [izs_drop]
          have E7 : Ex H (upd H7 o (.lst (izs st'.dropLast))) := Ex.mut ((e'.trans e6).trans e7) hB
          have ho7 : upd H7 o (.lst (izs st'.dropLast)) o = some (.lst (izs st'.dropLast)) := upd_same
          generalize upd H7 o (.lst (izs st'.dropLast)) = G7 at *
          have hil7 := izs_len st'.dropLast
          refine s_when (b := decide (st'.dropLast ≠ [])) (et_is (et_test (ev_op (ev_len (ev_var rfl) (sq_of ho7)) ev_c rv_I0)) ?_) (fun hb2 H8 e8 => ?_) (fun hb2 H8 e8 => ?_)
          · rw [decide_eq_decide, hil7]
            constructor
            · intro h h2
              rw [h2] at h
              exact absurd h (by decide)
            · intro h
              have := List.length_pos_iff.mpr h
              show (0 : Int) < _
              omega
          · have hne := of_decide_eq_true hb2
            have ho8 := e8 _ _ ho7
            rw [izs_snoc hne] at ho8
            refine s_augLast (xs := izs st'.dropLast.dropLast) (a := st'.dropLast.getLastD 0) (ev_var rfl) ev_m1 ev_c ho8 (fun H9 e9 => ?_)
            have hp2 := List.length_pos_iff.mpr hne
            rw [List.length_dropLast] at hp2
            refine ⟨st'.dropLast.dropLast ++ [st'.dropLast.getLastD 0 - 1], by rw [List.length_append, List.length_singleton, List.length_dropLast, List.length_dropLast]; omega, rfl, Ex.mut ((E7.trans e8).trans e9) hB, ?_, ?_⟩
            · rw [upd_same]; unfold izs; rw [List.map_append]; rfl
            · rw [hstep, if_neg hne]
          · have hne : st'.dropLast = [] := Decidable.not_not.mp (of_decide_eq_false hb2)
            refine ⟨[], by simp; omega, rfl, E7.trans e8, by rw [← hne]; exact e8 _ _ ho7, ?_⟩
            rw [hstep, if_pos hne]
      · have hc := of_decide_eq_false hb
        refine ⟨some (.ref p), some (.int (z.2 : Int)), rfl, e'.trans e6, ?_, ?_⟩
        · show H6 o = some (.lst (izs (dClose (st.length + 1) (st ++ [(z.2 : Int)]))))
          rw [hc', dClose_stop st' hc]
          exact e6 _ _ ho'
        · show (dClose (st.length + 1) (st ++ [(z.2 : Int)])).length ≤ i + 1
          rw [hc', dClose_stop st' hc]
          exact hl'
    · rintro σ' H' ⟨s3, s4, rfl, e, _⟩
      rw [show zs.take vs.length = zs by rw [h2.1]; exact List.take_length]
      exact s_ret (ev_var rfl) (fun H3 e3 => k H3 (e.trans e3))
def sp_variables_of : Sp := fun vs H Q _ => ∃ (zs : List Sg) (v : V), vs = [v] ∧ TermAt zs v H ∧ RetL [] H Q
theorem sc_variables_of : FnScope ["term", "found", "sign"] ["term"] (defScope s_variables_of) := ⟨rfl, rfl, rfl, by decide +kernel, rfl, by decide +kernel, by decide +kernel⟩
theorem ok_variables_of (Z : Zx K mg) : OkD prog w K mg base CX0 2 "variables_of" ["term"] (sp_variables_of) := by
  obtain ⟨fd, F0⟩ := Z.fun_ 5
  have F : Fun K "variables_of" "variables_of" s_variables_of (He.ga K "variables_of") fd := Wk.fun_of F0
  obtain ⟨_, g_is_variable, b_is_variable, m_is_variable, k_is_variable⟩ := ok_is_variable (w := w) (base := base) Z
  have n_list := Z.free 69 (x := "list")
  refine ⟨fd, ?_, F.binds (ps := ["term"]) fun _ _ _ _ _ _ us hl => match us, hl with | [_], _ => rfl, Z.glo 5, F.kp⟩
  refine F.ok sc_variables_of (fun vs H Q E h => ?_) (fun cdv A outer s H vs Q E hr h => ?_)
  · obtain ⟨zs, v, rfl, ⟨q, vs, rfl, h1, h2⟩, k⟩ := h
    rfl
  · obtain ⟨zs, v, rfl, ⟨q, vs, rfl, h1, h2⟩, k⟩ := h
    have hu1 := hu_of hr
    refine ⟨_, (pss_cons (ps_set (i := 1) sc_variables_of.nd rfl (by first | exact Or.inl rfl | exact Or.inr rfl) pe_dnewK) (pss_cons (ps_for PassesOwn.never rfl (pi_tup (pv 0)) (pg_name (i := 2) sc_variables_of.nd rfl (by first | exact Or.inl rfl | exact Or.inr rfl)) (pss_one (ps_if (pt_val (pe_call g_is_variable (hr.mono (by decide)) (by rfl) m_is_variable k_is_variable b_is_variable .nil pass0 (pa_cons (pv 2) pa_nil))) (pss_one (ps_dput hu1 (pv 1) (pv 2) pe_bl rfl)) pss_nil))) (pss_one (ps_ret (pe_callTy (call_listD rfl) (by rfl) n_list (by decide +kernel) (pa_cons (pv 1) pa_nil)))))), ?_⟩
    have hvl := h2.1
    refine q_dnew (fun o H1 ho e1 h3 => ?_)
    refine q_forT (K := K) (xs := vs) (ev_var rfl) (st_of (e1 _ _ h1)) (fun i σ' H' => ∃ s2, σ' = [some (.ref q), some (.ref o), s2] ∧ Ex H H' ∧ H' o = some (.dK [])) (fun H3 e3 => ⟨none, rfl, e1.trans e3, e3 _ _ h3⟩) (fun i σ' H' hi ⟨s2, hσ, e, _⟩ => st_of (e _ _ h1)) ?_ ?_
    · rintro i x σ' H' hx ⟨s2, rfl, e, ho'⟩
      obtain ⟨z, hz, p, rfl, hp⟩ := AllV.at (P := fun z v H => SgOk H v z) (as := zs) h2 hx
      exact s_when (b := false) (et_B (ev_call (z := .bl false) (ea_cons (ev_var rfl) ea_nil) (fun H4 e4 Q1 q1 E1 => ⟨.ref p, rfl, .inr ⟨p, _, rfl, e4 _ _ (e _ _ hp), q1 H4 (Ex.refl _)⟩⟩))) (fun h => absurd h (by decide)) (fun _ H4 e4 => ⟨_, rfl, e.trans e4, e4 _ _ ho'⟩)
    · rintro σ' H' ⟨s2, rfl, e, ho'⟩
      exact s_retL (xs := []) (fun H3 e3 Q1 q1 => ev_var (i := 1) (v := .ref o) rfl H3 (Ex.refl _) _ (fun H4 e4 => ⟨o, [], rfl, .inl (e4 _ _ (e3 _ _ ho')), fun p hp => q1 p _ (fresh_back e4 hp) (e4.trans (Ex.new hp)) upd_same⟩)) (fun p H3 hp e3 h3 => k p H3 (fresh_back e hp) (e.trans e3) h3)
def sp_put_in : Sp := fun vs H Q _ => ∃ (zs : List Sg) (v : V) (d : Addr), vs = [.ref d, v] ∧ TermAt zs v H ∧ zs.length ≤ 5000 ∧ RetV v H Q
theorem sc_put_in : FnScope ["bindings", "term", "sign", "found"] ["bindings", "term"] (defScope s_put_in) := ⟨rfl, rfl, rfl, by decide +kernel, rfl, by decide +kernel, by decide +kernel⟩
theorem ok_put_in (Z : Zx K mg) : OkD prog w K mg base CX0 2 "put_in" ["bindings", "term"] (sp_put_in) := by
  obtain ⟨fd, F0⟩ := Z.fun_ 4
  have F : Fun K "put_in" "put_in" s_put_in (He.ga K "put_in") fd := Wk.fun_of F0
  obtain ⟨_, g_is_variable, b_is_variable, m_is_variable, k_is_variable⟩ := ok_is_variable (w := w) (base := base) Z
  have n_any := Z.free 63 (x := "any")
  refine ⟨fd, ?_, F.binds (ps := ["bindings", "term"]) fun _ _ _ _ _ _ us hl => match us, hl with | [_, _], _ => rfl, Z.glo 4, F.kp⟩
  refine F.ok sc_put_in (fun vs H Q E h => ?_) (fun cdv A outer s H vs Q E hr h => ?_)
  · obtain ⟨zs, v, d, rfl, ⟨q, vs, rfl, h1, h2⟩, hl, k⟩ := h
    rfl
  · obtain ⟨zs, v, d, rfl, ⟨q, vs, rfl, h1, h2⟩, hl, k⟩ := h
    have hu1 := hu_of hr
    refine ⟨_, (pss_cons (ps_if (pt_not (pt_val (pe_callB (cr_any rfl) (by rfl) n_any (by decide +kernel) (pa_cons (pe_lc (te := (tAndV (tCall (sp_is_variable K) [] (fun _ _ _ => False) (tCons (tVar 2) tNil)) (tDIn (tVar 2) (tVar 0)))) (own := [("sign", 2)]) rfl sc_put_in.nd (pi_tup (pv 1)) (blkOk_by (own := [("sign", 2)]) (N := ["bindings", "term", "sign", "found"]) (sc := defScope s_put_in) (by decide +kernel)) (fun _ _ _ _ _ => pg_name (i := 2) sc_put_in.nd rfl (by first | exact Or.inl rfl | exact Or.inr rfl)) (fun _ _ _ _ _ => pts_nil) (fun _ _ _ _ _ => (pe_and (pe_call g_is_variable (hr.mono (by decide)) (by rfl) m_is_variable k_is_variable b_is_variable .nil pass0 (pa_cons (pv 2) pa_nil)) (pe_one (pe_cmp (pc_din hu1 (pv 2) (pv 0)) (by rfl)))))) pa_nil)))) (pss_one (ps_ret (pv 1))) pss_nil) (pss_cons ps_never (pss_cons ps_never (pss_one ps_never)))), ?_⟩
    have hvl := h2.1
    refine q_when (b := true) (et_is (et_not (et_B (ev_anyc (p := fun _ => false) (as := vs) (inj := id) (ei_T (K := K) (ev_var rfl) (by rw [List.map_id]; exact st_of h1)) (by omega) (fun _ => rfl) (fun x hx H1 e1 => ?_)))) ?_) (fun _ H1 e1 => s_ret (ev_var rfl) (fun H2 e2 => k H2 (e1.trans e2))) (fun h => absurd h (by decide))
    · obtain ⟨i, hi⟩ := List.getElem?_of_mem hx
      obtain ⟨z, hz, p, rfl, hp⟩ := AllV.at (P := fun z v H => SgOk H v z) (as := zs) h2 hi
      exact ev_andV (a := false) (b := false) (ev_call (z := .bl false) (ea_cons (ev_var rfl) ea_nil) (fun H2 e2 Q1 q1 E1 => ⟨.ref p, rfl, .inr ⟨p, _, rfl, e2 _ _ (e1 _ _ hp), q1 H2 (Ex.refl _)⟩⟩)) (fun h => absurd h (by decide))
    · rw [any_false]
      rfl

end
end Tx
end
section
set_option Elab.async false
set_option linter.all false
set_option maxRecDepth 100000
set_option maxHeartbeats 4000000
namespace Tx
open PySem PySem.Spec PyProof.Rows L2 Evl Wk
section
variable {w : World} {K : PySem.W.Frag} {mg : Str → Option Value} {base : Heap}

def sp_Literal_init (K : PySem.W.Frag) : Sp := fun vs H Q _ => ∃ (B : Hp) (x dx : Addr) (t d : V), vs = [.ref x, t, d] ∧ B x = none ∧ Ex B H ∧ H x = some (.ins (He.ga K "Literal") dx []) ∧
  ∀ H', Ex B H' → H' x = some (.ins (He.ga K "Literal") dx [("atom", t), ("is_denied", d)]) → Q .non H'
def sp_Clause_init (K : PySem.W.Frag) : Sp := fun vs H Q _ => ∃ (B : Hp) (x dx : Addr) (t d : V), vs = [.ref x, t, d] ∧ B x = none ∧ Ex B H ∧ H x = some (.ins (He.ga K "Clause") dx []) ∧
  ∀ H', Ex B H' → H' x = some (.ins (He.ga K "Clause") dx [("head", t), ("body", d)]) → Q .non H'
theorem sc_Literal___init__ : FnScope ["self", "atom", "is_denied"] ["self", "atom", "is_denied"] (defScope s_Literal___init__) := ⟨rfl, rfl, rfl, by decide +kernel, rfl, by decide +kernel, by decide +kernel⟩
theorem ok_Literal___init__ (Z : Zx K mg) : OkC prog w K mg base 1 "Literal" ["self", "atom", "is_denied"] (sp_Literal_init K) := by
  obtain ⟨fd, F0⟩ := Z.fun_ 15
  have F : Fun K "__init__" "Literal.__init__" s_Literal___init__ (He.ma K (He.ga K "Literal") "__init__") fd := Wk.fun_of F0
  have na_Literal_atom := Z.noat 108 (x := "Literal") (f := "atom")
  have na_Literal_is_denied := Z.noat 109 (x := "Literal") (f := "is_denied")
  have cl_Literal := Z.cls 105 (x := "Literal")
  refine ⟨fd, ?_, F.binds (ps := ["self", "atom", "is_denied"]) fun _ _ _ _ _ _ us hl => match us, hl with | [_, _, _], _ => rfl, Z.glo 56, Z.mkr 106⟩
  refine F.ok sc_Literal___init__ (fun vs H Q E h => ?_) (fun cdv A outer s H vs Q E hr h => ?_)
  · obtain ⟨B, x, dx, t, d, rfl, hB, e, hx, k⟩ := h
    rfl
  · obtain ⟨B, x, dx, t, d, rfl, hB, e, hx, k⟩ := h
    refine ⟨_, (pss_cons (ps_fld (pv 0) (pv 1) rfl) (pss_one (ps_fld (pv 0) (pv 2) rfl))), ?_⟩
    refine q_fld (v := t) (ev_var rfl) (ev_var rfl) hx cl_Literal na_Literal_atom (few rfl) (fun H1 e1 => ?_)
    have E1 := Ex.mut (o := .ins (He.ga K "Literal") dx (putF "atom" t [])) (e.trans e1) hB
    refine s_fld (v := d) (ev_var rfl) (ev_var rfl) upd_same cl_Literal na_Literal_is_denied (few rfl) (fun H2 e2 => ?_)
    exact k _ (Ex.mut (E1.trans e2) hB) upd_same
theorem sc_Clause___init__ : FnScope ["self", "head", "body"] ["self", "head", "body"] (defScope s_Clause___init__) := ⟨rfl, rfl, rfl, by decide +kernel, rfl, by decide +kernel, by decide +kernel⟩
theorem ok_Clause___init__ (Z : Zx K mg) : OkC prog w K mg base 1 "Clause" ["self", "head", "body"] (sp_Clause_init K) := by
  obtain ⟨fd, F0⟩ := Z.fun_ 16
  have F : Fun K "__init__" "Clause.__init__" s_Clause___init__ (He.ma K (He.ga K "Clause") "__init__") fd := Wk.fun_of F0
  have na_Clause_head := Z.noat 113 (x := "Clause") (f := "head")
  have na_Clause_body := Z.noat 114 (x := "Clause") (f := "body")
  have cl_Clause := Z.cls 110 (x := "Clause")
  refine ⟨fd, ?_, F.binds (ps := ["self", "head", "body"]) fun _ _ _ _ _ _ us hl => match us, hl with | [_, _, _], _ => rfl, Z.glo 57, Z.mkr 111⟩
  refine F.ok sc_Clause___init__ (fun vs H Q E h => ?_) (fun cdv A outer s H vs Q E hr h => ?_)
  · obtain ⟨B, x, dx, t, d, rfl, hB, e, hx, k⟩ := h
    rfl
  · obtain ⟨B, x, dx, t, d, rfl, hB, e, hx, k⟩ := h
    refine ⟨_, (pss_cons (ps_fld (pv 0) (pv 1) rfl) (pss_one (ps_fld (pv 0) (pv 2) rfl))), ?_⟩
    refine q_fld (v := t) (ev_var rfl) (ev_var rfl) hx cl_Clause na_Clause_head (few rfl) (fun H1 e1 => ?_)
    have E1 := Ex.mut (o := .ins (He.ga K "Clause") dx (putF "head" t [])) (e.trans e1) hB
    refine s_fld (v := d) (ev_var rfl) (ev_var rfl) upd_same cl_Clause na_Clause_body (few rfl) (fun H2 e2 => ?_)
    exact k _ (Ex.mut (E1.trans e2) hB) upd_same
def termV (z : List Sg) (v : V) (H : Hp) : Prop := TermAt z v H
def sp_atoms_of (K : PySem.W.Frag) : Sp := fun vs H Q _ => ∃ (z : Cl) (v : V), vs = [v] ∧ ClAt K z v H ∧ z.2.length ≤ 100 ∧ ∀ p ts H', H p = none → Ex H H' → H' p = some (.lst ts) → AllV TermAt (z.1 :: z.2.map Prod.fst) ts H' → Q (.ref p) H'
theorem sc_atoms_of : FnScope ["clause", "literal"] ["clause"] (defScope s_atoms_of) := ⟨rfl, rfl, rfl, by decide +kernel, rfl, by decide +kernel, by decide +kernel⟩
theorem ok_atoms_of (Z : Zx K mg) : OkD prog w K mg base CX0 1 "atoms_of" ["clause"] (sp_atoms_of K) := by
  obtain ⟨fd, F0⟩ := Z.fun_ 17
  have F : Fun K "atoms_of" "atoms_of" s_atoms_of (He.ga K "atoms_of") fd := Wk.fun_of F0
  have na_Literal_atom := Z.noat 108 (x := "Literal") (f := "atom")
  have na_Clause_head := Z.noat 113 (x := "Clause") (f := "head")
  have na_Clause_body := Z.noat 114 (x := "Clause") (f := "body")
  have cl_Clause := Z.cls 110 (x := "Clause")
  have cl_Literal := Z.cls 105 (x := "Literal")
  refine ⟨fd, ?_, F.binds (ps := ["clause"]) fun _ _ _ _ _ _ us hl => match us, hl with | [_], _ => rfl, Z.glo 10, F.kp⟩
  refine F.ok sc_atoms_of (fun vs H Q E h => ?_) (fun cdv A outer s H vs Q E hr h => ?_)
  · obtain ⟨z, v, rfl, ⟨p, dx, t, b, us, rfl, h1, h2, h3, h4⟩, hl, k⟩ := h
    rfl
  · obtain ⟨z, v, rfl, ⟨p, dx, t, b, us, rfl, h1, h2, h3, h4⟩, hl, k⟩ := h
    refine ⟨_, (pss_one (ps_ret (pe_op op_cat (pe_lst (pa_cons (pe_fld (pv 0) (by rfl)) pa_nil)) (pe_lc (te := (tFld K (tVar 1) "atom")) (own := [("literal", 1)]) rfl sc_atoms_of.nd (pi_list (pe_fld (pv 0) (by rfl))) (blkOk_by (own := [("literal", 1)]) (N := ["clause", "literal"]) (sc := defScope s_atoms_of) (by decide +kernel)) (fun _ _ _ _ _ => pg_name (i := 1) sc_atoms_of.nd rfl (by first | exact Or.inl rfl | exact Or.inr rfl)) (fun _ _ _ _ _ => pts_nil) (fun _ _ _ _ _ => (pe_fld (pv 1) (by rfl))))))), ?_⟩
    have hul := h4.1
    refine sx_ret (P := fun v H' => ∃ p ts, v = .ref p ∧ H p = none ∧ H' p = some (.lst ts) ∧ AllV TermAt (z.1 :: z.2.map Prod.fst) ts H') ?_ ?_
    · intro H0 e0 Q0 q0
      have hh : EvL (tLst (tCons (tFld K (tVar 0) "head") tNil)) (L2.start ["clause", "literal"] [V.ref p]) H [t] := el_lst (ea_cons (ev_fld (f := "head") (ev_var rfl) h1 cl_Clause na_Clause_head rfl) ea_nil) (few5 rfl)
      refine hh H0 e0 _ (fun l1 H1 hl1 e1 g1 => ?_)
      have hc : EvX (tLc (iList K (tFld K (tVar 0) "body")) (gName 1) tYes (tFld K (tVar 1) "atom") [1]) (L2.start ["clause", "literal"] [V.ref p]) H _ := x_lc (xs := us) (fun i t H => ∃ a, z.2[i]? = some a ∧ TermAt a.1 t H) (fun i v H H' n ⟨a, ha, h⟩ => ⟨a, ha, TermAt.mn _ _ _ _ n h⟩) (ei_L (K := K) (ev_fld (f := "body") (ev_var rfl) h1 cl_Clause na_Clause_body rfl) (sq_of h3)) (by omega) (fun _ => rfl) (fun i x hx H2 e2 => ?_)
      refine hc H1 (e0.trans e1) _ (fun v2 H2 e2 ⟨l2, ys, ev2, hl2, g2, g3, g4⟩ => ?_)
      rotate_left
      · obtain ⟨a, ha, pl, dl, tl, rfl, m1, m2⟩ := AllV.at h4 hx
        intro H3 e3 Q3 q3
        exact ev_fld (K := K) (f := "atom") (ev_var rfl) (e3 _ _ (e2 _ _ m1)) cl_Literal na_Literal_atom rfl H3 (Ex.refl _) _ (fun H4 e4 => q3 _ H4 e4 ⟨a, ha, (TermAt.mn a.1).mo _ _ _ (e2.trans (e3.trans e4)) m2⟩)
      · subst ev2
        refine ⟨l1, l2, [t], ys, rfl, rfl, e2 _ _ g1, g2, by rw [g3]; show 1 + us.length ≤ sizeLine; exact sz_of (by omega), fun q hq => ?_⟩
        have e3 : Ex H2 (upd H2 q (.lst ([t] ++ ys))) := Ex.new hq
        refine q0 _ _ ((e1.trans e2).trans e3) ⟨q, [t] ++ ys, rfl, fresh_back (e0.trans (e1.trans e2)) hq, upd_same, ?_, fun i v a hv ha => ?_⟩
        · rw [List.length_append, g3, hul]; simp; omega
        · cases i with
          | zero =>
            cases hv; cases ha
            exact (TermAt.mn z.1).mo _ _ _ ((e0.trans (e1.trans e2)).trans e3) h2
          | succ i =>
            have hv' : ys[i]? = some v := hv
            have ha' : (z.2.map Prod.fst)[i]? = some a := ha
            obtain ⟨c, hc, m⟩ := g4 i v hv'
            rw [List.getElem?_map, hc] at ha'
            cases ha'
            exact (TermAt.mn c.1).mo _ _ _ e3 m
    · rintro v H1 e1 ⟨q, ts, rfl, hq, hts, hall⟩
      exact k q ts H1 hq e1 hts hall

end
end Tx
end
section
set_option Elab.async false
set_option linter.all false
set_option maxRecDepth 100000
set_option maxHeartbeats 4000000
namespace Tx
open PySem PySem.Spec PyProof.Rows L2 Evl Wk
section
variable {w : World} {K : PySem.W.Frag} {mg : Str → Option Value} {base : Heap}

def SzC (z : Cl) : Prop := z.2.length ≤ 10 ∧ ∀ a, a ∈ z.1 :: z.2.map Prod.fst → a.length ≤ 5000
def sp_all_variables (K : PySem.W.Frag) : Sp := fun vs H Q _ => ∃ (z : Cl) (v : V), vs = [v] ∧ ClAt K z v H ∧ SzC z ∧ RetL [] H Q
theorem sc_all_variables : FnScope ["clause", "signs", "atom"] ["clause"] (defScope s_all_variables) := ⟨rfl, rfl, rfl, by decide +kernel, rfl, by decide +kernel, by decide +kernel⟩
theorem ok_all_variables (Z : Zx K mg) : OkD prog w K mg base CX0 3 "all_variables" ["clause"] (sp_all_variables K) := by
  obtain ⟨fd, F0⟩ := Z.fun_ 19
  have F : Fun K "all_variables" "all_variables" s_all_variables (He.ga K "all_variables") fd := Wk.fun_of F0
  obtain ⟨_, g_atoms_of, b_atoms_of, m_atoms_of, k_atoms_of⟩ := ok_atoms_of (w := w) (base := base) Z
  obtain ⟨_, g_variables_of, b_variables_of, m_variables_of, k_variables_of⟩ := ok_variables_of (w := w) (base := base) Z
  have n_tuple := Z.free 76 (x := "tuple")
  refine ⟨fd, ?_, F.binds (ps := ["clause"]) fun _ _ _ _ _ _ us hl => match us, hl with | [_], _ => rfl, Z.glo 12, F.kp⟩
  refine F.ok sc_all_variables (fun vs H Q E h => ?_) (fun cdv A outer s H vs Q E hr h => ?_)
  · obtain ⟨z, v, rfl, hc, ⟨hz1, hz2⟩, k⟩ := h
    rfl
  · obtain ⟨z, v, rfl, hc, ⟨hz1, hz2⟩, k⟩ := h
    refine ⟨_, (pss_cons (ps_set (i := 1) sc_all_variables.nd rfl (by first | exact Or.inl rfl | exact Or.inr rfl) (pe_lst pa_nil)) (pss_cons (ps_for PassesOwn.never rfl (pi_list (pe_call g_atoms_of (hr.mono (by decide)) (by rfl) m_atoms_of k_atoms_of b_atoms_of .nil pass0 (pa_cons (pv 0) pa_nil))) (pg_name (i := 2) sc_all_variables.nd rfl (by first | exact Or.inl rfl | exact Or.inr rfl)) (pss_one (ps_expr (pe_bm PySem.F.plainAttrs_list PySem.F.slot_list_extend PySem.F.type_list_extend mt_extendT (pv 1) (pa_cons (pv 2) pa_nil))))) (pss_one (ps_ret (pe_call g_variables_of (hr.mono (by decide)) (by rfl) m_variables_of k_variables_of b_variables_of .nil pass0 (pa_cons (pe_callTy call_tuple_of (by rfl) n_tuple (by decide +kernel) (pa_cons (pv 1) pa_nil)) pa_nil)))))), ?_⟩
    refine q_asgL (xs := []) (el_lst ea_nil (few5 rfl)) (fun o H1 ho e1 h1 => ?_)
    have hal : (z.1 :: z.2.map Prod.fst).length = z.2.length + 1 := by simp
    refine q_forX (K := K) (PL := fun p ts H' => AllV TermAt (z.1 :: z.2.map Prod.fst) ts H') (x_call (ea_cons (ev_var rfl) ea_nil) (fun H2 e2 Q2 q2 E2 => ⟨z, v, rfl, ClAt.mo _ _ _ _ _ (e1.trans e2) hc, by omega, fun p ts H3 hp e3 h3 h4 => q2 _ H3 e3 ⟨p, ts, rfl, fresh_back e2 hp, h3, h4⟩⟩)) (fun q ts H2 hq e2 hts hall => ?_)
    have hlen := hall.1
    refine ⟨fun i σ' H' => ∃ s2, σ' = [some v, some (.ref o), s2] ∧ Ex H H' ∧ H' q = some (.lst ts) ∧ Tu H2 H' ∧ ∃ us zs, H' o = some (.lst us) ∧ SgL H' us zs ∧ us.length ≤ i * 5000, ⟨none, rfl, e1.trans e2, hts, .refl _, [], [], e2 _ _ h1, SgL.nil _, by simp⟩, fun i σ' H' hi ⟨s2, _, _, h, _⟩ => sq_of h, ?_, ?_⟩
    · rintro i x σ' H' hx ⟨s2, rfl, e, hq', tu, us, zs, g1, g2, g3⟩
      have hi : i < ts.length := (List.getElem?_eq_some_iff.mp hx).1
      obtain ⟨a, ha, p, ws, rfl, m1, m2⟩ := AllV.at hall hx
      have hm := hz2 a (List.mem_of_getElem? ha)
      have hwl := m2.1
      have hqo : q ≠ o := fun h => by
        subst h
        rw [h1] at hq
        cases hq
      refine s_extT (xs := us) (zs := ws) g1 (ev_var rfl) (ev_var rfl) (tu _ _ m1) (by have : i * 5000 ≤ 10 * 5000 := Nat.mul_le_mul_right _ (by omega); omega) (fun H3 e3 => ?_)
      have t3 : Tu H' (upd H3 o (.lst (us ++ ws))) := (Tu.of e3).trans (.lst (e3 _ _ g1))
      refine ⟨_, rfl, Ex.mut (e.trans e3) (fresh_back (Ex.refl _) ho), ?_, tu.trans t3, us ++ ws, zs ++ a, upd_same, ?_, ?_⟩
      · rw [upd_ne hqo]; exact e3 _ _ hq'
      · exact SgL.cat (g2.tu t3) ((m2.tu tu).tu t3)
      · rw [List.length_append, Nat.add_mul]; omega
    · rintro σ' H' ⟨s2, rfl, e, hq', tu, us, zs, g1, g2, g3⟩
      refine sx_ret (P := fun v H2 => ∃ p, v = .ref p ∧ H' p = none ∧ H2 p = some (.lst [])) (x_callX (x_one (x_evU (eu_tuple (K := K) (ev_var rfl) (sq_of g1)))) ?_) ?_
      · rintro vs H3 e3 ⟨v3, rfl, p, rfl, hp⟩ Q3 q3 E3
        exact ⟨zs, .ref p, rfl, ⟨p, us, rfl, hp, g2.tu (.of e3)⟩, fun p2 H4 hp2 e4 h4 => q3 _ H4 e4 ⟨p2, rfl, fresh_back e3 hp2, h4⟩⟩
      · rintro v3 H3 e3 ⟨p, rfl, hp, h3⟩
        exact k p H3 (fresh_back e hp) (e.trans e3) h3
def sp_changed_clause (K : PySem.W.Frag) : Sp := fun vs H Q _ => ∃ (z : Cl) (v : V) (d : Addr), vs = [v, .ref d] ∧ ClAt K z v H ∧ SzC z ∧ ∀ u H', Ex H H' → ClAtB K H z u H' → Q u H'
theorem sc_changed_clause : FnScope ["clause", "change", "body", "literal"] ["clause", "change"] (defScope s_changed_clause) := ⟨rfl, rfl, rfl, by decide +kernel, rfl, by decide +kernel, by decide +kernel⟩
theorem ok_changed_clause (Z : Zx K mg) : OkD prog w K mg base CX0 3 "changed_clause" ["clause", "change"] (sp_changed_clause K) := by
  obtain ⟨fd, F0⟩ := Z.fun_ 18
  have F : Fun K "changed_clause" "changed_clause" s_changed_clause (He.ga K "changed_clause") fd := Wk.fun_of F0
  obtain ⟨_, g_put_in, b_put_in, m_put_in, k_put_in⟩ := ok_put_in (w := w) (base := base) Z
  obtain ⟨_, g_Clause, b_Clause, m_Clause, k_Clause⟩ := ok_Clause___init__ (w := w) (base := base) Z
  obtain ⟨_, g_Literal, b_Literal, m_Literal, k_Literal⟩ := ok_Literal___init__ (w := w) (base := base) Z
  have na_Literal_atom := Z.noat 108 (x := "Literal") (f := "atom")
  have na_Literal_is_denied := Z.noat 109 (x := "Literal") (f := "is_denied")
  have na_Clause_head := Z.noat 113 (x := "Clause") (f := "head")
  have na_Clause_body := Z.noat 114 (x := "Clause") (f := "body")
  have cl_Clause := Z.cls 110 (x := "Clause")
  have cl_Literal := Z.cls 105 (x := "Literal")
  refine ⟨fd, ?_, F.binds (ps := ["clause", "change"]) fun _ _ _ _ _ _ us hl => match us, hl with | [_, _], _ => rfl, Z.glo 11, F.kp⟩
  refine F.ok sc_changed_clause (fun vs H Q E h => ?_) (fun cdv A outer s H vs Q E hr h => ?_)
  · obtain ⟨z, v, d, rfl, ⟨p, dx, t, b, us, rfl, h1, h2, h3, h4⟩, ⟨hz1, hz2⟩, k⟩ := h
    rfl
  · obtain ⟨z, v, d, rfl, ⟨p, dx, t, b, us, rfl, h1, h2, h3, h4⟩, ⟨hz1, hz2⟩, k⟩ := h
    refine ⟨_, (pss_cons (ps_setLc (i := 2) (te := (tMake (He.ga K "Literal") (sp_Literal_init K) [] (fun _ _ _ => False) (tCons (tCall (sp_put_in) [] (fun _ _ _ => False) (tCons (tVar 1) (tCons (tFld K (tVar 3) "atom") tNil))) (tCons (tFld K (tVar 3) "is_denied") tNil)))) (own := [("literal", 3)]) rfl sc_changed_clause.nd rfl rfl (sw_true rfl rfl rfl (by decide +kernel)) (pi_list (pe_fld (pv 0) (by rfl))) (blkOk_by (own := [("literal", 3)]) (N := ["clause", "change", "body", "literal"]) (sc := defScope s_changed_clause) (by decide +kernel)) (fun _ _ _ _ _ => pg_name (i := 3) sc_changed_clause.nd rfl (by first | exact Or.inl rfl | exact Or.inr rfl)) (fun _ _ _ _ _ => pts_nil) (fun _ _ _ _ _ => (pe_make k_Literal g_Literal (hr.mono (by decide)) (by rfl) m_Literal b_Literal .nil pass0 (pa_cons (pe_call g_put_in (hr.mono (by decide)) (by rfl) m_put_in k_put_in b_put_in .nil pass0 (pa_cons (pv 1) (pa_cons (pe_fld (pv 3) (by rfl)) pa_nil))) (pa_cons (pe_fld (pv 3) (by rfl)) pa_nil))))) (pss_one (ps_ret (pe_make k_Clause g_Clause (hr.mono (by decide)) (by rfl) m_Clause b_Clause .nil pass0 (pa_cons (pe_call g_put_in (hr.mono (by decide)) (by rfl) m_put_in k_put_in b_put_in .nil pass0 (pa_cons (pv 1) (pa_cons (pe_fld (pv 0) (by rfl)) pa_nil))) (pa_cons (pv 2) pa_nil)))))), ?_⟩
    have hul := h4.1
    refine qx_asg (P := fun v H' => ∃ q ys, v = .ref q ∧ H q = none ∧ H' q = some (.lst ys) ∧ ys.length = us.length ∧ ∀ (i : Nat) y, ys[i]? = some y → ∃ a, z.2[i]? = some a ∧ LitAt K a y H') (x_lc (xs := us) (fun i u H => ∃ a, z.2[i]? = some a ∧ LitAt K a u H) (fun i v H H' n ⟨a, ha, h⟩ => ⟨a, ha, LitAt.mn _ _ _ _ _ n h⟩) (ei_L (K := K) (ev_fld (f := "body") (ev_var rfl) h1 cl_Clause na_Clause_body rfl) (sq_of h3)) (by omega) (fun _ => rfl) (fun i x hx H1 e1 => ?_)) (fun v H1 e1 ⟨q, ys, ev, hq, g1, g2, g3⟩ => ?_)
    · obtain ⟨a, ha, pl, dl, tl, rfl, m1, m2⟩ := AllV.at h4 hx
      have hal : a.1.length ≤ 5000 := hz2 a.1 (List.mem_cons_of_mem _ (List.mem_map_of_mem (List.mem_of_getElem? ha)))
      refine x_make (PA := fun us _ => us = [tl, .bl a.2]) (x_ofA (ea_cons (ev_call (z := tl) (ea_cons (ev_var rfl) (ea_cons (ev_fld (f := "atom") (ev_var rfl) (e1 _ _ m1) cl_Literal na_Literal_atom rfl) ea_nil)) (fun H2 e2 Q2 q2 E2 => ⟨a.1, tl, d, rfl, TermAt.mo _ _ _ _ (e1.trans e2) m2, hal, q2⟩)) (ea_cons (ev_fld (f := "is_denied") (ev_var rfl) (e1 _ _ m1) cl_Literal na_Literal_is_denied rfl) ea_nil))) ?_
      rintro vs H2 x dx e2 rfl hx2 hdx hn Q2 q2 E2
      exact ⟨H2, x, dx, tl, .bl a.2, rfl, hx2, Ex.mut (Ex.new hdx) hx2, upd_same, fun H3 e3 h3 => q2 H3 e3 ⟨a, ha, x, dx, tl, rfl, h3, TermAt.mo _ _ _ _ ((e1.trans e2).trans e3) m2⟩⟩
    · subst ev
      refine sx_ret (P := ClAtB K H z) (x_make (PA := fun us _ => us = [t, .ref q]) (x_ofA (ea_cons (ev_call (z := t) (ea_cons (ev_var rfl) (ea_cons (ev_fld (f := "head") (ev_var rfl) (e1 _ _ h1) cl_Clause na_Clause_head rfl) ea_nil)) (fun H2 e2 Q2 q2 E2 => ⟨z.1, t, d, rfl, TermAt.mo _ _ _ _ (e1.trans e2) h2, hz2 _ List.mem_cons_self, q2⟩)) (ea_cons (ev_var rfl) ea_nil))) ?_) (fun u H2 e2 hu => k u H2 (e1.trans e2) hu)
      rintro vs H2 x dx e2 rfl hx2 hdx hn Q2 q2 E2
      refine ⟨H2, x, dx, t, .ref q, rfl, hx2, Ex.mut (Ex.new hdx) hx2, upd_same, fun H3 e3 h3 => q2 H3 e3 ⟨x, dx, t, q, ys, rfl, h3, TermAt.mo _ _ _ _ ((e1.trans e2).trans e3) h2, e3 _ _ (e2 _ _ g1), ⟨by rw [g2, hul], fun i y a hy ha => ?_⟩, hq⟩⟩
      obtain ⟨a', ha', hl⟩ := g3 i y hy
      rw [ha] at ha'
      cases ha'
      exact (LitAt.mn K a).mo _ _ _ (e2.trans e3) hl
def sp_clause_from (K : PySem.W.Frag) : Sp := fun vs H Q _ => ∃ (z : Cl) (v : V) (n : Int), vs = [v, .int n] ∧ ClAt K z v H ∧ SzC z ∧ ∀ u H', Ex H H' → ClAtB K H z u H' → Q u H'
theorem sc_clause_from : FnScope ["clause", "start", "change", "at", "variable"] ["clause", "start"] (defScope s_clause_from) := ⟨rfl, rfl, rfl, by decide +kernel, rfl, by decide +kernel, by decide +kernel⟩
theorem ok_clause_from (Z : Zx K mg) : OkD prog w K mg base CX0 4 "clause_from" ["clause", "start"] (sp_clause_from K) := by
  obtain ⟨fd, F0⟩ := Z.fun_ 20
  have F : Fun K "clause_from" "clause_from" s_clause_from (He.ga K "clause_from") fd := Wk.fun_of F0
  obtain ⟨_, g_all_variables, b_all_variables, m_all_variables, k_all_variables⟩ := ok_all_variables (w := w) (base := base) Z
  obtain ⟨_, g_changed_clause, b_changed_clause, m_changed_clause, k_changed_clause⟩ := ok_changed_clause (w := w) (base := base) Z
  have n_enumerate := Z.free 65 (x := "enumerate")
  refine ⟨fd, ?_, F.binds (ps := ["clause", "start"]) fun _ _ _ _ _ _ us hl => match us, hl with | [_, _], _ => rfl, Z.glo 13, F.kp⟩
  refine F.ok sc_clause_from (fun vs H Q E h => ?_) (fun cdv A outer s H vs Q E hr h => ?_)
  · obtain ⟨z, v, n, rfl, hc, hz, k⟩ := h
    rfl
  · obtain ⟨z, v, n, rfl, hc, hz, k⟩ := h
    refine ⟨_, (pss_cons (ps_set (i := 2) sc_clause_from.nd rfl (by first | exact Or.inl rfl | exact Or.inr rfl) pe_dnewK) (pss_cons (ps_for PassesOwn.never rfl (pi_enum (by rfl) n_enumerate (pa_cons (pe_call g_all_variables (hr.mono (by decide)) (by rfl) m_all_variables k_all_variables b_all_variables .nil pass0 (pa_cons (pv 0) pa_nil)) pa_nil)) (pg_tup rfl (pgs_cons (pg_name (i := 3) sc_clause_from.nd rfl (by first | exact Or.inl rfl | exact Or.inr rfl)) (pgs_cons (pg_name (i := 4) sc_clause_from.nd rfl (by first | exact Or.inl rfl | exact Or.inr rfl)) pgs_nil))) (pss_one ps_never)) (pss_one (ps_ret (pe_call g_changed_clause (hr.mono (by decide)) (by rfl) m_changed_clause k_changed_clause b_changed_clause .nil pass0 (pa_cons (pv 0) (pa_cons (pv 2) pa_nil))))))), ?_⟩
    refine q_dnew (fun o H1 ho e1 h1 => ?_)
    refine q_forEnum0 (K := K) ((x_call (P := fun v H' => ∃ p, v = .ref p ∧ H' p = some (.lst [])) (ea_cons (ev_var rfl) ea_nil) (fun H2 e2 Q2 q2 E2 => ⟨z, v, rfl, ClAt.mo _ _ _ _ _ (e1.trans e2) hc, hz, fun p H3 hp e3 h3 => q2 _ H3 e3 ⟨p, rfl, h3⟩⟩))) (fun H2 e2 => ?_)
    refine sx_ret (P := ClAtB K H z) (x_call (ea_cons (ev_var rfl) (ea_cons (ev_var rfl) ea_nil)) (fun H3 e3 Q3 q3 E3 => ⟨z, v, o, rfl, ClAt.mo _ _ _ _ _ ((e1.trans e2).trans e3) hc, hz, fun u H4 e4 hu => q3 u H4 e4 (hu.back ((e1.trans e2).trans e3))⟩)) (fun u H3 e3 hu => k u H3 ((e1.trans e2).trans e3) hu)

end
end Tx
end
section
set_option Elab.async false
set_option linter.all false
set_option maxRecDepth 100000
set_option maxHeartbeats 4000000
namespace Tx
open PySem PySem.Spec PyProof.Rows L2 Evl Wk
section
variable {w : World} {K : PySem.W.Frag} {mg : Str → Option Value} {base : Heap}

def sp_read_literal (K : PySem.W.Frag) : Sp := fun vs H Q _ => ∃ (l : List Nat) (s : Nat) (nm : Addr), vs = [.str (tx l), .int (s : Int), .ref nm] ∧ l.length ≤ 5000 ∧ s ≤ l.length ∧ NoG l ∧ ∀ v H', Ex H H' → ReadL K (readLit l s) v H' → Q v H'
theorem sc_read_literal : FnScope ["line", "start", "names", "is_denied", "found"] ["line", "start", "names"] (defScope s_read_literal) := ⟨rfl, rfl, rfl, by decide +kernel, rfl, by decide +kernel, by decide +kernel⟩
theorem ok_read_literal (Z : Zx K mg) : OkD prog w K mg base CX0 4 "read_literal" ["line", "start", "names"] (sp_read_literal K) := by
  obtain ⟨fd, F0⟩ := Z.fun_ 22
  have F : Fun K "read_literal" "read_literal" s_read_literal (He.ga K "read_literal") fd := Wk.fun_of F0
  have c_MOST_DEEP := Z.int 84 (x := "MOST_DEEP")
  have c_NOT := Z.str 87 (x := "NOT")
  obtain ⟨_, g_depth_of, b_depth_of, m_depth_of, k_depth_of⟩ := ok_depth_of (w := w) (base := base) Z
  obtain ⟨_, g_is_atom, b_is_atom, m_is_atom, k_is_atom⟩ := ok_is_atom (w := w) (base := base) Z
  obtain ⟨_, g_read_term, b_read_term, m_read_term, k_read_term⟩ := ok_read_term (w := w) (base := base) Z
  obtain ⟨_, g_Literal, b_Literal, m_Literal, k_Literal⟩ := ok_Literal___init__ (w := w) (base := base) Z
  have n_len := Z.free 68 (x := "len")
  refine ⟨fd, ?_, F.binds (ps := ["line", "start", "names"]) fun _ _ _ _ _ _ us hl => match us, hl with | [_, _, _], _ => rfl, Z.glo 15, F.kp⟩
  refine F.ok sc_read_literal (fun vs H Q E h => ?_) (fun cdv A outer s H vs Q E hr h => ?_)
  · obtain ⟨l, s, nm, rfl, hl, hs, hG, k⟩ := h
    rfl
  · obtain ⟨l, s, nm, rfl, hl, hs, hG, k⟩ := h
    refine ⟨_, (pss_cons (ps_set (i := 3) sc_read_literal.nd rfl (by first | exact Or.inl rfl | exact Or.inr rfl) (pe_cmpR op_eq (pe_slice sl_str (pv 0) (po_some (pv 1)) (po_some (pe_op op_add (pv 1) (pe_callB call_len_str (by rfl) n_len (by decide +kernel) (pa_cons (pe_gs c_NOT) pa_nil))))) (pe_gs c_NOT) (nomark _))) (pss_cons (ps_set (i := 4) sc_read_literal.nd rfl (by first | exact Or.inl rfl | exact Or.inr rfl) (pe_call g_read_term (hr.mono (by decide)) (by rfl) m_read_term k_read_term b_read_term .nil pass0 (pa_cons (pv 0) (pa_cons (pe_op op_add (pv 1) (pe_ifExp (pt_val (pv 3)) (pe_callB call_len_str (by rfl) n_len (by decide +kernel) (pa_cons (pe_gs c_NOT) pa_nil)) pe_int)) (pa_cons (pv 2) pa_nil))))) (pss_cons (ps_if (pw_or (pt_cmpR op_isN (pv 4) pe_non (nomark _)) (pw_or (pt_not (pt_val (pe_call g_is_atom (hr.mono (by decide)) (by rfl) m_is_atom k_is_atom b_is_atom .nil pass0 (pa_cons (pe_ix ix_tup (pv 4) pe_int (fun _ _ => rfl)) pa_nil)))) (pw_or1 (pt_cmpR op_gt (pe_call g_depth_of (hr.mono (by decide)) (by rfl) m_depth_of k_depth_of b_depth_of .nil pass0 (pa_cons (pe_ix ix_tup (pv 4) pe_int (fun _ _ => rfl)) pa_nil)) (pe_gi c_MOST_DEEP) (nomark _))))).pt (pss_one (ps_ret pe_non)) pss_nil) (pss_one (ps_ret (pe_tup (pa_cons (pe_make k_Literal g_Literal (hr.mono (by decide)) (by rfl) m_Literal b_Literal .nil pass0 (pa_cons (pe_ix ix_tup (pv 4) pe_int (fun _ _ => rfl)) (pa_cons (pv 3) pa_nil))) (pa_cons (pe_ix ix_tup (pv 4) pe_int (fun _ _ => rfl)) pa_nil)))))))), ?_⟩
    have hz : (tx l).length ≤ sizeLine := tx_sz hl
    have h4 : (("not " : Str).length : Int) = 4 := by rw [not_eq]; rfl
    refine q_asg (v := .bl (isNot l s)) (ev_is (ev_op (ev_slS (ev_var rfl) (eo_some (ev_var rfl)) (eo_some (ev_op (ev_var rfl) (ev_lenS ev_c (by rw [not_eq]; decide)) rv_I0)) hz) ev_c (rv_eq (by rfl))) ?_) (fun H1 e1 => ?_)
    · rw [h4, show (4 : Int) = ((4 : Nat) : Int) from rfl, cut_take, not_eq]
      unfold isNot
      congr 1
      rw [decide_eq_decide]
      constructor
      · intro h; exact tx_inj (V.str.inj h)
      · intro h; rw [h]
    refine qx_asg (P := ReadV (readT l (s + if isNot l s then 4 else 0))) (x_call (vs := [.str (tx l), .int ((s + if isNot l s then 4 else 0 : Nat) : Int), .ref nm]) (ea_cons (ev_var rfl) (ea_cons (ev_is (ev_op (ev_var rfl) (ev_if (v := .int (if isNot l s then 4 else 0)) (et_B (ev_var rfl)) (fun h => ev_is (ev_lenS ev_c (by rw [not_eq]; decide)) (by rw [h4, h]; rfl)) (fun h => ev_is ev_c (by rw [h]; rfl))) rv_I0) ?_) (ea_cons (ev_var rfl) ea_nil))) (fun H2 e2 Q2 q2 E2 => ⟨l, _, nm, rfl, hl, isNot_le hs, hG, q2⟩)) (fun v H2 e2 hv => ?_)
    · congr 1
      split <;> simp
    generalize hr : readT l (s + if isNot l s then 4 else 0) = o at *
    cases o with
    | none =>
      cases hv
      refine q_when (b := true) (et_or (a := true) (b := true) (et_test (ev_op (ev_var rfl) ev_c (fun H6 e7 Q1 q1 => ⟨rfl, q1 H6 (Ex.refl _)⟩))) (fun h => absurd h (by decide))) (fun _ H3 e3 => s_ret ev_c (fun H4 e4 => k _ H4 ((e1.trans e2).trans (e3.trans e4)) ?_)) (fun h => absurd h (by decide))
      unfold readLit
      rw [hr]
      rfl
    | some z =>
      obtain ⟨zs, e⟩ := z
      obtain ⟨p, t, rfl, hp, ht⟩ := hv
      have hzz := readT_sz (isNot_le hs) hr
      have ev0 : ∀ H', Ex H2 H' → Ev (tOp (rIxT K) (tVar 4) (tC (.int 0))) [some (.str (tx l)), some (.int (s : Int)), some (.ref nm), some (.bl (isNot l s)), some (.ref p)] H' t := fun H' e' => ev_op (ev_var rfl) ev_c (rv_ixT (i := 0) (st_of (e' _ _ hp)) rfl)
      refine q_when (b := decide (depthOf zs > 4)) (et_is (et_or (a := false) (b := false || decide (depthOf zs > 4)) (et_is (et_test (ev_op (ev_var rfl) ev_c (fun H6 e7 Q1 q1 => ⟨rfl, q1 H6 (Ex.refl _)⟩))) (by rw [decide_eq_false_iff_not]; intro h; cases h)) (fun _ => et_or (a := false) (et_not (a := true) (et_B (ev_call (z := .bl true) (ea_cons (ev0 _ (Ex.refl _)) ea_nil) (fun H3 e3 Q3 q3 E3 => ⟨zs, t, rfl, TermAt.mo _ _ _ _ e3 ht, List.length_pos_iff.mp hzz.1, q3⟩)))) (fun _ => et_test (ev_op (ev_call (z := .int (depthOf zs)) (ea_cons (ev0 _ (Ex.refl _)) ea_nil) (fun H3 e3 Q3 q3 E3 => ⟨zs, t, rfl, TermAt.mo _ _ _ _ e3 ht, by omega, q3⟩)) ev_c rv_I0)))) (by rw [Bool.false_or, Bool.false_or])) (fun hb H3 e3 => ?_) (fun hb H3 e3 => ?_)
      · refine s_ret ev_c (fun H4 e4 => k _ H4 ((e1.trans e2).trans (e3.trans e4)) ?_)
        unfold readLit
        rw [hr]
        dsimp only
        rw [if_pos (of_decide_eq_true hb)]
        rfl
      · refine sx_ret (P := LitR K (zs, isNot l s) e) ((x_tup (x_cons (P := LitAt K (zs, isNot l s)) (x_make (PA := fun us _ => us = [t, .bl (isNot l s)]) (x_ofA (ea_cons (ev0 _ e3) (ea_cons (ev_var rfl) ea_nil))) ?_) (LitAt.mn K _).mo (x_ofA (ea_cons (ev_op (ev_var rfl) ev_c (rv_ixT (i := 1) (v := .int (e : Int)) (st_of (e3 _ _ hp)) rfl)) ea_nil))) ?_ ?_).imp ?_) (fun v H4 e4 hv => k v H4 ((e1.trans e2).trans (e3.trans e4)) ?_)
        · rintro vs H4 x dx e4 rfl hx hdx hn Q4 q4 E4
          exact ⟨H4, x, dx, t, .bl (isNot l s), rfl, hx, Ex.mut (Ex.new hdx) hx, upd_same, fun H5 e5 h5 => q4 H5 e5 ⟨x, dx, t, rfl, h5, TermAt.mo _ _ _ _ (e3.trans (e4.trans e5)) ht⟩⟩
        · rintro us H8 H9 e9 ⟨t', rr, rfl, h1, h2⟩
          exact ⟨t', rr, rfl, (LitAt.mn K _).mo _ _ _ e9 h1, h2⟩
        · rintro us H8 ⟨t', rr, rfl, h1, rfl⟩
          exact few5 rfl
        · rintro u H8 ⟨p', us, rfl, h8, t', rr, rfl, h1, rfl⟩
          exact ⟨p', t', rfl, h8, h1⟩
        · unfold readLit
          rw [hr]
          dsimp only
          rw [if_neg (of_decide_eq_false hb)]
          exact hv

end
end Tx
end
section
set_option Elab.async false
set_option linter.all false
set_option maxRecDepth 100000
set_option maxHeartbeats 4000000
namespace Tx
open PySem PySem.Spec PyProof.Rows L2 Evl Wk
section
variable {w : World} {K : PySem.W.Frag} {mg : Str → Option Value} {base : Heap}

def sp_read_clause (K : PySem.W.Frag) : Sp := fun vs H Q _ => ∃ (l : List Nat), vs = [.str (tx l)] ∧ l.length ≤ 5000 ∧ NoG l ∧ ∀ v H', Ex H H' → ReadC K H (readCl l) v H' → Q v H'
theorem sc_read_clause : FnScope ["line", "names", "first", "body", "place", "ahead", "found"] ["line"] (defScope s_read_clause) := ⟨rfl, rfl, rfl, by decide +kernel, rfl, by decide +kernel, by decide +kernel⟩
theorem ok_read_clause (Z : Zx K mg) : OkD prog w K mg base CX0 5 "read_clause" ["line"] (sp_read_clause K) := by
  obtain ⟨fd, F0⟩ := Z.fun_ 23
  have F : Fun K "read_clause" "read_clause" s_read_clause (He.ga K "read_clause") fd := Wk.fun_of F0
  have c_MOST_BODY := Z.int 83 (x := "MOST_BODY")
  have c_MOST_LINE := Z.int 86 (x := "MOST_LINE")
  obtain ⟨_, g_clause_from, b_clause_from, m_clause_from, k_clause_from⟩ := ok_clause_from (w := w) (base := base) Z
  obtain ⟨_, g_read_literal, b_read_literal, m_read_literal, k_read_literal⟩ := ok_read_literal (w := w) (base := base) Z
  obtain ⟨_, g_Clause, b_Clause, m_Clause, k_Clause⟩ := ok_Clause___init__ (w := w) (base := base) Z
  have n_len := Z.free 68 (x := "len")
  have na_Literal_atom := Z.noat 108 (x := "Literal") (f := "atom")
  have na_Literal_is_denied := Z.noat 109 (x := "Literal") (f := "is_denied")
  have cl_Literal := Z.cls 105 (x := "Literal")
  refine ⟨fd, ?_, F.binds (ps := ["line"]) fun _ _ _ _ _ _ us hl => match us, hl with | [_], _ => rfl, Z.glo 16, F.kp⟩
  refine F.ok sc_read_clause (fun vs H Q E h => ?_) (fun cdv A outer s H vs Q E hr h => ?_)
  · obtain ⟨l, rfl, hl, hG, k⟩ := h
    rfl
  · obtain ⟨l, rfl, hl, hG, k⟩ := h
    refine ⟨_, (pss_cons (ps_set (i := 1) sc_read_clause.nd rfl (by first | exact Or.inl rfl | exact Or.inr rfl) pe_dnewK) (pss_cons (ps_set (i := 2) sc_read_clause.nd rfl (by first | exact Or.inl rfl | exact Or.inr rfl) (pe_call g_read_literal (hr.mono (by decide)) (by rfl) m_read_literal k_read_literal b_read_literal .nil pass0 (pa_cons (pv 0) (pa_cons pe_int (pa_cons (pv 1) pa_nil))))) (pss_cons (ps_if (pw_or (pt_cmpR op_isN (pv 2) pe_non (nomark _)) (pw_or (pt_val (pe_fld (pe_ix ix_tup (pv 2) pe_int (fun _ _ => rfl)) (by rfl))) (pw_or1 (pt_cmpR op_gt (pe_callB call_len_str (by rfl) n_len (by decide +kernel) (pa_cons (pv 0) pa_nil)) (pe_gi c_MOST_LINE) (nomark _))))).pt (pss_one (ps_ret pe_non)) pss_nil) (pss_cons (ps_set (i := 3) sc_read_clause.nd rfl (by first | exact Or.inl rfl | exact Or.inr rfl) (pe_lst pa_nil)) (pss_cons (ps_set (i := 4) sc_read_clause.nd rfl (by first | exact Or.inl rfl | exact Or.inr rfl) (pe_ix ix_tup (pv 2) pe_int (fun _ _ => rfl))) (pss_cons (ps_set (i := 5) sc_read_clause.nd rfl (by first | exact Or.inl rfl | exact Or.inr rfl) pe_str) (pss_cons (ps_while PassesOwn.never (pt_cmpR op_ne (pe_slice sl_str (pv 0) (po_some (pv 4)) po_none) pe_str (nomark _)) (pss_cons (ps_if (pw_or (pt_cmpR op_ne (pe_slice sl_str (pv 0) (po_some (pv 4)) (po_some (pe_op op_add (pv 4) (pe_callB call_len_str (by rfl) n_len (by decide +kernel) (pa_cons (pv 5) pa_nil))))) (pv 5) (nomark _)) (pw_or1 (pt_cmpR op_eq (pe_callB call_len_seq (by rfl) n_len (by decide +kernel) (pa_cons (pv 3) pa_nil)) (pe_gi c_MOST_BODY) (nomark _)))).pt (pss_one (ps_ret pe_non)) pss_nil) (pss_cons (ps_set (i := 6) sc_read_clause.nd rfl (by first | exact Or.inl rfl | exact Or.inr rfl) (pe_call g_read_literal (hr.mono (by decide)) (by rfl) m_read_literal k_read_literal b_read_literal .nil pass0 (pa_cons (pv 0) (pa_cons (pe_op op_add (pv 4) (pe_callB call_len_str (by rfl) n_len (by decide +kernel) (pa_cons (pv 5) pa_nil))) (pa_cons (pv 1) pa_nil))))) (pss_cons (ps_if (pt_cmpR op_isN (pv 6) pe_non (nomark _)) (pss_one (ps_ret pe_non)) pss_nil) (pss_cons (ps_expr (pe_bm PySem.F.plainAttrs_list PySem.F.slot_list_append PySem.F.type_list_append mt_append (pv 3) (pa_cons (pe_ix ix_tup (pv 6) pe_int (fun _ _ => rfl)) pa_nil))) (pss_cons (ps_set (i := 4) sc_read_clause.nd rfl (by first | exact Or.inl rfl | exact Or.inr rfl) (pe_ix ix_tup (pv 6) pe_int (fun _ _ => rfl))) (pss_one (ps_set (i := 5) sc_read_clause.nd rfl (by first | exact Or.inl rfl | exact Or.inr rfl) pe_str)))))))) (pss_one (ps_ret (pe_call g_clause_from (hr.mono (by decide)) (by rfl) m_clause_from k_clause_from b_clause_from .nil pass0 (pa_cons (pe_make k_Clause g_Clause (hr.mono (by decide)) (by rfl) m_Clause b_Clause .nil pass0 (pa_cons (pe_fld (pe_ix ix_tup (pv 2) pe_int (fun _ _ => rfl)) (by rfl)) (pa_cons (pv 3) pa_nil))) (pa_cons pe_int pa_nil)))))))))))), ?_⟩
    have hz : (tx l).length ≤ sizeLine := tx_sz hl
    refine q_dnew (fun o H1 ho e1 h1 => ?_)
    refine qx_asg (P := ReadL K (readLit l 0)) (x_call (vs := [.str (tx l), .int ((0 : Nat) : Int), .ref o]) (ea_cons (ev_var rfl) (ea_cons ev_c (ea_cons (ev_var rfl) ea_nil))) (fun H2 e2 Q2 q2 E2 => ⟨l, 0, o, rfl, hl, Nat.zero_le _, hG, q2⟩)) (fun v H2 e2 hv => ?_)
    generalize hr : readLit l 0 = r at *
    have e02 := e1.trans e2
    cases r with
    | none =>
      cases hv
      refine q_when (b := true) (et_or (a := true) (b := true) (et_test (ev_op (ev_var rfl) ev_c (fun H6 e7 Q1 q1 => ⟨rfl, q1 H6 (Ex.refl _)⟩))) (fun h => absurd h (by decide))) (fun _ H3 e3 => s_ret ev_c (fun H4 e4 => k _ H4 (e02.trans (e3.trans e4)) ?_)) (fun h => absurd h (by decide))
      unfold readCl
      rw [hr]
      rfl
    | some z =>
      obtain ⟨⟨hd, dn⟩, pl⟩ := z
      obtain ⟨p, lv, rfl, hp, q, dx, t, rfl, hq, ht⟩ := hv
      have hzz := readLit_sz (Nat.zero_le _) hr
      dsimp only at hzz ht hq
      have hcl : readCl l = if dn = true ∨ l.length > 200 then none else (bodyLoop l (l.length + 1) [32, 58, 45, 32] pl []).map fun bs => (hd, bs) := by
        unfold readCl
        rw [hr]
      refine q_when (b := decide (dn = true ∨ l.length > 200)) (et_is (et_or (a := false) (b := dn || decide (l.length > 200)) (et_is (et_test (ev_op (ev_var rfl) ev_c (fun H6 e7 Q1 q1 => ⟨rfl, q1 H6 (Ex.refl _)⟩))) (by rw [decide_eq_false_iff_not]; intro h; cases h)) (fun _ => et_or (et_B (ev_fld (f := "is_denied") (ev_op (ev_var rfl) ev_c (rv_ixT (i := 0) (v := .ref q) (st_of hp) rfl)) hq cl_Literal na_Literal_is_denied rfl)) (fun _ => et_test (ev_is (ev_op (ev_lenS (ev_var rfl) hz) ev_c rv_I0) (w := .bl (decide (l.length > 200))) ?_)))) ?_) (fun hb H3 e3 => ?_) (fun hb H3 e3 => ?_)
      · rw [tx_len]
        congr 1
        rw [decide_eq_decide]
        show (200 : Int) < _ ↔ _
        omega
      · rw [Bool.false_or, Bool.decide_or]
        congr 1
        cases dn <;> rfl
      · refine s_ret ev_c (fun H4 e4 => k _ H4 (e02.trans (e3.trans e4)) ?_)
        rw [hcl, if_pos (of_decide_eq_true hb)]
        rfl
      · rw [if_neg (of_decide_eq_false hb)] at hcl
        refine q_asgL (xs := []) (el_lst ea_nil (few5 rfl)) (fun b H4 hb4 e4 h4 => ?_)
        have e24 := e3.trans e4
        refine q_asg (v := .int (pl : Int)) (ev_op (ev_var rfl) ev_c (rv_ixT (i := 1) (st_of (e24 _ _ hp)) rfl)) (fun H5 e5 => ?_)
        refine q_asg ev_c (fun H6 e6 => ?_)
        have hB : H b = none := fresh_back (e02.trans e3) hb4
        have za1 : (" :- " : Str) = tx [32, 58, 45, 32] := by decide +kernel
        have za2 : (", " : Str) = tx [44, 32] := by decide +kernel
        have zd : ("." : Str) = tx [46] := by decide +kernel
        refine q_while (fun m σ' H' => ∃ (ah : List Nat) (p1 : Nat) (bs : List Lt) (ys : List V) (s7 : Option V), m = m ∧ l.length - p1 + 1 ≤ m ∧ σ' = [some (.str (tx l)), some (.ref o), some (.ref p), some (.ref b), some (.int (p1 : Int)), some (.str (tx ah)), s7] ∧ ah.length ≤ 4 ∧ p1 ≤ l.length ∧ bs.length ≤ 4 ∧ Ex H H' ∧ H' b = some (.lst ys) ∧ AllV (LitAt K) bs ys H' ∧ LitAt K (hd, dn) (.ref q) H' ∧ H' p = some (.tup [.ref q, .int (pl : Int)]) ∧ SzC (hd, bs) ∧ bodyLoop l (l.length + 1) [32, 58, 45, 32] pl [] = bodyLoop l m ah p1 bs) (l.length + 1) ⟨[32, 58, 45, 32], pl, [], [], none, rfl, by omega, by rw [za1]; rfl, Nat.le_refl _, by omega, Nat.zero_le _, (e02.trans e24).trans (e5.trans e6), (e5.trans e6) _ _ h4, AllV.nil, LitAt.mn K _ |>.mo _ _ _ (e24.trans (e5.trans e6)) ⟨q, dx, t, rfl, hq, ht⟩, (e24.trans (e5.trans e6)) _ _ hp, ⟨Nat.zero_le _, fun a ha => by simp at ha; rw [ha]; omega⟩, rfl⟩ ?_
        rintro m σ' H' ⟨ah, p1, bs, ys, s7, _, hm, rfl, hah, hp1, hbs, e', hb', hall, hql, hpp, hsz, hloop⟩
        obtain ⟨m, rfl⟩ : ∃ m', m = m' + 1 := ⟨m - 1, by omega⟩
        have hstep : bodyLoop l (m + 1) ah p1 bs = if l.drop p1 = [46] then some bs else if (l.drop p1).take ah.length ≠ ah ∨ bs.length = 4 then none else
            match readLit l (p1 + ah.length) with
            | none => none
            | some (b, e) => bodyLoop l m [44, 32] e (bs ++ [b]) := rfl
        have hyl := hall.1
        have hahz : (tx ah).length ≤ sizeLine := tx_sz hah
        have hwl : ∀ H9, Ex H' H9 → Ev (tOp rNe (tSl rSlS (tVar 0) (tPart (tVar 4)) tNoPart) (tC (.str "."))) [some (.str (tx l)), some (.ref o), some (.ref p), some (.ref b), some (.int (p1 : Int)), some (.str (tx ah)), s7] H9 (.bl (!decide (l.drop p1 = [46]))) := fun H9 e9 => by
          refine ev_is (ev_op (ev_slS (ev_var rfl) (eo_some (ev_var rfl)) eo_none hz) ev_c (rv_ne (by rfl))) ?_
          rw [cut_from, zd]
          congr 2
          rw [decide_eq_decide]
          constructor
          · intro h; exact tx_inj (V.str.inj h)
          · intro h; rw [h]
        refine ⟨!decide (l.drop p1 = [46]), et_test (hwl _ (Ex.refl _)), fun hb2 H7 e7 => ?_, fun hb2 H7 e7 => ?_⟩
        · have hne : l.drop p1 ≠ [46] := by simpa using hb2
          rw [if_neg hne] at hstep
          refine ⟨fun σ' H' => ∃ (ah : List Nat) (p1 : Nat) (bs : List Lt) (ys : List V) (s7 : Option V), m = m ∧ l.length - p1 + 1 ≤ m ∧ σ' = [some (.str (tx l)), some (.ref o), some (.ref p), some (.ref b), some (.int (p1 : Int)), some (.str (tx ah)), s7] ∧ ah.length ≤ 4 ∧ p1 ≤ l.length ∧ bs.length ≤ 4 ∧ Ex H H' ∧ H' b = some (.lst ys) ∧ AllV (LitAt K) bs ys H' ∧ LitAt K (hd, dn) (.ref q) H' ∧ H' p = some (.tup [.ref q, .int (pl : Int)]) ∧ SzC (hd, bs) ∧ bodyLoop l (l.length + 1) [32, 58, 45, 32] pl [] = bodyLoop l m ah p1 bs, fun σ2 H8 h => ⟨m, Nat.lt_succ_self m, h⟩, ?_⟩
          have hb7 := e7 _ _ hb'
          refine q_when (b := decide ((l.drop p1).take ah.length ≠ ah ∨ bs.length = 4)) (et_is (et_or (a := !decide ((l.drop p1).take ah.length = ah)) (b := decide (bs.length = 4)) (et_test (ev_is (ev_op (ev_slS (ev_var rfl) (eo_some (ev_var rfl)) (eo_some (ev_op (ev_var rfl) (ev_lenS (ev_var rfl) hahz) rv_I0)) hz) (ev_var rfl) (rv_ne (by rfl))) ?_)) (fun _ => et_test (ev_is (ev_op (ev_len (ev_var rfl) (sq_of hb7)) ev_c (rv_eq (by rfl))) ?_))) ?_) (fun hb8 H8 e8 => ?_) (fun hb8 H8 e8 => ?_)
          · rw [tx_len, cut_take]
            congr 2
            rw [decide_eq_decide]
            constructor
            · intro h; exact tx_inj (V.str.inj h)
            · intro h; rw [h]
          · rw [hyl]
            congr 1
            rw [decide_eq_decide]
            constructor
            · intro h
              have := V.int.inj h
              omega
            · intro h; rw [h]; rfl
          · rw [Bool.decide_or, decide_not]
          · rw [if_pos (of_decide_eq_true hb8)] at hstep
            refine s_ret ev_c (fun H9 e9 => k _ H9 (e'.trans (e7.trans (e8.trans e9))) ?_)
            rw [hcl, hloop, hstep]
            rfl
          · rw [if_neg (of_decide_eq_false hb8)] at hstep
            have h8 := of_decide_eq_false hb8
            simp only [not_or, Decidable.not_not] at h8
            have hle : p1 + ah.length ≤ l.length := by
              have := congrArg List.length h8.1
              rw [List.length_take, List.length_drop] at this
              omega
            refine qx_asg (P := ReadL K (readLit l (p1 + ah.length))) (x_call (vs := [.str (tx l), .int ((p1 + ah.length : Nat) : Int), .ref o]) (ea_cons (ev_var rfl) (ea_cons (ev_is (ev_op (ev_var rfl) (ev_lenS (ev_var rfl) hahz) rv_I0) (by rw [tx_len, Int.natCast_add])) (ea_cons (ev_var rfl) ea_nil))) (fun H9 e9 Q2 q2 E2 => ⟨l, _, o, rfl, hl, hle, hG, q2⟩)) (fun v H9 e9 hv => ?_)
            generalize hr2 : readLit l (p1 + ah.length) = r2 at *
            cases r2 with
            | none =>
              cases hv
              refine q_when (b := true) (et_test (ev_op (ev_var rfl) ev_c (fun H6 e7 Q1 q1 => ⟨rfl, q1 H6 (Ex.refl _)⟩))) (fun _ H10 e10 => s_ret ev_c (fun H11 e11 => k _ H11 ((e'.trans (e7.trans (e8.trans e9))).trans (e10.trans e11)) ?_)) (fun h => absurd h (by decide))
              rw [hcl, hloop, hstep]
              rfl
            | some z2 =>
              obtain ⟨b2, p2⟩ := z2
              obtain ⟨r, lv2, rfl, hr3, hlv⟩ := hv
              have hs2 := readLit_sz hle hr2
              refine q_when (b := false) (et_is (et_test (ev_op (ev_var rfl) ev_c (fun H6 e7 Q1 q1 => ⟨rfl, q1 H6 (Ex.refl _)⟩))) (by rw [decide_eq_false_iff_not]; intro h; cases h)) (fun h => absurd h (by decide)) (fun _ H10 e10 => ?_)
              have e810 := e7.trans ((e8.trans e9).trans e10)
              refine q_app (xs := ys) (v := lv2) (e810 _ _ hb') (ev_var rfl) (ev_op (ev_var rfl) ev_c (rv_ixT (i := 0) (st_of (e10 _ _ hr3)) rfl)) (by omega) (fun H11 e11 => ?_)
              have hbn := (e810.trans e11) _ _ hb'
              have n11 : Nl H11 (upd H11 b (.lst (ys ++ [lv2]))) := .lst hbn
              have E11 : Ex H (upd H11 b (.lst (ys ++ [lv2]))) := Ex.mut (e'.trans (e810.trans e11)) hB
              have hp11 : upd H11 b (.lst (ys ++ [lv2])) p = some (.tup [.ref q, .int (pl : Int)]) := n11.tu _ _ ((e810.trans e11) _ _ hpp)
              have hr11 : upd H11 b (.lst (ys ++ [lv2])) r = some (.tup [lv2, .int (p2 : Int)]) := n11.tu _ _ (e11 _ _ (e10 _ _ hr3))
              have hall11 : AllV (LitAt K) (bs ++ [b2]) (ys ++ [lv2]) (upd H11 b (.lst (ys ++ [lv2]))) := (AllV.mn (LitAt.mn K) _ _ _ ((Nl.of (e810.trans e11)).trans n11) hall).app (LitAt.mn K b2 _ _ _ ((Nl.of (e10.trans e11)).trans n11) hlv)
              have hq11 := LitAt.mn K (hd, dn) _ _ _ ((Nl.of (e810.trans e11)).trans n11) hql
              have hb11 : upd H11 b (.lst (ys ++ [lv2])) b = some (.lst (ys ++ [lv2])) := upd_same
              generalize upd H11 b (.lst (ys ++ [lv2])) = G11 at *
              refine q_asg (v := .int (p2 : Int)) (ev_op (ev_var rfl) ev_c (rv_ixT (i := 1) (st_of hr11) rfl)) (fun H12 e12 => ?_)
              refine s_asg ev_c (fun H13 e13 => ?_)
              have e1113 := e12.trans e13
              refine ⟨[44, 32], p2, bs ++ [b2], ys ++ [lv2], some (.ref r), rfl, by omega, by rw [za2]; rfl, by decide, hs2.2.2.2, by rw [List.length_append, List.length_singleton]; omega, E11.trans e1113, e1113 _ _ hb11, AllV.mo (fun a => (LitAt.mn K a).mo) _ _ _ e1113 hall11, (LitAt.mn K _).mo _ _ _ e1113 hq11, e1113 _ _ hp11, ⟨by show (bs ++ [b2]).length ≤ 10; rw [List.length_append, List.length_singleton]; omega, fun a ha => ?_⟩, hloop.trans hstep⟩
              simp only [List.map_append, List.mem_cons, List.mem_append, List.map_cons, List.map_nil, List.mem_singleton] at ha
              rcases ha with ha | ha | ha
              · rw [ha]; exact hsz.2 hd List.mem_cons_self
              · exact hsz.2 a (List.mem_cons_of_mem _ ha)
              · rcases ha with ha | ha
                · rw [ha]; omega
                · cases ha
        · have heq : l.drop p1 = [46] := by simpa using hb2
          rw [if_pos heq] at hstep
          rw [hloop, hstep] at hcl
          obtain ⟨q', dx', t', eq', hq', ht'⟩ := hql
          cases eq'
          refine sx_ret (P := ClAtB K H (hd, bs)) (x_callX (x_cons (P := ClAt K (hd, bs)) (x_make (PA := fun us _ => us = [t', .ref b]) (x_ofA (ea_cons (ev_fld (f := "atom") (ev_op (ev_var rfl) ev_c (rv_ixT (i := 0) (v := .ref q) (st_of (e7 _ _ hpp)) rfl)) (e7 _ _ hq') cl_Literal na_Literal_atom rfl) (ea_cons (ev_var rfl) ea_nil))) ?_) (ClAt.mo K _) (x_ofA (ea_cons ev_c ea_nil))) ?_) (fun v H8 e8 hv => k v H8 (e'.trans (e7.trans e8)) (by rw [hcl]; exact hv))
          · rintro vs H8 x dx8 e8 rfl hx hdx hn Q4 q4 E4
            exact ⟨H8, x, dx8, t', .ref b, rfl, hx, Ex.mut (Ex.new hdx) hx, upd_same, fun H9 e9 h9 => q4 H9 e9 ⟨x, dx8, t', b, ys, rfl, h9, TermAt.mo _ _ _ _ (e7.trans (e8.trans e9)) ht', e9 _ _ (e8 _ _ (e7 _ _ hb')), AllV.mo (fun a => (LitAt.mn K a).mo) _ _ _ (e7.trans (e8.trans e9)) hall⟩⟩
          · rintro vs H8 e8 ⟨v8, rr, rfl, h8, rfl⟩ Q4 q4 E4
            exact ⟨(hd, bs), v8, 0, rfl, h8, hsz, fun u H9 e9 hu => q4 u H9 e9 (hu.back (e'.trans (e7.trans e8)))⟩

end
end Tx
end
section
set_option Elab.async false
set_option linter.all false
set_option maxRecDepth 100000
set_option maxHeartbeats 4000000
namespace Tx
open PySem PySem.Spec PyProof.Rows L2 Evl Wk
section
variable {w : World} {K : PySem.W.Frag} {mg : Str → Option Value} {base : Heap}

def sp_demand (K : PySem.W.Frag) : Sp := fun vs H Q E => ∃ (b : Bool) (nm : Str), vs = [.bl b, .str nm] ∧ (b = true → ∀ H', Ex H H' → Q .non H') ∧ (b = false → BadE K nm H E)
theorem sc_demand : FnScope ["is_good", "name"] ["is_good", "name"] (defScope s_demand) := ⟨rfl, rfl, rfl, by decide +kernel, rfl, by decide +kernel, by decide +kernel⟩
theorem ok_demand (Z : Zx K mg) : OkD prog w K mg base (L2.CX prog w) 1 "demand" ["is_good", "name"] (sp_demand K) := by
  obtain ⟨fd, F0⟩ := Z.fun_ 2
  have F : Fun K "demand" "demand" s_demand (He.ga K "demand") fd := Wk.fun_of F0
  have x_BadArgument := Z.bad
  have cBadArgument := Z.glo 59 (x := "BadArgument")
  refine ⟨fd, ?_, F.binds (ps := ["is_good", "name"]) fun _ _ _ _ _ _ us hl => match us, hl with | [_, _], _ => rfl, Z.glo 2, F.kp⟩
  refine F.okX sc_demand (fun vs H Q E h => ?_) (fun cdv A outer s H vs Q E hr h => ?_)
  · obtain ⟨b, nm, rfl, k1, k2⟩ := h
    rfl
  · obtain ⟨b, nm, rfl, k1, k2⟩ := h
    refine ⟨_, (pss_one (ps_if (pt_not (pt_val (pv 0))) (pss_one (ps_raiseBadArgument rfl x_BadArgument cBadArgument hr (takes_of rfl rfl rfl rfl) (pa_cons (pv 1) pa_nil))) pss_nil)), ?_⟩
    refine s_when (b := !b) (et_not (et_B (ev_var rfl))) (fun hb H1 e1 => ?_) (fun hb H1 e1 => ?_)
    · have hb' : b = false := by simpa using hb
      have hA : EvA (tCons (tVar 1) tNil) (L2.start ["is_good", "name"] [V.bl b, V.str nm]) H1 [.str nm] := ea_cons (ev_var rfl) ea_nil
      exact hA H1 (Ex.refl _) (fun vs H2 => ∃ v, vs = [v] ∧ ∀ d, H2 d = none → E (.ref (He.ga K "BadArgument")) (some d) (upd H2 d (.xd [(("name" : Str), v)]))) (fun H2 e2 => ⟨.str nm, rfl, fun d hd => k2 hb' d _ ((e1.trans e2).trans (Ex.new hd)) upd_same⟩)
    · have hb' : b = true := by simpa using hb
      exact k1 hb' H1 e1
def sp_read_program (K : PySem.W.Frag) : Sp := fun vs H Q _ => ∃ (ls : List (List Nat)) (zs : List Cl), vs = [.str (tx (progT ls))] ∧ (progT ls).length ≤ 4000 ∧ ls.length ≤ 30 ∧ (∀ l, l ∈ ls → 10 ∉ l ∧ NoG l ∧ l.length ≤ 4000) ∧ ls.map readCl = zs.map some ∧
  ∀ p ys H', H p = none → Ex H H' → H' p = some (.lst ys) → AllV (ClAt K) zs ys H' → Q (.ref p) H'
theorem sc_read_program : FnScope ["text", "lines", "found", "at", "line", "clause"] ["text"] (defScope s_read_program) := ⟨rfl, rfl, rfl, by decide +kernel, rfl, by decide +kernel, by decide +kernel⟩
theorem ok_read_program (Z : Zx K mg) : OkD prog w K mg base CX0 6 "read_program" ["text"] (sp_read_program K) := by
  obtain ⟨fd, F0⟩ := Z.fun_ 24
  have F : Fun K "read_program" "read_program" s_read_program (He.ga K "read_program") fd := Wk.fun_of F0
  have c_MOST_CLAUSES := Z.int 82 (x := "MOST_CLAUSES")
  obtain ⟨_, g_read_clause, b_read_clause, m_read_clause, k_read_clause⟩ := ok_read_clause (w := w) (base := base) Z
  have n_enumerate := Z.free 65 (x := "enumerate")
  refine ⟨fd, ?_, F.binds (ps := ["text"]) fun _ _ _ _ _ _ us hl => match us, hl with | [_], _ => rfl, Z.glo 17, F.kp⟩
  refine F.ok sc_read_program (fun vs H Q E h => ?_) (fun cdv A outer s H vs Q E hr h => ?_)
  · obtain ⟨ls, zs, rfl, hl, hn, hls, hz, k⟩ := h
    rfl
  · obtain ⟨ls, zs, rfl, hl, hn, hls, hz, k⟩ := h
    refine ⟨_, (pss_cons (ps_set (i := 1) sc_read_program.nd rfl (by first | exact Or.inl rfl | exact Or.inr rfl) (pe_split (pv 0) pe_str)) (pss_cons (ps_set (i := 2) sc_read_program.nd rfl (by first | exact Or.inl rfl | exact Or.inr rfl) (pe_lst pa_nil)) (pss_cons (ps_for PassesOwn.never rfl (pi_enum (by rfl) n_enumerate (pa_cons (pe_slice sl_list (pv 1) po_none (po_some (pe_un un_neg pe_int))) pa_nil)) (pg_tup rfl (pgs_cons (pg_name (i := 3) sc_read_program.nd rfl (by first | exact Or.inl rfl | exact Or.inr rfl)) (pgs_cons (pg_name (i := 4) sc_read_program.nd rfl (by first | exact Or.inl rfl | exact Or.inr rfl)) pgs_nil))) (pss_cons (ps_set (i := 5) sc_read_program.nd rfl (by first | exact Or.inl rfl | exact Or.inr rfl) (pe_ifExp (pt_cmpR op_lt (pv 3) (pe_gi c_MOST_CLAUSES) (nomark _)) (pe_call g_read_clause (hr.mono (by decide)) (by rfl) m_read_clause k_read_clause b_read_clause .nil pass0 (pa_cons (pv 4) pa_nil)) pe_non)) (pss_cons (ps_if (pt_cmpR op_isN (pv 5) pe_non (nomark _)) (pss_one ps_never) pss_nil) (pss_one (ps_expr (pe_bm PySem.F.plainAttrs_list PySem.F.slot_list_append PySem.F.type_list_append mt_append (pv 2) (pa_cons (pv 5) pa_nil))))))) (pss_cons (ps_if (pt_cmpR op_ne (pe_ix ix_list (pv 1) (pe_un un_neg pe_int) (fun _ _ => rfl)) pe_str (nomark _)) (pss_one ps_never) pss_nil) (pss_one (ps_ret (pv 2))))))), ?_⟩
    have hsp := split_txt ls (fun l h => (hls l h).1)
    have hzl : ls.length = zs.length := by
      have := congrArg List.length hz
      rwa [List.length_map, List.length_map] at this
    refine q_asgL (xs := (ls.map tx ++ [tx []]).map V.str) (fun H0 e0 Q0 q0 => ?_) (fun o H1 ho e1 h1 => ?_)
    · refine ev_var (v := .str (tx (progT ls))) rfl H0 (Ex.refl _) _ (fun H2 e2 => ⟨⟨_, rfl⟩, ?_⟩)
      refine ev_c (σ := L2.start ["text", "lines", "found", "at", "line", "clause"] [V.str (tx (progT ls))]) H2 (Ex.refl _) _ (fun H3 e3 => ⟨_, _, rfl, rfl, by decide +kernel, ?_, ?_⟩)
      · rw [tx_len]; exact sz_of (by omega)
      · rw [hsp]
        exact fun p hp => q0 p _ (fresh_back (e2.trans e3) hp) ((e2.trans e3).trans (Ex.new hp)) upd_same
    refine q_asgL (xs := []) (el_lst ea_nil (few5 rfl)) (fun f H2 hf e2 h2 => ?_)
    have hmap : (ls.map tx ++ [tx []]).map V.str = (ls.map fun l => V.str (tx l)) ++ [V.str (tx [])] := by
      rw [List.map_append, List.map_map]
      rfl
    rw [hmap] at h1
    have hfB : H f = none := fresh_back e1 hf
    have ho2 := e2 _ _ h1
    have hof : o ≠ f := ne_new h1 hf
    refine q_forEnumL (K := K) (xs := ls.map fun l => V.str (tx l)) (fun H3 e3 Q3 q3 => ?_) (fun p i σ' H' => ∃ s3 s4 s5 ys, σ' = [some (.str (tx (progT ls))), some (.ref o), some (.ref f), s3, s4, s5] ∧ p ≠ f ∧ Ex H H' ∧ H' o = some (.lst ((ls.map fun l => V.str (tx l)) ++ [V.str (tx [])])) ∧ H' p = some (.lst (ls.map fun l => V.str (tx l))) ∧ H' f = some (.lst ys) ∧ AllV (ClAt K) (zs.take i) ys (del H' f))
      (fun p H3 hp e3 hp3 => ⟨none, none, none, [], rfl, (ne_new h2 hp).symm, (e1.trans e2).trans e3, e3 _ _ ho2, hp3, e3 _ _ h2, by rw [List.take_zero]; exact AllV.nil⟩) (fun p i σ' H' ⟨s3, s4, s5, ys, _, _, _, _, h, _⟩ => h) ?_ ?_
    · refine el_sl (K := K) (lo := none) (hi := some (-1)) (ev_var rfl) eo_none (eo_some ev_m1) (sq_of ho2) H3 e3 _ (fun p H4 hp e4 h4 => ?_)
      rw [cut_last] at h4
      exact q3 p H4 hp e4 h4
    · rintro p i x σ' H' H'' hx ⟨s3, s4, s5, ys, rfl, hpf, e', ho', hp', hf', hall⟩ e''
      rw [List.getElem?_map] at hx
      obtain ⟨l, hl1, rfl⟩ := Option.map_eq_some_iff.mp hx
      have hi : i < ls.length := (List.getElem?_eq_some_iff.mp hl1).1
      have hmem := hls l (List.mem_of_getElem? hl1)
      obtain ⟨z, hz1⟩ : ∃ z, zs[i]? = some z := ⟨zs[i], List.getElem?_eq_getElem (by omega)⟩
      have hzi : readCl l = some z := by
        have := congrArg (fun y => y[i]?) hz
        simp only [List.getElem?_map, hl1, hz1] at this
        exact Option.some.inj this
      refine qx_asg (P := ClAtB K H'' z) (x_if (b := true) (et_is (et_test (ev_op (ev_var rfl) ev_c rv_I0)) ?_) (fun _ => x_call (ea_cons (ev_var rfl) ea_nil) (fun H3 e3 Q3 q3 E3 => ⟨l, rfl, by omega, hmem.2.1, fun v H4 e4 hv => q3 v H4 e4 ?_⟩)) (fun h => absurd h (by decide))) (fun v H3 e3 hv => ?_)
      · rw [decide_eq_true_iff]; omega
      · rw [hzi] at hv
        exact ClAtB.back e3 hv
      · have hvn : v ≠ .non := by
          obtain ⟨p', _, _, _, _, h, _⟩ := hv
          rw [h]
          intro h
          cases h
        refine q_when (b := false) (et_is (et_test (ev_op (ev_var rfl) ev_c (fun H6 e7 Q1 q1 => ⟨rfl, q1 H6 (Ex.refl _)⟩))) (decide_eq_false hvn)) (fun h => absurd h (by decide)) (fun _ H4 e4 => ?_)
        have hyl := hall.1
        rw [List.length_take] at hyl
        have hf4 := e4 _ _ (e3 _ _ (e'' _ _ hf'))
        refine s_app (xs := ys) hf4 (ev_var rfl) (ev_var rfl) (by omega) (fun H5 e5 => ?_)
        have e35 := (e3.trans e4).trans e5
        have hf5 := e5 _ _ hf4
        refine ⟨_, _, _, ys ++ [v], rfl, hpf, Ex.mut ((e'.trans e'').trans e35) hfB, ?_, ?_, upd_same, ?_⟩
        · rw [upd_ne hof]; exact e35 _ _ (e'' _ _ ho')
        · rw [upd_ne hpf]; exact e35 _ _ (e'' _ _ hp')
        · rw [del_upd]
          have ht : zs.take (i + 1) = zs.take i ++ [z] := by rw [List.take_add_one, hz1]; rfl
          rw [ht]
          exact (AllV.mo (ClAt.mo K) _ _ _ (ex_deldel (e''.trans e35)) hall).app ((ClAtB.mo K _ z _ _ _ (e4.trans e5) hv).del hf5 (e'' _ _ hf'))
    · rintro p σ' H' ⟨s3, s4, s5, ys, rfl, hpf, e', ho', hp', hf', hall⟩
      refine q_when (b := false) (et_is (et_test (ev_op (ev_op (ev_var rfl) ev_m1 (rv_ixL (v := .str (tx [])) (sq_of ho') (atI_last (last_app _ _)))) ev_c (rv_ne (by rfl)))) ?_) (fun h => absurd h (by decide)) (fun _ H3 e3 => ?_)
      · rw [tx_nil]
        simp
      · refine s_ret (ev_var rfl) (fun H4 e4 => k f ys H4 hfB (e'.trans (e3.trans e4)) ((e3.trans e4) _ _ hf') ?_)
        rw [List.length_map, hzl, List.take_length] at hall
        exact AllV.mo (ClAt.mo K) _ _ _ ((ex_del H' f).trans (e3.trans e4)) hall

end
end Tx
end
section
set_option Elab.async false
set_option linter.all false
set_option maxRecDepth 100000
set_option maxHeartbeats 4000000
namespace Tx
open PySem PySem.Spec PyProof.Rows L2 Evl Wk
section
variable {w : World} {K : PySem.W.Frag} {mg : Str → Option Value} {base : Heap}

def GoodP (ls : List (List Nat)) (zs : List Cl) : Prop := (progT ls).length ≤ 4000 ∧ ls.length ≤ 30 ∧ (∀ l, l ∈ ls → 10 ∉ l ∧ NoG l ∧ l.length ≤ 4000) ∧ ls.map readCl = zs.map some
def sp_demand_program (K : PySem.W.Frag) : Sp := fun vs H Q _ => ∃ (ls : List (List Nat)) (zs : List Cl), vs = [.str (tx (progT ls))] ∧ GoodP ls zs ∧ ∀ p ys H', H p = none → Ex H H' → H' p = some (.lst ys) → AllV (ClAt K) zs ys H' → Q (.ref p) H'
theorem sc_demand_program : FnScope ["value"] ["value"] (defScope s_demand_program) := ⟨rfl, rfl, rfl, by decide +kernel, rfl, by decide +kernel, by decide +kernel⟩
theorem ok_demand_program (Z : Zx K mg) : OkD prog w K mg base CX0 7 "demand_program" ["value"] (sp_demand_program K) := by
  obtain ⟨fd, F0⟩ := Z.fun_ 25
  have F : Fun K "demand_program" "demand_program" s_demand_program (He.ga K "demand_program") fd := Wk.fun_of F0
  have c_MOST_TEXT := Z.int 85 (x := "MOST_TEXT")
  obtain ⟨_, g_demand, b_demand, m_demand, k_demand⟩ := ok_demand (w := w) (base := base) Z
  obtain ⟨_, g_is_text, b_is_text, m_is_text, k_is_text⟩ := ok_is_text (w := w) (base := base) Z
  obtain ⟨_, g_read_program, b_read_program, m_read_program, k_read_program⟩ := ok_read_program (w := w) (base := base) Z
  refine ⟨fd, ?_, F.binds (ps := ["value"]) fun _ _ _ _ _ _ us hl => match us, hl with | [_], _ => rfl, Z.glo 18, F.kp⟩
  refine F.ok sc_demand_program (fun vs H Q E h => ?_) (fun cdv A outer s H vs Q E hr h => ?_)
  · obtain ⟨ls, zs, rfl, hg, k⟩ := h
    rfl
  · obtain ⟨ls, zs, rfl, hg, k⟩ := h
    refine ⟨_, (pss_cons (ps_expr (pe_call g_demand (hr.mono (by decide)) (by rfl) m_demand k_demand b_demand .nil passL (pa_cons (pe_call g_is_text (hr.mono (by decide)) (by rfl) m_is_text k_is_text b_is_text .nil pass0 (pa_cons (pv 0) (pa_cons (pe_gi c_MOST_TEXT) pa_nil))) (pa_cons pe_str pa_nil)))) (pss_one (ps_ret (pe_call g_read_program (hr.mono (by decide)) (by rfl) m_read_program k_read_program b_read_program .nil pass0 (pa_cons (pv 0) pa_nil))))), ?_⟩
    have hl := hg.1
    refine q_dropC (ea_cons (ev_call (z := .bl true) (ea_cons (ev_var rfl) (ea_cons ev_c ea_nil)) (fun H1 e1 Q1 q1 E1 => ⟨_, 4000, rfl, .inl ⟨_, rfl, by rw [tx_len]; exact sz_of (by omega), ?_⟩⟩)) (ea_cons ev_c ea_nil)) (fun H1 e1 => ⟨true, "program", rfl, fun _ H2 e2 => ?_, fun h => absurd h (by decide)⟩)
    · rw [show decide (((tx (progT ls)).length : Int) ≤ 4000) = true from by rw [tx_len]; exact decide_eq_true (by omega)]
      exact q1 H1 (Ex.refl _)
    · refine sx_ret (P := fun v H3 => ∃ p ys, v = .ref p ∧ H2 p = none ∧ H3 p = some (.lst ys) ∧ AllV (ClAt K) zs ys H3) (x_call (ea_cons (ev_var rfl) ea_nil) (fun H3 e3 Q3 q3 E3 => ⟨ls, zs, rfl, hg.1, hg.2.1, hg.2.2.1, hg.2.2.2, fun p ys H4 hp e4 h4 h5 => q3 _ H4 e4 ⟨p, ys, rfl, fresh_back e3 hp, h4, h5⟩⟩)) ?_
      rintro v H3 e3 ⟨p, ys, rfl, hp, h3, h4⟩
      exact k p ys H3 (fresh_back (e1.trans e2) hp) ((e1.trans e2).trans e3) h3 h4
def SzR (r : Rw) : Prop := r.2.1.length ≤ 100 ∧ r.2.2.length ≤ 100
def sp_rows_of (K : PySem.W.Frag) : Sp := fun vs H Q _ => ∃ (a : Addr) (us : List V) (rs : List Rw), vs = [.ref a] ∧ H a = some (.lst us) ∧ AllV (ClAt K) (rs.map clOf) us H ∧ rs.length ≤ 100 ∧ (∀ r, r ∈ rs → SzR r) ∧
  ∀ p H', H p = none → Ex H H' → RowsAt rs p H' → Q (.ref p) H'
theorem sc_rows_of : FnScope ["clauses", "found", "clause", "wanted", "literal", "denied"] ["clauses"] (defScope s_rows_of) := ⟨rfl, rfl, rfl, by decide +kernel, rfl, by decide +kernel, by decide +kernel⟩
theorem ok_rows_of (Z : Zx K mg) : OkD prog w K mg base CX0 1 "rows_of" ["clauses"] (sp_rows_of K) := by
  obtain ⟨fd, F0⟩ := Z.fun_ 26
  have F : Fun K "rows_of" "rows_of" s_rows_of (He.ga K "rows_of") fd := Wk.fun_of F0
  have na_Literal_atom := Z.noat 108 (x := "Literal") (f := "atom")
  have na_Literal_is_denied := Z.noat 109 (x := "Literal") (f := "is_denied")
  have na_Clause_head := Z.noat 113 (x := "Clause") (f := "head")
  have na_Clause_body := Z.noat 114 (x := "Clause") (f := "body")
  have cl_Clause := Z.cls 110 (x := "Clause")
  have cl_Literal := Z.cls 105 (x := "Literal")
  refine ⟨fd, ?_, F.binds (ps := ["clauses"]) fun _ _ _ _ _ _ us hl => match us, hl with | [_], _ => rfl, Z.glo 19, F.kp⟩
  refine F.ok sc_rows_of (fun vs H Q E h => ?_) (fun cdv A outer s H vs Q E hr h => ?_)
  · obtain ⟨a, us, rs, rfl, ha, hall, hn, hsz, k⟩ := h
    rfl
  · obtain ⟨a, us, rs, rfl, ha, hall, hn, hsz, k⟩ := h
    refine ⟨_, (pss_cons (ps_set (i := 1) sc_rows_of.nd rfl (by first | exact Or.inl rfl | exact Or.inr rfl) (pe_lst pa_nil)) (pss_cons (ps_for PassesOwn.never rfl (pi_list (pv 0)) (pg_name (i := 2) sc_rows_of.nd rfl (by first | exact Or.inl rfl | exact Or.inr rfl)) (pss_cons (ps_setLc (i := 3) (te := (tOp (rIxT K) (tOp (rIxT K) (tFld K (tVar 4) "atom") (tC (.int 0))) (tC (.int 0)))) (tt := (tNot (tB (tFld K (tVar 4) "is_denied")))) (own := [("literal", 4)]) rfl sc_rows_of.nd rfl rfl (sw_true rfl rfl rfl (by decide +kernel)) (pi_list (pe_fld (pv 2) (by rfl))) (blkOk_by (own := [("literal", 4)]) (N := ["clauses", "found", "clause", "wanted", "literal", "denied"]) (sc := defScope s_rows_of) (by decide +kernel)) (fun _ _ _ _ _ => pg_name (i := 4) sc_rows_of.nd rfl (by first | exact Or.inl rfl | exact Or.inr rfl)) (fun _ _ _ _ _ => pts_one (pt_not (pt_val (pe_fld (pv 4) (by rfl))))) (fun _ _ _ _ _ => (pe_ix ix_tup (pe_ix ix_tup (pe_fld (pv 4) (by rfl)) pe_int (fun _ _ => rfl)) pe_int (fun _ _ => rfl)))) (pss_cons (ps_setLc (i := 5) (te := (tOp (rIxT K) (tOp (rIxT K) (tFld K (tVar 4) "atom") (tC (.int 0))) (tC (.int 0)))) (tt := (tB (tFld K (tVar 4) "is_denied"))) (own := [("literal", 4)]) rfl sc_rows_of.nd rfl rfl (sw_true rfl rfl rfl (by decide +kernel)) (pi_list (pe_fld (pv 2) (by rfl))) (blkOk_by (own := [("literal", 4)]) (N := ["clauses", "found", "clause", "wanted", "literal", "denied"]) (sc := defScope s_rows_of) (by decide +kernel)) (fun _ _ _ _ _ => pg_name (i := 4) sc_rows_of.nd rfl (by first | exact Or.inl rfl | exact Or.inr rfl)) (fun _ _ _ _ _ => pts_one (pt_val (pe_fld (pv 4) (by rfl)))) (fun _ _ _ _ _ => (pe_ix ix_tup (pe_ix ix_tup (pe_fld (pv 4) (by rfl)) pe_int (fun _ _ => rfl)) pe_int (fun _ _ => rfl)))) (pss_one (ps_expr (pe_bm PySem.F.plainAttrs_list PySem.F.slot_list_append PySem.F.type_list_append mt_append (pv 1) (pa_cons (pe_tup (pa_cons (pe_ix ix_tup (pe_ix ix_tup (pe_fld (pv 2) (by rfl)) pe_int (fun _ _ => rfl)) pe_int (fun _ _ => rfl)) (pa_cons (pv 3) (pa_cons (pv 5) pa_nil)))) pa_nil))))))) (pss_one (ps_ret (pv 1))))), ?_⟩
    have hul : us.length = rs.length := by have := hall.1; rwa [List.length_map] at this
    refine q_asgL (xs := []) (el_lst ea_nil (few5 rfl)) (fun f H1 hf e1 h1 => ?_)
    refine q_forLn (K := K) (xs := us) (ev_var rfl) (sq_of (e1 _ _ ha)) (fun i σ' H' => ∃ s2 s3 s5 ys, σ' = [some (.ref a), some (.ref f), s2, s3, none, s5] ∧ Ex H H' ∧ H' f = some (.lst ys) ∧ AllV RowAt (rs.take i) ys (del H' f)) (fun H2 e2 => ⟨none, none, none, [], rfl, e1.trans e2, e2 _ _ h1, by rw [List.take_zero]; exact AllV.nil⟩) (fun i σ' H' _ ⟨_, _, _, _, _, e, _⟩ => sq_of (e _ _ ha)) ?_ ?_
    · rintro i x σ' H' hx ⟨s2, s3, s5, ys, rfl, e', hf', hys⟩
      obtain ⟨z, hz, hcl⟩ := AllV.at hall hx
      rw [List.getElem?_map] at hz
      obtain ⟨r, hr, rfl⟩ := Option.map_eq_some_iff.mp hz
      have hs := hsz r (List.mem_of_getElem? hr)
      obtain ⟨p, dx, t, b, ws, rfl, c1, c2, c3, c4⟩ := hcl
      have hlit : ∀ z, z ∈ ws.zip (clOf r).2 → ∀ H2, Ex H' H2 → ∃ p dx q g, z.1 = .ref p ∧ H2 p = some (.ins (He.ga K "Literal") dx [("atom", .ref q), ("is_denied", .bl z.2.2)]) ∧ H2 q = some (.tup [.ref g]) ∧ H2 g = some (.tup [nmV ((z.2.1.headD ([], 0)).1.headD 0), .int 0]) := by
        intro z hz2 H2 e2
        obtain ⟨p1, dx1, tt, e3, e4, e5⟩ := c4.mem z hz2
        have hzt : ∃ c, z.2.1 = t1 c := by
          have hm := (List.of_mem_zip hz2).2
          simp only [clOf, List.mem_append, List.mem_map] at hm
          rcases hm with ⟨c, _, hc⟩ | ⟨c, _, hc⟩
          · exact ⟨c, by rw [← hc]⟩
          · exact ⟨c, by rw [← hc]⟩
        obtain ⟨c, hc⟩ := hzt
        rw [hc] at e5 ⊢
        obtain ⟨q, vs, rfl, g1, g2, g3⟩ := e5
        match vs, g2 with
        | [v], _ =>
          obtain ⟨g, rfl, g4⟩ := g3 0 v ([c], 0) rfl rfl
          exact ⟨p1, dx1, q, g, e3, e2 _ _ (e' _ _ e4), e2 _ _ (e' _ _ g1), e2 _ _ (e' _ _ g4)⟩
      have hit : ∀ s3 s5, EvI (iList K (tFld K (tVar 2) "body")) [some (.ref a), some (.ref f), some (.ref p), s3, none, s5] H' ((ws.zip (clOf r).2).map Prod.fst) := fun s3 s5 => by
        rw [c4.fst]
        exact ei_L (ev_fld (ev_var rfl) (e' _ _ c1) cl_Clause na_Clause_body rfl) (sq_of (e' _ _ c3))
      have hzl := c4.zlen
      have hcl2 : (clOf r).2.length ≤ 200 := by
        obtain ⟨s1, s2⟩ := hs
        simp only [clOf, List.length_append, List.length_map]
        omega
      have helt : ∀ (s3 s5 : Option V) (z : V × Lt), z ∈ ws.zip (clOf r).2 → ∀ H2, Ex H' H2 → Ev (tOp (rIxT K) (tOp (rIxT K) (tFld K (tVar 4) "atom") (tC (.int 0))) (tC (.int 0))) [some (.ref a), some (.ref f), some (.ref p), s3, some z.1, s5] H2 (nmV ((z.2.1.headD ([], 0)).1.headD 0)) := fun s3 s5 z hz2 H2 e2 => by
        obtain ⟨p1, dx1, q, g, g0, g1, g2, g3⟩ := hlit z hz2 H2 e2
        rw [g0]
        exact ev_op (ev_op (ev_fld (ev_var rfl) g1 cl_Literal na_Literal_atom rfl) ev_c (rv_ixT (i := 0) (st_of g2) rfl)) ev_c (rv_ixT (i := 0) (st_of g3) rfl)
      have hden : ∀ (s3 s5 : Option V) (z : V × Lt), z ∈ ws.zip (clOf r).2 → ∀ H2, Ex H' H2 → Ev (tFld K (tVar 4) "is_denied") [some (.ref a), some (.ref f), some (.ref p), s3, some z.1, s5] H2 (.bl z.2.2) := fun s3 s5 z hz2 H2 e2 => by
        obtain ⟨p1, dx1, q, g, g0, g1, g2, g3⟩ := hlit z hz2 H2 e2
        rw [g0]
        exact ev_fld (ev_var rfl) g1 cl_Literal na_Literal_is_denied rfl
      have w1 : ((ws.zip (clOf r).2).filter fun z => !z.2.2).map (fun z => nmV ((z.2.1.headD ([], 0)).1.headD 0)) = nmL r.2.1 := by
        rw [zip_fm (fun z : Lt => !z.2) (fun z : Lt => nmV ((z.1.headD ([], 0)).1.headD 0)) ws _ c4.1]
        exact clOf_wanted r
      have w2 : ((ws.zip (clOf r).2).filter fun z => z.2.2).map (fun z => nmV ((z.2.1.headD ([], 0)).1.headD 0)) = nmL r.2.2 := by
        rw [zip_fm (fun z : Lt => z.2) (fun z : Lt => nmV ((z.1.headD ([], 0)).1.headD 0)) ws _ c4.1]
        exact clOf_denied r
      refine q_asgL (xs := nmL r.2.1) (w1 ▸ el_lc (as := ws.zip (clOf r).2) (inj := Prod.fst) (fun z => !z.2.2) (fun z => nmV ((z.2.1.headD ([], 0)).1.headD 0)) (hit s3 s5) (by omega) (fun _ => rfl) (fun z hz2 H2 e2 => et_not (et_B (hden s3 s5 z hz2 H2 e2))) (fun z hz2 H2 e2 _ => helt s3 s5 z hz2 H2 e2)) (fun wa H2 hwa e2 h2 => ?_)
      refine q_asgL (xs := nmL r.2.2) (w2 ▸ el_lc (as := ws.zip (clOf r).2) (inj := Prod.fst) (fun z => z.2.2) (fun z => nmV ((z.2.1.headD ([], 0)).1.headD 0)) ((hit (some (.ref wa)) s5).mono e2) (by omega) (fun _ => rfl) (fun z hz2 H3 e3 => et_B (hden (some (.ref wa)) s5 z hz2 H3 (e2.trans e3))) (fun z hz2 H3 e3 _ => helt (some (.ref wa)) s5 z hz2 H3 (e2.trans e3))) (fun da H3 hda e3 h3 => ?_)
      have e23 := e2.trans e3
      obtain ⟨q, vs, et, g1, g2, g3⟩ := c2
      subst et
      obtain ⟨gv, rfl⟩ : ∃ v, vs = [v] := by
        match vs, g2 with
        | [v], _ => exact ⟨v, rfl⟩
      obtain ⟨g, rfl, g4⟩ := g3 0 gv ([r.1], 0) rfl rfl
      have hyl := hys.1
      rw [List.length_take] at hyl
      have hi : i < us.length := (List.getElem?_eq_some_iff.mp hx).1
      refine s_appU (xs := ys) (ys := [nmV r.1, .ref wa, .ref da]) (e23 _ _ hf') (ev_var rfl) (eu_tup (ea_cons (ev_op (ev_op (ev_fld (f := "head") (ev_var rfl) (e23 _ _ (e' _ _ c1)) cl_Clause na_Clause_head rfl) ev_c (rv_ixT (i := 0) (v := .ref g) (st_of (e23 _ _ (e' _ _ g1))) rfl)) ev_c (rv_ixT (i := 0) (v := nmV r.1) (st_of (e23 _ _ (e' _ _ g4))) rfl)) (ea_cons (ev_var rfl) (ea_cons (ev_var rfl) ea_nil))) (few5 rfl)) (by omega) (fun tp H4 htp e4 h4 => ?_)
      have hf4 := e4 _ _ (e23 _ _ hf')
      have ht : rs.take (i + 1) = rs.take i ++ [r] := by rw [List.take_add_one, hr]; rfl
      refine ⟨_, _, _, ys ++ [.ref tp], rfl, Ex.mut (e'.trans (e23.trans e4)) hf, upd_same, ?_⟩
      rw [del_upd, ht]
      exact (AllV.mo RowAt.mo _ _ _ (ex_deldel (e23.trans e4)) hys).app (RowAtB.del (B := H') ⟨tp, wa, da, rfl, h4, e4 _ _ (e3 _ _ h2), e4 _ _ h3, hwa, fresh_back e2 hda⟩ hf4 hf')
    · rintro σ' H' ⟨s2, s3, s5, ys, rfl, e', hf', hys⟩
      refine s_ret (ev_var rfl) (fun H2 e2 => k f H2 hf (e'.trans e2) ⟨ys, e2 _ _ hf', ?_⟩)
      rw [hul, List.take_length] at hys
      exact AllV.mo RowAt.mo _ _ _ ((ex_del H' f).trans e2) hys

end
end Tx
end
section
set_option Elab.async false
set_option linter.all false
set_option maxRecDepth 100000
set_option maxHeartbeats 4000000
namespace Tx
open PySem PySem.Spec PyProof.Rows L2 Evl Wk
section
variable {w : World} {K : PySem.W.Frag} {mg : Str → Option Value} {base : Heap}

def SzRs (rs : List Rw) : Prop := rs.length ≤ 60 ∧ (∀ r, r ∈ rs → SzR r) ∧ (keysOf rs).length < 64
def sp_names_of : Sp := fun vs H Q _ => ∃ (a : Addr) (rs : List Rw), vs = [.ref a] ∧ RowsAt rs a H ∧ SzRs rs ∧ RetL (nmL (namesOf rs)) H Q
theorem sc_names_of : FnScope ["rows", "found", "head", "wanted", "denied", "name"] ["rows"] (defScope s_names_of) := ⟨rfl, rfl, rfl, by decide +kernel, rfl, by decide +kernel, by decide +kernel⟩
theorem ok_names_of (Z : Zx K mg) : OkD prog w K mg base CX0 1 "names_of" ["rows"] (sp_names_of) := by
  obtain ⟨fd, F0⟩ := Z.fun_ 27
  have F : Fun K "names_of" "names_of" s_names_of (He.ga K "names_of") fd := Wk.fun_of F0
  have n_sorted := Z.free 74 (x := "sorted")
  refine ⟨fd, ?_, F.binds (ps := ["rows"]) fun _ _ _ _ _ _ us hl => match us, hl with | [_], _ => rfl, Z.glo 20, F.kp⟩
  refine F.ok sc_names_of (fun vs H Q E h => ?_) (fun cdv A outer s H vs Q E hr h => ?_)
  · obtain ⟨a, rs, rfl, ⟨us, ha, hall⟩, ⟨hn, hsz, h64⟩, k⟩ := h
    rfl
  · obtain ⟨a, rs, rfl, ⟨us, ha, hall⟩, ⟨hn, hsz, h64⟩, k⟩ := h
    have hu1 := hu_of hr
    refine ⟨_, (pss_cons (ps_set (i := 1) sc_names_of.nd rfl (by first | exact Or.inl rfl | exact Or.inr rfl) pe_dnewK) (pss_cons (ps_for PassesOwn.never rfl (pi_list (pv 0)) (pg_tup rfl (pgs_cons (pg_name (i := 2) sc_names_of.nd rfl (by first | exact Or.inl rfl | exact Or.inr rfl)) (pgs_cons (pg_name (i := 3) sc_names_of.nd rfl (by first | exact Or.inl rfl | exact Or.inr rfl)) (pgs_cons (pg_name (i := 4) sc_names_of.nd rfl (by first | exact Or.inl rfl | exact Or.inr rfl)) pgs_nil)))) (pss_one (ps_for PassesOwn.never rfl (pi_list (pe_op op_cat (pe_op op_cat (pe_lst (pa_cons (pv 2) pa_nil)) (pv 3)) (pv 4))) (pg_name (i := 5) sc_names_of.nd rfl (by first | exact Or.inl rfl | exact Or.inr rfl)) (pss_one (ps_dput hu1 (pv 1) (pv 5) pe_bl rfl))))) (pss_one (ps_ret (pe_callB (call_sortedD rfl) (by rfl) n_sorted (by decide +kernel) (pa_cons (pv 1) pa_nil)))))), ?_⟩
    have hul := hall.1
    refine q_dnew (fun d H1 hd e1 h1 => ?_)
    refine q_forL (K := K) (xs := us) (ev_var rfl) (sq_of (e1 _ _ ha)) (fun i σ' H' => ∃ s2 s3 s4 s5, σ' = [some (.ref a), some (.ref d), s2, s3, s4, s5] ∧ Ex H H' ∧ H' d = some (.dK (dk (keysOf (rs.take i)))) ∧ (keysOf (rs.take i)).length ≤ i * 300) (fun H2 e2 => ⟨none, none, none, none, rfl, e1.trans e2, e2 _ _ h1, by simp [keysOf]⟩) (fun i σ' H' _ ⟨_, _, _, _, _, e, _⟩ => sq_of (e _ _ ha)) ?_ ?_
    · rintro i x σ' H' hx ⟨s2, s3, s4, s5, rfl, e', hd', hlen⟩
      obtain ⟨r, hr, p, w, dn, rfl, c1, c2, c3⟩ := AllV.at hall hx
      obtain ⟨z1, z2⟩ := hsz r (List.mem_of_getElem? hr)
      have hi : i < us.length := (List.getElem?_eq_some_iff.mp hx).1
      refine ⟨p, _, rfl, st_of (e' _ _ c1), rfl, _, _, rfl, _, _, rfl, _, _, rfl, rfl, ?_⟩
      rw [keysOf_take hr]
      refine s_forNL (K := K) (xs := nmL (rowNs r)) (el_cat (el_cat (el_lst (ea_cons (ev_var rfl) ea_nil) (few5 rfl)) (ev_var rfl) (e' _ _ c2) (by rw [nmL_len]; show 1 + _ ≤ _; omega)) (ev_var rfl) (e' _ _ c3) (by rw [List.length_append, nmL_len, nmL_len]; show 1 + _ + _ ≤ _; omega) |> fun h => (by
          have e : nmL (rowNs r) = ([nmV r.1] ++ nmL r.2.1) ++ nmL r.2.2 := by unfold nmL rowNs; rw [List.map_cons, List.map_append]; rfl
          rw [e]; exact h)) (fun q j σ' H' => ∃ s5, σ' = [some (.ref a), some (.ref d), some (nmV r.1), some (.ref w), some (.ref dn), s5] ∧ Ex H H' ∧ q ≠ d ∧ H' q = some (.lst (nmL (rowNs r))) ∧ H' d = some (.dK (dk (addAll (keysOf (rs.take i)) ((rowNs r).take j)))))
        (fun q H3 hq e3 h3 => ⟨s5, rfl, e'.trans e3, (ne_new hd' hq).symm, h3, e3 _ _ hd'⟩) (fun q j σ' H' _ ⟨_, _, _, _, h, _⟩ => sq_of h) ?_ ?_
      · rintro q j x σ' H'' hj ⟨s5', rfl, e'', hqd, hq, hd''⟩
        unfold nmL at hj
        rw [List.getElem?_map] at hj
        obtain ⟨c, hc, rfl⟩ := Option.map_eq_some_iff.mp hj
        have hj2 : j < (rowNs r).length := (List.getElem?_eq_some_iff.mp hc).1
        have hrl : (rowNs r).length = 1 + r.2.1.length + r.2.2.length := by unfold rowNs; rw [List.length_cons, List.length_append]; omega
        have hal := addAll_len ((rowNs r).take j) (keysOf (rs.take i))
        rw [List.length_take] at hal
        show sDPut _ _ _ _ _ _
        refine s_dput (ns := addAll (keysOf (rs.take i)) ((rowNs r).take j)) (c := c) ev_c (ev_var rfl) (ev_var rfl) hd'' (by omega) (fun H4 e4 => ⟨_, rfl, Ex.mut (e''.trans e4) hd, hqd, ?_, ?_⟩)
        · rw [upd_ne hqd]; exact e4 _ _ hq
        · rw [upd_same, addAll_take hc]
      · rintro q σ' H'' ⟨s5', rfl, e'', hqd, hq, hd''⟩
        rw [nmL_len, List.take_length] at hd''
        refine ⟨_, _, _, _, rfl, e'', hd'', ?_⟩
        have hal := addAll_len (rowNs r) (keysOf (rs.take i))
        have hrl : (rowNs r).length = 1 + r.2.1.length + r.2.2.length := by unfold rowNs; rw [List.length_cons, List.length_append]; omega
        omega
    · rintro σ' H' ⟨s2, s3, s4, s5, rfl, e', hd', hlen⟩
      rw [hul, List.take_length] at hd'
      exact s_retL (el_sortedD (ev_var rfl) hd' h64) (fun p H2 hp e2 h2 => k p H2 (fresh_back e' hp) (e'.trans e2) h2)

end
end Tx
end
section
set_option Elab.async false
set_option linter.all false
set_option maxRecDepth 100000
set_option maxHeartbeats 4000000
namespace Tx
open PySem PySem.Spec PyProof.Rows L2 Evl Wk
section
variable {w : World} {K : PySem.W.Frag} {mg : Str → Option Value} {base : Heap}

theorem ev_inS {σ : L2.St} {H : Hp} {ta tb : TE} {a : Addr} {c : Nat} {ks : List Nat} (h : Ev ta σ H (nmV c)) (hb : Ev tb σ H (.ref a)) (hx : SqL K H a (nmL ks) ∨ SqT K H a (nmL ks)) : Ev (tOp (rIn K false) ta tb) σ H (.bl (decide (c ∈ ks))) := hx.elim (fun hx => ev_inL h hb hx) (fun hx => ev_inT h hb hx)
def sp_built_on (K : PySem.W.Frag) : Sp := fun vs H Q _ => ∃ (a b : Addr) (rs : List Rw) (ks : List Nat), vs = [.ref a, .ref b] ∧ RowsAt rs a H ∧ (SqL K H b (nmL ks) ∨ SqT K H b (nmL ks)) ∧ SzRs rs ∧ RetL (nmL (sortN (fixOf (okB ks) rs))) H Q
def sp_high_of (K : PySem.W.Frag) : Sp := fun vs H Q _ => ∃ (a t u : Addr) (rs : List Rw) (ts fs : List Nat), vs = [.ref a, .ref t, .ref u] ∧ RowsAt rs a H ∧ H t = some (.dK (dk ts)) ∧ H u = some (.dK (dk fs)) ∧ SzRs rs ∧
  ∀ p H', H p = none → Ex H H' → H' p = some (.dK (dk (fixOf (okH ts fs) rs))) → Q (.ref p) H'
theorem sc_built_on : FnScope ["rows", "known", "found", "is_new", "head", "wanted", "denied", "is_good", "name"] ["rows", "known"] (defScope s_built_on) := ⟨rfl, rfl, rfl, by decide +kernel, rfl, by decide +kernel, by decide +kernel⟩
theorem ok_built_on (Z : Zx K mg) : OkD prog w K mg base CX0 1 "built_on" ["rows", "known"] (sp_built_on K) := by
  obtain ⟨fd, F0⟩ := Z.fun_ 29
  have F : Fun K "built_on" "built_on" s_built_on (He.ga K "built_on") fd := Wk.fun_of F0
  have n_all := Z.free 62 (x := "all")
  have n_any := Z.free 63 (x := "any")
  have n_sorted := Z.free 74 (x := "sorted")
  refine ⟨fd, ?_, F.binds (ps := ["rows", "known"]) fun _ _ _ _ _ _ us hl => match us, hl with | [_, _], _ => rfl, Z.glo 22, F.kp⟩
  refine F.ok sc_built_on (fun vs H Q E h => ?_) (fun cdv A outer s H vs Q E hr h => ?_)
  · obtain ⟨a, b, rs, ks, rfl, hrs, hks, hsz, k⟩ := h
    rfl
  · obtain ⟨a, b, rs, ks, rfl, hrs, hks, hsz, k⟩ := h
    have hu1 := hu_of hr
    refine ⟨_, (pss_cons (ps_set (i := 2) sc_built_on.nd rfl (by first | exact Or.inl rfl | exact Or.inr rfl) pe_dnewK) (pss_cons (ps_set (i := 3) sc_built_on.nd rfl (by first | exact Or.inl rfl | exact Or.inr rfl) pe_bl) (pss_cons (ps_while PassesOwn.never (pt_val (pv 3)) (pss_cons (ps_set (i := 3) sc_built_on.nd rfl (by first | exact Or.inl rfl | exact Or.inr rfl) pe_bl) (pss_one (ps_for PassesOwn.never rfl (pi_list (pv 0)) (pg_tup rfl (pgs_cons (pg_name (i := 4) sc_built_on.nd rfl (by first | exact Or.inl rfl | exact Or.inr rfl)) (pgs_cons (pg_name (i := 5) sc_built_on.nd rfl (by first | exact Or.inl rfl | exact Or.inr rfl)) (pgs_cons (pg_name (i := 6) sc_built_on.nd rfl (by first | exact Or.inl rfl | exact Or.inr rfl)) pgs_nil)))) (pss_cons (ps_set (i := 7) sc_built_on.nd rfl (by first | exact Or.inl rfl | exact Or.inr rfl) (pe_and (pe_callB (cr_all rfl) (by rfl) n_all (by decide +kernel) (pa_cons (pe_lc (own := [("name", 8)]) rfl sc_built_on.nd (pi_list (pv 5)) (blkOk_by (own := [("name", 8)]) (N := ["rows", "known", "found", "is_new", "head", "wanted", "denied", "is_good", "name"]) (sc := defScope s_built_on) (by decide +kernel)) (fun _ _ _ _ _ => pg_name (i := 8) sc_built_on.nd rfl (by first | exact Or.inl rfl | exact Or.inr rfl)) (fun _ _ _ _ _ => pts_nil) (fun _ _ _ _ _ => (pe_cmp (pc_din hu1 (pv 8) (pv 2)) (by rfl)))) pa_nil)) (pe_one (pe_not (pe_callB (cr_any rfl) (by rfl) n_any (by decide +kernel) (pa_cons (pe_lc (te := (tOp (rIn K false) (tVar 8) (tVar 1))) (own := [("name", 8)]) rfl sc_built_on.nd (pi_list (pv 6)) (blkOk_by (own := [("name", 8)]) (N := ["rows", "known", "found", "is_new", "head", "wanted", "denied", "is_good", "name"]) (sc := defScope s_built_on) (by decide +kernel)) (fun _ _ _ _ _ => pg_name (i := 8) sc_built_on.nd rfl (by first | exact Or.inl rfl | exact Or.inr rfl)) (fun _ _ _ _ _ => pts_nil) (fun _ _ _ _ _ => (pe_cmpR op_in_seq (pv 8) (pv 1) rfl))) pa_nil)))))) (pss_one (ps_if (pw_and (pt_val (pv 7)) (pw_and1 (pt_cmp (pc_dnotin hu1 (pv 4) (pv 2)) (by rfl)))).pt (pss_cons (ps_dput hu1 (pv 2) (pv 4) pe_bl rfl) (pss_one (ps_set (i := 3) sc_built_on.nd rfl (by first | exact Or.inl rfl | exact Or.inr rfl) pe_bl))) pss_nil))))))) (pss_one (ps_ret (pe_callB (call_sortedD rfl) (by rfl) n_sorted (by decide +kernel) (pa_cons (pv 2) pa_nil))))))), ?_⟩
    obtain ⟨us, ha, hall⟩ := hrs
    have hul := hall.1
    refine q_dnew (fun d H1 hd e1 h1 => ?_)
    refine q_asg ev_c (fun H2 e2 => ?_)
    have e12 := e1.trans e2
    obtain ⟨W, hW⟩ : ∃ W : Nat → L2.St → Hp → Prop, W = fun m σ' H' => ∃ f new s4 s5 s6 s7, σ' = [some (.ref a), some (.ref b), some (.ref d), some (.bl new), s4, s5, s6, s7, none] ∧ Ex H H' ∧ H' d = some (.dK (dk f)) ∧ f.length + unm rs f ≤ rs.length ∧
      (new = true → ∃ n, m = n + 1 ∧ unm rs f + 1 ≤ n ∧ fixOf (okB ks) rs = fixN (okB ks) rs n f) ∧ (new = false → m = 0 ∧ fixOf (okB ks) rs = f) := ⟨_, rfl⟩
    refine q_while W (rs.length + 3) (by
      rw [hW]
      exact ⟨[], true, none, none, none, none, rfl, e12, e2 _ _ h1, by have := unm_le rs []; simpa using this, fun _ => ⟨rs.length + 2, rfl, by have := unm_le rs []; omega, rfl⟩, fun h => by cases h⟩) ?_
    intro m σ' H' hw
    rw [hW] at hw
    obtain ⟨f, new, s4, s5, s6, s7, rfl, e', hd', hcnt, w1, w2⟩ := hw
    refine ⟨new, et_B (ev_var rfl), fun hb H3 e3 => ?_, fun hb H3 e3 => ?_⟩
    · subst hb
      obtain ⟨n, rfl, hn1, hfix⟩ := w1 rfl
      obtain ⟨n, rfl⟩ : ∃ n', n = n' + 1 := ⟨n - 1, by omega⟩
      have hstep : fixN (okB ks) rs (n + 1) f = if (pass (okB ks) rs f).2 = true then fixN (okB ks) rs n (pass (okB ks) rs f).1 else f := rfl
      rw [hstep] at hfix
      refine ⟨fun σ2 H4 => ∃ m', m' < n + 1 + 1 ∧ W m' σ2 H4, fun _ _ h => h, ?_⟩
      refine q_asg ev_c (fun H4 e4 => ?_)
      have e34 := e3.trans e4
      refine s_forL (K := K) (xs := us) (ev_var rfl) (sq_of (e34 _ _ (e' _ _ ha))) (fun i σ' H' => ∃ s4 s5 s6 s7, σ' = [some (.ref a), some (.ref b), some (.ref d), some (.bl ((rs.take i).foldl (pStep (okB ks)) (f, false)).2), s4, s5, s6, s7, none] ∧ Ex H H' ∧ H' d = some (.dK (dk ((rs.take i).foldl (pStep (okB ks)) (f, false)).1)) ∧ ((rs.take i).foldl (pStep (okB ks)) (f, false)).1.length + unm rs ((rs.take i).foldl (pStep (okB ks)) (f, false)).1 ≤ rs.length)
        (fun H5 e5 => ⟨s4, s5, s6, s7, rfl, e'.trans (e34.trans e5), (e34.trans e5) _ _ hd', hcnt⟩) (fun i σ' H' _ ⟨_, _, _, _, _, e, _⟩ => sq_of (e _ _ ha)) ?_ ?_
      · rintro i x σ' H5 hx ⟨s4, s5, s6, s7, rfl, e5, hd5, hcnt5⟩
        obtain ⟨r, hr, p, w, dn, rfl, c1, c2, c3⟩ := AllV.at hall hx
        obtain ⟨z1, z2⟩ := hsz.2.1 r (List.mem_of_getElem? hr)
        refine ⟨p, _, rfl, st_of (e5 _ _ c1), rfl, _, _, rfl, _, _, rfl, _, _, rfl, rfl, ?_⟩
        have hcn := pStep_cnt (ok := okB ks) (List.mem_of_getElem? hr) hcnt5
        have hlim : rs.length ≤ 60 := hsz.1
        rw [pass_take hr]
        generalize (rs.take i).foldl (pStep (okB ks)) (f, false) = S at *
        obtain ⟨g, nw⟩ := S
        dsimp only at hd5 hcnt5 ⊢
        refine q_asg (v := .bl ((r.2.1.all fun c => decide (c ∈ g)) && !(r.2.2.any fun c => decide (c ∈ ks)))) (ev_andV (ev_allc (K := K) (p := fun c => decide (c ∈ g)) (as := r.2.1) (inj := nmV) (ei_L (K := K) (ev_var rfl) (sq_of (e5 _ _ c2))) (by omega) (fun _ => rfl) (fun c _ H9 e9 => ev_din (ev_var rfl) (ev_var rfl) (e9 _ _ hd5))) (fun _ => ev_notV (ev_anyc (K := K) (p := fun c => decide (c ∈ ks)) (as := r.2.2) (inj := nmV) (ei_L (K := K) (ev_var rfl) (sq_of (e5 _ _ c3))) (by omega) (fun _ => rfl) (fun c _ H9 e9 => ev_inS (K := K) (ev_var rfl) (ev_var rfl) (hks.imp (ex_l (e5.trans e9)) (ex_t (e5.trans e9))))))) (fun H6 e6 => ?_)
        refine s_when (b := (okB ks) r && (decide (r.1 ∉ g) && r.2.1.all fun c => decide (c ∈ g))) (et_is (et_and (et_B (ev_var rfl)) (fun _ => et_B (ev_dnotin (ev_var rfl) (ev_var rfl) (e6 _ _ hd5)))) ?_) (fun hb H7 e7 => ?_) (fun hb H7 e7 => ?_)
        · unfold okB; rw [decide_not]; cases (r.2.1.all fun c => decide (c ∈ g)) <;> cases (r.2.2.any fun c => decide (c ∈ ks)) <;> cases decide (r.1 ∈ g) <;> rfl
        · have e67 := e6.trans e7
          rw [pStep_yes hb] at hcn ⊢
          refine q_dput (ns := g) (c := r.1) ev_c (ev_var rfl) (ev_var rfl) (e67 _ _ hd5) (by omega) (fun H8 e8 => ?_)
          refine s_asg ev_c (fun H9 e9 => ?_)
          exact ⟨_, _, _, _, rfl, (Ex.mut (e5.trans (e67.trans e8)) hd).trans e9, e9 _ _ upd_same, hcn⟩
        · have e67 := e6.trans e7
          rw [pStep_no hb] at hcn ⊢
          exact ⟨_, _, _, _, rfl, e5.trans e67, e67 _ _ hd5, hcn⟩
      · rintro σ' H5 ⟨s4, s5, s6, s7, rfl, e5, hd5, hcnt5⟩
        rw [hul, List.take_length] at hd5 hcnt5 ⊢
        have hp : rs.foldl (pStep (okB ks)) (f, false) = pass (okB ks) rs f := rfl
        rw [hp] at hd5 hcnt5 ⊢
        refine ⟨if (pass (okB ks) rs f).2 = true then n + 1 else 0, by split <;> omega, ?_⟩
        rw [hW]
        refine ⟨(pass (okB ks) rs f).1, (pass (okB ks) rs f).2, s4, s5, s6, s7, rfl, e5, hd5, hcnt5, fun h => ?_, fun h => ?_⟩
        · rw [if_pos h] at hfix ⊢
          have := pass_new h
          exact ⟨n, rfl, by omega, hfix⟩
        · rw [if_neg (by rw [h]; decide)] at hfix ⊢
          exact ⟨rfl, by rw [pass_old h]; exact hfix⟩
    · have hf := (w2 hb).2
      have hlim : rs.length ≤ 60 := hsz.1
      rw [hf] at k
      exact s_retL (el_sortedD (ev_var rfl) (e3 _ _ hd') (by omega)) (fun p H4 hp e4 h4 => k p H4 (fresh_back (e'.trans e3) hp) ((e'.trans e3).trans e4) h4)
theorem sc_high_of : FnScope ["rows", "true", "false", "found", "is_new", "head", "wanted", "denied", "is_blocked", "name"] ["rows", "true", "false"] (defScope s_high_of) := ⟨rfl, rfl, rfl, by decide +kernel, rfl, by decide +kernel, by decide +kernel⟩
theorem ok_high_of (Z : Zx K mg) : OkD prog w K mg base CX0 1 "high_of" ["rows", "true", "false"] (sp_high_of K) := by
  obtain ⟨fd, F0⟩ := Z.fun_ 41
  have F : Fun K "high_of" "high_of" s_high_of (He.ga K "high_of") fd := Wk.fun_of F0
  have n_all := Z.free 62 (x := "all")
  have n_any := Z.free 63 (x := "any")
  refine ⟨fd, ?_, F.binds (ps := ["rows", "true", "false"]) fun _ _ _ _ _ _ us hl => match us, hl with | [_, _, _], _ => rfl, Z.glo 34, F.kp⟩
  refine F.ok sc_high_of (fun vs H Q E h => ?_) (fun cdv A outer s H vs Q E hr h => ?_)
  · obtain ⟨a, t, u, rs, ts, fs, rfl, hrs, hts, hfs, hsz, k⟩ := h
    rfl
  · obtain ⟨a, t, u, rs, ts, fs, rfl, hrs, hts, hfs, hsz, k⟩ := h
    have hu1 := hu_of hr
    refine ⟨_, (pss_cons (ps_set (i := 3) sc_high_of.nd rfl (by first | exact Or.inl rfl | exact Or.inr rfl) pe_dnewK) (pss_cons (ps_set (i := 4) sc_high_of.nd rfl (by first | exact Or.inl rfl | exact Or.inr rfl) pe_bl) (pss_cons (ps_while PassesOwn.never (pt_val (pv 4)) (pss_cons (ps_set (i := 4) sc_high_of.nd rfl (by first | exact Or.inl rfl | exact Or.inr rfl) pe_bl) (pss_one (ps_for PassesOwn.never rfl (pi_list (pv 0)) (pg_tup rfl (pgs_cons (pg_name (i := 5) sc_high_of.nd rfl (by first | exact Or.inl rfl | exact Or.inr rfl)) (pgs_cons (pg_name (i := 6) sc_high_of.nd rfl (by first | exact Or.inl rfl | exact Or.inr rfl)) (pgs_cons (pg_name (i := 7) sc_high_of.nd rfl (by first | exact Or.inl rfl | exact Or.inr rfl)) pgs_nil)))) (pss_cons (ps_set (i := 8) sc_high_of.nd rfl (by first | exact Or.inl rfl | exact Or.inr rfl) (pe_or (pe_callB (cr_any rfl) (by rfl) n_any (by decide +kernel) (pa_cons (pe_lc (own := [("name", 9)]) rfl sc_high_of.nd (pi_list (pv 6)) (blkOk_by (own := [("name", 9)]) (N := ["rows", "true", "false", "found", "is_new", "head", "wanted", "denied", "is_blocked", "name"]) (sc := defScope s_high_of) (by decide +kernel)) (fun _ _ _ _ _ => pg_name (i := 9) sc_high_of.nd rfl (by first | exact Or.inl rfl | exact Or.inr rfl)) (fun _ _ _ _ _ => pts_nil) (fun _ _ _ _ _ => (pe_cmp (pc_din hu1 (pv 9) (pv 2)) (by rfl)))) pa_nil)) (pe_one (pe_callB (cr_any rfl) (by rfl) n_any (by decide +kernel) (pa_cons (pe_lc (own := [("name", 9)]) rfl sc_high_of.nd (pi_list (pv 7)) (blkOk_by (own := [("name", 9)]) (N := ["rows", "true", "false", "found", "is_new", "head", "wanted", "denied", "is_blocked", "name"]) (sc := defScope s_high_of) (by decide +kernel)) (fun _ _ _ _ _ => pg_name (i := 9) sc_high_of.nd rfl (by first | exact Or.inl rfl | exact Or.inr rfl)) (fun _ _ _ _ _ => pts_nil) (fun _ _ _ _ _ => (pe_cmp (pc_din hu1 (pv 9) (pv 1)) (by rfl)))) pa_nil))))) (pss_one (ps_if (pw_and (pt_cmp (pc_dnotin hu1 (pv 5) (pv 3)) (by rfl)) (pw_and (pt_not (pt_val (pv 8))) (pw_and1 (pt_val (pe_callB (cr_all rfl) (by rfl) n_all (by decide +kernel) (pa_cons (pe_lc (own := [("name", 9)]) rfl sc_high_of.nd (pi_list (pv 6)) (blkOk_by (own := [("name", 9)]) (N := ["rows", "true", "false", "found", "is_new", "head", "wanted", "denied", "is_blocked", "name"]) (sc := defScope s_high_of) (by decide +kernel)) (fun _ _ _ _ _ => pg_name (i := 9) sc_high_of.nd rfl (by first | exact Or.inl rfl | exact Or.inr rfl)) (fun _ _ _ _ _ => pts_nil) (fun _ _ _ _ _ => (pe_cmp (pc_din hu1 (pv 9) (pv 3)) (by rfl)))) pa_nil)))))).pt (pss_cons (ps_dput hu1 (pv 3) (pv 5) pe_bl rfl) (pss_one (ps_set (i := 4) sc_high_of.nd rfl (by first | exact Or.inl rfl | exact Or.inr rfl) pe_bl))) pss_nil))))))) (pss_one (ps_ret (pv 3)))))), ?_⟩
    obtain ⟨us, ha, hall⟩ := hrs
    have hul := hall.1
    refine q_dnew (fun d H1 hd e1 h1 => ?_)
    refine q_asg ev_c (fun H2 e2 => ?_)
    have e12 := e1.trans e2
    obtain ⟨W, hW⟩ : ∃ W : Nat → L2.St → Hp → Prop, W = fun m σ' H' => ∃ f new s4 s5 s6 s7, σ' = [some (.ref a), some (.ref t), some (.ref u), some (.ref d), some (.bl new), s4, s5, s6, s7, none] ∧ Ex H H' ∧ H' d = some (.dK (dk f)) ∧ f.length + unm rs f ≤ rs.length ∧
      (new = true → ∃ n, m = n + 1 ∧ unm rs f + 1 ≤ n ∧ fixOf (okH ts fs) rs = fixN (okH ts fs) rs n f) ∧ (new = false → m = 0 ∧ fixOf (okH ts fs) rs = f) := ⟨_, rfl⟩
    refine q_while W (rs.length + 3) (by
      rw [hW]
      exact ⟨[], true, none, none, none, none, rfl, e12, e2 _ _ h1, by have := unm_le rs []; simpa using this, fun _ => ⟨rs.length + 2, rfl, by have := unm_le rs []; omega, rfl⟩, fun h => by cases h⟩) ?_
    intro m σ' H' hw
    rw [hW] at hw
    obtain ⟨f, new, s4, s5, s6, s7, rfl, e', hd', hcnt, w1, w2⟩ := hw
    refine ⟨new, et_B (ev_var rfl), fun hb H3 e3 => ?_, fun hb H3 e3 => ?_⟩
    · subst hb
      obtain ⟨n, rfl, hn1, hfix⟩ := w1 rfl
      obtain ⟨n, rfl⟩ : ∃ n', n = n' + 1 := ⟨n - 1, by omega⟩
      have hstep : fixN (okH ts fs) rs (n + 1) f = if (pass (okH ts fs) rs f).2 = true then fixN (okH ts fs) rs n (pass (okH ts fs) rs f).1 else f := rfl
      rw [hstep] at hfix
      refine ⟨fun σ2 H4 => ∃ m', m' < n + 1 + 1 ∧ W m' σ2 H4, fun _ _ h => h, ?_⟩
      refine q_asg ev_c (fun H4 e4 => ?_)
      have e34 := e3.trans e4
      refine s_forL (K := K) (xs := us) (ev_var rfl) (sq_of (e34 _ _ (e' _ _ ha))) (fun i σ' H' => ∃ s4 s5 s6 s7, σ' = [some (.ref a), some (.ref t), some (.ref u), some (.ref d), some (.bl ((rs.take i).foldl (pStep (okH ts fs)) (f, false)).2), s4, s5, s6, s7, none] ∧ Ex H H' ∧ H' d = some (.dK (dk ((rs.take i).foldl (pStep (okH ts fs)) (f, false)).1)) ∧ ((rs.take i).foldl (pStep (okH ts fs)) (f, false)).1.length + unm rs ((rs.take i).foldl (pStep (okH ts fs)) (f, false)).1 ≤ rs.length)
        (fun H5 e5 => ⟨s4, s5, s6, s7, rfl, e'.trans (e34.trans e5), (e34.trans e5) _ _ hd', hcnt⟩) (fun i σ' H' _ ⟨_, _, _, _, _, e, _⟩ => sq_of (e _ _ ha)) ?_ ?_
      · rintro i x σ' H5 hx ⟨s4, s5, s6, s7, rfl, e5, hd5, hcnt5⟩
        obtain ⟨r, hr, p, w, dn, rfl, c1, c2, c3⟩ := AllV.at hall hx
        obtain ⟨z1, z2⟩ := hsz.2.1 r (List.mem_of_getElem? hr)
        refine ⟨p, _, rfl, st_of (e5 _ _ c1), rfl, _, _, rfl, _, _, rfl, _, _, rfl, rfl, ?_⟩
        have hcn := pStep_cnt (ok := okH ts fs) (List.mem_of_getElem? hr) hcnt5
        have hlim : rs.length ≤ 60 := hsz.1
        rw [pass_take hr]
        generalize (rs.take i).foldl (pStep (okH ts fs)) (f, false) = S at *
        obtain ⟨g, nw⟩ := S
        dsimp only at hd5 hcnt5 ⊢
        refine q_asg (v := .bl ((r.2.1.any fun c => decide (c ∈ fs)) || r.2.2.any fun c => decide (c ∈ ts))) (ev_orV (ev_anyc (K := K) (p := fun c => decide (c ∈ fs)) (as := r.2.1) (inj := nmV) (ei_L (K := K) (ev_var rfl) (sq_of (e5 _ _ c2))) (by omega) (fun _ => rfl) (fun c _ H9 e9 => ev_din (ev_var rfl) (ev_var rfl) ((e5.trans e9) _ _ hfs))) (fun _ => ev_anyc (K := K) (p := fun c => decide (c ∈ ts)) (as := r.2.2) (inj := nmV) (ei_L (K := K) (ev_var rfl) (sq_of (e5 _ _ c3))) (by omega) (fun _ => rfl) (fun c _ H9 e9 => ev_din (ev_var rfl) (ev_var rfl) ((e5.trans e9) _ _ hts)))) (fun H6 e6 => ?_)
        refine s_when (b := (okH ts fs) r && (decide (r.1 ∉ g) && r.2.1.all fun c => decide (c ∈ g))) (et_is (et_and (et_B (ev_dnotin (ev_var rfl) (ev_var rfl) (e6 _ _ hd5))) (fun _ => et_and (et_not (et_B (ev_var rfl))) (fun _ => et_B (ev_allc (K := K) (p := fun c => decide (c ∈ g)) (as := r.2.1) (inj := nmV) (ei_L (K := K) (ev_var rfl) (sq_of ((e5.trans e6) _ _ c2))) (by omega) (fun _ => rfl) (fun c _ H9 e9 => ev_din (ev_var rfl) (ev_var rfl) (e9 _ _ (e6 _ _ hd5))))))) ?_) (fun hb H7 e7 => ?_) (fun hb H7 e7 => ?_)
        · unfold okH; rw [decide_not]; cases (r.2.1.all fun c => decide (c ∈ g)) <;> cases ((r.2.1.any fun c => decide (c ∈ fs)) || r.2.2.any fun c => decide (c ∈ ts)) <;> cases decide (r.1 ∈ g) <;> rfl
        · have e67 := e6.trans e7
          rw [pStep_yes hb] at hcn ⊢
          refine q_dput (ns := g) (c := r.1) ev_c (ev_var rfl) (ev_var rfl) (e67 _ _ hd5) (by omega) (fun H8 e8 => ?_)
          refine s_asg ev_c (fun H9 e9 => ?_)
          exact ⟨_, _, _, _, rfl, (Ex.mut (e5.trans (e67.trans e8)) hd).trans e9, e9 _ _ upd_same, hcn⟩
        · have e67 := e6.trans e7
          rw [pStep_no hb] at hcn ⊢
          exact ⟨_, _, _, _, rfl, e5.trans e67, e67 _ _ hd5, hcn⟩
      · rintro σ' H5 ⟨s4, s5, s6, s7, rfl, e5, hd5, hcnt5⟩
        rw [hul, List.take_length] at hd5 hcnt5 ⊢
        have hp : rs.foldl (pStep (okH ts fs)) (f, false) = pass (okH ts fs) rs f := rfl
        rw [hp] at hd5 hcnt5 ⊢
        refine ⟨if (pass (okH ts fs) rs f).2 = true then n + 1 else 0, by split <;> omega, ?_⟩
        rw [hW]
        refine ⟨(pass (okH ts fs) rs f).1, (pass (okH ts fs) rs f).2, s4, s5, s6, s7, rfl, e5, hd5, hcnt5, fun h => ?_, fun h => ?_⟩
        · rw [if_pos h] at hfix ⊢
          have := pass_new h
          exact ⟨n, rfl, by omega, hfix⟩
        · rw [if_neg (by rw [h]; decide)] at hfix ⊢
          exact ⟨rfl, by rw [pass_old h]; exact hfix⟩
    · have hf := (w2 hb).2
      have hlim : rs.length ≤ 60 := hsz.1
      rw [hf] at k
      exact s_ret (ev_var rfl) (fun H4 e4 => k d H4 hd ((e'.trans e3).trans e4) ((e3.trans e4) _ _ hd'))

end
end Tx
end
section
set_option Elab.async false
set_option linter.all false
set_option maxRecDepth 100000
set_option maxHeartbeats 4000000
namespace Tx
open PySem PySem.Spec PyProof.Rows L2 Evl Wk
section
variable {w : World} {K : PySem.W.Frag} {mg : Str → Option Value} {base : Heap}

def sp_is_tuple (K : PySem.W.Frag) : Sp := fun vs H Q _ => ∃ (v : V) (lo hi : Int), vs = [v, .int lo, .int hi] ∧ ((∃ a xs, v = .ref a ∧ H a = some (.tup xs) ∧ ∀ H', Ex H H' → Q (.bl (decide (lo ≤ (xs.length : Int)) && decide ((xs.length : Int) ≤ hi))) H') ∨ (∃ t, TyX K H v (.type t) ∧ kitB t "tuple" = some false ∧ Q (.bl false) H))
theorem sc_is_tuple : FnScope ["value", "least", "most"] ["value", "least", "most"] (defScope s_is_tuple) := ⟨rfl, rfl, rfl, by decide +kernel, rfl, by decide +kernel, by decide +kernel⟩
theorem ok_is_tuple (Z : Zx K mg) : OkD prog w K mg base CX0 1 "is_tuple" ["value", "least", "most"] (sp_is_tuple K) := by
  obtain ⟨fd, F0⟩ := Z.fun_ 0
  have F : Fun K "is_tuple" "is_tuple" s_is_tuple (He.ga K "is_tuple") fd := Wk.fun_of F0
  have n_isinstance := Z.free 67 (x := "isinstance")
  have n_len := Z.free 68 (x := "len")
  have n_tuple := Z.free 76 (x := "tuple")
  refine ⟨fd, ?_, F.binds (ps := ["value", "least", "most"]) fun _ _ _ _ _ _ us hl => match us, hl with | [_, _, _], _ => rfl, Z.glo 0, F.kp⟩
  refine F.ok sc_is_tuple (fun vs H Q E h => ?_) (fun cdv A outer s H vs Q E hr h => ?_)
  · obtain ⟨v, lo, hi, rfl, h⟩ := h
    rfl
  · obtain ⟨v, lo, hi, rfl, h⟩ := h
    refine ⟨_, (pss_one (ps_ret (pe_and (pe_callB call_isi (by rfl) n_isinstance (by decide +kernel) (pa_cons (pv 0) (pa_cons (pe_bltn (v := .ty "tuple") (by rfl) n_tuple (by decide +kernel) rfl) pa_nil))) (pe_one (pe_chain op_le op_le (pv 1) (pe_callB call_len_seq (by rfl) n_len (by decide +kernel) (pa_cons (pv 0) pa_nil)) (pv 2)))))), ?_⟩
    rcases h with ⟨a, xs, rfl, ha, q⟩ | ⟨t, ht, hb, q⟩
    · refine ⟨_, rfl, _, _, _, _, _, rfl, .ty _, .base (.tup ha), kit_ty (by decide +kernel), true, rfl, ?_⟩
      exact ev_chainI (σ := L2.start ["value", "least", "most"] [V.ref a, V.int lo, V.int hi]) (i := lo) (j := (xs.length : Int)) (k := hi) (ta := tVar 1) (tb := tCB (rLenS K) (tCons (tVar 0) tNil)) (tc := tVar 2) (ev_var rfl) (ev_lenT (ev_var rfl) (st_of ha)) (ev_var rfl) H (Ex.refl _) _ (fun H' e' => q H' e')
    · refine ⟨_, rfl, _, _, _, _, _, rfl, .ty _, ht, kit_ty hb, false, rfl, ?_⟩
      exact q
/-- a program of names alone, or one with an atom that has parts -/
def sp_demand_names (K : PySem.W.Frag) : Sp := fun vs H Q E => ∃ (ls : List (List Nat)) (zs : List Cl), vs = [.str (tx (progT ls))] ∧ GoodP ls zs ∧ zs.length ≤ 30 ∧ (∀ z, z ∈ zs → z.2.length ≤ 100) ∧
  ((∃ rs, zs = rs.map clOf ∧ SzRs rs ∧ (namesOf rs).length ≤ 10 ∧ ∀ p H', H p = none → Ex H H' → RowsAt rs p H' → Q (.ref p) H') ∨ ((∃ z, z ∈ zs ∧ ∃ t, t ∈ z.1 :: z.2.map Prod.fst ∧ t.length ≠ 1) ∧ BadE K "program" H E) ∨ ∃ rs, zs = rs.map clOf ∧ SzRs rs ∧ 10 < (namesOf rs).length ∧ BadE K "program" H E)
/-- programs that are refused -/
def BadN (K : PySem.W.Frag) (ls : List (List Nat)) (H : Hp) (E : XK) : Prop := ∃ zs, GoodP ls zs ∧ zs.length ≤ 30 ∧ (∀ z, z ∈ zs → z.2.length ≤ 100) ∧ (((∃ z, z ∈ zs ∧ ∃ t, t ∈ z.1 :: z.2.map Prod.fst ∧ t.length ≠ 1) ∧ BadE K "program" H E) ∨ ∃ rs, zs = rs.map clOf ∧ SzRs rs ∧ 10 < (namesOf rs).length ∧ BadE K "program" H E)
theorem BadN.go {ls : List (List Nat)} {H H' : Hp} {E : XK} {Q : VK} (h : BadN K ls H E) (e : Ex H H') : sp_demand_names K [.str (tx (progT ls))] H' Q E := by
  obtain ⟨zs, h1, h2, h3, h4⟩ := h
  exact ⟨ls, zs, rfl, h1, h2, h3, .inr (h4.imp (fun ⟨a, b⟩ => ⟨a, b.mono e⟩) (fun ⟨rs, a, b, c, d⟩ => ⟨rs, a, b, c, d.mono e⟩))⟩
theorem sc_demand_names : FnScope ["value", "clauses", "clause", "atoms", "literal", "atom", "rows"] ["value"] (defScope s_demand_names) := ⟨rfl, rfl, rfl, by decide +kernel, rfl, by decide +kernel, by decide +kernel⟩
theorem ok_demand_names (Z : Zx K mg) : OkD prog w K mg base (L2.CX prog w) 8 "demand_names" ["value"] (sp_demand_names K) := by
  obtain ⟨fd, F0⟩ := Z.fun_ 28
  have F : Fun K "demand_names" "demand_names" s_demand_names (He.ga K "demand_names") fd := Wk.fun_of F0
  have x_BadArgument := Z.bad
  have cBadArgument := Z.glo 59 (x := "BadArgument")
  have c_MOST_NAMES := Z.int 88 (x := "MOST_NAMES")
  obtain ⟨_, g_demand, b_demand, m_demand, k_demand⟩ := ok_demand (w := w) (base := base) Z
  obtain ⟨_, g_demand_program, b_demand_program, m_demand_program, k_demand_program⟩ := ok_demand_program (w := w) (base := base) Z
  obtain ⟨_, g_names_of, b_names_of, m_names_of, k_names_of⟩ := ok_names_of (w := w) (base := base) Z
  obtain ⟨_, g_rows_of, b_rows_of, m_rows_of, k_rows_of⟩ := ok_rows_of (w := w) (base := base) Z
  have n_all := Z.free 62 (x := "all")
  have n_len := Z.free 68 (x := "len")
  have na_Literal_atom := Z.noat 108 (x := "Literal") (f := "atom")
  have na_Clause_head := Z.noat 113 (x := "Clause") (f := "head")
  have na_Clause_body := Z.noat 114 (x := "Clause") (f := "body")
  have cl_Clause := Z.cls 110 (x := "Clause")
  have cl_Literal := Z.cls 105 (x := "Literal")
  refine ⟨fd, ?_, F.binds (ps := ["value"]) fun _ _ _ _ _ _ us hl => match us, hl with | [_], _ => rfl, Z.glo 21, F.kp⟩
  refine F.okX sc_demand_names (fun vs H Q E h => ?_) (fun cdv A outer s H vs Q E hr h => ?_)
  · obtain ⟨ls, zs, rfl, hg, hzn, hzb, h⟩ := h
    rfl
  · obtain ⟨ls, zs, rfl, hg, hzn, hzb, h⟩ := h
    refine ⟨_, (pss_cons (ps_set (i := 1) sc_demand_names.nd rfl (by first | exact Or.inl rfl | exact Or.inr rfl) (pe_call g_demand_program (hr.mono (by decide)) (by rfl) m_demand_program k_demand_program b_demand_program .nil pass0 (pa_cons (pv 0) pa_nil))) (pss_cons (ps_for (passes_of rfl) rfl (pi_list (pv 1)) (pg_name (i := 2) sc_demand_names.nd rfl (by first | exact Or.inl rfl | exact Or.inr rfl)) (pss_cons (ps_set (i := 3) sc_demand_names.nd rfl (by first | exact Or.inl rfl | exact Or.inr rfl) (pe_op op_cat (pe_lst (pa_cons (pe_fld (pv 2) (by rfl)) pa_nil)) (pe_lc (te := (tFld K (tVar 4) "atom")) (own := [("literal", 4)]) rfl sc_demand_names.nd (pi_list (pe_fld (pv 2) (by rfl))) (blkOk_by (own := [("literal", 4)]) (N := ["value", "clauses", "clause", "atoms", "literal", "atom", "rows"]) (sc := defScope s_demand_names) (by decide +kernel)) (fun _ _ _ _ _ => pg_name (i := 4) sc_demand_names.nd rfl (by first | exact Or.inl rfl | exact Or.inr rfl)) (fun _ _ _ _ _ => pts_nil) (fun _ _ _ _ _ => (pe_fld (pv 4) (by rfl)))))) (pss_one (ps_expr (pe_call g_demand (hr.mono (by decide)) (by rfl) m_demand k_demand b_demand .nil (passes_call (takes_of rfl rfl rfl rfl) (fun _ _ _ _ h => h)) (pa_cons (pe_callB (cr_all rfl) (by rfl) n_all (by decide +kernel) (pa_cons (pe_lc (te := (tOp rEq (tCB (rLenS K) (tCons (tVar 5) tNil)) (tC (.int 1)))) (own := [("atom", 5)]) rfl sc_demand_names.nd (pi_list (pv 3)) (blkOk_by (own := [("atom", 5)]) (N := ["value", "clauses", "clause", "atoms", "literal", "atom", "rows"]) (sc := defScope s_demand_names) (by decide +kernel)) (fun _ _ _ _ _ => pg_name (i := 5) sc_demand_names.nd rfl (by first | exact Or.inl rfl | exact Or.inr rfl)) (fun _ _ _ _ _ => pts_nil) (fun _ _ _ _ _ => (pe_cmpR op_eq (pe_callB call_len_seq (by rfl) n_len (by decide +kernel) (pa_cons (pv 5) pa_nil)) pe_int (nomark _)))) pa_nil)) (pa_cons pe_str pa_nil))))))) (pss_cons (ps_set (i := 6) sc_demand_names.nd rfl (by first | exact Or.inl rfl | exact Or.inr rfl) (pe_call g_rows_of (hr.mono (by decide)) (by rfl) m_rows_of k_rows_of b_rows_of .nil pass0 (pa_cons (pv 1) pa_nil))) (pss_cons (ps_expr (pe_call g_demand (hr.mono (by decide)) (by rfl) m_demand k_demand b_demand .nil (passes_call (takes_of rfl rfl rfl rfl) (fun _ _ _ _ h => h)) (pa_cons (pe_cmpR op_le (pe_callB call_len_seq (by rfl) n_len (by decide +kernel) (pa_cons (pe_call g_names_of (hr.mono (by decide)) (by rfl) m_names_of k_names_of b_names_of .nil pass0 (pa_cons (pv 6) pa_nil)) pa_nil)) (pe_gi c_MOST_NAMES) (nomark _)) (pa_cons pe_str pa_nil)))) (pss_one (ps_ret (pv 6))))))), ?_⟩
    refine qx_asg (P := fun v H' => ∃ p ys, v = .ref p ∧ H p = none ∧ H' p = some (.lst ys) ∧ AllV (ClAt K) zs ys H') (x_call (ea_cons (ev_var rfl) ea_nil) (fun H1 e1 Q1 q1 E1 => ⟨ls, zs, rfl, hg, fun p ys H2 hp e2 h2 h3 => q1 _ H2 e2 ⟨p, ys, rfl, fresh_back e1 hp, h2, h3⟩⟩)) ?_
    rintro v H1 e1 ⟨q, ys, rfl, hq, hys, hall⟩
    have hyl := hall.1
    have okz : ∀ z : Cl, (z.1 :: z.2.map Prod.fst).all (fun t => decide (t.length = 1)) = false → BadE K "program" H E → True := fun _ _ _ => trivial
    refine q_forLn (K := K) (xs := ys) (ev_var rfl) (sq_of hys) (fun i σ' H' => ∃ s2 s3, σ' = [some (.str (tx (progT ls))), some (.ref q), s2, s3, none, none, none] ∧ Ex H1 H' ∧ ∀ z, z ∈ zs.take i → (z.1 :: z.2.map Prod.fst).all (fun t => decide (t.length = 1)) = true)
      (fun H2 e2 => ⟨none, none, rfl, e2, fun z hz => by simp at hz⟩) (fun i σ' H' _ ⟨_, _, _, e, _⟩ => sq_of (e _ _ hys)) ?_ ?_
    · rintro i x σ' H' hx ⟨s2, s3, rfl, e', hno⟩
      obtain ⟨z, hz, hcl⟩ := AllV.at hall hx
      have hmem := List.mem_of_getElem? hz
      have hzl := hzb z hmem
      obtain ⟨p, dx, t, b, us, rfl, c1, c2, c3, c4⟩ := hcl
      have hul := c4.1
      have hat : EvX (tOp rCat (tLst (tCons (tFld K (tVar 2) "head") tNil)) (tLc (iList K (tFld K (tVar 2) "body")) (gName 4) tYes (tFld K (tVar 4) "atom") [4])) [some (.str (tx (progT ls))), some (.ref q), some (.ref p), s3, none, none, none] H' (fun v H2 => ∃ w ys, v = .ref w ∧ H2 w = some (.lst ([t] ++ ys)) ∧ (ys.length = us.length ∧ ∀ (i : Nat) y, ys[i]? = some y → ∃ a, z.2[i]? = some a ∧ TermAt a.1 y H2)) := by
        refine x_catL (PL := fun ys H2 => ys.length = us.length ∧ ∀ (i : Nat) y, ys[i]? = some y → ∃ a, z.2[i]? = some a ∧ TermAt a.1 y H2) (el_lst (ea_cons (ev_fld (f := "head") (ev_var rfl) (e' _ _ c1) cl_Clause na_Clause_head rfl) ea_nil) (few5 rfl)) ((x_lc (xs := us) (fun i t H => ∃ a, z.2[i]? = some a ∧ TermAt a.1 t H) (fun i v H H' n ⟨a, ha, h⟩ => ⟨a, ha, TermAt.mn _ _ _ _ n h⟩) (ei_L (K := K) (ev_fld (f := "body") (ev_var rfl) (e' _ _ c1) cl_Clause na_Clause_body rfl) (sq_of (e' _ _ c3))) (by omega) (fun _ => rfl) (fun i x hx H2 e2 => ?_)).imp ?_) ?_ ?_
        · obtain ⟨a, ha, pl, dl, tl, rfl, m1, m2⟩ := AllV.at c4 hx
          intro H3 e3 Q3 q3
          exact ev_fld (K := K) (f := "atom") (ev_var rfl) (e3 _ _ (e2 _ _ (e' _ _ m1))) cl_Literal na_Literal_atom rfl H3 (Ex.refl _) _ (fun H4 e4 => q3 _ H4 e4 ⟨a, ha, (TermAt.mn a.1).mo _ _ _ ((e'.trans e2).trans (e3.trans e4)) m2⟩)
        · rintro v H2 ⟨w, ys, rfl, _, g2, g3, g4⟩
          exact ⟨w, ys, rfl, g2, g3, g4⟩
        · rintro ys H2 H3 e3 ⟨g3, g4⟩
          exact ⟨g3, fun i y hy => let ⟨a, ha, h⟩ := g4 i y hy; ⟨a, ha, (TermAt.mn a.1).mo _ _ _ e3 h⟩⟩
        · rintro ys H2 ⟨g3, g4⟩
          show 1 + _ ≤ _
          omega
      refine qx_asg (P := fun v H2 => ∃ w ts, v = .ref w ∧ H2 w = some (.lst ts) ∧ AllV TermAt (z.1 :: z.2.map Prod.fst) ts H2) (fun H0 e0 Q0 q0 => hat H0 e0 Q0 (fun v H2 e2 ⟨w, ys2, ev, g1, g3, g4⟩ => q0 v H2 e2 ⟨w, [t] ++ ys2, ev, g1, by rw [List.length_append, g3, hul]; simp; omega, fun i y a hy ha => ?_⟩)) ?_
      · cases i with
        | zero =>
          cases hy; cases ha
          exact (TermAt.mn z.1).mo _ _ _ (e'.trans (e0.trans e2)) c2
        | succ i =>
          have hy' : ys2[i]? = some y := hy
          have ha' : (z.2.map Prod.fst)[i]? = some a := ha
          obtain ⟨c, hc, m⟩ := g4 i y hy'
          rw [List.getElem?_map, hc] at ha'
          cases ha'
          exact m
      rintro v H2 e2 ⟨w, ts, rfl, hw, hts⟩
      have htl := hts.1
      have hal : (z.1 :: z.2.map Prod.fst).length ≤ 101 := by rw [List.length_cons, List.length_map]; omega
      refine s_dropC (vs := [.bl ((z.1 :: z.2.map Prod.fst).all fun t => decide (t.length = 1)), .str "program"]) (ea_cons ?_ (ea_cons ev_c ea_nil)) (fun H3 e3 => ⟨_, "program", rfl, fun hb H4 e4 => ?_, fun hb => ?_⟩)
      · have hpair : ∀ y, y ∈ ts.zip (z.1 :: z.2.map Prod.fst) → ∀ H5, Ex H2 H5 → Ev (tOp rEq (tCB (rLenS K) (tCons (tVar 5) tNil)) (tC (.int 1))) [some (.str (tx (progT ls))), some (.ref q), some (.ref p), some (.ref w), none, some y.1, none] H5 (.bl (decide (y.2.length = 1))) := fun y hy H5 e5 => by
          obtain ⟨a, vs, ea, ga, gb⟩ := hts.mem y hy
          rw [ea]
          refine ev_is (ev_op (ev_lenT (K := K) (ev_var rfl) (st_of (e5 _ _ ga))) ev_c (rv_eq (by rfl))) ?_
          rw [gb.1]
          congr 1
          rw [decide_eq_decide]
          constructor
          · intro h
            have := V.int.inj h
            omega
          · intro h; rw [h]; rfl
        have hr := ev_allc (K := K) (H := H2) (σ := [some (.str (tx (progT ls))), some (.ref q), some (.ref p), some (.ref w), none, none, none]) (te := tOp rEq (tCB (rLenS K) (tCons (tVar 5) tNil)) (tC (.int 1))) (j := 5) (vs := [5]) (wi := iList K (tVar 3)) (as := ts.zip (z.1 :: z.2.map Prod.fst)) (inj := Prod.fst) (fun y => decide (y.2.length = 1)) (by rw [hts.fst]; exact ei_L (ev_var (i := 3) (σ := [some (.str (tx (progT ls))), some (.ref q), some (.ref p), some (.ref w), none, none, none]) rfl) (sq_of hw)) (by rw [hts.zlen]; omega) (fun _ => rfl) (fun y hy H5 e5 => hpair y hy H5 e5)
        refine ev_is hr ?_
        congr 1
        have e : (ts.zip (z.1 :: z.2.map Prod.fst)).all (fun y => decide (y.2.length = 1)) = ((ts.zip (z.1 :: z.2.map Prod.fst)).map Prod.snd).all (fun t => decide (t.length = 1)) := by rw [List.all_map]; rfl
        rw [e, hts.snd]
      · refine ⟨_, _, rfl, e'.trans (e2.trans (e3.trans e4)), fun y hy => ?_⟩
        rw [List.take_add_one, hz, List.mem_append] at hy
        rcases hy with hy | hy
        · exact hno y hy
        · have : y = z := by simpa using hy
          rw [this]; exact hb
      · rcases h with ⟨rs, hrs, _⟩ | ⟨_, hbad⟩ | ⟨rs, hrs, _⟩
        · exfalso
          rw [hrs] at hmem
          obtain ⟨r, _, hr⟩ := List.mem_map.mp hmem
          rw [← hr, clOf_one] at hb
          cases hb
        · exact hbad.mono (e1.trans (e'.trans (e2.trans e3)))
        · exfalso
          rw [hrs] at hmem
          obtain ⟨r, _, hr⟩ := List.mem_map.mp hmem
          rw [← hr, clOf_one] at hb
          cases hb
    · rintro σ' H' ⟨s2, s3, rfl, e', hno⟩
      rcases h with ⟨rs, hrs, hsz, hnl, k⟩ | ⟨⟨z, hz, t, ht, hne⟩, _⟩ | ⟨rs, hrs, hsz, hnl, hbad⟩
      · subst hrs
        have hlim : rs.length ≤ 60 := hsz.1
        refine qx_asg (P := fun v H2 => ∃ p, v = .ref p ∧ H p = none ∧ RowsAt rs p H2) (x_call (ea_cons (ev_var rfl) ea_nil) (fun H2 e2 Q2 q2 E2 => ⟨q, ys, rs, rfl, (e'.trans e2) _ _ hys, AllV.mo (ClAt.mo K) _ _ _ (e'.trans e2) hall, by omega, hsz.2.1, fun p H3 hp e3 h3 => q2 _ H3 e3 ⟨p, rfl, fresh_back (e1.trans (e'.trans e2)) hp, h3⟩⟩)) ?_
        rintro v H2 e2 ⟨p, rfl, hp, hrows⟩
        refine q_dropC (vs := [.bl true, .str "program"]) (ea_cons (ev_is (ev_op (ev_lenN (K := K) (el_call (ea_cons (ev_var rfl) ea_nil) (fun H3 e3 Q3 q3 E3 => ⟨p, rs, rfl, hrows.ex e3, hsz, q3⟩))) ev_c rv_I0) ?_) (ea_cons ev_c ea_nil)) (fun H3 e3 => ⟨true, "program", rfl, fun _ H4 e4 => ?_, fun h => absurd h (by decide)⟩)
        · rw [nmL_len]
          congr 1
          exact decide_eq_true (by omega)
        · exact s_ret (ev_var rfl) (fun H5 e5 => k p H5 hp (e1.trans (e'.trans (e2.trans (e3.trans (e4.trans e5))))) (hrows.ex (e3.trans (e4.trans e5))))
      · exfalso
        rw [hyl, List.take_length] at hno
        have := List.all_eq_true.mp (hno z hz) t ht
        exact hne (by simpa using this)
      · subst hrs
        have hlim : rs.length ≤ 60 := hsz.1
        refine qx_asg (P := fun v H2 => ∃ p, v = .ref p ∧ H p = none ∧ RowsAt rs p H2) (x_call (ea_cons (ev_var rfl) ea_nil) (fun H2 e2 Q2 q2 E2 => ⟨q, ys, rs, rfl, (e'.trans e2) _ _ hys, AllV.mo (ClAt.mo K) _ _ _ (e'.trans e2) hall, by omega, hsz.2.1, fun p H3 hp e3 h3 => q2 _ H3 e3 ⟨p, rfl, fresh_back (e1.trans (e'.trans e2)) hp, h3⟩⟩)) ?_
        rintro v H2 e2 ⟨p, rfl, hp, hrows⟩
        refine q_dropC (vs := [.bl false, .str "program"]) (ea_cons (ev_is (ev_op (ev_lenN (K := K) (el_call (ea_cons (ev_var rfl) ea_nil) (fun H3 e3 Q3 q3 E3 => ⟨p, rs, rfl, hrows.ex e3, hsz, q3⟩))) ev_c rv_I0) ?_) (ea_cons ev_c ea_nil)) (fun H3 e3 => ⟨false, "program", rfl, fun h => absurd h (by decide), fun _ => hbad.mono (e1.trans (e'.trans (e2.trans e3)))⟩)
        rw [nmL_len]
        congr 1
        exact decide_eq_false (by omega)

end
end Tx
end
section
set_option Elab.async false
set_option linter.all false
set_option maxRecDepth 100000
set_option maxHeartbeats 4000000
namespace Tx
open PySem PySem.Spec PyProof.Rows L2 Evl Wk
section
variable {w : World} {K : PySem.W.Frag} {mg : Str → Option Value} {base : Heap}

def sp_roll : Sp := fun vs H Q _ => ∃ (B : Hp) (k : Nat) (d : Addr) (n : Nat), vs = [.ref d, .int (n : Int)] ∧ 1 ≤ n ∧ n < 1000000 ∧ k < 100000 ∧ B d = none ∧ Ex B H ∧ DiceAt k d H ∧
  ∀ (i : Nat) H', i < n → Ex B H' → DiceAt (k + 1) d H' → Q (.int (i : Int)) H'
theorem sc__law_roll : FnScope ["dice", "total", "found"] ["dice", "total"] (defScope s__law_roll) := ⟨rfl, rfl, rfl, by decide +kernel, rfl, by decide +kernel, by decide +kernel⟩
theorem ok__law_roll (Z : Zx K mg) : OkD prog w K mg base CX0 1 "_law_roll" ["dice", "total"] (sp_roll) := by
  obtain ⟨fd, F0⟩ := Z.fun_ 45
  have F : Fun K "_law_roll" "_law_roll" s__law_roll (He.ga K "_law_roll") fd := Wk.fun_of F0
  have n_int := Z.free 66 (x := "int")
  refine ⟨fd, ?_, F.binds (ps := ["dice", "total"]) fun _ _ _ _ _ _ us hl => match us, hl with | [_, _], _ => rfl, Z.glo 38, F.kp⟩
  refine F.ok sc__law_roll (fun vs H Q E h => ?_) (fun cdv A outer s H vs Q E hr h => ?_)
  · obtain ⟨B, k, d, n, rfl, hn1, hn2, hk, hB, e, ⟨b, m, c, hb, hm1, hm2, hc, hd⟩, q⟩ := h
    rfl
  · obtain ⟨B, k, d, n, rfl, hn1, hn2, hk, hB, e, ⟨b, m, c, hb, hm1, hm2, hc, hd⟩, q⟩ := h
    refine ⟨_, (pss_cons (ps_if (pt_cmpR op_gt (pe_ix ix_list (pv 0) pe_int (fun _ _ => rfl)) pe_int (nomark _)) (pss_cons (ps_set (i := 2) sc__law_roll.nd rfl (by first | exact Or.inl rfl | exact Or.inr rfl) (pe_op op_mod (pe_callTy call_int1 (by rfl) n_int (by decide +kernel) (pa_cons (pe_ix ix_list (pv 0) pe_int (fun _ _ => rfl)) pa_nil)) (pv 1))) (pss_cons (ps_asg (pe_op op_fdiv (pe_ix ix_list (pv 0) pe_int (fun _ _ => rfl)) (pv 1)) (pg_sub (pv 0) pe_int set_list)) (pss_one (ps_ret (pv 2))))) pss_nil) (pss_cons (ps_asg (pe_op op_add (pe_ix ix_list (pv 0) pe_int (fun _ _ => rfl)) pe_int) (pg_sub (pv 0) pe_int set_list)) (pss_cons (ps_asg (pe_op op_mod (pe_callTy call_int1 (by rfl) n_int (by decide +kernel) (pa_cons (pe_op op_add (pe_op op_add (pe_op op_mul (pe_ix ix_list (pv 0) pe_int (fun _ _ => rfl)) pe_int) (pe_op op_mul (pe_op op_mul (pe_ix ix_list (pv 0) pe_int (fun _ _ => rfl)) (pe_ix ix_list (pv 0) pe_int (fun _ _ => rfl))) pe_int)) pe_int) pa_nil)) pe_int) (pg_sub (pv 0) pe_int set_list)) (pss_one (ps_ret (pe_op op_mod (pe_callTy call_int1 (by rfl) n_int (by decide +kernel) (pa_cons (pe_op op_fdiv (pe_ix ix_list (pv 0) pe_int (fun _ _ => rfl)) pe_int) pa_nil)) (pv 1))))))), ?_⟩
    have hnn : (0 : Int) < (n : Int) := by omega
    refine q_if (b := decide (b > 0)) (et_test (ev_op (ev_op (ev_var rfl) ev_c (rv_ixL (K := K) (i := 0) (v := .int b) (sq_of hd) rfl)) ev_c rv_I0)) (fun hb1 H1 e1 => ?_) (fun hb1 H1 e1 => ?_)
    · refine q_asg (v := .int (b % (n : Int))) (ev_op (ev_int1 (ev_op (ev_var rfl) ev_c (rv_ixL (K := K) (i := 0) (v := .int b) (sq_of (e1 _ _ hd)) rfl))) (ev_var rfl) (rv_I hnn)) (fun H2 e2 => ?_)
      have e12 := e1.trans e2
      refine q_setL (j := 0) (v := .int (b / (n : Int))) (e12 _ _ hd) (ev_op (ev_op (ev_var rfl) ev_c (rv_ixL (K := K) (i := 0) (v := .int b) (sq_of (e12 _ _ hd)) rfl)) (ev_var rfl) (rv_I ⟨hnn, by omega⟩)) (ev_var rfl) ev_c (show 0 < 3 by decide) (fun H3 e3 => ?_)
      have h1 : b % (n : Int) = ((b % (n : Int)).toNat : Int) := by
        have := Int.emod_nonneg b (by omega : (n : Int) ≠ 0)
        omega
      have h2 : (b % (n : Int)).toNat < n := by
        have := Int.emod_lt_of_pos b hnn
        have := Int.emod_nonneg b (by omega : (n : Int) ≠ 0)
        omega
      refine s_ret (ev_var rfl) (fun H4 e4 => ?_)
      rw [h1]
      exact q _ H4 h2 ((Ex.mut (e.trans (e12.trans e3)) hB).trans e4) ⟨b / (n : Int), m, c, Int.ediv_nonneg hb (by omega), hm1, hm2, by omega, e4 _ _ upd_same⟩
    · refine q_setL (j := 2) (v := .int ((c : Int) + 1)) (e1 _ _ hd) (ev_op (ev_op (ev_var rfl) ev_c (rv_ixL (K := K) (i := 2) (v := .int (c : Int)) (sq_of (e1 _ _ hd)) rfl)) ev_c rv_I0) (ev_var rfl) ev_c (show 2 < 3 by decide) (fun H2 e2 => ?_)
      have E2 : Ex B (upd H2 d (.lst [.int b, .int m, .int ((c : Int) + 1)])) := Ex.mut (e.trans (e1.trans e2)) hB
      have hd2 : upd H2 d (.lst [.int b, .int m, .int ((c : Int) + 1)]) d = some (.lst [.int b, .int m, .int ((c : Int) + 1)]) := upd_same
      show tSeq _ _ _ _ (upd H2 d (.lst [.int b, .int m, .int ((c : Int) + 1)]))
      generalize upd H2 d (.lst [.int b, .int m, .int ((c : Int) + 1)]) = G2 at *
      have hcc : ((c : Int) + 1) < 2 ^ 64 := by omega
      refine q_setL (j := 1) (v := .int ((m * 52501 + ((c : Int) + 1) * ((c : Int) + 1) * 1009 + 77) % 2147480009)) hd2 (ev_op (ev_int1 (ev_op (ev_op (ev_op (ev_op (ev_var rfl) ev_c (rv_ixL (K := K) (i := 1) (v := .int m) (sq_of hd2) rfl)) ev_c (rv_I (Or.inr ⟨by decide, by decide⟩))) (ev_op (ev_op (ev_op (ev_var rfl) ev_c (rv_ixL (K := K) (i := 2) (v := .int ((c : Int) + 1)) (sq_of hd2) rfl)) (ev_op (ev_var rfl) ev_c (rv_ixL (K := K) (i := 2) (v := .int ((c : Int) + 1)) (sq_of hd2) rfl)) (rv_I (Or.inr ⟨by omega, hcc⟩))) ev_c (rv_I (Or.inr ⟨by decide, by decide⟩))) rv_I0) ev_c rv_I0)) ev_c (rv_I (by decide))) (ev_var rfl) ev_c (show 1 < 3 by decide) (fun H3 e3 => ?_)
      have hm3 := Int.emod_nonneg (m * 52501 + ((c : Int) + 1) * ((c : Int) + 1) * 1009 + 77) (by decide : (2147480009 : Int) ≠ 0)
      have hm4 := Int.emod_lt_of_pos (m * 52501 + ((c : Int) + 1) * ((c : Int) + 1) * 1009 + 77) (by decide : (0 : Int) < 2147480009)
      have E3 : Ex B (upd H3 d (.lst [.int b, .int ((m * 52501 + ((c : Int) + 1) * ((c : Int) + 1) * 1009 + 77) % 2147480009), .int ((c : Int) + 1)])) := Ex.mut (E2.trans e3) hB
      have hd3 : upd H3 d (.lst [.int b, .int ((m * 52501 + ((c : Int) + 1) * ((c : Int) + 1) * 1009 + 77) % 2147480009), .int ((c : Int) + 1)]) d = some (.lst [.int b, .int ((m * 52501 + ((c : Int) + 1) * ((c : Int) + 1) * 1009 + 77) % 2147480009), .int ((c : Int) + 1)]) := upd_same
      show tRet _ _ _ (upd H3 d (.lst [.int b, .int ((m * 52501 + ((c : Int) + 1) * ((c : Int) + 1) * 1009 + 77) % 2147480009), .int ((c : Int) + 1)]))
      generalize (m * 52501 + ((c : Int) + 1) * ((c : Int) + 1) * 1009 + 77) % 2147480009 = m2 at *
      generalize upd H3 d (.lst [.int b, .int m2, .int ((c : Int) + 1)]) = G3 at *
      refine s_ret (v := .int (m2 / 211 % (n : Int))) (ev_op (ev_int1 (ev_op (ev_op (ev_var rfl) ev_c (rv_ixL (K := K) (i := 1) (v := .int m2) (sq_of hd3) rfl)) ev_c (rv_I ⟨by decide, by decide⟩))) (ev_var rfl) (rv_I hnn)) (fun H4 e4 => ?_)
      have h1 : m2 / 211 % (n : Int) = ((m2 / 211 % (n : Int)).toNat : Int) := by
        have := Int.emod_nonneg (m2 / 211) (by omega : (n : Int) ≠ 0)
        omega
      have h2 : (m2 / 211 % (n : Int)).toNat < n := by
        have := Int.emod_lt_of_pos (m2 / 211) hnn
        have := Int.emod_nonneg (m2 / 211) (by omega : (n : Int) ≠ 0)
        omega
      rw [h1]
      exact q _ H4 h2 (E3.trans e4) ⟨b, m2, c + 1, hb, hm3, hm4, by omega, e4 _ _ hd3⟩

end
end Tx
end
section
set_option Elab.async false
set_option linter.all false
set_option maxRecDepth 100000
set_option maxHeartbeats 4000000
namespace Tx
open PySem PySem.Spec PyProof.Rows L2 Evl Wk
section
variable {w : World} {K : PySem.W.Frag} {mg : Str → Option Value} {base : Heap}

def sp_pick (K : PySem.W.Frag) : Sp := fun vs H Q _ => ∃ (B : Hp) (k : Nat) (d a : Addr) (xs : List V), vs = [.ref d, .ref a] ∧ xs ≠ [] ∧ xs.length < 1000 ∧ k < 100000 ∧ B d = none ∧ Ex B H ∧ DiceAt k d H ∧ B a = some (.lst xs) ∧
  ∀ (i : Nat) x H', xs[i]? = some x → Ex B H' → DiceAt (k + 1) d H' → Q x H'
theorem sc__law_pick : FnScope ["dice", "things"] ["dice", "things"] (defScope s__law_pick) := ⟨rfl, rfl, rfl, by decide +kernel, rfl, by decide +kernel, by decide +kernel⟩
theorem ok__law_pick (Z : Zx K mg) : OkD prog w K mg base CX0 2 "_law_pick" ["dice", "things"] (sp_pick K) := by
  obtain ⟨fd, F0⟩ := Z.fun_ 46
  have F : Fun K "_law_pick" "_law_pick" s__law_pick (He.ga K "_law_pick") fd := Wk.fun_of F0
  obtain ⟨_, g__law_roll, b__law_roll, m__law_roll, k__law_roll⟩ := ok__law_roll (w := w) (base := base) Z
  have n_len := Z.free 68 (x := "len")
  refine ⟨fd, ?_, F.binds (ps := ["dice", "things"]) fun _ _ _ _ _ _ us hl => match us, hl with | [_, _], _ => rfl, Z.glo 39, F.kp⟩
  refine F.ok sc__law_pick (fun vs H Q E h => ?_) (fun cdv A outer s H vs Q E hr h => ?_)
  · obtain ⟨B, k, d, a, xs, rfl, hne, hl, hk, hB, e, hd, ha, q⟩ := h
    rfl
  · obtain ⟨B, k, d, a, xs, rfl, hne, hl, hk, hB, e, hd, ha, q⟩ := h
    refine ⟨_, (pss_one (ps_ret (pe_ix ix_list (pv 1) (pe_call g__law_roll (hr.mono (by decide)) (by rfl) m__law_roll k__law_roll b__law_roll .nil pass0 (pa_cons (pv 0) (pa_cons (pe_callB call_len_seq (by rfl) n_len (by decide +kernel) (pa_cons (pv 1) pa_nil)) pa_nil))) (fun _ _ => rfl)))), ?_⟩
    have h0 := List.length_pos_iff.mpr hne
    have hargs : EvA (tCons (tVar 0) (tCons (tCB (rLenS K) (tCons (tVar 1) tNil)) tNil)) (L2.start ["dice", "things"] [V.ref d, V.ref a]) H [.ref d, .int (xs.length : Int)] := ea_cons (ev_var rfl) (ea_cons (ev_len (ev_var rfl) (sq_of (e _ _ ha))) ea_nil)
    have hv : Ev (tVar 1) (L2.start ["dice", "things"] [V.ref d, V.ref a]) H (.ref a) := ev_var rfl
    refine hv H (Ex.refl _) (fun x H1 => tCall sp_roll [] _ (tCons (tVar 0) (tCons (tCB (rLenS K) (tCons (tVar 1) tNil)) tNil)) (L2.start ["dice", "things"] [V.ref d, V.ref a]) H1 fun y H2 => rIxL K x y H2 Q) (fun H1 e1 => ?_)
    refine hargs H1 e1 _ (fun H2 e2 => ?_)
    refine ⟨B, k, d, xs.length, rfl, by omega, by omega, hk, hB, e.trans (e1.trans e2), hd.ex (e1.trans e2), fun i H' hi e' hd' => ?_⟩
    exact ⟨a, xs, (i : Int), xs[i], rfl, rfl, sq_of (e' _ _ ha), atI_nat (List.getElem?_eq_getElem hi), q i _ H' (List.getElem?_eq_getElem hi) e' hd'⟩
def sp_dice (K : PySem.W.Frag) : Sp := fun vs H Q _ => ∃ (a : Addr) (xs : List Int) (n : Nat), vs = [.ref a, .int (n : Int)] ∧ SqL K H a (xs.map V.int) ∧ xs.length ≤ 100 ∧ n ≤ 100 ∧ ∀ d H', H d = none → Ex H H' → DiceAt 0 d H' → Q (.ref d) H'
theorem sc__law_dice : FnScope ["script", "spot", "own", "mixed", "cell"] ["script", "spot"] (defScope s__law_dice) := ⟨rfl, rfl, rfl, by decide +kernel, rfl, by decide +kernel, by decide +kernel⟩
theorem ok__law_dice (Z : Zx K mg) : OkD prog w K mg base CX0 1 "_law_dice" ["script", "spot"] (sp_dice K) := by
  obtain ⟨fd, F0⟩ := Z.fun_ 44
  have F : Fun K "_law_dice" "_law_dice" s__law_dice (He.ga K "_law_dice") fd := Wk.fun_of F0
  have n_abs := Z.free 61 (x := "abs")
  have n_int := Z.free 66 (x := "int")
  have n_len := Z.free 68 (x := "len")
  refine ⟨fd, ?_, F.binds (ps := ["script", "spot"]) fun _ _ _ _ _ _ us hl => match us, hl with | [_, _], _ => rfl, Z.glo 37, F.kp⟩
  refine F.ok sc__law_dice (fun vs H Q E h => ?_) (fun cdv A outer s H vs Q E hr h => ?_)
  · obtain ⟨a, xs, n, rfl, ha, hl, hn, q⟩ := h
    rfl
  · obtain ⟨a, xs, n, rfl, ha, hl, hn, q⟩ := h
    refine ⟨_, (pss_cons (ps_set (i := 2) sc__law_dice.nd rfl (by first | exact Or.inl rfl | exact Or.inr rfl) (pe_ifExp (pt_cmpR op_lt (pv 1) (pe_callB call_len_seq (by rfl) n_len (by decide +kernel) (pa_cons (pv 0) pa_nil)) (nomark _)) (pe_ix ix_list (pv 0) (pv 1) (fun _ _ => rfl)) (pe_op op_add (pe_op op_mul pe_int (pv 1)) pe_int))) (pss_cons (ps_set (i := 3) sc__law_dice.nd rfl (by first | exact Or.inl rfl | exact Or.inr rfl) (pe_op op_add pe_int (pe_op op_mul pe_int (pv 1)))) (pss_cons (ps_for PassesOwn.never rfl (pi_list (pe_op op_cat (pe_slice sl_list (pv 0) po_none (po_some pe_int)) (pe_lst (pa_cons (pv 2) pa_nil)))) (pg_name (i := 4) sc__law_dice.nd rfl (by first | exact Or.inl rfl | exact Or.inr rfl)) (pss_one (ps_set (i := 3) sc__law_dice.nd rfl (by first | exact Or.inl rfl | exact Or.inr rfl) (pe_op op_mod (pe_callTy call_int1 (by rfl) n_int (by decide +kernel) (pa_cons (pe_op op_add (pe_op op_mul (pv 3) pe_int) (pe_op op_mod (pe_callTy call_int1 (by rfl) n_int (by decide +kernel) (pa_cons (pv 4) pa_nil)) pe_int)) pa_nil)) pe_int)))) (pss_one (ps_ret (pe_lst (pa_cons (pe_ifExp (pw_or (pt_cmpR op_lt (pv 2) pe_int (nomark _)) (pw_or1 (pt_cmpR op_ge (pv 2) (pe_op op_pow pe_int pe_int) (nomark _)))).pt (pe_callB call_abs (by rfl) n_abs (by decide +kernel) (pa_cons (pv 2) pa_nil)) pe_int) (pa_cons (pv 3) (pa_cons pe_int pa_nil))))))))), ?_⟩
    have hlt : ∀ i : Nat, i < xs.length → (xs.map V.int)[i]? = some (.int (xs.getD i 0)) := fun i hi => by
      rw [List.getElem?_map, List.getElem?_eq_getElem hi, List.getD_eq_getElem?_getD, List.getElem?_eq_getElem hi]
      rfl
    generalize hown : (if n < xs.length then xs.getD n 0 else 733 * (n : Int) + 29) = own
    refine q_asg (v := .int own) (ev_if (b := decide (n < xs.length)) (et_is (et_test (ev_op (ev_var rfl) (ev_len (ev_var rfl) ha) rv_I0)) ?_) (fun h => ?_) (fun h => ?_)) (fun H1 e1 => ?_)
    · rw [List.length_map, decide_eq_decide]
      omega
    · have h' := of_decide_eq_true h
      rw [if_pos h'] at hown
      rw [← hown]
      exact ev_op (ev_var rfl) (ev_var rfl) (rv_ixL ha (atI_nat (hlt n h')))
    · have h' := of_decide_eq_false h
      rw [if_neg h'] at hown
      rw [← hown]
      exact ev_op (ev_op ev_c (ev_var rfl) (rv_I (Or.inl ⟨by decide, by decide⟩))) ev_c rv_I0
    refine q_asg (v := .int (910003 + 7907 * (n : Int))) (ev_op ev_c (ev_op ev_c (ev_var rfl) (rv_I (Or.inl ⟨by decide, by decide⟩))) rv_I0) (fun H2 e2 => ?_)
    have e12 := e1.trans e2
    have hints : ∀ x, x ∈ cutV (xs.map V.int) none (some 6) ++ [V.int own] → ∃ i, x = .int i := fun x hx => by
      rcases List.mem_append.mp hx with h | h
      · have h2 : x ∈ xs.map V.int := List.mem_of_mem_drop (List.mem_of_mem_take h)
        obtain ⟨i, _, rfl⟩ := List.mem_map.mp h2
        exact ⟨i, rfl⟩
      · exact ⟨own, by simpa using h⟩
    have hcl := cutV_length (xs.map V.int) none (some 6)
    rw [List.length_map] at hcl
    refine q_forNL (K := K) (xs := cutV (xs.map V.int) none (some 6) ++ [V.int own]) (el_catN (el_sl (ev_var rfl) eo_none (eo_some ev_c) (ex_l e12 ha)) (el_lst (ea_cons (ev_var rfl) ea_nil) (few5 rfl)) (by rw [List.length_singleton]; omega)) (fun p i σ' H' => ∃ (m : Int) (s4 : Option V), σ' = [some (.ref a), some (.int (n : Int)), some (.int own), some (.int m), s4] ∧ Ex H H' ∧ H' p = some (.lst (cutV (xs.map V.int) none (some 6) ++ [V.int own])) ∧ 0 ≤ m ∧ m < 2147480009)
      (fun p H3 hp e3 h3 => ⟨_, none, rfl, e12.trans e3, h3, by omega, by omega⟩) (fun p i σ' H' _ ⟨_, _, _, _, h, _⟩ => sq_of h) ?_ ?_
    · rintro p i x σ' H' hx ⟨m, s4, rfl, e', hp, hm1, hm2⟩
      obtain ⟨cell, rfl⟩ := hints x (List.mem_of_getElem? hx)
      show tAsg _ _ _ _ _
      refine s_asg (v := .int ((m * 48271 + cell % 2147480009) % 2147480009)) (ev_op (ev_int1 (ev_op (ev_op (ev_var rfl) ev_c (rv_I (Or.inr ⟨by decide, by decide⟩))) (ev_op (ev_int1 (ev_var rfl)) ev_c (rv_I (by decide))) rv_I0)) ev_c (rv_I (by decide))) (fun H3 e3 => ?_)
      exact ⟨_, _, rfl, e'.trans e3, e3 _ _ hp, Int.emod_nonneg _ (by decide), Int.emod_lt_of_pos _ (by decide)⟩
    · rintro p σ' H' ⟨m, s4, rfl, e', hp, hm1, hm2⟩
      refine s_retL (xs := [.int (if decide (own < 0) || decide (own ≥ 10 ^ 16) then (if own < 0 then -own else own) else 0), .int m, .int 0]) (el_lst (ea_cons (ev_if (b := decide (own < 0) || decide (own ≥ 10 ^ 16)) (et_or (et_test (ev_op (ev_var rfl) ev_c rv_I0)) (fun _ => et_test (ev_op (ev_var rfl) (ev_op ev_c ev_c (rv_I ⟨by decide, by decide, by decide⟩)) rv_I0))) (fun h => ?_) (fun h => ?_)) (ea_cons (ev_var rfl) (ea_cons ev_c ea_nil))) (few5 rfl)) (fun d H3 hd e3 h3 => ?_)
      · rw [if_pos h]
        exact fun H4 e4 Q4 q4 => ev_var (i := 2) (v := .int own) rfl H4 (Ex.refl _) _ (fun H5 e5 => ⟨own, rfl, q4 H5 e5⟩)
      · rw [if_neg (by rw [h]; decide)]
        exact ev_c
      · refine q d H3 (fresh_back e' hd) (e'.trans e3) ⟨_, m, 0, ?_, hm1, hm2, Nat.le_refl _, h3⟩
        split
        · split <;> omega
        · omega

end
end Tx
end
section
set_option Elab.async false
set_option linter.all false
set_option maxRecDepth 100000
set_option maxHeartbeats 4000000
namespace Tx
open PySem PySem.Spec PyProof.Rows L2 Evl Wk
section
variable {w : World} {K : PySem.W.Frag} {mg : Str → Option Value} {base : Heap}

theorem dice_ne {k : Nat} {d a : Addr} {H : Hp} (h : DiceAt k d H) (ha : H a = none) : a ≠ d := fun e => by
  obtain ⟨b, m, c, _, _, _, _, h5⟩ := h
  subst e
  rw [ha] at h5
  cases h5
theorem dice_upd {k : Nat} {d a : Addr} {H : Hp} {o : HO} (h : DiceAt k d H) (ha : a ≠ d) : DiceAt k d (upd H a o) := by
  obtain ⟨b, m, c, h1, h2, h3, h4, h5⟩ := h
  exact ⟨b, m, c, h1, h2, h3, h4, by rw [upd_ne ha.symm]; exact h5⟩
section
variable {σ : L2.St} {H : Hp} {ta te tl tn : TE} {tr : TA} {D : Ends} {tu tz : TS} {d : Addr}
theorem d_roll {E : XK} {n : Nat} (hd : Ev ta σ (del H d) (.ref d)) (hn : Ev te σ (del H d) (.int (n : Int))) (h1 : 1 ≤ n) (h2 : n < 1000000) : ED (tCall sp_roll [] E (tCons ta (tCons te tNil))) σ d H 1 (fun v _ => ∃ i : Nat, i < n ∧ v = .int (i : Int)) := fun k H1 e hk hlt Q q =>
  (ea_cons hd (ea_cons hn ea_nil)) H1 e _ fun H2 e2 => by
    refine ⟨del H2 d, k, d, n, rfl, h1, h2, by omega, del_same, ex_del H2 d, hk.ex e2, fun i H' hi e' hd' => q _ H' ((Ed.of e2).trans e') hd' ⟨i, hi, rfl⟩⟩
theorem d_pickN {E : XK} {xs : List V} (hd : Ev ta σ (del H d) (.ref d)) (hl : EvL te σ (del H d) xs) (h1 : xs ≠ []) (h2 : xs.length < 1000) : ED (tCall (sp_pick K) [] E (tCons ta (tCons te tNil))) σ d H 1 (fun v _ => v ∈ xs) := fun k H1 e hk hlt Q q =>
  hd H1 e _ fun H2 e2 => hl H2 (Ex.trans e e2) _ fun a H3 ha e3 h3 => by
    have hne : a ≠ d := dice_ne (hk.ex e2) ha
    refine ⟨del H3 d, k, d, a, xs, rfl, h1, h2, by omega, del_same, ex_del H3 d, hk.ex (e2.trans e3), by rw [del_ne hne]; exact h3, fun i x H' hi e' hd' => q _ H' ((Ed.of (e2.trans e3)).trans e') hd' (List.mem_of_getElem? hi)⟩
theorem d_pick {E : XK} {xs : List V} {a : Addr} (hd : Ev ta σ (del H d) (.ref d)) (hl : Ev te σ (del H d) (.ref a)) (ha : (del H d) a = some (.lst xs)) (h1 : xs ≠ []) (h2 : xs.length < 1000) : ED (tCall (sp_pick K) [] E (tCons ta (tCons te tNil))) σ d H 1 (fun v _ => v ∈ xs) := fun k H1 e hk hlt Q q =>
  hd H1 e _ fun H2 e2 => hl H2 (Ex.trans e e2) _ fun H3 e3 => by
    have hne : a ≠ d := fun x => by subst x; rw [del_same] at ha; cases ha
    refine ⟨del H3 d, k, d, a, xs, rfl, h1, h2, by omega, del_same, ex_del H3 d, hk.ex (e2.trans e3), by rw [del_ne hne]; exact (Ex.trans e (e2.trans e3)) _ _ ha, fun i x H' hi e' hd' => q _ H' ((Ed.of (e2.trans e3)).trans e') hd' (List.mem_of_getElem? hi)⟩
/-- [e for _ in range(n)], all of which roll -/
theorem d_lcR {j N c0 c1 : Nat} {vs : List Nat} {P : V → Prop} (hn : ED tn σ d H c0 (fun v _ => ∃ i : Nat, i ≤ N ∧ v = .int (i : Int))) (hN : N ≤ 100) (hw : ∀ x, wipe ((wipe σ vs).set j (some x)) vs = wipe σ vs)
    (he : ∀ (i : Nat) H1, Ed d H H1 → ED te ((wipe σ vs).set j (some (.int (i : Int)))) d H1 c1 (fun v _ => P v)) :
    ED (tLc (iRng1 (tCons tn tNil)) (gName j) tYes te vs) σ d H (c0 + N * c1) (fun v H' => ∃ p ys, v = .ref p ∧ H p = none ∧ p ≠ d ∧ H' p = some (.lst ys) ∧ ys.length ≤ N ∧ ∀ y, y ∈ ys → P y) := fun k H1 e hk hlt Q q =>
  hn k H1 e hk (by omega) _ fun v H2 e2 hk2 ⟨n, hnN, ev⟩ => by
    subst ev
    have hmul : ∀ i, i ≤ n → i * c1 ≤ N * c1 := fun i hi => Nat.mul_le_mul_right _ (Nat.le_trans hi hnN)
    refine ⟨(n : Int), rfl, by omega, by omega, fun Dl hD => ?_⟩
    have hDd : Dl ≠ d := dice_ne hk2 hD
    refine lc_it (walk_range (lo := 0)) (fun i H' => Ed d H2 H' ∧ DiceAt (k + c0 + i * c1) d H' ∧ ∃ ys, H' Dl = some (.lst ys) ∧ ys.length = i ∧ ∀ y, y ∈ ys → P y) ⟨Ed.of (Ex.new hD), by rw [Nat.zero_mul]; exact dice_upd hk2 hDd, [], upd_same, rfl, fun y hy => by cases hy⟩ (fun _ _ _ _ => trivial) ?_ ?_
    · rintro i x H' H'' hi ⟨p1, p2, ys, p3, p4, p5⟩ ⟨rfl, rfl⟩
      have hin : i < n := by simpa using hi
      have e0 : (fun i : Nat => V.int ((0 : Int) + (i : Int))) i = V.int (i : Int) := by
        show V.int ((0 : Int) + (i : Int)) = _
        rw [Int.zero_add]
      rw [e0]
      refine ⟨hw _, et_yes (σ := (wipe σ vs).set j (some (.int (i : Int)))) H'' (Ex.refl _) _ fun H3 e3 => ?_⟩
      show te _ H3 _
      have h1 := hmul (i + 1) hin
      rw [Nat.add_mul, Nat.one_mul] at h1
      refine he i H3 (e.trans (e2.trans (p1.trans (Ed.of e3)))) (k + c0 + i * c1) H3 (Ed.refl d H3) (p2.ex e3) (by omega) _ fun u H4 e4 hk4 pu => ?_
      have hD4 := e4.at (e3 _ _ p3) hDd
      refine ⟨ys, hD4, sz_lt (by omega), Ex.mut (p1.trans ((Ed.of e3).trans e4)) (del_none hD), ?_, ys ++ [u], upd_same, by simp [p4], fun y hy => ?_⟩
      · rw [Nat.add_mul, Nat.one_mul, ← Nat.add_assoc]
        exact dice_upd hk4 hDd
      · rcases List.mem_append.mp hy with h | h
        · exact p5 y h
        · have : y = u := by simpa using h
          rw [this]; exact pu
    · rintro H' ⟨p1, p2, ys, p3, p4, p5⟩
      have h1 := hmul n (Nat.le_refl n)
      have hnt : (n : Int).toNat = n := by omega
      rw [hnt] at p2 p4
      refine q _ H' (e2.trans p1) (p2.mono (by omega)) ⟨Dl, ys, rfl, ?_, hDd, p3, by omega, p5⟩
      cases hh : H Dl with
      | none => rfl
      | some o =>
        have := (e.trans e2).at hh hDd
        rw [hD] at this
        cases this
end

end
end Tx
end
section
set_option Elab.async false
set_option linter.all false
set_option maxRecDepth 100000
set_option maxHeartbeats 4000000
namespace Tx
open PySem PySem.Spec PyProof.Rows L2 Evl Wk
section
variable {w : World} {K : PySem.W.Frag} {mg : Str → Option Value} {base : Heap}

section
variable {σ : L2.St} {H : Hp} {ta te tl tn : TE} {tr : TA} {D : Ends} {tu tz : TS} {d : Addr}
theorem q_forD {j L N c0 k : Nat} (hn : ED tn σ d H c0 (fun v _ => ∃ i : Nat, L ≤ i ∧ i ≤ N ∧ v = .int (i : Int))) (hk : DiceAt k d H) (hkc : k + c0 ≤ 90000) (hN : N ≤ 100) (Pv : Nat → L2.St → Hp → Prop) (h0 : ∀ H1, Ed d H H1 → DiceAt (k + c0) d H1 → Pv 0 σ H1)
    (hs : ∀ (i : Nat) σ' H', i < N → Pv i σ' H' → tu { D with nx := Pv (i + 1), ct := Pv (i + 1), bk := tz D } (σ'.set j (some (.int (i : Int)))) H') (hd : ∀ n σ' H', L ≤ n → n ≤ N → Pv n σ' H' → tz D σ' H') : tSeq (tFor (iRng1 (tCons tn tNil)) (gName j) tu) tz D σ H :=
  hn k H (Ed.refl d H) hk hkc _ fun v H2 e2 hk2 ⟨n, hL, hnN, ev⟩ => by
    subst ev
    refine ⟨(n : Int), rfl, by omega, by omega, ?_⟩
    refine for_it (D := { D with nx := tz D }) (walk_range (lo := 0)) Pv (h0 H2 e2 hk2) (fun _ _ _ _ _ => trivial) ?_ ?_
    · rintro i x σ' H' H'' hi p ⟨rfl, rfl⟩
      have hin : i < n := by simpa using hi
      have e0 : (fun i : Nat => V.int ((0 : Int) + (i : Int))) i = V.int (i : Int) := by
        show V.int ((0 : Int) + (i : Int)) = _
        rw [Int.zero_add]
      rw [e0]
      exact hs i σ' H'' (by omega) p
    · intro σ' H' p
      have hnt : (n : Int).toNat = n := by omega
      rw [hnt] at p
      exact hd n σ' H' hL hnN p
theorem d_add1 {c n : Nat} (h : ED te σ d H c (fun v _ => ∃ i : Nat, i < n ∧ v = .int (i : Int))) : ED (tOp (rI0 fun i j => .int (i + j)) (tC (.int 1)) te) σ d H c (fun v _ => ∃ i : Nat, 1 ≤ i ∧ i ≤ n ∧ v = .int (i : Int)) := fun k H1 e hk hc Q q =>
  h k H1 e hk hc _ fun v H2 e2 hk2 ⟨i, hi, ev⟩ => by
    subst ev
    have h1 : V.int (1 + (i : Int)) = V.int ((i + 1 : Nat) : Int) := by
      rw [Int.natCast_add, Int.add_comm]
      rfl
    exact ⟨1, (i : Int), rfl, rfl, q (.int (1 + (i : Int))) H2 e2 hk2 ⟨i + 1, Nat.succ_pos i, hi, h1⟩⟩
theorem qd_asg {i c k : Nat} {P : V → Hp → Prop} (h : ED te σ d H c P) (hk : DiceAt k d H) (hc : k + c ≤ 90000) (kk : ∀ v H1, Ed d H H1 → DiceAt (k + c) d H1 → P v H1 → tz D (σ.set i (some v)) H1) : tSeq (tAsg te (gName i)) tz D σ H := h k H (Ed.refl d H) hk hc _ kk
/-- xs.append((e, x, y)), e rolls -/
theorem sd_app3 {c k : Nat} {l : Addr} {xs : List V} {P : V → Prop} {x y : V} {tx1 ty1 : TE} (hl : H l = some (.lst xs)) (hld : l ≠ d) (ha : Ev ta σ H (.ref l)) (h : ED te σ d H c (fun v _ => P v)) (hx : Ev tx1 σ (del H d) x) (hy : Ev ty1 σ (del H d) y) (hk : DiceAt k d H) (hc : k + c ≤ 90000) (hz : xs.length < 100000)
    (kk : ∀ v p H1, Ed d H H1 → DiceAt (k + c) d H1 → P v → H p = none → H1 p = some (.tup [v, x, y]) → D.nx σ (upd H1 l (.lst (xs ++ [.ref p])))) :
    tDrop (tBM K "list" rAppend ta (tCons (tTup (tCons te (tCons tx1 (tCons ty1 tNil)))) tNil)) D σ H := ha H (Ex.refl H) _ fun H1 e1 =>
  ⟨Or.inl ⟨rfl, xs, sq_of (e1 l _ hl)⟩, h k H1 (Ed.of e1) (hk.ex e1) hc _ fun v H2 e2 hk2 pv => by
    have e12 := (Ed.of (d := d) e1).trans e2
    refine hx H2 e12 _ fun H3 e3 => ?_
    refine hy H3 (Ex.trans e12 e3) _ fun H4 e4 => ?_
    refine ⟨few5' rfl, fun p hp => ?_⟩
    have e14 := e12.trans (Ed.of (e3.trans e4))
    have hp0 : H p = none := by
      cases hh : H p with
      | none => rfl
      | some o =>
        have hpd : p ≠ d := dice_ne (hk2.ex (e3.trans e4)) hp
        have := e14.at hh hpd
        rw [hp] at this
        cases this
    have hl4 := e14.at hl hld
    have hlp : l ≠ p := ne_new hl4 hp
    refine ⟨l, xs, .ref p, rfl, rfl, by rw [upd_ne hlp]; exact hl4, sz_lt hz, kk v p _ (e14.trans (Ed.of (Ex.new hp))) (hk2.ex ((e3.trans e4).trans (Ex.new hp))) pv hp0 upd_same⟩⟩
end
theorem ED.imp {te : TE} {σ : L2.St} {d : Addr} {H : Hp} {c : Nat} {P R : V → Hp → Prop} (h : ED te σ d H c P) (i : ∀ v H, P v H → R v H) : ED te σ d H c R := fun k H1 e hk hc Q q => h k H1 e hk hc Q fun v H2 e2 hk2 p => q v H2 e2 hk2 (i v H2 p)
theorem names_back {as : List Nat} : ∀ ys : List V, (∀ y, y ∈ ys → y ∈ nmL as) → ∃ cs : List Nat, ys = nmL cs ∧ ∀ c, c ∈ cs → c ∈ as
  | [], _ => ⟨[], rfl, fun c h => by cases h⟩
  | y :: ys, h => by
    obtain ⟨cs, h1, h2⟩ := names_back ys fun z hz => h z (List.mem_cons_of_mem _ hz)
    obtain ⟨c, hc, rfl⟩ := List.mem_map.mp (h y List.mem_cons_self)
    exact ⟨c :: cs, by rw [h1]; rfl, fun a ha => by
      rcases List.mem_cons.mp ha with x | x
      · rw [x]; exact hc
      · exact h2 a x⟩
theorem nm_dice {cs : List Nat} {b m c : Int} : HO.lst (nmL cs) ≠ HO.lst [.int b, .int m, .int c] := fun h => by
  have h1 := HO.lst.inj h
  cases cs with
  | nil => cases h1
  | cons x xs =>
    have h2 := (List.cons.inj h1).1
    cases h2
theorem row_ed {k : Nat} {d f : Addr} {H H' : Hp} {r : Rw} {v : V} (hk : DiceAt k d H) (e : Ed d H H') (h : RowAt r v (del H f)) : RowAt r v (del H' f) := by
  obtain ⟨p, w, dn, h1, h2, h3, h4⟩ := h
  obtain ⟨b, m, c, _, _, _, _, h5⟩ := hk
  have key : ∀ a o, del H f a = some o → o ≠ .lst [.int b, .int m, .int (c : Int)] → del H' f a = some o := fun a o ho hn => by
    have haf : a ≠ f := fun x => by subst x; rw [del_same] at ho; cases ho
    rw [del_ne haf] at ho ⊢
    exact e.at ho (fun x => by subst x; rw [h5] at ho; exact hn (Option.some.inj ho).symm)
  exact ⟨p, w, dn, h1, key _ _ h2 (by intro h; cases h), key _ _ h3 nm_dice, key _ _ h4 nm_dice⟩
def abc : List Nat := [97, 98, 99, 100, 101]
theorem lit_abc : [V.str "a", V.str "b", V.str "c", V.str "d", V.str "e"] = nmL abc := by
  have ha : ("a" : Str) = tx [97] := by decide +kernel
  have hb : ("b" : Str) = tx [98] := by decide +kernel
  have hc : ("c" : Str) = tx [99] := by decide +kernel
  have hd : ("d" : Str) = tx [100] := by decide +kernel
  have he : ("e" : Str) = tx [101] := by decide +kernel
  rw [ha, hb, hc, hd, he]
  rfl
def GoodR' (rs : List Rw) : Prop := ∀ r, r ∈ rs → r.1 ∈ abc ∧ r.2.1.length ≤ 2 ∧ r.2.2.length ≤ 2 ∧ (∀ c, c ∈ r.2.1 → c ∈ abc) ∧ ∀ c, c ∈ r.2.2 → c ∈ abc
def GoodR (rs : List Rw) : Prop := rs.length ≤ 7 ∧ GoodR' rs
def sp_wt_named : Sp := fun vs H Q _ => ∃ (d : Addr) (k : Nat), vs = [.ref d] ∧ DiceAt k d H ∧ k ≤ 80000 ∧ ∀ p rs H', H p = none → Ed d H H' → DiceAt (k + 60) d H' → RowsAt rs p H' → GoodR rs → rs ≠ [] → Q (.ref p) H'
theorem sc__law_wt_named : FnScope ["dice", "found", "turn", "wanted", "part", "denied"] ["dice"] (defScope s__law_wt_named) := ⟨rfl, rfl, rfl, by decide +kernel, rfl, by decide +kernel, by decide +kernel⟩
theorem ok__law_wt_named (Z : Zx K mg) : OkD prog w K mg base CX0 3 "_law_wt_named" ["dice"] (sp_wt_named) := by
  obtain ⟨fd, F0⟩ := Z.fun_ 48
  have F : Fun K "_law_wt_named" "_law_wt_named" s__law_wt_named (He.ga K "_law_wt_named") fd := Wk.fun_of F0
  obtain ⟨_, g__law_pick, b__law_pick, m__law_pick, k__law_pick⟩ := ok__law_pick (w := w) (base := base) Z
  obtain ⟨_, g__law_roll, b__law_roll, m__law_roll, k__law_roll⟩ := ok__law_roll (w := w) (base := base) Z
  have n_range := Z.free 72 (x := "range")
  refine ⟨fd, ?_, F.binds (ps := ["dice"]) fun _ _ _ _ _ _ us hl => match us, hl with | [_], _ => rfl, Z.glo 41, F.kp⟩
  refine F.ok sc__law_wt_named (fun vs H Q E h => ?_) (fun cdv A outer s H vs Q E hr h => ?_)
  · obtain ⟨d, k, rfl, hk, hk2, q⟩ := h
    rfl
  · obtain ⟨d, k, rfl, hk, hk2, q⟩ := h
    refine ⟨_, (pss_cons (ps_set (i := 1) sc__law_wt_named.nd rfl (by first | exact Or.inl rfl | exact Or.inr rfl) (pe_lst pa_nil)) (pss_cons (ps_for PassesOwn.never rfl (pi_range1 (by rfl) n_range (pa_cons (pe_op op_add pe_int (pe_call g__law_roll (hr.mono (by decide)) (by rfl) m__law_roll k__law_roll b__law_roll .nil pass0 (pa_cons (pv 0) (pa_cons pe_int pa_nil)))) pa_nil)) (pg_name (i := 2) sc__law_wt_named.nd rfl (by first | exact Or.inl rfl | exact Or.inr rfl)) (pss_cons (ps_setLc (i := 3) (own := [("part", 4)]) rfl sc__law_wt_named.nd rfl rfl (sw_true rfl rfl rfl (by decide +kernel)) (pi_range1 (by rfl) n_range (pa_cons (pe_call g__law_roll (hr.mono (by decide)) (by rfl) m__law_roll k__law_roll b__law_roll .nil pass0 (pa_cons (pv 0) (pa_cons pe_int pa_nil))) pa_nil)) (blkOk_by (own := [("part", 4)]) (N := ["dice", "found", "turn", "wanted", "part", "denied"]) (sc := defScope s__law_wt_named) (by decide +kernel)) (fun _ _ _ _ _ => pg_name (i := 4) sc__law_wt_named.nd rfl (by first | exact Or.inl rfl | exact Or.inr rfl)) (fun _ _ _ _ _ => pts_nil) (fun _ _ _ _ _ => (pe_call g__law_pick (hr.mono (by decide)) (by rfl) m__law_pick k__law_pick b__law_pick .nil pass0 (pa_cons (pv 0) (pa_cons (pe_lst (pa_cons pe_str (pa_cons pe_str (pa_cons pe_str (pa_cons pe_str (pa_cons pe_str pa_nil)))))) pa_nil))))) (pss_cons (ps_setLc (i := 5) (own := [("part", 4)]) rfl sc__law_wt_named.nd rfl rfl (sw_true rfl rfl rfl (by decide +kernel)) (pi_range1 (by rfl) n_range (pa_cons (pe_call g__law_pick (hr.mono (by decide)) (by rfl) m__law_pick k__law_pick b__law_pick .nil pass0 (pa_cons (pv 0) (pa_cons (pe_lst (pa_cons pe_int (pa_cons pe_int (pa_cons pe_int (pa_cons pe_int (pa_cons pe_int pa_nil)))))) pa_nil))) pa_nil)) (blkOk_by (own := [("part", 4)]) (N := ["dice", "found", "turn", "wanted", "part", "denied"]) (sc := defScope s__law_wt_named) (by decide +kernel)) (fun _ _ _ _ _ => pg_name (i := 4) sc__law_wt_named.nd rfl (by first | exact Or.inl rfl | exact Or.inr rfl)) (fun _ _ _ _ _ => pts_nil) (fun _ _ _ _ _ => (pe_call g__law_pick (hr.mono (by decide)) (by rfl) m__law_pick k__law_pick b__law_pick .nil pass0 (pa_cons (pv 0) (pa_cons (pe_lst (pa_cons pe_str (pa_cons pe_str (pa_cons pe_str (pa_cons pe_str (pa_cons pe_str pa_nil)))))) pa_nil))))) (pss_one (ps_expr (pe_bm PySem.F.plainAttrs_list PySem.F.slot_list_append PySem.F.type_list_append mt_append (pv 1) (pa_cons (pe_tup (pa_cons (pe_call g__law_pick (hr.mono (by decide)) (by rfl) m__law_pick k__law_pick b__law_pick .nil pass0 (pa_cons (pv 0) (pa_cons (pe_lst (pa_cons pe_str (pa_cons pe_str (pa_cons pe_str (pa_cons pe_str (pa_cons pe_str pa_nil)))))) pa_nil))) (pa_cons (pv 3) (pa_cons (pv 5) pa_nil)))) pa_nil))))))) (pss_one (ps_ret (pv 1))))), ?_⟩
    refine q_asgL (xs := []) (el_lst ea_nil (few5 rfl)) (fun f H1 hf e1 h1 => ?_)
    have hk1 := hk.ex e1
    have hfd : f ≠ d := dice_ne hk hf
    refine q_forD (L := 1) (N := 7) (d := d) (d_add1 (n := 7) (d_roll (n := 7) (ev_var rfl) ev_c (by decide) (by decide))) hk1 (by omega) (by decide) (fun i σ' H' => ∃ s2 s3 s5 ys rs, σ' = [some (.ref d), some (.ref f), s2, s3, none, s5] ∧ Ed d H H' ∧ DiceAt (k + 1 + i * 8) d H' ∧ H' f = some (.lst ys) ∧ AllV RowAt rs ys (del H' f) ∧ rs.length = i ∧ GoodR' rs)
      (fun H2 e2 hk2 => ⟨none, none, none, [], [], rfl, (Ed.of e1).trans e2, hk2, e2.at h1 hfd, AllV.nil, rfl, fun r hr => by cases hr⟩) ?_ ?_
    · rintro i σ' H' hi ⟨s2, s3, s5, ys, rs, rfl, e', hk', hf', hrs, hlen, hgood⟩
      have hfH : H f = none := hf
      have hlit : ∀ (σ : L2.St) (H0 : Hp), EvL (tLst (tCons (tC (.str "a")) (tCons (tC (.str "b")) (tCons (tC (.str "c")) (tCons (tC (.str "d")) (tCons (tC (.str "e")) tNil)))))) σ H0 (nmL abc) := fun σ H0 => by
        rw [← lit_abc]
        exact el_lst (ea_cons ev_c (ea_cons ev_c (ea_cons ev_c (ea_cons ev_c (ea_cons ev_c ea_nil))))) (few5 rfl)
      refine qd_asg (k := k + 1 + i * 8) (c := 1 + 2 * 1) (d := d) (d_lcR (N := 2) (c0 := 1) (c1 := 1) (P := fun v => v ∈ nmL abc) (ED.imp (d_roll (n := 3) (ev_var rfl) ev_c (by decide) (by decide)) (fun v H2 ⟨i, hi, ev⟩ => ⟨i, by omega, ev⟩)) (by decide) (fun _ => rfl) (fun j H2 e2 => d_pickN (ev_var rfl) (hlit _ _) (by decide) (by decide))) hk' (by omega) ?_
      rintro v H2 e2 hk2 ⟨wa, ws, rfl, hwa, hwd, h2, hwl, hws⟩
      obtain ⟨wcs, rfl, hwc⟩ := names_back ws hws
      rw [nmL_len] at hwl
      refine qd_asg (k := k + 1 + i * 8 + (1 + 2 * 1)) (c := 1 + 2 * 1) (d := d) (d_lcR (N := 2) (c0 := 1) (c1 := 1) (P := fun v => v ∈ nmL abc) (ED.imp (d_pickN (xs := [.int 0, .int 0, .int 1, .int 1, .int 2]) (ev_var rfl) (el_lst (ea_cons ev_c (ea_cons ev_c (ea_cons ev_c (ea_cons ev_c (ea_cons ev_c ea_nil))))) (few5 rfl)) (by simp) (by decide)) (fun v H2 hv => ?_)) (by decide) (fun _ => rfl) (fun j H3 e3 => d_pickN (ev_var rfl) (hlit _ _) (by decide) (by decide))) hk2 (by omega) ?_
      · simp only [List.mem_cons, List.not_mem_nil, or_false] at hv
        rcases hv with h | h | h | h | h
        · exact ⟨0, by decide, h⟩
        · exact ⟨0, by decide, h⟩
        · exact ⟨1, by decide, h⟩
        · exact ⟨1, by decide, h⟩
        · exact ⟨2, by decide, h⟩
      rintro v H3 e3 hk3 ⟨da, ds, rfl, hda, hdd, h3, hdl, hds⟩
      obtain ⟨dcs, rfl, hdc⟩ := names_back ds hds
      rw [nmL_len] at hdl
      have e23 := e2.trans e3
      have hf3 := e23.at hf' hfd
      have hw3 := e3.at h2 hwd
      have hwf : wa ≠ f := fun x => by subst x; rw [hf'] at hwa; cases hwa
      have hdf : da ≠ f := fun x => by subst x; rw [e2.at hf' hfd] at hda; cases hda
      have hyl := hrs.1
      refine sd_app3 (K := K) (d := d) (k := k + 1 + i * 8 + (1 + 2 * 1) + (1 + 2 * 1)) (c := 1) (P := fun v => v ∈ nmL abc) hf3 hfd (ev_var rfl) (d_pickN (ev_var rfl) (hlit _ _) (by decide) (by decide)) (ev_var rfl) (ev_var rfl) hk3 (by omega) (by omega) ?_
      rintro v p H4 e4 hk4 hv hp hp4
      obtain ⟨c, hc, rfl⟩ := List.mem_map.mp hv
      have hf4 := e4.at hf3 hfd
      refine ⟨_, _, _, ys ++ [.ref p], rs ++ [(c, wcs, dcs)], rfl, Ex.mut (e'.trans (e23.trans e4)) (del_none hfH), (dice_upd hk4 hfd).mono (by omega), upd_same, ?_, by simp [hlen], ?_⟩
      · rw [del_upd]
        have r1 : AllV RowAt rs ys (del H4 f) := ⟨hrs.1, fun j v r hv hr => row_ed hk' (e23.trans e4) (hrs.2 j v r hv hr)⟩
        exact r1.app ⟨p, wa, da, rfl, by rw [del_ne (fun x => by subst x; rw [hf3] at hp; cases hp)]; exact hp4, by rw [del_ne hwf]; exact e4.at hw3 hwd, by rw [del_ne hdf]; exact e4.at h3 hdd⟩
      · intro r hr
        rcases List.mem_append.mp hr with h | h
        · exact hgood r h
        · have : r = (c, wcs, dcs) := by simpa using h
          rw [this]
          exact ⟨hc, hwl, hdl, hwc, hdc⟩
    · rintro n σ' H' hL hn ⟨s2, s3, s5, ys, rs, rfl, e', hk', hf', hrs, hlen, hgood⟩
      refine s_ret (ev_var rfl) (fun H2 e2 => ?_)
      exact q f rs H2 hf (e'.trans (Ed.of e2)) ((hk'.ex e2).mono (by omega)) ⟨ys, e2 _ _ hf', AllV.mo RowAt.mo _ _ _ ((ex_del H' f).trans e2) hrs⟩ ⟨by omega, hgood⟩ (fun h => by rw [h] at hlen; simp at hlen; omega)

end
end Tx
end
section
set_option Elab.async false
set_option linter.all false
set_option maxRecDepth 100000
set_option maxHeartbeats 4000000
namespace Tx
open PySem PySem.Spec PyProof.Rows L2 Evl Wk
section
variable {w : World} {K : PySem.W.Frag} {mg : Str → Option Value} {base : Heap}

abbrev rAddS' : R2 := fun x y H Q => ∃ i j, x = V.str i ∧ y = V.str j ∧ i.length + j.length ≤ sizeLine ∧ Q (.str (i ++ j)) H
theorem sum_le {n : Nat} : ∀ ls : List (List Nat), (∀ l, l ∈ ls → l.length ≤ n) → ((ls.map tx).map (·.length)).sum ≤ ls.length * n
  | [], _ => by simp
  | l :: ls, h => by
    have ih := sum_le ls fun m hm => h m (List.mem_cons_of_mem _ hm)
    have h1 := h l List.mem_cons_self
    simp only [List.map_cons, List.sum_cons, List.length_cons, tx_len, Nat.add_mul]
    omega
theorem ev_joinL {σ : L2.St} {H : Hp} {to te : TE} {s : List Nat} {ls : List (List Nat)} {n : Nat} (hs : Ev to σ H (.str (tx s))) (hl : EvL te σ H (ls.map fun l => V.str (tx l))) (hn : ∀ l, l ∈ ls → l.length ≤ n) (hz : ls.length * n + ls.length * s.length ≤ 16777216) :
    Ev (tM1 (fun x xs H Q => ∃ a p, ∃ ys : List Str, x = .str a ∧ xs = [.ref p] ∧ (SqL K H p (ys.map V.str) ∨ SqT K H p (ys.map V.str)) ∧ (ys.map (·.length)).sum + ys.length * a.length ≤ 16777216 ∧ Q (.str (Txt.join a ys)) H) to te) σ H (.str (tx (TL.joinL s ls))) := fun H1 e Q q =>
  hs H1 e _ fun H2 e2 => ⟨⟨_, rfl⟩, hl H2 (e.trans e2) _ fun p H3 hp e3 h3 => ⟨tx s, p, ls.map tx, rfl, rfl, .inl (sq_of (by rw [h3, List.map_map]; rfl)), by
    have := sum_le ls hn
    rw [List.length_map, tx_len]
    omega, by
    rw [SX.join_S]
    exact q H3 (e2.trans e3)⟩⟩
theorem ev_joinA {σ : L2.St} {H : Hp} {to te : TE} {s : List Nat} {ls : List (List Nat)} {n : Nat} {p : Addr} (hs : Ev to σ H (.str (tx s))) (hl : Ev te σ H (.ref p)) (hp : H p = some (.lst (ls.map fun l => V.str (tx l)))) (hn : ∀ l, l ∈ ls → l.length ≤ n) (hz : ls.length * n + ls.length * s.length ≤ 16777216) :
    Ev (tM1 (fun x xs H Q => ∃ a p, ∃ ys : List Str, x = .str a ∧ xs = [.ref p] ∧ (SqL K H p (ys.map V.str) ∨ SqT K H p (ys.map V.str)) ∧ (ys.map (·.length)).sum + ys.length * a.length ≤ 16777216 ∧ Q (.str (Txt.join a ys)) H) to te) σ H (.str (tx (TL.joinL s ls))) := fun H1 e Q q =>
  hs H1 e _ fun H2 e2 => ⟨⟨_, rfl⟩, hl H2 (e.trans e2) _ fun H3 e3 => ⟨tx s, p, ls.map tx, rfl, rfl, .inl (sq_of (by rw [(e.trans (e2.trans e3)) _ _ hp, List.map_map]; rfl)), by
    have := sum_le ls hn
    rw [List.length_map, tx_len]
    omega, by
    rw [SX.join_S]
    exact q H3 (e2.trans e3)⟩⟩
theorem el_catE {σ : L2.St} {H : Hp} {ta te : TE} {xs ys : List V} {q : Addr} (hb : Ev ta σ H (.ref q)) (hq : H q = some (.lst xs)) (h : EvL te σ H ys) (hz : xs.length + ys.length ≤ 100000) : EvL (tOp rCat ta te) σ H (xs ++ ys) := fun H1 e Q k =>
  hb H1 e _ fun H2 e2 => h H2 (e.trans e2) _ fun p H3 hp e3 h3 => ⟨q, p, xs, ys, rfl, rfl, (e.trans (e2.trans e3)) _ _ hq, h3, sz_of hz, fun o ho => k o _ (fresh_back (e2.trans e3) ho) ((e2.trans e3).trans (Ex.new ho)) upd_same⟩
theorem joinL_flat : ∀ ls : List (List Nat), TL.joinL [] ls = ls.flatten
  | [] => rfl
  | [l] => by simp [TL.joinL]
  | l :: m :: ls => by
    show l ++ ([] ++ TL.joinL [] (m :: ls)) = _
    rw [joinL_flat (m :: ls)]
    rfl
def partsT (r : Rw) : List (List Nat) := r.2.1.map (fun c => [c]) ++ r.2.2.map (fun c => notW ++ [c])
theorem joinL_len : ∀ (ls : List (List Nat)), (∀ l, l ∈ ls → l.length ≤ 5) → (TL.joinL [44, 32] ls).length ≤ ls.length * 7
  | [], _ => by simp [TL.joinL]
  | [l], h => by
    have := h l List.mem_cons_self
    show l.length ≤ _
    simp
    omega
  | l :: m :: ls, h => by
    have ih := joinL_len (m :: ls) fun x hx => h x (List.mem_cons_of_mem _ hx)
    have h1 := h l List.mem_cons_self
    show (l ++ ([44, 32] ++ TL.joinL [44, 32] (m :: ls))).length ≤ _
    rw [List.length_append, List.length_append]
    simp only [List.length_cons, List.length_nil] at ih ⊢
    omega
theorem partsT_len (r : Rw) : ∀ l, l ∈ partsT r → l.length ≤ 5 := fun l hl => by
  simp only [partsT, List.mem_append, List.mem_map] at hl
  rcases hl with ⟨c, _, h⟩ | ⟨c, _, h⟩
  · rw [← h]; simp
  · rw [← h]; simp [notW]
def bodyT (r : Rw) : List Nat := TL.joinL [44, 32] (r.2.1.map (fun c => [c]) ++ r.2.2.map (fun c => notW ++ [c]))
def lineT (r : Rw) : List Nat := ([r.1] ++ (if bodyT r = [] then [] else [32, 58, 45, 32] ++ bodyT r)) ++ [46]
def sp_wt_text : Sp := fun vs H Q _ => ∃ (a : Addr) (rs : List Rw), vs = [.ref a] ∧ RowsAt rs a H ∧ rs.length ≤ 7 ∧ (∀ r, r ∈ rs → r.2.1.length ≤ 2 ∧ r.2.2.length ≤ 2) ∧ RetV (.str (tx (progT (rs.map lineT)))) H Q
theorem sc__law_wt_named_text : FnScope ["clauses", "rows", "head", "wanted", "denied", "body", "name"] ["clauses"] (defScope s__law_wt_named_text) := ⟨rfl, rfl, rfl, by decide +kernel, rfl, by decide +kernel, by decide +kernel⟩
theorem ok__law_wt_named_text (Z : Zx K mg) : OkD prog w K mg base CX0 1 "_law_wt_named_text" ["clauses"] (sp_wt_text) := by
  obtain ⟨fd, F0⟩ := Z.fun_ 49
  have F : Fun K "_law_wt_named_text" "_law_wt_named_text" s__law_wt_named_text (He.ga K "_law_wt_named_text") fd := Wk.fun_of F0
  refine ⟨fd, ?_, F.binds (ps := ["clauses"]) fun _ _ _ _ _ _ us hl => match us, hl with | [_], _ => rfl, Z.glo 42, F.kp⟩
  refine F.ok sc__law_wt_named_text (fun vs H Q E h => ?_) (fun cdv A outer s H vs Q E hr h => ?_)
  · obtain ⟨a, rs, rfl, ⟨us, ha, hall⟩, hn, hsz, k⟩ := h
    rfl
  · obtain ⟨a, rs, rfl, ⟨us, ha, hall⟩, hn, hsz, k⟩ := h
    refine ⟨_, (pss_cons (ps_set (i := 1) sc__law_wt_named_text.nd rfl (by first | exact Or.inl rfl | exact Or.inr rfl) (pe_lst pa_nil)) (pss_cons (ps_for PassesOwn.never rfl (pi_list (pv 0)) (pg_tup rfl (pgs_cons (pg_name (i := 2) sc__law_wt_named_text.nd rfl (by first | exact Or.inl rfl | exact Or.inr rfl)) (pgs_cons (pg_name (i := 3) sc__law_wt_named_text.nd rfl (by first | exact Or.inl rfl | exact Or.inr rfl)) (pgs_cons (pg_name (i := 4) sc__law_wt_named_text.nd rfl (by first | exact Or.inl rfl | exact Or.inr rfl)) pgs_nil)))) (pss_cons (ps_set (i := 5) sc__law_wt_named_text.nd rfl (by first | exact Or.inl rfl | exact Or.inr rfl) (pe_join pe_str (pe_op op_cat (pv 3) (pe_lc (own := [("name", 6)]) rfl sc__law_wt_named_text.nd (pi_list (pv 4)) (blkOk_by (own := [("name", 6)]) (N := ["clauses", "rows", "head", "wanted", "denied", "body", "name"]) (sc := defScope s__law_wt_named_text) (by decide +kernel)) (fun _ _ _ _ _ => pg_name (i := 6) sc__law_wt_named_text.nd rfl (by first | exact Or.inl rfl | exact Or.inr rfl)) (fun _ _ _ _ _ => pts_nil) (fun _ _ _ _ _ => (pe_op op_add_str pe_str (pv 6))))))) (pss_one (ps_expr (pe_bm PySem.F.plainAttrs_list PySem.F.slot_list_append PySem.F.type_list_append mt_append (pv 1) (pa_cons (pe_op op_add_str (pe_op op_add_str (pv 2) (pe_ifExp (pt_cmpR op_ne (pv 5) pe_str (nomark _)) (pe_op op_add_str pe_str (pv 5)) pe_str)) pe_str) pa_nil)))))) (pss_one (ps_ret (pe_join pe_str (pv 1)))))), ?_⟩
    have hul := hall.1
    have zc : (", " : Str) = tx [44, 32] := by decide +kernel
    have za : (" :- " : Str) = tx [32, 58, 45, 32] := by decide +kernel
    have zd : (".\n" : Str) = tx [46, 10] := by decide +kernel
    refine q_asgL (xs := []) (el_lst ea_nil (few5 rfl)) (fun o H1 ho e1 h1 => ?_)
    have hbl : ∀ r, r ∈ rs → (partsT r).length ≤ 4 ∧ (bodyT r).length ≤ 28 := fun r hr => by
      obtain ⟨z1, z2⟩ := hsz r hr
      have h1 : (partsT r).length ≤ 4 := by unfold partsT; rw [List.length_append, List.length_map, List.length_map]; omega
      have h2 := joinL_len (partsT r) (partsT_len r)
      exact ⟨h1, Nat.le_trans h2 (by omega)⟩
    have hll : ∀ r, r ∈ rs → (lineT r ++ [10]).length ≤ 40 := fun r hr => by
      have := (hbl r hr).2
      unfold lineT
      split
      · simp
      · simp only [List.length_append, List.length_cons, List.length_nil]
        omega
    refine q_forL (K := K) (xs := us) (ev_var rfl) (sq_of (e1 _ _ ha)) (fun i σ' H' => ∃ s2 s3 s4 s5, σ' = [some (.ref a), some (.ref o), s2, s3, s4, s5, none] ∧ Ex H H' ∧ H' o = some (.lst (((rs.take i).map fun r => lineT r ++ [10]).map fun l => V.str (tx l)))) (fun H2 e2 => ⟨none, none, none, none, rfl, e1.trans e2, by rw [List.take_zero]; exact e2 _ _ h1⟩) (fun i σ' H' _ ⟨_, _, _, _, _, e, _⟩ => sq_of (e _ _ ha)) ?_ ?_
    · rintro i x σ' H' hx ⟨s2, s3, s4, s5, rfl, e', ho'⟩
      obtain ⟨r, hr, p, w, dn, rfl, c1, c2, c3⟩ := AllV.at hall hx
      have hmem := List.mem_of_getElem? hr
      obtain ⟨z1, z2⟩ := hsz r hmem
      have hi : i < us.length := (List.getElem?_eq_some_iff.mp hx).1
      refine ⟨p, _, rfl, st_of (e' _ _ c1), rfl, _, _, rfl, _, _, rfl, _, _, rfl, rfl, ?_⟩
      have hparts : nmL r.2.1 ++ r.2.2.map (fun c => V.str (tx (notW ++ [c]))) = (partsT r).map fun l => V.str (tx l) := by
        unfold partsT nmL
        rw [List.map_append, List.map_map, List.map_map]
        rfl
      have hp4 := (hbl r hmem).1
      refine q_asg (v := .str (tx (bodyT r))) (ev_joinL (s := [44, 32]) (ls := partsT r) (n := 5) (ev_is ev_c (by rw [zc])) (hparts ▸ el_catE (ev_var rfl) (e' _ _ c2) (el_map (as := r.2.2) (inj := nmV) (fun c => V.str (tx (notW ++ [c]))) (ei_L (K := K) (ev_var rfl) (sq_of (e' _ _ c3))) (by omega) (fun _ => rfl) (fun c _ H9 e9 => ev_is (ev_op ev_c (ev_var (v := .str (tx [c])) rfl) (rv_addS (by rw [not_eq, tx_len, tx_len]; show 4 + 1 ≤ sizeLine; decide))) (by rw [not_eq, tx_app]))) (by rw [nmL_len, List.length_map]; omega)) (partsT_len r) (by show (partsT r).length * 5 + (partsT r).length * 2 ≤ _; omega)) (fun H3 e3 => ?_)
      have hb28 := (hbl r hmem).2
      have hval : Ev (tOp rAddS' (tOp rAddS' (tVar 2) (tIf (tTest (tOp rNe (tVar 5) (tC (.str "")))) (tOp rAddS' (tC (.str " :- ")) (tVar 5)) (tC (.str "")))) (tC (.str ".\n"))) [some (.ref a), some (.ref o), some (nmV r.1), some (.ref w), some (.ref dn), some (.str (tx (bodyT r))), none] H3 (.str (tx (lineT r ++ [10]))) := by
        refine ev_is (ev_op (ev_op (ev_var (v := .str (tx [r.1])) rfl) (ev_if (v := .str (tx (if bodyT r = [] then [] else [32, 58, 45, 32] ++ bodyT r))) (b := decide (bodyT r ≠ [])) (et_is (et_test (ev_op (ev_var rfl) ev_c (rv_ne (by rfl)))) ?_) (fun h => ?_) (fun h => ?_)) (rv_addS ?_)) ev_c (rv_addS ?_)) ?_
        · rw [tx_nil, decide_not]
          congr 1
          rw [decide_eq_decide]
          constructor
          · intro h; exact tx_inj (V.str.inj h)
          · intro h; rw [h]
        · rw [if_neg (of_decide_eq_true h)]
          exact ev_is (ev_op ev_c (ev_var rfl) (rv_addS (by rw [za, tx_len, tx_len]; exact sz_of (by show 4 + _ ≤ _; omega)))) (by rw [za, tx_app])
        · rw [if_pos (Decidable.not_not.mp (of_decide_eq_false h))]
          exact ev_is ev_c (by rw [tx_nil])
        · rw [tx_len, tx_len]
          refine sz_of ?_
          split
          · simp
          · simp only [List.length_append, List.length_cons, List.length_nil]; omega
        · rw [tx_app, zd, tx_len, tx_len]
          refine sz_of ?_
          split
          · simp
          · simp only [List.length_append, List.length_cons, List.length_nil]; omega
        · rw [tx_app, zd, tx_app]
          unfold lineT
          rw [List.append_assoc ([r.1] ++ _) [46] [10]]
          rfl
      refine s_app (e3 _ _ ho') (ev_var rfl) hval (by rw [List.length_map, List.length_map, List.length_take]; omega) (fun H4 e4 => ⟨_, _, _, _, rfl, Ex.mut (e'.trans (e3.trans e4)) ho, ?_⟩)
      rw [upd_same, List.take_add_one, hr]
      show _ = some (HO.lst (((rs.take i ++ [r]).map _).map _))
      rw [List.map_append, List.map_append]
      rfl
    · rintro σ' H' ⟨s2, s3, s4, s5, rfl, e', ho'⟩
      rw [hul, List.take_length] at ho'
      have hfin : progT (rs.map lineT) = TL.joinL [] (rs.map fun r => lineT r ++ [10]) := by
        rw [joinL_flat]
        unfold progT
        rw [List.map_map]
        rfl
      rw [hfin] at k
      refine s_ret (ev_joinA (s := []) (n := 40) (ev_is ev_c (by rw [tx_nil])) (ev_var rfl) ho' (fun l hl => ?_) (by rw [List.length_map]; simp; omega)) (fun H2 e2 => k H2 (e'.trans e2))
      obtain ⟨r, hr, rfl⟩ := List.mem_map.mp hl
      exact hll r hr

end
end Tx
end
section
set_option Elab.async false
set_option linter.all false
set_option maxRecDepth 100000
set_option maxHeartbeats 4000000
namespace Tx
open PySem PySem.Spec PyProof.Rows L2 Evl Wk
section
variable {w : World} {K : PySem.W.Frag} {mg : Str → Option Value} {base : Heap}

def sp_subsets (K : PySem.W.Frag) : Sp := fun vs H Q _ => ∃ (a : Addr) (ns : List Nat), vs = [.ref a] ∧ SqL K H a (nmL ns) ∧ ns.length ≤ 10 ∧ ∀ p ys H', H p = none → Ex H H' → H' p = some (.lst ys) → AllV TupN (sortNN (subN ns)) ys H' → Q (.ref p) H'
theorem sc_subsets : FnScope ["names", "found", "name", "row"] ["names"] (defScope s_subsets) := ⟨rfl, rfl, rfl, by decide +kernel, rfl, by decide +kernel, by decide +kernel⟩
theorem ok_subsets (Z : Zx K mg) : OkD prog w K mg base CX0 1 "subsets" ["names"] (sp_subsets K) := by
  obtain ⟨fd, F0⟩ := Z.fun_ 33
  have F : Fun K "subsets" "subsets" s_subsets (He.ga K "subsets") fd := Wk.fun_of F0
  have n_sorted := Z.free 74 (x := "sorted")
  refine ⟨fd, ?_, F.binds (ps := ["names"]) fun _ _ _ _ _ _ us hl => match us, hl with | [_], _ => rfl, Z.glo 26, F.kp⟩
  refine F.ok sc_subsets (fun vs H Q E h => ?_) (fun cdv A outer s H vs Q E hr h => ?_)
  · obtain ⟨a, ns, rfl, ha, hn, k⟩ := h
    rfl
  · obtain ⟨a, ns, rfl, ha, hn, k⟩ := h
    have hu64 := hr.units
    refine ⟨_, (pss_cons (ps_set (i := 1) sc_subsets.nd rfl (by first | exact Or.inl rfl | exact Or.inr rfl) (pe_lst (pa_cons (pe_tup pa_nil) pa_nil))) (pss_cons (ps_for PassesOwn.never rfl (pi_list (pv 0)) (pg_name (i := 2) sc_subsets.nd rfl (by first | exact Or.inl rfl | exact Or.inr rfl)) (pss_one (ps_set (i := 1) sc_subsets.nd rfl (by first | exact Or.inl rfl | exact Or.inr rfl) (pe_op op_cat (pv 1) (pe_lc (te := (tOp (rCatA K) (tVar 3) (tTup (tCons (tVar 2) tNil)))) (own := [("row", 3)]) rfl sc_subsets.nd (pi_list (pv 1)) (blkOk_by (own := [("row", 3)]) (N := ["names", "found", "name", "row"]) (sc := defScope s_subsets) (by decide +kernel)) (fun _ _ _ _ _ => pg_name (i := 3) sc_subsets.nd rfl (by first | exact Or.inl rfl | exact Or.inr rfl)) (fun _ _ _ _ _ => pts_nil) (fun _ _ _ _ _ => (pe_op op_catA (pv 3) (pe_tup (pa_cons (pv 2) pa_nil))))))))) (pss_one (ps_ret (pe_callB (TXT.cr_sortTx hu64) (by rfl) n_sorted (by decide +kernel) (pa_cons (pv 1) pa_nil)))))), ?_⟩
    have hpow : ∀ i, i ≤ 10 → 2 ^ i ≤ 1024 := fun i hi => Nat.pow_le_pow_right (by omega) (by omega : i ≤ 10)
    refine qx_asg (P := fun v H' => ∃ p ys, v = .ref p ∧ H' p = some (.lst ys) ∧ AllV TupN [[]] ys H') ((x_lst (x_one (P := TupN []) ((x_evU (eu_tup ea_nil (few5 rfl))).imp fun v H' ⟨p, h1, h2⟩ => ⟨p, h1, h2⟩)) ?_ ?_).imp ?_) ?_
    · rintro vs H1 H2 e ⟨v, rfl, h⟩
      exact ⟨v, rfl, (TupN.mn []).mo _ _ _ e h⟩
    · rintro vs H1 ⟨v, rfl, h⟩
      exact few5 rfl
    · rintro u H1 ⟨p, vs, rfl, hp, v, rfl, h⟩
      exact ⟨p, _, rfl, hp, AllV.cons h AllV.nil⟩
    rintro v H1 e1 ⟨p, ys, rfl, hp, hys⟩
    refine q_forLn (K := K) (xs := nmL ns) (ev_var rfl) (ex_l e1 ha) (fun i σ' H' => ∃ p ys s2 s3, σ' = [some (.ref a), some (.ref p), s2, s3] ∧ Ex H H' ∧ H' p = some (.lst ys) ∧ AllV TupN (subN (ns.take i)) ys H')
      (fun H2 e2 => ⟨p, ys, none, none, rfl, e1.trans e2, e2 _ _ hp, AllV.mo (fun a => (TupN.mn a).mo) _ _ _ e2 hys⟩) (fun i σ' H' _ ⟨_, _, _, _, _, e, _⟩ => ex_l e ha) ?_ ?_
    · rintro i x σ' H' hx ⟨p, ys, s2, s3, rfl, e', hp', hys'⟩
      unfold nmL at hx
      rw [List.getElem?_map] at hx
      obtain ⟨c, hc, rfl⟩ := Option.map_eq_some_iff.mp hx
      have hi : i < ns.length := (List.getElem?_eq_some_iff.mp hc).1
      have hyl := hys'.1
      have hsl := subN_len (ns.take i)
      rw [List.length_take, Nat.min_eq_left (by omega)] at hsl
      have hp10 := hpow i (by omega)
      have hstep : subN (ns.take (i + 1)) = subN (ns.take i) ++ (subN (ns.take i)).map (· ++ [c]) := by rw [List.take_add_one, hc]; exact subN_snoc _ _
      refine sx_asg (P := fun v H2 => ∃ q zs, v = .ref q ∧ H2 q = some (.lst (ys ++ zs)) ∧ AllV TupN ((subN (ns.take i)).map (· ++ [c])) zs H2) ?_ ?_
      · refine x_catR (xs := ys) (PL := fun ws H2 => AllV TupN ((subN (ns.take i)).map (· ++ [c])) ws H2) (ev_var rfl) hp' ((x_lc (xs := ys) (fun j w H => ∃ s, (subN (ns.take i))[j]? = some s ∧ TupN (s ++ [c]) w H) (fun j w H H' n ⟨s, h1, h2⟩ => ⟨s, h1, TupN.mn _ _ _ _ n h2⟩) (ei_L (K := K) (ev_var rfl) (sq_of hp')) (by omega) (fun _ => rfl) (fun j x hx H2 e2 => ?_)).imp ?_) (fun ws H1 H2 e => AllV.mo (fun a => (TupN.mn a).mo) _ _ _ e) (fun ws H2 h => ?_)
        · obtain ⟨s, hs, q, rfl, hq⟩ := AllV.at hys' hx
          have hsl2 : s.length ≤ 10 := by
            have := (subN_mem _ _).mp (List.mem_of_getElem? hs)
            have := this.length_le
            rw [List.length_take] at this
            omega
          refine EvX.imp (x_catT (K := K) (xs := nmL s) (ys := [nmV c]) (ev_var rfl) (e2 _ _ hq) (eu_tup (ea_cons (ev_var rfl) ea_nil) (few5 rfl)) (by simp) (by rw [nmL_len]; show s.length + 1 ≤ _; omega)) ?_
          rintro v H3 ⟨o, rfl, h3⟩
          exact ⟨s, hs, o, rfl, by rw [h3]; unfold nmL; rw [List.map_append]; rfl⟩
        · rintro v H2 ⟨q, zs, rfl, _, hq, hl, h3⟩
          refine ⟨q, zs, rfl, hq, AllV.ofMap (by rw [hl, hyl]) fun j w s hw hs => ?_⟩
          obtain ⟨s', hs', h4⟩ := h3 j w hw
          rw [hs] at hs'
          cases hs'
          exact h4
        · have := h.1
          rw [List.length_map] at this
          omega
      · rintro v H2 e2 ⟨q, zs, rfl, hq, hz⟩
        refine ⟨q, ys ++ zs, _, _, rfl, e'.trans e2, hq, ?_⟩
        rw [hstep]
        exact AllV.cat (AllV.mo (fun a => (TupN.mn a).mo) _ _ _ e2 hys') hz
    · rintro σ' H' ⟨p, ys, s2, s3, rfl, e', hp', hys'⟩
      rw [nmL_len, List.take_length] at hys'
      refine sx_ret (x_sortTx (K := K) (ev_var rfl) hp' hys' fun s r hs => by
        obtain ⟨r', hr'⟩ := subN_head ns
        rw [hr'] at hs
        exact (List.cons.inj hs).1.symm) ?_
      rintro v H2 e2 ⟨q, zs, rfl, hq, hq2, hz⟩
      exact k q zs H2 (fresh_back e' hq) (e'.trans e2) hq2 hz

end
end Tx
end
section
set_option Elab.async false
set_option linter.all false
set_option maxRecDepth 100000
set_option maxHeartbeats 4000000
namespace Tx
open PySem PySem.Spec PyProof.Rows L2 Evl Wk
section
variable {w : World} {K : PySem.W.Frag} {mg : Str → Option Value} {base : Heap}

def sp_worlds_of (K : PySem.W.Frag) : Sp := fun vs H Q _ => ∃ (a : Addr) (rs : List Rw), vs = [.ref a] ∧ RowsAt rs a H ∧ SzRs rs ∧ (namesOf rs).length ≤ 10 ∧ Lo (namesOf rs) ∧
  ∀ p ys H', H p = none → Ex H H' → H' p = some (.lst ys) → AllV TupN (wsOf rs) ys H' → Q (.ref p) H'
theorem sc_worlds_of : FnScope ["rows", "row"] ["rows"] (defScope s_worlds_of) := ⟨rfl, rfl, rfl, by decide +kernel, rfl, by decide +kernel, by decide +kernel⟩
theorem ok_worlds_of (Z : Zx K mg) : OkD prog w K mg base CX0 2 "worlds_of" ["rows"] (sp_worlds_of K) := by
  obtain ⟨fd, F0⟩ := Z.fun_ 34
  have F : Fun K "worlds_of" "worlds_of" s_worlds_of (He.ga K "worlds_of") fd := Wk.fun_of F0
  obtain ⟨_, g_built_on, b_built_on, m_built_on, k_built_on⟩ := ok_built_on (w := w) (base := base) Z
  obtain ⟨_, g_names_of, b_names_of, m_names_of, k_names_of⟩ := ok_names_of (w := w) (base := base) Z
  obtain ⟨_, g_subsets, b_subsets, m_subsets, k_subsets⟩ := ok_subsets (w := w) (base := base) Z
  have n_list := Z.free 69 (x := "list")
  refine ⟨fd, ?_, F.binds (ps := ["rows"]) fun _ _ _ _ _ _ us hl => match us, hl with | [_], _ => rfl, Z.glo 27, F.kp⟩
  refine F.ok sc_worlds_of (fun vs H Q E h => ?_) (fun cdv A outer s H vs Q E hr h => ?_)
  · obtain ⟨a, rs, rfl, hrs, hsz, hn, hlo, k⟩ := h
    rfl
  · obtain ⟨a, rs, rfl, hrs, hsz, hn, hlo, k⟩ := h
    have hu64 := hr.units
    refine ⟨_, (pss_one (ps_ret (pe_lc (tt := (tTest (tOp (rEqD K) (tCall (sp_built_on K) [] (fun _ _ _ => False) (tCons (tVar 0) (tCons (tVar 1) tNil))) (tCB (rLstS K) (tCons (tVar 1) tNil))))) (own := [("row", 1)]) rfl sc_worlds_of.nd (pi_list (pe_call g_subsets (hr.mono (by decide)) (by rfl) m_subsets k_subsets b_subsets .nil pass0 (pa_cons (pe_call g_names_of (hr.mono (by decide)) (by rfl) m_names_of k_names_of b_names_of .nil pass0 (pa_cons (pv 0) pa_nil)) pa_nil))) (blkOk_by (own := [("row", 1)]) (N := ["rows", "row"]) (sc := defScope s_worlds_of) (by decide +kernel)) (fun _ _ _ _ _ => pg_name (i := 1) sc_worlds_of.nd rfl (by first | exact Or.inl rfl | exact Or.inr rfl)) (fun _ _ _ _ _ => pts_one (pt_cmpR (op_eqD hu64) (pe_call g_built_on (hr.mono (by decide)) (by rfl) m_built_on k_built_on b_built_on .nil pass0 (pa_cons (pv 0) (pa_cons (pv 1) pa_nil))) (pe_callTy call_list_of (by rfl) n_list (by decide +kernel) (pa_cons (pv 1) pa_nil)) (nomark _))) (fun _ _ _ _ _ => (pv 1))))), ?_⟩
    refine sx_ret (x_lcX (P := fun v H' => ∃ p ys, v = .ref p ∧ H p = none ∧ H' p = some (.lst ys) ∧ AllV TupN (sortNN (subN (namesOf rs))) ys H') (R := fun v H' => ∃ p ys, v = .ref p ∧ H p = none ∧ H' p = some (.lst ys) ∧ AllV TupN (wsOf rs) ys H') (x_callX (x_one (x_evL (el_call (xs := nmL (namesOf rs)) (ea_cons (ev_var rfl) ea_nil) (fun H2 e2 Q2 q2 E2 => ⟨a, rs, rfl, hrs.ex e2, hsz, q2⟩)))) ?_) ?_) ?_
    · rintro vs H1 e1 ⟨v, rfl, p, rfl, hp, hp1⟩ Q1 q1 E1
      exact ⟨p, namesOf rs, rfl, sq_of hp1, hn, fun q ys H2 hq e2 h2 hy => q1 _ H2 e2 ⟨q, ys, rfl, fresh_back e1 hq, h2, hy⟩⟩
    · rintro v H1 e1 ⟨p, ys, rfl, hp, hp1, hys⟩
      obtain ⟨ss, hss⟩ : ∃ ss, ss = sortNN (subN (namesOf rs)) := ⟨_, rfl⟩
      rw [← hss] at hys
      have pm : ss.Perm (subN (namesOf rs)) := by rw [hss]; exact sortNN_perm _
      have hsl : ss.length ≤ 1024 := by
        rw [pm.length_eq, subN_len]
        exact Nat.pow_le_pow_right (by omega) (by omega : (namesOf rs).length ≤ 10)
      have hmem : ∀ z, z ∈ ys.zip ss → z.2.Sublist (namesOf rs) := fun z hz => (subN_mem _ _).mp (pm.mem_iff.mp (by
        have := List.mem_map_of_mem (f := Prod.snd) hz
        rwa [hys.snd] at this))
      have hzip := hys.mem
      have hlc := el_lc (σ := L2.start ["rows", "row"] [V.ref a]) (H := H1) (te := tVar 1) (t := tTest (tOp (rEqD K) (tCall (sp_built_on K) [] (fun _ _ _ => False) (tCons (tVar 0) (tCons (tVar 1) tNil))) (tCB (rLstS K) (tCons (tVar 1) tNil)))) (wi := iList K (tC (.ref p))) (j := 1) (vs := [1]) (as := ys.zip ss) (inj := Prod.fst) (fun z => isW rs z.2) Prod.fst (by rw [hys.fst]; exact ei_L ev_c (sq_of hp1)) (by rw [hys.zlen]; omega) (fun _ => rfl) (fun z hz H2 e2 => ?_) (fun z hz H2 e2 _ => ev_var rfl)
      · intro H3 e3 Q3 q3
        have e := zip_fm (isW rs) (fun x => x) ys ss hys.1
        rw [List.map_id'] at e
        have e' : ((ys.zip ss).filter fun z => isW rs z.2).map Prod.snd = ss.filter (isW rs) := e
        have ew : wsOf rs = ((ys.zip ss).filter fun z => isW rs z.2).map Prod.snd := by rw [e', hss]; rfl
        refine hlc H3 e3 _ fun o H4 ho e4 h4 => q3 _ H4 e4 ⟨o, _, rfl, fresh_back (e1.trans e3) ho, h4, ?_⟩
        rw [ew]
        exact AllV.ofPairs _ fun z hz => (TupN.mn z.2).mo _ _ _ (e3.trans e4) (hzip z (List.mem_filter.mp hz).1)
      · obtain ⟨y, s⟩ := z
        obtain ⟨q, rfl, hq⟩ := hzip _ hz
        have hsub := hmem _ hz
        refine et_test (ev_eqNL (K := K) (el_call (ea_cons (ev_var rfl) (ea_cons (ev_var rfl) ea_nil)) (fun H3 e3 Q3 q3 E3 => ⟨a, q, rs, s, rfl, hrs.ex (e1.trans (e2.trans e3)), .inr (st_of ((e2.trans e3) _ _ hq)), hsz, q3⟩)) (el_listT (ev_var rfl) (e2 _ _ hq)) hlo.fix (fun c hc => hlo c (hsub.subset hc)))
    · rintro v H2 e2 ⟨p, ys, rfl, hp, hp2, hys⟩
      exact k p ys H2 hp e2 hp2 hys

end
end Tx
end
section
set_option Elab.async false
set_option linter.all false
set_option maxRecDepth 100000
set_option maxHeartbeats 4000000
namespace Tx
open PySem PySem.Spec PyProof.Rows L2 Evl Wk
section
variable {w : World} {K : PySem.W.Frag} {mg : Str → Option Value} {base : Heap}

def ProgOk (ls : List (List Nat)) (rs : List Rw) : Prop := GoodP ls (rs.map clOf) ∧ rs.length ≤ 30 ∧ (∀ z, z ∈ rs.map clOf → z.2.length ≤ 100) ∧ SzRs rs ∧ (namesOf rs).length ≤ 10 ∧ Lo (namesOf rs)
theorem x_names {σ : L2.St} {H : Hp} {te : TE} {E : XK} {ls : List (List Nat)} {rs : List Rw} (h : Ev te σ H (.str (tx (progT ls)))) (hp : ProgOk ls rs) : EvX (tCall (sp_demand_names K) [] E (tCons te tNil)) σ H (fun v H' => ∃ p, v = .ref p ∧ H p = none ∧ RowsAt rs p H') :=
  x_call (ea_cons h ea_nil) fun H1 e1 Q1 q1 E1 => ⟨ls, rs.map clOf, rfl, hp.1, by rw [List.length_map]; exact hp.2.1, hp.2.2.1, .inl ⟨rs, rfl, hp.2.2.2.1, hp.2.2.2.2.1, fun p H' hn e h' => q1 _ H' e ⟨p, rfl, fresh_back e1 hn, h'⟩⟩⟩
theorem x_tupL {σ : L2.St} {H : Hp} {te : TE} {PL : List V → Hp → Prop} (hm : ∀ ys H H', Ex H H' → PL ys H → PL ys H') (h : EvX te σ H (fun v H' => ∃ p ys, v = .ref p ∧ H' p = some (.lst ys) ∧ PL ys H')) :
    EvX (tCB (fun xs H Q => ∃ p ys, xs = [.ref p] ∧ ((SqL K H p ys ∧ ∀ l, H l = none → Q (.ref l) (upd H l (.tup ys))) ∨ (SqT K H p ys ∧ Q (.ref p) H))) (tCons te tNil)) σ H (fun v H' => ∃ q ys, v = .ref q ∧ H q = none ∧ H' q = some (.tup ys) ∧ PL ys H') := fun H1 e Q q =>
  h H1 e _ fun v H2 e2 ⟨p, ys, ev, hp, pl⟩ => ⟨p, ys, by rw [ev], .inl ⟨sq_of hp, fun l hl => q _ _ (e2.trans (Ex.new hl)) ⟨l, ys, rfl, fresh_back (e.trans e2) hl, upd_same, hm _ _ _ (Ex.new hl) pl⟩⟩⟩
theorem x_bad {σ : L2.St} {H : Hp} {ta : TA} {sp : Sp} {E : XK} {vs : List V} {P : V → Hp → Prop} (h : EvA ta σ H vs) (hs : ∀ H1, Ex H H1 → ∀ Q : VK, sp vs H1 Q E) : EvX (tCall sp [] E ta) σ H P := fun H1 e Q q => h H1 e _ fun H2 e2 => by
    rw [List.append_nil]
    exact hs H2 (e.trans e2) Q
def sp_worlds (K : PySem.W.Frag) : Sp := fun vs H Q E => ∃ (ls : List (List Nat)), vs = [.str (tx (progT ls))] ∧ (BadN K ls H E ∨ ∃ rs, ProgOk ls rs ∧ ∀ p ys H', H p = none → Ex H H' → H' p = some (.tup ys) → AllV TupN (wsOf rs) ys H' → Q (.ref p) H')
theorem sc_worlds : FnScope ["program"] ["program"] (defScope s_worlds) := ⟨rfl, rfl, rfl, by decide +kernel, rfl, by decide +kernel, by decide +kernel⟩
theorem ok_worlds (Z : Zx K mg) : OkD prog w K mg base (L2.CX prog w) 9 "worlds" ["program"] (sp_worlds K) := by
  obtain ⟨fd, F0⟩ := Z.fun_ 35
  have F : Fun K "worlds" "worlds" s_worlds (He.ga K "worlds") fd := Wk.fun_of F0
  have x_BadArgument := Z.bad
  have cBadArgument := Z.glo 59 (x := "BadArgument")
  obtain ⟨_, g_demand_names, b_demand_names, m_demand_names, k_demand_names⟩ := ok_demand_names (w := w) (base := base) Z
  obtain ⟨_, g_worlds_of, b_worlds_of, m_worlds_of, k_worlds_of⟩ := ok_worlds_of (w := w) (base := base) Z
  have n_tuple := Z.free 76 (x := "tuple")
  refine ⟨fd, ?_, F.binds (ps := ["program"]) fun _ _ _ _ _ _ us hl => match us, hl with | [_], _ => rfl, Z.glo 28, F.kp⟩
  refine F.okX sc_worlds (fun vs H Q E h => ?_) (fun cdv A outer s H vs Q E hr h => ?_)
  · obtain ⟨ls, rfl, h⟩ := h
    rfl
  · obtain ⟨ls, rfl, h⟩ := h
    refine ⟨_, (pss_one (ps_ret (pe_callTy call_tuple_of (by rfl) n_tuple (by decide +kernel) (pa_cons (pe_call g_worlds_of (hr.mono (by decide)) (by rfl) m_worlds_of k_worlds_of b_worlds_of .nil pass0 (pa_cons (pe_call g_demand_names (hr.mono (by decide)) (by rfl) m_demand_names k_demand_names b_demand_names .nil (passes_call (takes_of rfl rfl rfl rfl) (fun _ _ _ _ h => h)) (pa_cons (pv 0) pa_nil)) pa_nil)) pa_nil)))), ?_⟩
    rcases h with hbad | ⟨rs, hp, k⟩
    · refine sx_ret (x_tupL (K := K) (PL := fun _ _ => False) (fun _ _ _ _ h => h) (x_callX (x_one (P := fun _ _ => False) (x_bad (ea_cons (ev_var rfl) ea_nil) (fun H1 e1 Q1 => hbad.go e1))) ?_)) ?_
      · rintro vs H1 e1 ⟨v, rfl, f⟩
        exact f.elim
      · rintro v H1 e1 ⟨q, ys, _, _, _, f⟩
        exact f.elim
    refine sx_ret (x_tupL (K := K) (PL := fun ys H' => AllV TupN (wsOf rs) ys H') (fun ys H1 H2 e h2 => AllV.mo (fun a => (TupN.mn a).mo) _ _ _ e h2) (x_callX (x_one (x_names (ev_var rfl) hp)) ?_)) ?_
    · rintro vs H1 e1 ⟨v, rfl, p, rfl, hp0, hrs⟩ Q1 q1 E1
      exact ⟨p, rs, rfl, hrs, hp.2.2.2.1, hp.2.2.2.2.1, hp.2.2.2.2.2, fun q ys H2 hq e2 h2 hy => q1 _ H2 e2 ⟨q, ys, rfl, h2, hy⟩⟩
    · rintro v H1 e1 ⟨q, ys, rfl, hq, hq1, hy⟩
      exact k q ys H1 hq e1 hq1 hy

end
end Tx
end
section
set_option Elab.async false
set_option linter.all false
set_option maxRecDepth 100000
set_option maxHeartbeats 4000000
/-! what is written is read as it was meant -/
namespace Tx
open PySem PySem.Spec PyProof.Rows L2 Evl Wk
theorem abc_al : ∀ c, c ∈ abc → (isAl c = true ∧ goodW [c] = true ∧ c ≠ 110) ∧ c ≠ 10 ∧ c ∉ great := by decide +kernel
def ends : List Nat := [44, 46, 32]
theorem ends_al : ∀ d, d ∈ ends → isAl d = false ∧ d ≠ 40 := by decide +kernel
theorem word_one {c d : Nat} {r : List Nat} (hc : c ∈ abc) (hd : d ∈ ends) : wordOf (c :: d :: r) = [c] := by
  obtain ⟨⟨a1, a2, _⟩, _⟩ := abc_al c hc
  have b := (ends_al d hd).1
  have e : alen 9 (c :: d :: r) = 1 := by
    show (if isAl c = true then (if isAl d = true then alen 7 r + 1 else 0) + 1 else 0) = 1
    rw [if_pos a1, if_neg (by rw [b]; decide)]
  have e2 : wd (c :: d :: r) = [c] := by
    unfold wd
    rw [e]
    rfl
  rw [wordOf_eq, e2, if_pos a2]
theorem readT_one {l r : List Nat} {s c d : Nat} (hc : c ∈ abc) (hd : d ∈ ends) (h : l.drop s = c :: d :: r) : readT l s = some (t1 c, s + 1) := by
  have hw : wordOf (l.drop s) = [c] := by rw [h]; exact word_one hc hd
  have hat : l[s + 1]? = some d := by
    have : (l.drop s)[1]? = some d := by rw [h]; rfl
    rwa [List.getElem?_drop] at this
  have hP : putW l ⟨s, [], [], []⟩ = ⟨s + 1, [([c], 0)], [], []⟩ := by
    unfold putW
    show (⟨s + (wordOf (l.drop s)).length, [] ++ [(wordOf (l.drop s), 0)], [], []⟩ : RS) = _
    rw [hw]
    rfl
  have hG : goOn l ⟨s + 1, [([c], 0)], [], []⟩ = (⟨s + 1, [([c], 0)], [], []⟩, some false) := by
    unfold goOn
    rw [if_neg (by
      show ¬ l[s + 1]? = some 40
      rw [hat]
      intro x
      exact (ends_al d hd).2 (Option.some.inj x))]
    rfl
  unfold readT
  have e : readLoop l (l.length - s + 1) ⟨s, [], [], []⟩ = some ⟨s + 1, [([c], 0)], [], []⟩ := by
    unfold readLoop
    rw [if_neg (by show ¬ wordOf (l.drop s) = []; rw [hw]; simp), hP, hG]
  rw [e]
  rfl
theorem depth_one (c : Nat) : ¬ depthOf (t1 c) > 4 := by
  have : depthOf (t1 c) = 1 := rfl
  rw [this]
  decide
def ptT (p : Bool × Nat) : List Nat := if p.1 = true then notW ++ [p.2] else [p.2]
def ptL (p : Bool × Nat) : Lt := (t1 p.2, p.1)
theorem readLit_one {l r : List Nat} {s d : Nat} {p : Bool × Nat} (hc : p.2 ∈ abc) (hd : d ∈ ends) (h : l.drop s = ptT p ++ d :: r) : readLit l s = some (ptL p, s + (ptT p).length) := by
  obtain ⟨b, c⟩ := p
  unfold readLit
  cases b with
  | true =>
    have h' : l.drop s = 110 :: 111 :: 116 :: 32 :: c :: d :: r := h
    have hn : isNot l s = true := by unfold isNot; rw [h']; rfl
    have h4 : l.drop (s + 4) = c :: d :: r := by rw [← List.drop_drop, h']; rfl
    rw [hn, if_pos rfl, readT_one hc hd h4]
    dsimp only
    rw [if_neg (depth_one c)]
    rfl
  | false =>
    have h' : l.drop s = c :: d :: r := h
    have hn : isNot l s = false := by
      unfold isNot
      rw [h']
      refine decide_eq_false fun x => ?_
      have x' : c :: (d :: r).take 3 = 110 :: [111, 116, 32] := x
      exact (abc_al c hc).1.2.2 (List.cons.inj x').1
    rw [hn, if_neg (by decide), Nat.add_zero, readT_one hc hd h']
    dsimp only
    rw [if_neg (depth_one c)]
    rfl
def restT (ah : List Nat) (ps : List (Bool × Nat)) : List Nat := if ps = [] then [46] else ah ++ (TL.joinL [44, 32] (ps.map ptT) ++ [46])
theorem joinL_more (p : Bool × Nat) (ps : List (Bool × Nat)) : TL.joinL [44, 32] ((p :: ps).map ptT) ++ [46] = ptT p ++ restT [44, 32] ps := by
  cases ps with
  | nil => rfl
  | cons q ps =>
    show (ptT p ++ ([44, 32] ++ TL.joinL [44, 32] (ptT q :: ps.map ptT))) ++ [46] = _
    unfold restT
    rw [if_neg (by simp), List.append_assoc, List.append_assoc]
    rfl
theorem restT_head (ps : List (Bool × Nat)) : ∃ d r, d ∈ ends ∧ restT [44, 32] ps = d :: r := by
  unfold restT
  split
  · exact ⟨46, [], by decide, rfl⟩
  · exact ⟨44, _, by decide, rfl⟩
theorem body_read {l : List Nat} : ∀ (ps : List (Bool × Nat)) (n pl : Nat) (ah : List Nat) (bs : List Lt), (ah = [32, 58, 45, 32] ∨ ah = [44, 32]) → l.drop pl = restT ah ps → (∀ p, p ∈ ps → p.2 ∈ abc) → ps.length < n → bs.length + ps.length ≤ 4 →
    bodyLoop l n ah pl bs = some (bs ++ ps.map ptL)
  | ps, 0, _, _, _, _, _, _, h, _ => absurd h (Nat.not_lt_zero _)
  | [], n + 1, pl, ah, bs, _, hd, _, _, _ => by
    unfold bodyLoop
    rw [if_pos (by rw [hd]; rfl)]
    simp
  | p :: ps, n + 1, pl, ah, bs, ha, hd, hm, hn, hb => by
    have hd2 : l.drop pl = ah ++ (ptT p ++ restT [44, 32] ps) := by
      rw [hd]
      unfold restT
      rw [if_neg (by simp), joinL_more]
      rfl
    have hne : ¬ l.drop pl = [46] := by
      rw [hd2]
      rcases ha with x | x <;> rw [x] <;> simp
    have htk : (l.drop pl).take ah.length = ah := by rw [hd2]; simp
    have hd3 : l.drop (pl + ah.length) = ptT p ++ restT [44, 32] ps := by rw [← List.drop_drop, hd2]; simp
    obtain ⟨d, r, h1, h2⟩ := restT_head ps
    rw [List.length_cons] at hn hb
    have hlit := readLit_one (l := l) (s := pl + ah.length) (p := p) (hm p List.mem_cons_self) h1 (by rw [hd3, h2])
    have hd4 : l.drop (pl + ah.length + (ptT p).length) = restT [44, 32] ps := by rw [← List.drop_drop, hd3]; simp
    unfold bodyLoop
    rw [if_neg hne, if_neg (by rw [htk]; rintro (x | x); exact x rfl; omega), hlit]
    dsimp only
    rw [body_read ps n _ [44, 32] (bs ++ [ptL p]) (.inr rfl) hd4 (fun q hq => hm q (List.mem_cons_of_mem _ hq)) (by omega) (by rw [List.length_append]; show bs.length + 1 + _ ≤ _; omega)]
    simp
def ptsOf (r : Rw) : List (Bool × Nat) := r.2.1.map (fun c => (false, c)) ++ r.2.2.map fun c => (true, c)
theorem ptsOf_T (r : Rw) : (ptsOf r).map ptT = r.2.1.map (fun c => [c]) ++ r.2.2.map (fun c => notW ++ [c]) := by
  unfold ptsOf
  rw [List.map_append, List.map_map, List.map_map]
  rfl
theorem ptsOf_L (r : Rw) : (ptsOf r).map ptL = r.2.1.map (fun c => (t1 c, false)) ++ r.2.2.map (fun c => (t1 c, true)) := by
  unfold ptsOf
  rw [List.map_append, List.map_map, List.map_map]
  rfl
theorem line_rest (r : Rw) : lineT r = r.1 :: restT [32, 58, 45, 32] (ptsOf r) := by
  have hb : bodyT r = TL.joinL [44, 32] ((ptsOf r).map ptT) := by rw [ptsOf_T]; rfl
  unfold lineT restT
  rw [hb]
  cases hp : ptsOf r with
  | nil => rfl
  | cons p ps =>
    have hne : ¬ TL.joinL [44, 32] ((p :: ps).map ptT) = [] := by
      intro x
      have := joinL_more p ps
      rw [x] at this
      have h2 := congrArg List.length this
      rw [List.length_append] at h2
      have h3 : 1 ≤ (ptT p).length := by unfold ptT; split <;> simp
      obtain ⟨d, q, _, h4⟩ := restT_head ps
      rw [h4] at h2
      simp at h2
      omega
    rw [if_neg hne, if_neg (by simp)]
    simp
theorem GoodR1 {r : Rw} (h : r.1 ∈ abc ∧ r.2.1.length ≤ 2 ∧ r.2.2.length ≤ 2 ∧ (∀ c, c ∈ r.2.1 → c ∈ abc) ∧ ∀ c, c ∈ r.2.2 → c ∈ abc) : (∀ p, p ∈ ptsOf r → p.2 ∈ abc) ∧ (ptsOf r).length ≤ 4 := by
  unfold ptsOf
  refine ⟨fun p hp => ?_, by rw [List.length_append, List.length_map, List.length_map]; omega⟩
  rcases List.mem_append.mp hp with x | x
  · obtain ⟨c, hc, rfl⟩ := List.mem_map.mp x
    exact h.2.2.2.1 c hc
  · obtain ⟨c, hc, rfl⟩ := List.mem_map.mp x
    exact h.2.2.2.2 c hc
theorem joinL_signs : ∀ (ps : List (Bool × Nat)), (∀ p, p ∈ ps → p.2 ∈ abc) → (∀ c, c ∈ TL.joinL [44, 32] (ps.map ptT) → c ≠ 10 ∧ c ∉ great) ∧ (TL.joinL [44, 32] (ps.map ptT)).length ≤ 7 * ps.length
  | [], _ => ⟨fun c hc => (by simp [TL.joinL] at hc), by simp [TL.joinL]⟩
  | p :: ps, h => by
    have hp : (∀ c, c ∈ ptT p → c ≠ 10 ∧ c ∉ great) ∧ (ptT p).length ≤ 5 := by
      obtain ⟨b, c⟩ := p
      have hc := (abc_al c (h (b, c) List.mem_cons_self)).2
      have hn : ∀ c, c ∈ notW → c ≠ 10 ∧ c ∉ great := by decide +kernel
      cases b with
      | true =>
        refine ⟨fun x hx => ?_, Nat.le_refl _⟩
        rcases List.mem_append.mp (show x ∈ notW ++ [c] from hx) with y | y
        · exact hn x y
        · rw [List.mem_singleton.mp y]; exact hc
      | false => exact ⟨fun x hx => by rw [List.mem_singleton.mp (show x ∈ [c] from hx)]; exact hc, (by decide : 1 ≤ 5)⟩
    obtain ⟨i1, i2⟩ := joinL_signs ps fun q hq => h q (List.mem_cons_of_mem _ hq)
    cases ps with
    | nil => exact ⟨fun x hx => hp.1 x hx, Nat.le_trans hp.2 (by simp)⟩
    | cons q ps =>
      have hs : ∀ c, c ∈ [44, 32] → c ≠ 10 ∧ c ∉ great := by decide +kernel
      have e : TL.joinL [44, 32] ((p :: q :: ps).map ptT) = ptT p ++ ([44, 32] ++ TL.joinL [44, 32] ((q :: ps).map ptT)) := rfl
      rw [e]
      refine ⟨fun x hx => ?_, ?_⟩
      · rcases List.mem_append.mp hx with y | y
        · exact hp.1 x y
        · rcases List.mem_append.mp y with y | y
          · exact hs x y
          · exact i1 x y
      · rw [List.length_append, List.length_append]
        rw [List.length_cons] at i2 ⊢
        simp only [List.length_cons, List.length_nil] at i2 ⊢
        omega
theorem line_ok {r : Rw} (h : r.1 ∈ abc ∧ r.2.1.length ≤ 2 ∧ r.2.2.length ≤ 2 ∧ (∀ c, c ∈ r.2.1 → c ∈ abc) ∧ ∀ c, c ∈ r.2.2 → c ∈ abc) : readCl (lineT r) = some (clOf r) ∧ (∀ c, c ∈ lineT r → c ≠ 10 ∧ c ∉ great) ∧ (lineT r).length ≤ 100 := by
  obtain ⟨g1, g2⟩ := GoodR1 h
  obtain ⟨i1, i2⟩ := joinL_signs (ptsOf r) g1
  have hlen : (lineT r).length ≤ 100 := by
    rw [line_rest, List.length_cons]
    unfold restT
    split
    · decide
    · simp only [List.length_append, List.length_cons, List.length_nil]
      omega
  refine ⟨?_, fun c hc => ?_, hlen⟩
  · have hrest : ∃ d q, d ∈ ends ∧ restT [32, 58, 45, 32] (ptsOf r) = d :: q := by
      unfold restT
      split
      · exact ⟨46, [], by decide, rfl⟩
      · exact ⟨32, _, by decide, rfl⟩
    obtain ⟨d, q, h1, h2⟩ := hrest
    have hlit := readLit_one (l := lineT r) (s := 0) (p := (false, r.1)) (r := q) (d := d) h.1 h1 (by rw [List.drop_zero, line_rest, h2]; rfl)
    unfold readCl
    rw [hlit]
    dsimp only [ptL]
    rw [if_neg (by
      rintro (x | x)
      · cases x
      · omega)]
    have hb := body_read (l := lineT r) (ptsOf r) ((lineT r).length + 1) (0 + (ptT (false, r.1)).length) [32, 58, 45, 32] [] (.inl rfl) (by
      rw [line_rest]
      rfl) g1 (by
      have : (ptsOf r).length ≤ (lineT r).length := by
        rw [line_rest, List.length_cons]
        unfold restT
        split
        · rename_i e; rw [e]; simp
        · simp only [List.length_append, List.length_cons, List.length_nil]
          omega
      omega) (by simpa using g2)
    rw [hb]
    show some (t1 r.1, [] ++ (ptsOf r).map ptL) = some (clOf r)
    rw [List.nil_append, ptsOf_L]
    rfl
  · rw [line_rest] at hc
    have hs : ∀ c, c ∈ [46] → c ≠ 10 ∧ c ∉ great := by decide +kernel
    have hs2 : ∀ c, c ∈ [32, 58, 45, 32] → c ≠ 10 ∧ c ∉ great := by decide +kernel
    rcases List.mem_cons.mp hc with x | x
    · rw [x]; exact (abc_al r.1 h.1).2
    · unfold restT at x
      split at x
      · exact hs c x
      · rcases List.mem_append.mp x with x | x
        · exact hs2 c x
        · rcases List.mem_append.mp x with x | x
          · exact i1 c x
          · exact hs c x
theorem names_abc {rs : List Rw} (h : GoodR' rs) : ∀ c, c ∈ namesOf rs → c ∈ abc := fun c hc => by
  obtain ⟨r, hr, hm⟩ := namesOf_mem.mp hc
  obtain ⟨h1, h2, h3, h4, h5⟩ := h r hr
  rcases List.mem_cons.mp hm with x | x
  · rw [x]; exact h1
  · rcases List.mem_append.mp x with x | x
    · exact h4 c x
    · exact h5 c x
theorem names_5 {rs : List Rw} (h : GoodR' rs) : (namesOf rs).length ≤ 5 := by
  have e : namesOf rs = abc.filter fun c => decide (c ∈ namesOf rs) := by
    refine ris_unique (namesOf_ris rs) (List.Pairwise.sublist List.filter_sublist (by decide)) fun c => ?_
    rw [List.mem_filter, decide_eq_true_eq]
    exact ⟨fun hc => ⟨names_abc h c hc, hc⟩, fun hc => hc.2⟩
  rw [e]
  exact List.length_filter_le _ abc
theorem progT_len : ∀ ls : List (List Nat), (∀ l, l ∈ ls → l.length ≤ 100) → (progT ls).length ≤ ls.length * 101
  | [], _ => Nat.le_refl _
  | l :: ls, h => by
    have ih := progT_len ls fun m hm => h m (List.mem_cons_of_mem _ hm)
    have h1 := h l List.mem_cons_self
    have e : progT (l :: ls) = (l ++ [10]) ++ progT ls := rfl
    rw [e, List.length_append, List.length_append, List.length_cons]
    simp only [List.length_cons, List.length_nil]
    omega
theorem prog_ok {rs : List Rw} (h : GoodR rs) : ProgOk (rs.map lineT) rs := by
  obtain ⟨h7, hg⟩ := h
  have hok : ∀ r, r ∈ rs → readCl (lineT r) = some (clOf r) ∧ (∀ c, c ∈ lineT r → c ≠ 10 ∧ c ∉ great) ∧ (lineT r).length ≤ 100 := fun r hr => line_ok (hg r hr)
  have hl : ∀ l, l ∈ rs.map lineT → l.length ≤ 100 := fun l hl => by
    obtain ⟨r, hr, rfl⟩ := List.mem_map.mp hl
    exact (hok r hr).2.2
  have hpl := progT_len (rs.map lineT) hl
  rw [List.length_map] at hpl
  have hn5 := names_5 hg
  refine ⟨⟨by omega, by rw [List.length_map]; omega, fun l hm => ?_, ?_⟩, by omega, fun z hz => ?_, ⟨by omega, fun r hr => ?_, ?_⟩, by omega, fun c hc => ?_⟩
  · have := hl l hm
    obtain ⟨r, hr, rfl⟩ := List.mem_map.mp hm
    exact ⟨fun hc => ((hok r hr).2.1 10 hc).1 rfl, fun c hc => ((hok r hr).2.1 c hc).2, by omega⟩
  · rw [List.map_map, List.map_map]
    exact List.map_congr_left fun r hr => (hok r hr).1
  · obtain ⟨r, hr, rfl⟩ := List.mem_map.mp hz
    obtain ⟨_, a, b, _⟩ := hg r hr
    show ((r.2.1.map fun c => (t1 c, false)) ++ r.2.2.map fun c => (t1 c, true)).length ≤ _
    rw [List.length_append, List.length_map, List.length_map]
    omega
  · obtain ⟨_, a, b, _⟩ := hg r hr
    exact ⟨by omega, by omega⟩
  · have := (sortN_perm (keysOf rs)).length_eq
    have e : namesOf rs = sortN (keysOf rs) := rfl
    rw [← e] at this
    omega
  · have := names_abc hg c hc
    have h2 : ∀ c, c ∈ abc → c < 1000 := by decide
    exact h2 c this
end Tx
end
section
set_option Elab.async false
set_option linter.all false
set_option maxRecDepth 100000
set_option maxHeartbeats 4000000
namespace Tx
open PySem PySem.Spec PyProof.Rows L2 Evl Wk
section
variable {w : World} {K : PySem.W.Frag} {mg : Str → Option Value} {base : Heap}

def PairL (z : List Nat × List Nat) (v : V) (H : Hp) : Prop := ∃ p l h, v = .ref p ∧ H p = some (.tup [.ref l, .ref h]) ∧ H l = some (.lst (nmL z.1)) ∧ H h = some (.lst (nmL z.2))
theorem PairL.mo (z : List Nat × List Nat) : Mo (PairL z) := fun v H H' e ⟨p, l, h, a, b, c, d⟩ => ⟨p, l, h, a, e _ _ b, e _ _ c, e _ _ d⟩
def PairT (z : List Nat × List Nat) (v : V) (H : Hp) : Prop := ∃ p l h, v = .ref p ∧ H p = some (.tup [.ref l, .ref h]) ∧ H l = some (.tup (nmL z.1)) ∧ H h = some (.tup (nmL z.2))
theorem PairT.mn (z : List Nat × List Nat) : Mn (PairT z) := fun v H H' n ⟨p, l, h, a, b, c, d⟩ => ⟨p, l, h, a, n.tu _ _ b, n.tu _ _ c, n.tu _ _ d⟩
theorem ev_neNR {σ : L2.St} {H : Hp} {ta tb : TE} {a b : Addr} {as bs : List Nat} (ha : Ev ta σ H (.ref a)) (h1 : H a = some (.lst (nmL as))) (hb : Ev tb σ H (.ref b)) (h2 : H b = some (.lst (nmL bs))) (la : Lo as) (lb : Lo bs) : Ev (tOp (rNeD K) ta tb) σ H (.bl (!decide (as = bs))) := fun H1 e Q q =>
  ha H1 e _ fun H2 e2 => hb H2 (e.trans e2) _ fun H3 e3 => ⟨.list (datN as), .list (datN bs), .lst (sq_of ((e.trans (e2.trans e3)) _ _ h1)) (dpN as), .lst (sq_of ((e.trans (e2.trans e3)) _ _ h2)) (dpN bs), by rw [datN_S]; exact shS_l (okS_nm la), by rw [datN_S]; exact shS_l (okS_nm lb), by
    rw [PyData.eqv, eqvN]
    exact q H3 (e2.trans e3)⟩
theorem lo_bo {rs : List Rw} (h : Lo (namesOf rs)) (s : List Nat) : Lo (Bo rs s) := fun c hc => h c (Bo_names hc)
theorem asc_lw {rs : List Rw} {l : List Nat} (a : Asc rs l) (h : Lo (namesOf rs)) : Lo l := fun c hc => h c (a.names c hc)
theorem not_t {b : Bool} (h : (!b) = true) : b = false := by cases b with
  | true => cases h
  | false => rfl
theorem not_f {b : Bool} (h : (!b) = false) : b = true := by cases b with
  | true => rfl
  | false => cases h
abbrev rTupS (K : PySem.W.Frag) : List V → Hp → VK → Prop := fun xs H Q => ∃ p ys, xs = [.ref p] ∧ ((SqL K H p ys ∧ ∀ l, H l = none → Q (.ref l) (upd H l (.tup ys))) ∨ (SqT K H p ys ∧ Q (.ref p) H))
/-- a comprehension, any target -/
theorem x_lcG {σ : L2.St} {H : Hp} {wi : TI} {te : TE} {xs : List V} {vs : List Nat} {g : TG} (P : Nat → V → Hp → Prop) (hm : ∀ i, Mn (P i)) (σf : Nat → V → L2.St) (hI : EvI wi σ H xs) (hz : xs.length ≤ 40000) (hw : ∀ i x, xs[i]? = some x → wipe (σf i x) vs = wipe σ vs)
    (hg : ∀ i x, xs[i]? = some x → ∀ H1, Ex H H1 → ∀ Q : L2.St → Hp → Prop, Q (σf i x) H1 → g x (wipe σ vs) H1 Q) (he : ∀ i x, xs[i]? = some x → ∀ H1, Ex H H1 → EvX te (σf i x) H1 (P i)) :
    EvX (tLc wi g tYes te vs) σ H (fun v H' => ∃ p ys, v = .ref p ∧ H p = none ∧ H' p = some (.lst ys) ∧ ys.length = xs.length ∧ ∀ (i : Nat) y, ys[i]? = some y → P i y H') := fun H0 e Q q => hI H0 e _ fun J H1 G Y e1 W hG hY Dl hD =>
  lc_it W (fun i H' => H1 Dl = none ∧ Ex H1 H' ∧ ∃ ys, H' Dl = some (.lst ys) ∧ ys.length = i ∧ ∀ (k : Nat) y, ys[k]? = some y → P k y H') ⟨hD, Ex.new hD, [], upd_same, rfl, fun k y h => by simp at h⟩ (fun i H' _ p => hG _ p.2.1) (fun i x H' H'' hi p y => by
    obtain ⟨rfl, hx⟩ := hY _ _ _ _ y
    obtain ⟨p1, p2, ys, p3, p4, p5⟩ := p
    refine hg i x hx _ ((e.trans e1).trans p2) _ ⟨hw i x hx, et_yes (σ := σf i x) H'' (Ex.refl _) _ fun H3 e3 => ?_⟩
    show te _ H3 _
    refine he i x hx H1 (e.trans e1) H3 (p2.trans e3) _ fun u H4 e4 pu => ⟨ys, e4 Dl _ (e3 Dl _ p3), sz_lt (by omega), p1, Ex.mut ((p2.trans e3).trans e4) p1, ys ++ [u], upd_same, by simp [p4], fun k z hk => ?_⟩
    have n4 : Nl H4 (upd H4 Dl (.lst (ys ++ [u]))) := .lst (e4 Dl _ (e3 Dl _ p3))
    by_cases hlt : k < ys.length
    · rw [List.getElem?_append_left hlt] at hk
      exact hm k z _ _ ((Nl.of (e3.trans e4)).trans n4) (p5 k z hk)
    · rw [List.getElem?_append_right (by omega)] at hk
      have h0 : k - ys.length = 0 := by
        have := (List.getElem?_eq_some_iff.mp hk).1
        simp at this
        omega
      have hki : k = i := by omega
      rw [h0] at hk
      cases hk
      rw [hki]
      exact hm i u _ _ n4 pu) (fun H' ⟨p1, p2, ys, p3, p4, p5⟩ => q _ H' (e1.trans p2) ⟨Dl, ys, rfl, fresh_back (e.trans e1) p1, p3, p4, p5⟩)
def sp_stages_of (K : PySem.W.Frag) : Sp := fun vs H Q _ => ∃ (a : Addr) (rs : List Rw), vs = [.ref a] ∧ RowsAt rs a H ∧ SzRs rs ∧ (namesOf rs).length ≤ 10 ∧ Lo (namesOf rs) ∧ ∀ p ys H', H p = none → Ex H H' → H' p = some (.lst ys) → AllV PairL (stOf rs) ys H' → Q (.ref p) H'
theorem sc_stages_of : FnScope ["rows", "low", "found", "is_new", "high", "later"] ["rows"] (defScope s_stages_of) := ⟨rfl, rfl, rfl, by decide +kernel, rfl, by decide +kernel, by decide +kernel⟩
theorem ok_stages_of (Z : Zx K mg) : OkD prog w K mg base CX0 2 "stages_of" ["rows"] (sp_stages_of K) := by
  obtain ⟨fd, F0⟩ := Z.fun_ 30
  have F : Fun K "stages_of" "stages_of" s_stages_of (He.ga K "stages_of") fd := Wk.fun_of F0
  obtain ⟨_, g_built_on, b_built_on, m_built_on, k_built_on⟩ := ok_built_on (w := w) (base := base) Z
  refine ⟨fd, ?_, F.binds (ps := ["rows"]) fun _ _ _ _ _ _ us hl => match us, hl with | [_], _ => rfl, Z.glo 23, F.kp⟩
  refine F.ok sc_stages_of (fun vs H Q E h => ?_) (fun cdv A outer s H vs Q E hr h => ?_)
  · obtain ⟨a, rs, rfl, hrs, hsz, hn, hlo, k⟩ := h
    rfl
  · obtain ⟨a, rs, rfl, hrs, hsz, hn, hlo, k⟩ := h
    have hu64 := hr.units
    refine ⟨_, (pss_cons (ps_set (i := 1) sc_stages_of.nd rfl (by first | exact Or.inl rfl | exact Or.inr rfl) (pe_lst pa_nil)) (pss_cons (ps_set (i := 2) sc_stages_of.nd rfl (by first | exact Or.inl rfl | exact Or.inr rfl) (pe_lst pa_nil)) (pss_cons (ps_set (i := 3) sc_stages_of.nd rfl (by first | exact Or.inl rfl | exact Or.inr rfl) pe_bl) (pss_cons (ps_while PassesOwn.never (pt_val (pv 3)) (pss_cons (ps_set (i := 4) sc_stages_of.nd rfl (by first | exact Or.inl rfl | exact Or.inr rfl) (pe_call g_built_on (hr.mono (by decide)) (by rfl) m_built_on k_built_on b_built_on .nil pass0 (pa_cons (pv 0) (pa_cons (pv 1) pa_nil)))) (pss_cons (ps_expr (pe_bm PySem.F.plainAttrs_list PySem.F.slot_list_append PySem.F.type_list_append mt_append (pv 2) (pa_cons (pe_tup (pa_cons (pv 1) (pa_cons (pv 4) pa_nil))) pa_nil))) (pss_cons (ps_set (i := 5) sc_stages_of.nd rfl (by first | exact Or.inl rfl | exact Or.inr rfl) (pe_call g_built_on (hr.mono (by decide)) (by rfl) m_built_on k_built_on b_built_on .nil pass0 (pa_cons (pv 0) (pa_cons (pv 4) pa_nil)))) (pss_cons (ps_set (i := 3) sc_stages_of.nd rfl (by first | exact Or.inl rfl | exact Or.inr rfl) (pe_cmpR (op_neD hu64) (pv 5) (pv 1) (nomark _))) (pss_one (ps_set (i := 1) sc_stages_of.nd rfl (by first | exact Or.inl rfl | exact Or.inr rfl) (pv 5)))))))) (pss_one (ps_ret (pv 2))))))), ?_⟩
    refine q_asgL (xs := nmL []) (el_lst ea_nil (few5 rfl)) (fun l H1 hl e1 h1 => ?_)
    refine q_asgL (xs := []) (el_lst ea_nil (few5 rfl)) (fun o H2 ho e2 h2 => ?_)
    refine q_asg ev_c (fun H3 e3 => ?_)
    have ho0 : H o = none := fresh_back e1 ho
    obtain ⟨W, hW⟩ : ∃ W : Nat → L2.St → Hp → Prop, W = fun m σ' H' => ∃ (l : Addr) (low : List Nat) (done : List (List Nat × List Nat)) (ys : List V) (new : Bool) (s4 s5 : Option V), σ' = [some (.ref a), some (.ref l), some (.ref o), some (.bl new), s4, s5] ∧ Ex H H' ∧ H' o = some (.lst ys) ∧ l ≠ o ∧ H' l = some (.lst (nmL low)) ∧ AllV PairL done ys (del H' o) ∧ Asc rs low ∧ done.length + m ≤ 12 ∧
      (new = true → ∃ n, m = n + 1 ∧ (namesOf rs).length < low.length + n ∧ stOf rs = done ++ stgN rs n low) ∧ (new = false → stOf rs = done) := ⟨_, rfl⟩
    refine q_while W ((namesOf rs).length + 2) (by
      rw [hW]
      exact ⟨l, [], [], [], true, none, none, rfl, e1.trans (e2.trans e3), e3 _ _ h2, ne_new h1 ho, (e2.trans e3) _ _ h1, AllV.nil, Asc.nil rs, by simp; omega, fun _ => ⟨_, rfl, by simp, rfl⟩, fun h => by cases h⟩) ?_
    intro m σ' H' hw
    rw [hW] at hw
    obtain ⟨l, low, done, ys, new, s4, s5, rfl, e', ho', hlo', hl', hys, hasc, hcnt, w1, w2⟩ := hw
    refine ⟨new, et_B (ev_var rfl), fun hb H4 e4 => ?_, fun hb H4 e4 => ?_⟩
    · subst hb
      obtain ⟨n, rfl, hn1, hst⟩ := w1 rfl
      have hal := hasc.len
      obtain ⟨n, rfl⟩ : ∃ n', n = n' + 1 := ⟨n - 1, by omega⟩
      have hstep : stgN rs (n + 1) low = (low, Bo rs low) :: if Bo rs (Bo rs low) = low then [] else stgN rs n (Bo rs (Bo rs low)) := rfl
      rw [hstep] at hst
      refine ⟨fun σ2 H5 => ∃ m', m' < n + 1 + 1 ∧ W m' σ2 H5, fun _ _ h => h, ?_⟩
      have hyl := hys.1
      refine q_asgL (xs := nmL (Bo rs low)) (el_call (ea_cons (ev_var rfl) (ea_cons (ev_var rfl) ea_nil)) (fun H5 e5 Q5 q5 E5 => ⟨a, l, rs, low, rfl, hrs.ex (e'.trans (e4.trans e5)), .inl (sq_of ((e4.trans e5) _ _ hl')), hsz, q5⟩)) (fun h H5 hh e5 h5 => ?_)
      have e45 := e4.trans e5
      refine q_appU (xs := ys) (ys := [.ref l, .ref h]) (e45 _ _ ho') (ev_var rfl) (eu_tup (ea_cons (ev_var rfl) (ea_cons (ev_var rfl) ea_nil)) (few5 rfl)) (by omega) (fun p H6 hp e6 h6 => ?_)
      have hoh : h ≠ o := (ne_new (e4 _ _ ho') hh).symm
      have hop : p ≠ o := (ne_new (e45 _ _ ho') hp).symm
      have e46 := e45.trans e6
      have E6 : Ex H (upd H6 o (.lst (ys ++ [.ref p]))) := Ex.mut (e'.trans e46) ho0
      have hd6 : del (upd H6 o (.lst (ys ++ [.ref p]))) o = del H6 o := del_upd
      have hl6 : upd H6 o (.lst (ys ++ [.ref p])) l = some (.lst (nmL low)) := by rw [upd_ne hlo']; exact e46 _ _ hl'
      have hh6 : upd H6 o (.lst (ys ++ [.ref p])) h = some (.lst (nmL (Bo rs low))) := by rw [upd_ne hoh]; exact e6 _ _ h5
      have hys6 : AllV PairL (done ++ [(low, Bo rs low)]) (ys ++ [.ref p]) (del H6 o) := AllV.cat (AllV.mo (fun a => PairL.mo a) _ _ _ (ex_deldel e46) hys) (AllV.cons ⟨p, l, h, rfl, by rw [del_ne hop]; exact h6, by rw [del_ne hlo']; exact e46 _ _ hl', by rw [del_ne hoh]; exact e6 _ _ h5⟩ AllV.nil)
      refine q_asgL (xs := nmL (Bo rs (Bo rs low))) (el_call (ea_cons (ev_var rfl) (ea_cons (ev_var rfl) ea_nil)) (fun H7 e7 Q7 q7 E7 => ⟨a, h, rs, Bo rs low, rfl, hrs.ex (E6.trans e7), .inl (sq_of (e7 _ _ hh6)), hsz, q7⟩)) (fun l2 H7 hl2 e7 h7 => ?_)
      refine q_asg (v := .bl (!decide (Bo rs (Bo rs low) = low))) (ev_neNR (K := K) (ev_var rfl) h7 (ev_var rfl) (e7 _ _ hl6) (lo_bo hlo _) (asc_lw hasc hlo)) (fun H8 e8 => ?_)
      refine s_asg (ev_var rfl) (fun H9 e9 => ?_)
      have e79 := e7.trans (e8.trans e9)
      refine ⟨if Bo rs (Bo rs low) = low then 0 else n + 1, by split <;> omega, ?_⟩
      rw [hW]
      refine ⟨l2, Bo rs (Bo rs low), done ++ [(low, Bo rs low)], ys ++ [.ref p], _, _, _, rfl, E6.trans e79, e79 _ _ upd_same, (ne_new (upd_same (H := H6) (a := o)) hl2).symm, (e8.trans e9) _ _ h7, AllV.mo (fun a => PairL.mo a) _ _ _ (ex_deldel e79) (by rw [hd6]; exact hys6), hasc.step, ?_, fun hb => ?_, fun hb => ?_⟩
      · rw [List.length_append]
        simp only [List.length_cons, List.length_nil]
        split <;> omega
      · have hne : Bo rs (Bo rs low) ≠ low := of_decide_eq_false (not_t hb)
        rw [if_neg hne] at hst ⊢
        have := hasc.grow hne
        exact ⟨n, rfl, by omega, by rw [hst, List.append_assoc]; rfl⟩
      · have he : Bo rs (Bo rs low) = low := of_decide_eq_true (not_f hb)
        rw [if_pos he] at hst
        exact hst
    · have hst := w2 hb
      rw [hst] at k
      exact s_ret (ev_var rfl) (fun H5 e5 => k o ys H5 ho0 (e'.trans (e4.trans e5)) ((e4.trans e5) _ _ ho') (AllV.mo (fun a => PairL.mo a) _ _ _ ((ex_del H' o).trans (e4.trans e5)) hys))
def sp_stages (K : PySem.W.Frag) : Sp := fun vs H Q _ => ∃ (ls : List (List Nat)) (rs : List Rw), vs = [.str (tx (progT ls))] ∧ ProgOk ls rs ∧ ∀ p ys H', H p = none → Ex H H' → H' p = some (.tup ys) → AllV PairT (stOf rs) ys H' → Q (.ref p) H'
theorem x_tup1 {σ : L2.St} {H : Hp} {te : TE} {p : Addr} {xs : List V} (h : Ev te σ H (.ref p)) (hp : H p = some (.lst xs)) : EvX (tCB (rTupS K) (tCons te tNil)) σ H (fun v H' => ∃ q, v = .ref q ∧ H' q = some (.tup xs)) := fun H1 e Q q =>
  h H1 e _ fun H2 e2 => ⟨p, xs, rfl, .inl ⟨sq_of ((e.trans e2) _ _ hp), fun l hl => q _ _ (e2.trans (Ex.new hl)) ⟨l, rfl, upd_same⟩⟩⟩
theorem sc_stages : FnScope ["program", "rows", "low", "high"] ["program"] (defScope s_stages) := ⟨rfl, rfl, rfl, by decide +kernel, rfl, by decide +kernel, by decide +kernel⟩
theorem ok_stages (Z : Zx K mg) : OkD prog w K mg base (L2.CX prog w) 9 "stages" ["program"] (sp_stages K) := by
  obtain ⟨fd, F0⟩ := Z.fun_ 31
  have F : Fun K "stages" "stages" s_stages (He.ga K "stages") fd := Wk.fun_of F0
  have x_BadArgument := Z.bad
  have cBadArgument := Z.glo 59 (x := "BadArgument")
  obtain ⟨_, g_demand_names, b_demand_names, m_demand_names, k_demand_names⟩ := ok_demand_names (w := w) (base := base) Z
  obtain ⟨_, g_stages_of, b_stages_of, m_stages_of, k_stages_of⟩ := ok_stages_of (w := w) (base := base) Z
  have n_tuple := Z.free 76 (x := "tuple")
  refine ⟨fd, ?_, F.binds (ps := ["program"]) fun _ _ _ _ _ _ us hl => match us, hl with | [_], _ => rfl, Z.glo 24, F.kp⟩
  refine F.okX sc_stages (fun vs H Q E h => ?_) (fun cdv A outer s H vs Q E hr h => ?_)
  · obtain ⟨ls, rs, rfl, hpo, k⟩ := h
    rfl
  · obtain ⟨ls, rs, rfl, hpo, k⟩ := h
    refine ⟨_, (pss_cons (ps_set (i := 1) sc_stages.nd rfl (by first | exact Or.inl rfl | exact Or.inr rfl) (pe_call g_demand_names (hr.mono (by decide)) (by rfl) m_demand_names k_demand_names b_demand_names .nil (passes_call (takes_of rfl rfl rfl rfl) (fun _ _ _ _ h => h)) (pa_cons (pv 0) pa_nil))) (pss_one (ps_ret (pe_callTy call_tuple_of (by rfl) n_tuple (by decide +kernel) (pa_cons (pe_lc (g := gTup K 2 (gCons (gName 2) (gCons (gName 3) gNil))) (te := (tTup (tCons (tCB (rTupS K) (tCons (tVar 2) tNil)) (tCons (tCB (rTupS K) (tCons (tVar 3) tNil)) tNil)))) (own := [("low", 2), ("high", 3)]) rfl sc_stages.nd (pi_list (pe_call g_stages_of (hr.mono (by decide)) (by rfl) m_stages_of k_stages_of b_stages_of .nil pass0 (pa_cons (pv 1) pa_nil))) (blkOk_by (own := [("low", 2), ("high", 3)]) (N := ["program", "rows", "low", "high"]) (sc := defScope s_stages) (by decide +kernel)) (fun _ _ _ _ _ => (pg_tup rfl (pgs_cons (pg_name (i := 2) sc_stages.nd rfl (by first | exact Or.inl rfl | exact Or.inr rfl)) (pgs_cons (pg_name (i := 3) sc_stages.nd rfl (by first | exact Or.inl rfl | exact Or.inr rfl)) pgs_nil)))) (fun _ _ _ _ _ => pts_nil) (fun _ _ _ _ _ => (pe_tup (pa_cons (pe_callTy call_tuple_of (by rfl) n_tuple (by decide +kernel) (pa_cons (pv 2) pa_nil)) (pa_cons (pe_callTy call_tuple_of (by rfl) n_tuple (by decide +kernel) (pa_cons (pv 3) pa_nil)) pa_nil))))) pa_nil))))), ?_⟩
    refine qx_asg (x_names (ev_var rfl) hpo) ?_
    rintro v H1 e1 ⟨a, rfl, ha, hrs⟩
    refine sx_ret (x_tupL (K := K) (PL := fun ys H' => AllV PairT (stOf rs) ys H') (fun ys H1 H2 e h => AllV.mo (fun a => (PairT.mn a).mo) _ _ _ e h) (x_lcX (P := fun v H' => ∃ p ys, v = .ref p ∧ H' p = some (.lst ys) ∧ AllV PairL (stOf rs) ys H') (x_call (vs := [.ref a]) (ea_cons (ev_var rfl) ea_nil) (fun H2 e2 Q2 q2 E2 => ⟨a, rs, rfl, hrs.ex e2, hpo.2.2.2.1, hpo.2.2.2.2.1, hpo.2.2.2.2.2, fun p ys H3 hp e3 h3 hys => q2 _ H3 e3 ⟨p, ys, rfl, h3, hys⟩⟩)) ?_)) ?_
    · rintro v H2 e2 ⟨p, ys, rfl, hp, hys⟩
      have hyl := hys.1
      have hsl : (stOf rs).length ≤ 11 := Nat.le_trans (stgN_len _ _) (by have := hpo.2.2.2.2.1; omega)
      have hst : ∀ (i : Nat) (x : V), ys[i]? = some x → ∃ (z : List Nat × List Nat) (p l h : Addr), (stOf rs)[i]? = some z ∧ x = .ref p ∧ H2 p = some (.tup [.ref l, .ref h]) ∧ H2 l = some (.lst (nmL z.1)) ∧ H2 h = some (.lst (nmL z.2)) := fun i x hx => by
        obtain ⟨z, hz, p, l, h, h1, h2, h3, h4⟩ := AllV.at hys hx
        exact ⟨z, p, l, h, hz, h1, h2, h3, h4⟩
      obtain ⟨σf, hσ⟩ : ∃ σf : Nat → V → L2.St, ∀ (i : Nat) (x : V) (z : List Nat × List Nat) (p l h : Addr), (stOf rs)[i]? = some z → x = .ref p → H2 p = some (.tup [.ref l, .ref h]) → σf i x = [some (.str (tx (progT ls))), some (.ref a), some (.ref l), some (.ref h)] := by
        refine ⟨fun i x => match x with
          | .ref p => (match H2 p with
            | some (.tup [l, h]) => [some (.str (tx (progT ls))), some (.ref a), some l, some h]
            | _ => [])
          | _ => [], fun i x z p l h _ hx hp => ?_⟩
        subst hx
        simp only
        rw [hp]
      refine (x_lcG (fun i v H => ∃ z, (stOf rs)[i]? = some z ∧ PairT z v H) (fun i v H H' n ⟨z, h1, h2⟩ => ⟨z, h1, PairT.mn z _ _ _ n h2⟩) σf (ei_L (K := K) ev_c (sq_of hp)) (by omega) (fun i x hx => ?_) (fun i x hx H3 e3 Q q => ?_) (fun i x hx H3 e3 => ?_)).imp ?_
      · obtain ⟨z, p, l, h, hz, h1, h2, h3, h4⟩ := hst i x hx
        rw [hσ i x z p l h hz h1 h2]
        rfl
      · obtain ⟨z, p, l, h, hz, h1, h2, h3, h4⟩ := hst i x hx
        rw [hσ i x z p l h hz h1 h2] at q
        subst h1
        exact ⟨p, _, rfl, st_of (e3 _ _ h2), rfl, _, _, rfl, _, _, rfl, rfl, q⟩
      · obtain ⟨z, p, l, h, hz, h1, h2, h3, h4⟩ := hst i x hx
        rw [hσ i x z p l h hz h1 h2]
        refine (x_tup (x_cons (P := fun v H' => ∃ q, v = .ref q ∧ H' q = some (.tup (nmL z.1))) (x_tup1 (K := K) (ev_var rfl) (e3 _ _ h3)) (fun v H1 H2 e ⟨q, a, b⟩ => ⟨q, a, e _ _ b⟩) (x_one (P := fun v H' => ∃ q, v = .ref q ∧ H' q = some (.tup (nmL z.2))) (x_tup1 (K := K) (ev_var rfl) (e3 _ _ h4)))) (fun vs H1 H2 e ⟨v, r, h1, ⟨q, h2, h3⟩, v2, h4, q2, h5, h6⟩ => ⟨v, r, h1, ⟨q, h2, e _ _ h3⟩, v2, h4, q2, h5, e _ _ h6⟩) (fun vs H1 ⟨v, r, h1, _, v2, h4, _⟩ => by rw [h1, h4]; exact few5 rfl)).imp ?_
        rintro v H4 ⟨q, vs, rfl, hq, v1, r, rfl, ⟨q1, rfl, g1⟩, v2, rfl, q2, rfl, g2⟩
        exact ⟨z, hz, q, q1, q2, rfl, hq, g1, g2⟩
      · rintro v H3 ⟨q, zs, rfl, _, hq, hzl, hz⟩
        refine ⟨q, zs, rfl, hq, by rw [hzl, hyl], fun i y z hy hzz => ?_⟩
        obtain ⟨z', hz', h⟩ := hz i y hy
        rw [hzz] at hz'
        cases hz'
        exact h
    · rintro v H2 e2 ⟨q, ys, rfl, hq, hq1, hy⟩
      exact k q ys H2 (fresh_back e1 hq) (e1.trans e2) hq1 hy

end
end Tx
end
section
set_option Elab.async false
set_option linter.all false
set_option maxRecDepth 100000
set_option maxHeartbeats 4000000
namespace Tx
open PySem PySem.Spec PyProof.Rows L2 Evl Wk
section
variable {w : World} {K : PySem.W.Frag} {mg : Str → Option Value} {base : Heap}

theorem x_tupN {σ : L2.St} {H : Hp} {te : TE} {p : Addr} {xs : List V} (h : Ev te σ H (.ref p)) (hp : H p = some (.lst xs)) : EvX (tCB (rTupS K) (tCons te tNil)) σ H (fun v H' => ∃ q, v = .ref q ∧ H q = none ∧ H' q = some (.tup xs)) := fun H1 e Q q =>
  h H1 e _ fun H2 e2 => ⟨p, xs, rfl, .inl ⟨sq_of ((e.trans e2) _ _ hp), fun l hl => q _ _ (e2.trans (Ex.new hl)) ⟨l, rfl, fresh_back (e.trans e2) hl, upd_same⟩⟩⟩
def wordOf (rs : List Rw) (c : Nat) : Str := if c ∈ loOf rs then "yes" else if c ∈ hiOf rs then "open" else "no"
def PairW (rs : List Rw) (c : Nat) (v : V) (H : Hp) : Prop := ∃ p, v = .ref p ∧ H p = some (.tup [nmV c, .str (wordOf rs c)])
theorem PairW.mn (rs : List Rw) (c : Nat) : Mn (PairW rs c) := fun v H H' n ⟨p, a, b⟩ => ⟨p, a, n.tu _ _ b⟩
def sp_truths (K : PySem.W.Frag) : Sp := fun vs H Q E => ∃ (ls : List (List Nat)), vs = [.str (tx (progT ls))] ∧ (BadN K ls H E ∨ ∃ rs, ProgOk ls rs ∧ ∀ p ys H', H p = none → Ex H H' → H' p = some (.tup ys) → AllV (PairW rs) (namesOf rs) ys H' → Q (.ref p) H')
theorem sc_truths : FnScope ["program", "rows", "low", "high", "found", "name"] ["program"] (defScope s_truths) := ⟨rfl, rfl, rfl, by decide +kernel, rfl, by decide +kernel, by decide +kernel⟩
theorem ok_truths (Z : Zx K mg) : OkD prog w K mg base (L2.CX prog w) 9 "truths" ["program"] (sp_truths K) := by
  obtain ⟨fd, F0⟩ := Z.fun_ 32
  have F : Fun K "truths" "truths" s_truths (He.ga K "truths") fd := Wk.fun_of F0
  have x_BadArgument := Z.bad
  have cBadArgument := Z.glo 59 (x := "BadArgument")
  have c_NO := Z.str 90 (x := "NO")
  have c_OPEN := Z.str 91 (x := "OPEN")
  have c_YES := Z.str 89 (x := "YES")
  obtain ⟨_, g_demand_names, b_demand_names, m_demand_names, k_demand_names⟩ := ok_demand_names (w := w) (base := base) Z
  obtain ⟨_, g_names_of, b_names_of, m_names_of, k_names_of⟩ := ok_names_of (w := w) (base := base) Z
  obtain ⟨_, g_stages_of, b_stages_of, m_stages_of, k_stages_of⟩ := ok_stages_of (w := w) (base := base) Z
  have n_tuple := Z.free 76 (x := "tuple")
  refine ⟨fd, ?_, F.binds (ps := ["program"]) fun _ _ _ _ _ _ us hl => match us, hl with | [_], _ => rfl, Z.glo 25, F.kp⟩
  refine F.okX sc_truths (fun vs H Q E h => ?_) (fun cdv A outer s H vs Q E hr h => ?_)
  · obtain ⟨ls, rfl, h⟩ := h
    rfl
  · obtain ⟨ls, rfl, h⟩ := h
    refine ⟨_, (pss_cons (ps_set (i := 1) sc_truths.nd rfl (by first | exact Or.inl rfl | exact Or.inr rfl) (pe_call g_demand_names (hr.mono (by decide)) (by rfl) m_demand_names k_demand_names b_demand_names .nil (passes_call (takes_of rfl rfl rfl rfl) (fun _ _ _ _ h => h)) (pa_cons (pv 0) pa_nil))) (pss_cons (ps_asg (pe_ix ix_list (pe_call g_stages_of (hr.mono (by decide)) (by rfl) m_stages_of k_stages_of b_stages_of .nil pass0 (pa_cons (pv 1) pa_nil)) (pe_un un_neg pe_int) (fun _ _ => rfl)) (pg_tup rfl (pgs_cons (pg_name (i := 2) sc_truths.nd rfl (by first | exact Or.inl rfl | exact Or.inr rfl)) (pgs_cons (pg_name (i := 3) sc_truths.nd rfl (by first | exact Or.inl rfl | exact Or.inr rfl)) pgs_nil)))) (pss_cons (ps_set (i := 4) sc_truths.nd rfl (by first | exact Or.inl rfl | exact Or.inr rfl) (pe_lst pa_nil)) (pss_cons (ps_for (passes_of rfl) rfl (pi_list (pe_call g_names_of (hr.mono (by decide)) (by rfl) m_names_of k_names_of b_names_of .nil pass0 (pa_cons (pv 1) pa_nil))) (pg_name (i := 5) sc_truths.nd rfl (by first | exact Or.inl rfl | exact Or.inr rfl)) (pss_one (ps_expr (pe_bm PySem.F.plainAttrs_list PySem.F.slot_list_append PySem.F.type_list_append mt_append (pv 4) (pa_cons (pe_tup (pa_cons (pv 5) (pa_cons (pe_ifExp (pt_cmpR op_in_seq (pv 5) (pv 2) rfl) (pe_gs c_YES) (pe_ifExp (pt_cmpR op_in_seq (pv 5) (pv 3) rfl) (pe_gs c_OPEN) (pe_gs c_NO))) pa_nil))) pa_nil))))) (pss_one (ps_ret (pe_callTy call_tuple_of (by rfl) n_tuple (by decide +kernel) (pa_cons (pv 4) pa_nil)))))))), ?_⟩
    rcases h with hbad | ⟨rs, hpo, k⟩
    · exact q_asgC (ea_cons (ev_var rfl) ea_nil) (fun H1 e1 => hbad.go e1)
    refine qx_asg (x_names (ev_var rfl) hpo) ?_
    rintro v H1 e1 ⟨a, rfl, ha, hrs⟩
    have hn10 := hpo.2.2.2.2.1
    refine q_asgTupX (P2 := fun x y H' => ∃ l h, x = .ref l ∧ y = .ref h ∧ H' l = some (.lst (nmL (loOf rs))) ∧ H' h = some (.lst (nmL (hiOf rs)))) (fun H2 e2 Q2 q2 => ?_) ?_
    · refine x_call (H := H2) (P := fun v H' => ∃ p ys, v = .ref p ∧ H' p = some (.lst ys) ∧ AllV PairL (stOf rs) ys H') (vs := [.ref a]) (ea_cons (ev_var rfl) ea_nil) (fun H3 e3 Q3 q3 E3 => ⟨a, rs, rfl, hrs.ex (e2.trans e3), hpo.2.2.2.1, hpo.2.2.2.2.1, hpo.2.2.2.2.2, fun p ys H4 hp e4 h4 hys => q3 _ H4 e4 ⟨p, ys, rfl, h4, hys⟩⟩) H2 (Ex.refl _) _ (fun v H3 e3 hv => ?_)
      obtain ⟨p, ys, rfl, hp, hys⟩ := hv
      obtain ⟨pre, hpre⟩ := (st_last (rs := rs) (P := fun _ => True) trivial fun _ _ => trivial).1
      rw [hpre] at hys
      obtain ⟨vs0, u, rfl, _, q, l, h, rfl, hq, hl, hh⟩ := hys.snoc
      exact ⟨1, rfl, p, _, _, _, rfl, rfl, sq_of hp, atI_last _ _, q2 _ H3 e3 ⟨q, _, _, rfl, hq, l, h, rfl, rfl, hl, hh⟩⟩
    rintro x y H2 e2 ⟨l, h, rfl, rfl, hl, hh⟩
    refine q_asgL (xs := []) (el_lst ea_nil (few5 rfl)) (fun o H3 ho e3 h3 => ?_)
    have e23 := e2.trans e3
    have ho0 : H o = none := fresh_back (e1.trans e2) ho
    refine q_forNLn (K := K) (xs := nmL (namesOf rs)) (el_call (ea_cons (ev_var rfl) ea_nil) (fun H4 e4 Q4 q4 E4 => ⟨a, rs, rfl, hrs.ex (e23.trans e4), hpo.2.2.2.1, q4⟩)) (fun n i σ' H' => ∃ ys s5, σ' = [some (.str (tx (progT ls))), some (.ref a), some (.ref l), some (.ref h), some (.ref o), s5] ∧ Ex (del H3 o) (del H' o) ∧ n ≠ o ∧ H' n = some (.lst (nmL (namesOf rs))) ∧ H' o = some (.lst ys) ∧ AllV (PairW rs) ((namesOf rs).take i) ys (del H' o)) (fun n H4 hn e4 h4 => ⟨[], none, rfl, ex_deldel e4, (ne_new h3 hn).symm, h4, e4 _ _ h3, AllV.nil⟩) (fun n i σ' H' _ ⟨_, _, _, _, _, h, _⟩ => sq_of h) ?_ ?_
    · rintro n i x σ' H' hx ⟨ys, s5, rfl, e', hno, hn, ho', hys⟩
      unfold nmL at hx
      rw [List.getElem?_map] at hx
      obtain ⟨c, hc, rfl⟩ := Option.map_eq_some_iff.mp hx
      have hi : i < (namesOf rs).length := (List.getElem?_eq_some_iff.mp hc).1
      have hyl := hys.1
      rw [List.length_take] at hyl
      have lift : ∀ b v, H2 b = some v → H' b = some v := fun b v hb => by
        have hbo : b ≠ o := ne_new hb ho
        have := e' b v (by rw [del_ne hbo]; exact e3 _ _ hb)
        rwa [del_ne hbo] at this
      have hl' := lift _ _ hl
      have hh' := lift _ _ hh
      refine s_appU (xs := ys) (ys := [nmV c, .str (wordOf rs c)]) ho' (ev_var rfl) (eu_tup (ea_cons (ev_var rfl) (ea_cons (ev_if (b := decide (c ∈ loOf rs)) (et_test (ev_inL (K := K) (ev_var rfl) (ev_var rfl) (sq_of hl'))) (fun hb => ev_is ev_c (by unfold wordOf; rw [if_pos (of_decide_eq_true hb)])) (fun hb => ev_if (b := decide (c ∈ hiOf rs)) (et_test (ev_inL (K := K) (ev_var rfl) (ev_var rfl) (sq_of hh'))) (fun hb2 => ev_is ev_c (by unfold wordOf; rw [if_neg (of_decide_eq_false hb), if_pos (of_decide_eq_true hb2)])) (fun hb2 => ev_is ev_c (by unfold wordOf; rw [if_neg (of_decide_eq_false hb), if_neg (of_decide_eq_false hb2)])))) ea_nil)) (few5 rfl)) (by omega) (fun p H4 hp e4 h4 => ?_)
      have hpo' : p ≠ o := (ne_new ho' hp).symm
      refine ⟨ys ++ [.ref p], _, rfl, by rw [del_upd]; exact e'.trans (ex_deldel e4), hno, by rw [upd_ne hno]; exact e4 _ _ hn, upd_same, ?_⟩
      rw [del_upd, List.take_add_one, hc]
      exact AllV.cat (AllV.mo (fun a => (PairW.mn rs a).mo) _ _ _ (ex_deldel e4) hys) (AllV.cons ⟨p, rfl, by rw [del_ne hpo']; exact h4⟩ AllV.nil)
    · rintro n σ' H' ⟨ys, s5, rfl, e', hno, hn, ho', hys⟩
      rw [nmL_len, List.take_length] at hys
      have E' : Ex H (del H' o) := fun b v hb => e' b v (by rw [del_ne (fun x => by subst x; rw [hb] at ho0; cases ho0)]; exact (e1.trans e23) _ _ hb)
      refine sx_ret (x_tupN (K := K) (ev_var rfl) ho') ?_
      rintro v H2 e2 ⟨q, rfl, hq, hq2⟩
      exact k q ys H2 (fresh_back E' (del_none hq)) ((E'.trans (ex_del H' o)).trans e2) hq2 (AllV.mo (fun a => (PairW.mn rs a).mo) _ _ _ ((ex_del H' o).trans e2) hys)
def evyOf (rs : List Rw) : List Nat := (namesOf rs).filter fun c => (wsOf rs).all fun s => decide (c ∈ s)
def nonOf (rs : List Rw) : List Nat := (namesOf rs).filter fun c => !((wsOf rs).any fun s => decide (c ∈ s))
/-- is a name in all rows, in one of them -/
theorem ev_allRows {σ : L2.St} {H : Hp} {r : Addr} {ws : List (List Nat)} {ys : List V} {c i j : Nat} {te : TE} (h : Ev te σ H (.ref r)) (hr : H r = some (.lst ys)) (hy : AllV TupN ws ys H) (hl : ws.length ≤ 40000) (hx : ∀ x, (∀ H1, Ex H H1 → Ev (tVar i) ((wipe σ [j]).set j (some x)) H1 (nmV c)) ∧ Ev (tVar j) ((wipe σ [j]).set j (some x)) H x) (hw : ∀ x, wipe ((wipe σ [j]).set j (some x)) [j] = wipe σ [j]) :
    Ev (tCB (rAll K) (tCons (tLc (iList K te) (gName j) tYes (tOp (rIn K false) (tVar i) (tVar j)) [j]) tNil)) σ H (.bl (ws.all fun s => decide (c ∈ s))) ∧ Ev (tCB (rAny K) (tCons (tLc (iList K te) (gName j) tYes (tOp (rIn K false) (tVar i) (tVar j)) [j]) tNil)) σ H (.bl (ws.any fun s => decide (c ∈ s))) := by
  have hzip := hy.mem
  have ea : (ws.all fun s => decide (c ∈ s)) = (ys.zip ws).all fun z => decide (c ∈ z.2) := by
    have e : (ys.zip ws).all (fun z => decide (c ∈ z.2)) = ((ys.zip ws).map Prod.snd).all (fun s => decide (c ∈ s)) := by rw [List.all_map]; rfl
    rw [e, hy.snd]
  have eb : (ws.any fun s => decide (c ∈ s)) = (ys.zip ws).any fun z => decide (c ∈ z.2) := by
    have e : (ys.zip ws).any (fun z => decide (c ∈ z.2)) = ((ys.zip ws).map Prod.snd).any (fun s => decide (c ∈ s)) := by rw [List.any_map]; rfl
    rw [e, hy.snd]
  have one : ∀ z, z ∈ ys.zip ws → ∀ H9, Ex H H9 → Ev (tOp (rIn K false) (tVar i) (tVar j)) ((wipe σ [j]).set j (some z.1)) H9 (.bl (decide (c ∈ z.2))) := fun z hz H9 e9 => by
    obtain ⟨q, eq, hq⟩ := hzip z hz
    rw [eq]
    refine ev_inT (K := K) ((hx (.ref q)).1 H9 e9) (((hx (.ref q)).2).mono e9) (st_of (e9 _ _ hq))
  rw [ea, eb]
  exact ⟨ev_allc (K := K) (fun z : V × List Nat => decide (c ∈ z.2)) (as := ys.zip ws) (inj := Prod.fst) (by rw [hy.fst]; exact ei_L (K := K) h (sq_of hr)) (by rw [hy.zlen]; omega) hw one,
    ev_anyc (K := K) (fun z : V × List Nat => decide (c ∈ z.2)) (as := ys.zip ws) (inj := Prod.fst) (by rw [hy.fst]; exact ei_L (K := K) h (sq_of hr)) (by rw [hy.zlen]; omega) hw one⟩
def sp_always (K : PySem.W.Frag) : Sp := fun vs H Q _ => ∃ (ls : List (List Nat)) (rs : List Rw), vs = [.str (tx (progT ls))] ∧ ProgOk ls rs ∧ (wsOf rs = [] → ∀ H', Ex H H' → Q .non H') ∧
  (wsOf rs ≠ [] → ∀ p a b H', Ex H H' → H' p = some (.tup [.ref a, .ref b]) → H' a = some (.tup (nmL (evyOf rs))) → H' b = some (.tup (nmL (nonOf rs))) → Q (.ref p) H')
theorem sc_always : FnScope ["program", "rows", "found", "every", "name", "row", "none"] ["program"] (defScope s_always) := ⟨rfl, rfl, rfl, by decide +kernel, rfl, by decide +kernel, by decide +kernel⟩
theorem ok_always (Z : Zx K mg) : OkD prog w K mg base (L2.CX prog w) 9 "always" ["program"] (sp_always K) := by
  obtain ⟨fd, F0⟩ := Z.fun_ 37
  have F : Fun K "always" "always" s_always (He.ga K "always") fd := Wk.fun_of F0
  have x_BadArgument := Z.bad
  have cBadArgument := Z.glo 59 (x := "BadArgument")
  obtain ⟨_, g_demand_names, b_demand_names, m_demand_names, k_demand_names⟩ := ok_demand_names (w := w) (base := base) Z
  obtain ⟨_, g_names_of, b_names_of, m_names_of, k_names_of⟩ := ok_names_of (w := w) (base := base) Z
  obtain ⟨_, g_worlds_of, b_worlds_of, m_worlds_of, k_worlds_of⟩ := ok_worlds_of (w := w) (base := base) Z
  have n_all := Z.free 62 (x := "all")
  have n_any := Z.free 63 (x := "any")
  have n_len := Z.free 68 (x := "len")
  have n_tuple := Z.free 76 (x := "tuple")
  refine ⟨fd, ?_, F.binds (ps := ["program"]) fun _ _ _ _ _ _ us hl => match us, hl with | [_], _ => rfl, Z.glo 30, F.kp⟩
  refine F.okX sc_always (fun vs H Q E h => ?_) (fun cdv A outer s H vs Q E hr h => ?_)
  · obtain ⟨ls, rs, rfl, hpo, k0, k1⟩ := h
    rfl
  · obtain ⟨ls, rs, rfl, hpo, k0, k1⟩ := h
    refine ⟨_, (pss_cons (ps_set (i := 1) sc_always.nd rfl (by first | exact Or.inl rfl | exact Or.inr rfl) (pe_call g_demand_names (hr.mono (by decide)) (by rfl) m_demand_names k_demand_names b_demand_names .nil (passes_call (takes_of rfl rfl rfl rfl) (fun _ _ _ _ h => h)) (pa_cons (pv 0) pa_nil))) (pss_cons (ps_set (i := 2) sc_always.nd rfl (by first | exact Or.inl rfl | exact Or.inr rfl) (pe_call g_worlds_of (hr.mono (by decide)) (by rfl) m_worlds_of k_worlds_of b_worlds_of .nil pass0 (pa_cons (pv 1) pa_nil))) (pss_cons (ps_if (pt_cmpR op_eq (pe_callB call_len_seq (by rfl) n_len (by decide +kernel) (pa_cons (pv 2) pa_nil)) pe_int (nomark _)) (pss_one (ps_ret pe_non)) pss_nil) (pss_cons (ps_setLc (i := 3) (tt := (tB (tCB (rAll K) (tCons (tLc (iList K (tVar 2)) (gName 5) tYes (tOp (rIn K false) (tVar 4) (tVar 5)) [5]) tNil)))) (own := [("name", 4)]) rfl sc_always.nd rfl rfl (sw_true rfl rfl rfl (by decide +kernel)) (pi_list (pe_call g_names_of (hr.mono (by decide)) (by rfl) m_names_of k_names_of b_names_of .nil pass0 (pa_cons (pv 1) pa_nil))) (blkOk_by (own := [("name", 4)]) (N := ["program", "rows", "found", "every", "name", "row", "none"]) (sc := defScope s_always) (by decide +kernel)) (fun _ _ _ _ _ => pg_name (i := 4) sc_always.nd rfl (by first | exact Or.inl rfl | exact Or.inr rfl)) (fun _ _ _ _ _ => pts_one (pt_val (pe_callB (cr_all rfl) (by rfl) n_all (by decide +kernel) (pa_cons (pe_lc (te := (tOp (rIn K false) (tVar 4) (tVar 5))) (own := [("row", 5)]) rfl sc_always.nd (pi_list (pv 2)) (blkOk_by (own := [("row", 5)]) (N := ["program", "rows", "found", "every", "name", "row", "none"]) (sc := { kind := ScopeKind.function, names := [(Str.ofString ".0", NameKind.local), (Str.ofString "name", NameKind.cell), (Str.ofString "all", NameKind.globalImplicit), (Str.ofString "found", NameKind.cell)], isGenerator := false, isCoroutine := false }) (by decide +kernel)) (fun _ _ _ _ _ => pg_name (i := 5) sc_always.nd rfl (by first | exact Or.inl rfl | exact Or.inr rfl)) (fun _ _ _ _ _ => pts_nil) (fun _ _ _ _ _ => (pe_cmpR op_in_seq (pv 4) (pv 5) rfl))) pa_nil)))) (fun _ _ _ _ _ => (pv 4))) (pss_cons (ps_setLc (i := 6) (tt := (tNot (tB (tCB (rAny K) (tCons (tLc (iList K (tVar 2)) (gName 5) tYes (tOp (rIn K false) (tVar 4) (tVar 5)) [5]) tNil))))) (own := [("name", 4)]) rfl sc_always.nd rfl rfl (sw_true rfl rfl rfl (by decide +kernel)) (pi_list (pe_call g_names_of (hr.mono (by decide)) (by rfl) m_names_of k_names_of b_names_of .nil pass0 (pa_cons (pv 1) pa_nil))) (blkOk_by (own := [("name", 4)]) (N := ["program", "rows", "found", "every", "name", "row", "none"]) (sc := defScope s_always) (by decide +kernel)) (fun _ _ _ _ _ => pg_name (i := 4) sc_always.nd rfl (by first | exact Or.inl rfl | exact Or.inr rfl)) (fun _ _ _ _ _ => pts_one (pt_not (pt_val (pe_callB (cr_any rfl) (by rfl) n_any (by decide +kernel) (pa_cons (pe_lc (te := (tOp (rIn K false) (tVar 4) (tVar 5))) (own := [("row", 5)]) rfl sc_always.nd (pi_list (pv 2)) (blkOk_by (own := [("row", 5)]) (N := ["program", "rows", "found", "every", "name", "row", "none"]) (sc := { kind := ScopeKind.function, names := [(Str.ofString ".0", NameKind.local), (Str.ofString "name", NameKind.cell), (Str.ofString "any", NameKind.globalImplicit), (Str.ofString "found", NameKind.cell)], isGenerator := false, isCoroutine := false }) (by decide +kernel)) (fun _ _ _ _ _ => pg_name (i := 5) sc_always.nd rfl (by first | exact Or.inl rfl | exact Or.inr rfl)) (fun _ _ _ _ _ => pts_nil) (fun _ _ _ _ _ => (pe_cmpR op_in_seq (pv 4) (pv 5) rfl))) pa_nil))))) (fun _ _ _ _ _ => (pv 4))) (pss_one (ps_ret (pe_tup (pa_cons (pe_callTy call_tuple_of (by rfl) n_tuple (by decide +kernel) (pa_cons (pv 3) pa_nil)) (pa_cons (pe_callTy call_tuple_of (by rfl) n_tuple (by decide +kernel) (pa_cons (pv 6) pa_nil)) pa_nil)))))))))), ?_⟩
    refine qx_asg (x_names (ev_var rfl) hpo) ?_
    rintro v H1 e1 ⟨a, rfl, ha, hrs⟩
    have hn10 := hpo.2.2.2.2.1
    refine qx_asg (P := fun v H' => ∃ p ys, v = .ref p ∧ H' p = some (.lst ys) ∧ AllV TupN (wsOf rs) ys H') (x_call (vs := [.ref a]) (ea_cons (ev_var rfl) ea_nil) (fun H2 e2 Q2 q2 E2 => ⟨a, rs, rfl, hrs.ex e2, hpo.2.2.2.1, hpo.2.2.2.2.1, hpo.2.2.2.2.2, fun p ys H3 hp e3 h3 hys => q2 _ H3 e3 ⟨p, ys, rfl, h3, hys⟩⟩)) ?_
    rintro v H2 e2 ⟨w', ys, rfl, hw', hys⟩
    have hyl := hys.1
    have hwl : (wsOf rs).length ≤ 1024 := by
      refine Nat.le_trans (List.length_filter_le _ _) ?_
      rw [sortNN_len, subN_len]
      exact Nat.pow_le_pow_right (by omega) (by omega : (namesOf rs).length ≤ 10)
    refine q_when (b := decide (wsOf rs = [])) (et_test (ev_is (ev_op (ev_len (ev_var rfl) (sq_of hw')) ev_c (rv_eq (by rfl))) ?_)) (fun hb H3 e3 => ?_) (fun hb H3 e3 => ?_)
    · congr 1
      rw [decide_eq_decide, hyl]
      constructor
      · intro h
        have := V.int.inj h
        exact List.length_eq_zero_iff.mp (by omega)
      · intro h; rw [h]; rfl
    · exact s_ret ev_c (fun H4 e4 => k0 (of_decide_eq_true hb) H4 (e1.trans (e2.trans (e3.trans e4))))
    have e23 := e2.trans e3
    have names : ∀ σ', σ'[1]? = some (some (.ref a)) → ∀ H4, Ex H3 H4 → EvL (tCall (sp_names_of) [] (fun _ _ _ => False) (tCons (tVar 1) tNil)) σ' H4 (nmL (namesOf rs)) := fun σ' hσ H4 e4 => el_call (ea_cons (ev_var hσ) ea_nil) (fun H5 e5 Q5 q5 E5 => ⟨a, rs, rfl, hrs.ex (e23.trans (e4.trans e5)), hpo.2.2.2.1, q5⟩)
    have hw3 := e3 _ _ hw'
    have hys3 := AllV.mo (fun a => (TupN.mn a).mo) _ _ _ e3 hys
    refine q_asgL (xs := nmL (evyOf rs)) (el_lc (as := namesOf rs) (inj := nmV) (fun c => (wsOf rs).all fun s => decide (c ∈ s)) nmV (ei_NL (names _ rfl H3 (Ex.refl _))) (by omega) (fun _ => rfl) (fun c _ H4 e4 => et_B ((ev_allRows (K := K) (ev_var rfl) (e4 _ _ hw3) (AllV.mo (fun a => (TupN.mn a).mo) _ _ _ e4 hys3) (by omega) (fun x => ⟨fun H5 e5 => ev_var rfl, ev_var rfl⟩) (fun _ => rfl)).1)) (fun c _ H4 e4 _ => ev_var rfl)) (fun ev H4 hev e4 h4 => ?_)
    refine q_asgL (xs := nmL (nonOf rs)) (el_lc (as := namesOf rs) (inj := nmV) (fun c => !((wsOf rs).any fun s => decide (c ∈ s))) nmV (ei_NL (names _ rfl H4 e4)) (by omega) (fun _ => rfl) (fun c _ H5 e5 => et_not (et_B ((ev_allRows (K := K) (ev_var rfl) ((e4.trans e5) _ _ hw3) (AllV.mo (fun a => (TupN.mn a).mo) _ _ _ (e4.trans e5) hys3) (by omega) (fun x => ⟨fun H5 e5 => ev_var rfl, ev_var rfl⟩) (fun _ => rfl)).2))) (fun c _ H5 e5 _ => ev_var rfl)) (fun no H5 hno e5 h5 => ?_)
    refine sx_ret (x_tup (x_cons (P := fun v H' => ∃ q, v = .ref q ∧ H' q = some (.tup (nmL (evyOf rs)))) (x_tup1 (K := K) (ev_var rfl) (e5 _ _ h4)) (fun v H1 H2 e ⟨q, a, b⟩ => ⟨q, a, e _ _ b⟩) (x_one (P := fun v H' => ∃ q, v = .ref q ∧ H' q = some (.tup (nmL (nonOf rs)))) (x_tup1 (K := K) (ev_var rfl) h5))) (fun vs H1 H2 e ⟨v, r, h1, ⟨q, h2, h3⟩, v2, h4, q2, h5, h6⟩ => ⟨v, r, h1, ⟨q, h2, e _ _ h3⟩, v2, h4, q2, h5, e _ _ h6⟩) (fun vs H1 ⟨v, r, h1, _, v2, h4, _⟩ => by rw [h1, h4]; exact few5 rfl)) ?_
    rintro v H6 e6 ⟨q, vs, rfl, hq, v1, r, rfl, ⟨q1, rfl, g1⟩, v2, rfl, q2, rfl, g2⟩
    exact k1 (of_decide_eq_false hb) q q1 q2 H6 (e1.trans (e23.trans (e4.trans (e5.trans e6)))) hq g1 g2

end
end Tx
end
section
set_option Elab.async false
set_option linter.all false
set_option maxRecDepth 100000
set_option maxHeartbeats 4000000
namespace Tx
open PySem PySem.Spec PyProof.Rows L2 Evl Wk
section
variable {w : World} {K : PySem.W.Frag} {mg : Str → Option Value} {base : Heap}

def itV : Option Nat → V
  | some c => nmV c
  | none => .int 1
def StepAt (s : Sv) (v : V) (H : Hp) : Prop := match s with
  | .int n => v = .int n
  | .bl b => v = .bl b
  | .str c => v = nmV c
  | .tup xs => ∃ p, v = .ref p ∧ H p = some (.tup (xs.map itV)) ∧ xs.length ≤ 1000
theorem StepAt.mn (s : Sv) : Mn (StepAt s) := by
  cases s with
  | tup xs => exact fun v H H' n ⟨p, a, b, c⟩ => ⟨p, a, n.tu _ _ b, c⟩
  | _ => exact fun v H H' n h => h
/-- a row of steps, or what is no tuple -/
def ValR (K : PySem.W.Frag) (o : Option (List Sv)) (v : V) (H : Hp) : Prop := match o with
  | some ss => ∃ p us, v = .ref p ∧ H p = some (.tup us) ∧ AllV StepAt ss us H ∧ ss.length ≤ 1000
  | none => ∃ t, (∀ H', Ex H H' → TyX K H' v (.type t)) ∧ kitB t "tuple" = some false
theorem ValR.ex {o : Option (List Sv)} {v : V} {H H' : Hp} (h : ValR K o v H) (e : Ex H H') : ValR K o v H' := by
  cases o with
  | some ss => exact let ⟨p, us, a, b, c, d⟩ := h; ⟨p, us, a, e _ _ b, AllV.mo (fun a => (StepAt.mn a).mo) _ _ _ e c, d⟩
  | none => exact let ⟨t, a, b⟩ := h; ⟨t, fun H2 e2 => a H2 (e.trans e2), b⟩
def reasB (rs : List Rw) (o : Option (List Sv)) : Bool := match o with
  | some ss => decide (ss.length ≤ 40) && (walkB rs ss ([], [])).isSome
  | none => false
theorem nd_len {l ns : List Nat} (h : l.Nodup) (hs : ∀ c, c ∈ l → c ∈ ns) : l.length ≤ ns.length := by
  have h1 := (ris_sub (lt_of_le_nd (sortN_sorted l) ((sortN_perm l).nodup_iff.mpr h)) (riseOf_ris ns) fun c hc => riseOf_mem.mpr (hs c ((sortN_perm l).mem_iff.mp hc))).length_le
  rw [(sortN_perm l).length_eq] at h1
  refine Nat.le_trans h1 ?_
  unfold riseOf
  rw [(sortN_perm _).length_eq]
  have := addAll_len ns []
  simpa using this
theorem inV_it (o : Option Nat) (ns : List Nat) : inV (itV o) (nmL ns) = inNs ns o := by
  cases o with
  | some c => exact inV_nm c ns
  | none =>
    show inV (.int 1) (nmL ns) = false
    induction ns with
    | nil => rfl
    | cons n ns ih =>
      unfold nmL at ih ⊢
      rw [List.map_cons]
      unfold inV at ih ⊢
      rw [List.any_cons, ih]
      rfl
theorem flat_it (o : Option Nat) : flatV (itV o) = true := by cases o <;> rfl
theorem it_nm (ms : List Nat) : (ms.map some).map itV = nmL ms := by unfold nmL; rw [List.map_map]; rfl
/-- a type asked for -/
theorem ev_isi {σ : L2.St} {H : Hp} {te : TE} {v : V} {t c : String} {b : Bool} (h : Ev te σ H v) (ht : ∀ H', Ex H H' → TyX K H' v (.type t)) (hb : kitB t c = some b) : Ev (tCB (rIsi K) (tCons te (tCons (tC (.ty c)) tNil))) σ H (.bl b) := fun H1 e Q q =>
  h H1 e _ fun H2 e2 => ⟨_, _, _, _, _, rfl, .ty _, ht H2 (e.trans e2), kit_ty hb, q H2 e2⟩
theorem q_asgTup3 {σ : L2.St} {H : Hp} {te : TE} {D : Ends} {tz : TS} {i j l : Nat} {P3 : V → V → V → Hp → Prop} (h : EvX te σ H (fun u H' => ∃ p x y z, u = .ref p ∧ H' p = some (.tup [x, y, z]) ∧ P3 x y z H')) (k : ∀ x y z H1, Ex H H1 → P3 x y z H1 → tz D (((σ.set i (some x)).set j (some y)).set l (some z)) H1) :
    tSeq (tAsg te (gTup K 3 (gCons (gName i) (gCons (gName j) (gCons (gName l) gNil))))) tz D σ H := h H (Ex.refl H) _ fun u H1 e ⟨p, x, y, z, eu, hp, p2⟩ => by
  subst eu
  exact ⟨p, _, rfl, st_of hp, rfl, _, _, rfl, _, _, rfl, _, _, rfl, rfl, k x y z H1 e p2⟩
theorem x_dnew {σ : L2.St} {H : Hp} : EvX tDNewK σ H (fun v H' => ∃ p, v = .ref p ∧ H p = none ∧ H' p = some (.dK [])) := fun H1 e Q q p hp => q _ _ (Ex.new hp) ⟨p, rfl, fresh_back e hp, upd_same⟩
def sp_unf (K : PySem.W.Frag) : Sp := fun vs H Q _ => ∃ (a t f u : Addr) (rs : List Rw) (T F ms : List Nat), vs = [.ref a, .ref t, .ref f, .ref u] ∧ RowsAt rs a H ∧ H t = some (.dK (dk T)) ∧ H f = some (.dK (dk F)) ∧ H u = some (.tup (nmL ms)) ∧ SzRs rs ∧ ∀ H', Ex H H' → Q (.bl (unfB rs T F ms)) H'
theorem sc_is_unfounded : FnScope ["rows", "true", "false", "names", "head", "wanted", "denied", "is_blocked", "name"] ["rows", "true", "false", "names"] (defScope s_is_unfounded) := ⟨rfl, rfl, rfl, by decide +kernel, rfl, by decide +kernel, by decide +kernel⟩
theorem ok_is_unfounded (Z : Zx K mg) : OkD prog w K mg base CX0 1 "is_unfounded" ["rows", "true", "false", "names"] (sp_unf K) := by
  obtain ⟨fd, F0⟩ := Z.fun_ 38
  have F : Fun K "is_unfounded" "is_unfounded" s_is_unfounded (He.ga K "is_unfounded") fd := Wk.fun_of F0
  have n_any := Z.free 63 (x := "any")
  refine ⟨fd, ?_, F.binds (ps := ["rows", "true", "false", "names"]) fun _ _ _ _ _ _ us hl => match us, hl with | [_, _, _, _], _ => rfl, Z.glo 31, F.kp⟩
  refine F.ok sc_is_unfounded (fun vs H Q E h => ?_) (fun cdv A outer s H vs Q E hr h => ?_)
  · obtain ⟨a, t, f, u, rs, T, F, ms, rfl, ⟨us, ha, hall⟩, ht, hf, hu, hsz, k⟩ := h
    rfl
  · obtain ⟨a, t, f, u, rs, T, F, ms, rfl, ⟨us, ha, hall⟩, ht, hf, hu, hsz, k⟩ := h
    have hu1 := hu_of hr
    refine ⟨_, (pss_cons (ps_for PassesOwn.never rfl (pi_list (pv 0)) (pg_tup rfl (pgs_cons (pg_name (i := 4) sc_is_unfounded.nd rfl (by first | exact Or.inl rfl | exact Or.inr rfl)) (pgs_cons (pg_name (i := 5) sc_is_unfounded.nd rfl (by first | exact Or.inl rfl | exact Or.inr rfl)) (pgs_cons (pg_name (i := 6) sc_is_unfounded.nd rfl (by first | exact Or.inl rfl | exact Or.inr rfl)) pgs_nil)))) (pss_cons (ps_set (i := 7) sc_is_unfounded.nd rfl (by first | exact Or.inl rfl | exact Or.inr rfl) (pe_or (pe_callB (cr_any rfl) (by rfl) n_any (by decide +kernel) (pa_cons (pe_lc (own := [("name", 8)]) rfl sc_is_unfounded.nd (pi_list (pv 5)) (blkOk_by (own := [("name", 8)]) (N := ["rows", "true", "false", "names", "head", "wanted", "denied", "is_blocked", "name"]) (sc := defScope s_is_unfounded) (by decide +kernel)) (fun _ _ _ _ _ => pg_name (i := 8) sc_is_unfounded.nd rfl (by first | exact Or.inl rfl | exact Or.inr rfl)) (fun _ _ _ _ _ => pts_nil) (fun _ _ _ _ _ => (pe_cmp (pc_din hu1 (pv 8) (pv 2)) (by rfl)))) pa_nil)) (pe_one (pe_callB (cr_any rfl) (by rfl) n_any (by decide +kernel) (pa_cons (pe_lc (own := [("name", 8)]) rfl sc_is_unfounded.nd (pi_list (pv 6)) (blkOk_by (own := [("name", 8)]) (N := ["rows", "true", "false", "names", "head", "wanted", "denied", "is_blocked", "name"]) (sc := defScope s_is_unfounded) (by decide +kernel)) (fun _ _ _ _ _ => pg_name (i := 8) sc_is_unfounded.nd rfl (by first | exact Or.inl rfl | exact Or.inr rfl)) (fun _ _ _ _ _ => pts_nil) (fun _ _ _ _ _ => (pe_cmp (pc_din hu1 (pv 8) (pv 1)) (by rfl)))) pa_nil))))) (pss_one (ps_if (pw_and (pt_cmpR op_in_seq (pv 4) (pv 3) rfl) (pw_and (pt_not (pt_val (pv 7))) (pw_and1 (pt_not (pt_val (pe_callB (cr_any rfl) (by rfl) n_any (by decide +kernel) (pa_cons (pe_lc (te := (tOp (rIn K false) (tVar 8) (tVar 3))) (own := [("name", 8)]) rfl sc_is_unfounded.nd (pi_list (pv 5)) (blkOk_by (own := [("name", 8)]) (N := ["rows", "true", "false", "names", "head", "wanted", "denied", "is_blocked", "name"]) (sc := defScope s_is_unfounded) (by decide +kernel)) (fun _ _ _ _ _ => pg_name (i := 8) sc_is_unfounded.nd rfl (by first | exact Or.inl rfl | exact Or.inr rfl)) (fun _ _ _ _ _ => pts_nil) (fun _ _ _ _ _ => (pe_cmpR op_in_seq (pv 8) (pv 3) rfl))) pa_nil))))))).pt (pss_one (ps_ret pe_bl)) pss_nil)))) (pss_one (ps_ret pe_bl))), ?_⟩
    have hul := hall.1
    refine q_forL (K := K) (xs := us) (ev_var rfl) (sq_of ha) (fun i σ' H' => ∃ s4 s5 s6 s7, σ' = [some (.ref a), some (.ref t), some (.ref f), some (.ref u), s4, s5, s6, s7, none] ∧ Ex H H' ∧ unfB (rs.take i) T F ms = true) (fun H1 e1 => ⟨none, none, none, none, rfl, e1, rfl⟩) (fun i σ' H' _ ⟨_, _, _, _, _, e, _⟩ => sq_of (e _ _ ha)) ?_ ?_
    · rintro i x σ' H' hx ⟨s4, s5, s6, s7, rfl, e', hok⟩
      obtain ⟨r, hr, p, w, dn, rfl, c1, c2, c3⟩ := AllV.at hall hx
      have hrm := List.mem_of_getElem? hr
      obtain ⟨z1, z2⟩ := hsz.2.1 r hrm
      refine ⟨p, _, rfl, st_of (e' _ _ c1), rfl, _, _, rfl, _, _, rfl, _, _, rfl, rfl, ?_⟩
      have c2 := e' _ _ c2
      have c3 := e' _ _ c3
      refine q_asg (v := .bl (!okH T F r)) (ev_is (ev_orV (ev_anyc (K := K) (p := fun c => decide (c ∈ F)) (as := r.2.1) (inj := nmV) (ei_L (K := K) (ev_var rfl) (sq_of c2)) (by omega) (fun _ => rfl) (fun c _ H9 e9 => ev_din (ev_var rfl) (ev_var rfl) ((e'.trans e9) _ _ hf))) (fun _ => ev_anyc (K := K) (p := fun c => decide (c ∈ T)) (as := r.2.2) (inj := nmV) (ei_L (K := K) (ev_var rfl) (sq_of c3)) (by omega) (fun _ => rfl) (fun c _ H9 e9 => ev_din (ev_var rfl) (ev_var rfl) ((e'.trans e9) _ _ ht)))) (by unfold okH; rw [Bool.not_not])) (fun H2 e2 => ?_)
      have hut := st_of (K := K) ((e'.trans e2) _ _ hu)
      refine s_when (b := decide (r.1 ∈ ms) && (okH T F r && !(r.2.1.any fun c => decide (c ∈ ms)))) (et_and (et_test (ev_inT (K := K) (ev_var rfl) (ev_var rfl) hut)) (fun _ => et_and (et_is (et_not (et_B (ev_var rfl))) (Bool.not_not _)) (fun _ => et_not (et_B (ev_anyc (K := K) (p := fun c => decide (c ∈ ms)) (as := r.2.1) (inj := nmV) (ei_L (K := K) (ev_var rfl) (sq_of (e2 _ _ c2))) (by omega) (fun _ => rfl) (fun c _ H9 e9 => ev_inT (K := K) (ev_var rfl) (ev_var rfl) (ex_t e9 hut))))))) (fun hb H3 e3 => ?_) (fun hb H3 e3 => ?_)
      · refine s_ret ev_c (fun H4 e4 => ?_)
        have e : unfB rs T F ms = false := List.all_eq_false.mpr ⟨r, hrm, by rw [hb]; decide⟩
        have := k H4 (e'.trans (e2.trans (e3.trans e4)))
        rwa [e] at this
      · refine ⟨_, _, _, _, rfl, e'.trans (e2.trans e3), ?_⟩
        unfold unfB at hok ⊢
        rw [List.take_add_one, hr, List.all_append, hok, Bool.true_and]
        show (!(decide (r.1 ∈ ms) && (okH T F r && !(r.2.1.any fun c => decide (c ∈ ms)))) && true) = true
        rw [hb]
        rfl
    · rintro σ' H' ⟨s4, s5, s6, s7, rfl, e', hok⟩
      rw [hul, List.take_length] at hok
      rw [hok] at k
      exact s_ret ev_c (fun H4 e4 => k H4 (e'.trans e4))
theorem mul40 : CMul 4 10 := .inl ⟨by decide, by decide⟩
theorem s_forTn {σ : L2.St} {H : Hp} {D : Ends} {tu : TS} {a : Addr} {xs : List V} {tl : TE} {j : Nat} (h : Ev tl σ H (.ref a)) (hx : SqT K H a xs) (Pv : Nat → L2.St → Hp → Prop) (h0 : ∀ H1, Ex H H1 → Pv 0 σ H1) (hl : ∀ i σ' H', i ≤ xs.length → Pv i σ' H' → SqT K H' a xs)
    (hs : ∀ i x σ' H', xs[i]? = some x → Pv i σ' H' → tu { D with nx := Pv (i + 1), ct := Pv (i + 1), bk := D.nx } (σ'.set j (some x)) H') (hd : ∀ σ' H', Pv xs.length σ' H' → D.nx σ' H') : tFor (iTup K tl) (gName j) tu D σ H :=
  s_forT h hx Pv h0 hl hs hd
theorem ev_chainLt {σ : L2.St} {H : Hp} {ta tb tc : TE} {i j k : Int} (ha : Ev ta σ H (.int i)) (hb : Ev tb σ H (.int j)) (hc : Ev tc σ H (.int k)) : Ev (tChain (rI0 fun i j => .bl (decide (i ≤ j))) (rI0 fun i j => .bl (decide (i < j))) ta tb tc) σ H (.bl (decide (i ≤ j) && decide (j < k))) := fun H1 e Q q =>
  ha H1 e _ fun H2 e2 => hb H2 (e.trans e2) _ fun H3 e3 => ⟨i, j, rfl, rfl, decide (i ≤ j), rfl, by
    cases h : decide (i ≤ j) with
    | true =>
      rw [if_pos rfl]
      refine hc H3 (e.trans (e2.trans e3)) _ fun H4 e4 => ⟨j, k, rfl, rfl, ?_⟩
      rw [h, Bool.true_and] at q
      exact q H4 (e2.trans (e3.trans e4))
    | false =>
      rw [if_neg (by decide)]
      rw [h, Bool.false_and] at q
      exact q H3 (e2.trans e3)⟩
def sp_is_reason (K : PySem.W.Frag) : Sp := fun vs H Q _ => ∃ (ls : List (List Nat)) (rs : List Rw) (v : V) (o : Option (List Sv)), vs = [.str (tx (progT ls)), v] ∧ ProgOk ls rs ∧ ValR K o v H ∧ ∀ H', Ex H H' → Q (.bl (reasB rs o)) H'
theorem walk_none {rs : List Rw} {ss : List Sv} {i : Nat} {s : Sv} {z : List Nat × List Nat} (h : walkB rs (ss.take i) ([], []) = some z) (hs : ss[i]? = some s) (hn : stepB rs z.1 z.2 s = none) : walkB rs ss ([], []) = none := by
  have hi := (List.getElem?_eq_some_iff.mp hs).1
  have e : ss = ss.take i ++ s :: ss.drop (i + 1) := by
    have := (List.take_append_drop i ss).symm
    rw [List.drop_eq_getElem_cons hi, (List.getElem?_eq_some_iff.mp hs).2] at this
    exact this
  rw [e, walkB_app, h]
  show walkB rs (s :: ss.drop (i + 1)) z = none
  rw [walkB, hn]
  rfl
theorem walk_some {rs : List Rw} {ss : List Sv} {i : Nat} {s : Sv} {z y : List Nat × List Nat} (h : walkB rs (ss.take i) ([], []) = some z) (hs : ss[i]? = some s) (hn : stepB rs z.1 z.2 s = some y) : walkB rs (ss.take (i + 1)) ([], []) = some y := by
  rw [List.take_add_one, hs, walkB_app, h]
  show walkB rs [s] z = some y
  rw [walkB, hn]
  rfl
theorem sc_is_reason : FnScope ["program", "value", "rows", "true", "false", "step", "head", "wanted", "denied", "name"] ["program", "value"] (defScope s_is_reason) := ⟨rfl, rfl, rfl, by decide +kernel, rfl, by decide +kernel, by decide +kernel⟩
theorem ok_is_reason (Z : Zx K mg) : OkD prog w K mg base (L2.CX prog w) 9 "is_reason" ["program", "value"] (sp_is_reason K) := by
  obtain ⟨fd, F0⟩ := Z.fun_ 39
  have F : Fun K "is_reason" "is_reason" s_is_reason (He.ga K "is_reason") fd := Wk.fun_of F0
  have x_BadArgument := Z.bad
  have cBadArgument := Z.glo 59 (x := "BadArgument")
  have c_MOST_NAMES := Z.int 88 (x := "MOST_NAMES")
  obtain ⟨_, g_demand_names, b_demand_names, m_demand_names, k_demand_names⟩ := ok_demand_names (w := w) (base := base) Z
  obtain ⟨_, g_is_tuple, b_is_tuple, m_is_tuple, k_is_tuple⟩ := ok_is_tuple (w := w) (base := base) Z
  obtain ⟨_, g_is_unfounded, b_is_unfounded, m_is_unfounded, k_is_unfounded⟩ := ok_is_unfounded (w := w) (base := base) Z
  obtain ⟨_, g_names_of, b_names_of, m_names_of, k_names_of⟩ := ok_names_of (w := w) (base := base) Z
  have n_all := Z.free 62 (x := "all")
  have n_bool := Z.free 64 (x := "bool")
  have n_int := Z.free 66 (x := "int")
  have n_isinstance := Z.free 67 (x := "isinstance")
  have n_len := Z.free 68 (x := "len")
  refine ⟨fd, ?_, F.binds (ps := ["program", "value"]) fun _ _ _ _ _ _ us hl => match us, hl with | [_, _], _ => rfl, Z.glo 32, F.kp⟩
  refine F.okX sc_is_reason (fun vs H Q E h => ?_) (fun cdv A outer s H vs Q E hr h => ?_)
  · obtain ⟨ls, rs, v, o, rfl, hpo, hv, k⟩ := h
    rfl
  · obtain ⟨ls, rs, v, o, rfl, hpo, hv, k⟩ := h
    have hu1 := hu_of hr
    refine ⟨_, (pss_cons (ps_set (i := 2) sc_is_reason.nd rfl (by first | exact Or.inl rfl | exact Or.inr rfl) (pe_call g_demand_names (hr.mono (by decide)) (by rfl) m_demand_names k_demand_names b_demand_names .nil (passes_call (takes_of rfl rfl rfl rfl) (fun _ _ _ _ h => h)) (pa_cons (pv 0) pa_nil))) (pss_cons (ps_if (pt_not (pt_val (pe_call g_is_tuple (hr.mono (by decide)) (by rfl) m_is_tuple k_is_tuple b_is_tuple .nil pass0 (pa_cons (pv 1) (pa_cons pe_int (pa_cons (pe_op op_mul pe_int (pe_gi c_MOST_NAMES)) pa_nil)))))) (pss_one (ps_ret pe_bl)) pss_nil) (pss_cons (ps_asg (pe_tup (pa_cons pe_dnewK (pa_cons pe_dnewK pa_nil))) (pg_tup rfl (pgs_cons (pg_name (i := 3) sc_is_reason.nd rfl (by first | exact Or.inl rfl | exact Or.inr rfl)) (pgs_cons (pg_name (i := 4) sc_is_reason.nd rfl (by first | exact Or.inl rfl | exact Or.inr rfl)) pgs_nil)))) (pss_cons (ps_for (passes_of rfl) rfl (pi_tup (pv 1)) (pg_name (i := 5) sc_is_reason.nd rfl (by first | exact Or.inl rfl | exact Or.inr rfl)) (pss_one (ps_if (pw_and (pt_val (pe_callB call_isi (by rfl) n_isinstance (by decide +kernel) (pa_cons (pv 5) (pa_cons (pe_bltn (v := .ty "int") (by rfl) n_int (by decide +kernel) rfl) pa_nil)))) (pw_and (pt_not (pt_val (pe_callB call_isi (by rfl) n_isinstance (by decide +kernel) (pa_cons (pv 5) (pa_cons (pe_bltn (v := .ty "bool") (by rfl) n_bool (by decide +kernel) rfl) pa_nil))))) (pw_and1 (pt_chain op_le op_lt pe_int (pv 5) (pe_callB call_len_seq (by rfl) n_len (by decide +kernel) (pa_cons (pv 2) pa_nil)))))).pt (pss_cons (ps_asg (pe_ix ix_list (pv 2) (pv 5) (fun _ _ => rfl)) (pg_tup rfl (pgs_cons (pg_name (i := 6) sc_is_reason.nd rfl (by first | exact Or.inl rfl | exact Or.inr rfl)) (pgs_cons (pg_name (i := 7) sc_is_reason.nd rfl (by first | exact Or.inl rfl | exact Or.inr rfl)) (pgs_cons (pg_name (i := 8) sc_is_reason.nd rfl (by first | exact Or.inl rfl | exact Or.inr rfl)) pgs_nil))))) (pss_cons (ps_if (pw_or (pt_not (pt_val (pe_callB (cr_all rfl) (by rfl) n_all (by decide +kernel) (pa_cons (pe_lc (own := [("name", 9)]) rfl sc_is_reason.nd (pi_list (pv 7)) (blkOk_by (own := [("name", 9)]) (N := ["program", "value", "rows", "true", "false", "step", "head", "wanted", "denied", "name"]) (sc := defScope s_is_reason) (by decide +kernel)) (fun _ _ _ _ _ => pg_name (i := 9) sc_is_reason.nd rfl (by first | exact Or.inl rfl | exact Or.inr rfl)) (fun _ _ _ _ _ => pts_nil) (fun _ _ _ _ _ => (pe_cmp (pc_din hu1 (pv 9) (pv 3)) (by rfl)))) pa_nil)))) (pw_or1 (pt_not (pt_val (pe_callB (cr_all rfl) (by rfl) n_all (by decide +kernel) (pa_cons (pe_lc (own := [("name", 9)]) rfl sc_is_reason.nd (pi_list (pv 8)) (blkOk_by (own := [("name", 9)]) (N := ["program", "value", "rows", "true", "false", "step", "head", "wanted", "denied", "name"]) (sc := defScope s_is_reason) (by decide +kernel)) (fun _ _ _ _ _ => pg_name (i := 9) sc_is_reason.nd rfl (by first | exact Or.inl rfl | exact Or.inr rfl)) (fun _ _ _ _ _ => pts_nil) (fun _ _ _ _ _ => (pe_cmp (pc_din hu1 (pv 9) (pv 4)) (by rfl)))) pa_nil)))))).pt (pss_one (ps_ret pe_bl)) pss_nil) (pss_one (ps_dput hu1 (pv 3) (pv 6) pe_bl rfl)))) (pss_one (ps_if (pw_and (pt_val (pe_call g_is_tuple (hr.mono (by decide)) (by rfl) m_is_tuple k_is_tuple b_is_tuple .nil pass0 (pa_cons (pv 5) (pa_cons pe_int (pa_cons (pe_gi c_MOST_NAMES) pa_nil))))) (pw_and1 (pt_val (pe_callB (cr_all rfl) (by rfl) n_all (by decide +kernel) (pa_cons (pe_lc (te := (tOp (rIn K false) (tVar 9) (tCall (sp_names_of) [] (fun _ _ _ => False) (tCons (tVar 2) tNil)))) (own := [("name", 9)]) rfl sc_is_reason.nd (pi_tup (pv 5)) (blkOk_by (own := [("name", 9)]) (N := ["program", "value", "rows", "true", "false", "step", "head", "wanted", "denied", "name"]) (sc := defScope s_is_reason) (by decide +kernel)) (fun _ _ _ _ _ => pg_name (i := 9) sc_is_reason.nd rfl (by first | exact Or.inl rfl | exact Or.inr rfl)) (fun _ _ _ _ _ => pts_nil) (fun _ _ _ _ _ => (pe_cmpR op_in_seq (pv 9) (pe_call g_names_of (hr.mono (by decide)) (by rfl) m_names_of k_names_of b_names_of .nil pass0 (pa_cons (pv 2) pa_nil)) rfl))) pa_nil))))).pt (pss_cons (ps_if (pt_not (pt_val (pe_call g_is_unfounded (hr.mono (by decide)) (by rfl) m_is_unfounded k_is_unfounded b_is_unfounded .nil pass0 (pa_cons (pv 2) (pa_cons (pv 3) (pa_cons (pv 4) (pa_cons (pv 5) pa_nil))))))) (pss_one (ps_ret pe_bl)) pss_nil) (pss_one (ps_for (passes_of rfl) rfl (pi_tup (pv 5)) (pg_name (i := 9) sc_is_reason.nd rfl (by first | exact Or.inl rfl | exact Or.inr rfl)) (pss_one (ps_dput hu1 (pv 4) (pv 9) pe_bl rfl))))) (pss_one (ps_ret pe_bl))))))) (pss_one (ps_ret pe_bl)))))), ?_⟩
    refine qx_asg (x_names (ev_var rfl) hpo) ?_
    rintro v1 H1 e1 ⟨a, rfl, ha0, hrs⟩
    have hn10 := hpo.2.2.2.2.1
    have hv1 := hv.ex e1
    cases o with
    | none =>
      obtain ⟨ty, t1, t2⟩ := hv1
      refine q_when (b := true) (et_is (et_not (et_B (ev_call (z := .bl false) (vs := [v, .int 0, .int 40]) (ea_cons (ev_var rfl) (ea_cons ev_c (ea_cons (ev_op ev_c ev_c ?_) ea_nil))) (fun H2 e2 Q2 q2 E2 => ⟨v, 0, 40, rfl, .inr ⟨ty, t1 H2 e2, t2, q2 H2 (Ex.refl _)⟩⟩)))) rfl) (fun _ H2 e2 => s_ret ev_c (fun H3 e3 => k H3 (e1.trans (e2.trans e3)))) (fun h => absurd h (by decide))
      exact rv_I mul40
    | some ss =>
      obtain ⟨p, us, rfl, hp, hus, hsl⟩ := hv1
      have hul := hus.1
      refine q_when (b := !decide (ss.length ≤ 40)) (et_not (et_B (ev_call (z := .bl (decide (ss.length ≤ 40))) (vs := [.ref p, .int 0, .int 40]) (ea_cons (ev_var rfl) (ea_cons ev_c (ea_cons (ev_op ev_c ev_c (rv_I mul40)) ea_nil))) (fun H2 e2 Q2 q2 E2 => ⟨.ref p, 0, 40, rfl, .inl ⟨p, us, rfl, e2 _ _ hp, fun H3 e3 => ?_⟩⟩)))) (fun hb H2 e2 => ?_) (fun hb H2 e2 => ?_)
      · have e : (decide ((0 : Int) ≤ (us.length : Int)) && decide ((us.length : Int) ≤ 40)) = decide (ss.length ≤ 40) := by
          rw [hul, decide_eq_true (by omega), Bool.true_and, decide_eq_decide]
          omega
        rw [e]
        exact q2 H3 e3
      · refine s_ret ev_c (fun H3 e3 => ?_)
        have := k H3 (e1.trans (e2.trans e3))
        have e : reasB rs (some ss) = false := by
          show (decide (ss.length ≤ 40) && _) = false
          rw [not_t hb, Bool.false_and]
        rwa [e] at this
      have h40 := not_f hb
      have kk : ∀ H', Ex H H' → Q (.bl (walkB rs ss ([], [])).isSome) H' := fun H' e => by
        have := k H' e
        have e2 : reasB rs (some ss) = (walkB rs ss ([], [])).isSome := by
          show (decide (ss.length ≤ 40) && _) = _
          rw [h40, Bool.true_and]
        rwa [e2] at this
      have hrs2 := hrs.ex e2
      refine q_asgTupX (P2 := fun x y H' => ∃ t f, x = .ref t ∧ y = .ref f ∧ H2 t = none ∧ H2 f = none ∧ t ≠ f ∧ H' t = some (.dK []) ∧ H' f = some (.dK [])) ((x_tup (PA := fun vs H' => ∃ t f, vs = [.ref t, .ref f] ∧ H2 t = none ∧ H2 f = none ∧ t ≠ f ∧ H' t = some (.dK []) ∧ H' f = some (.dK [])) (fun H3 e3 Q3 q3 => ?_) (fun vs H3 H4 e ⟨t, f, h1, h2, h3, h4, h5, h6⟩ => ⟨t, f, h1, h2, h3, h4, e _ _ h5, e _ _ h6⟩) (fun vs H3 ⟨t, f, h1, _⟩ => by rw [h1]; exact few5 rfl)).imp ?_) ?_
      · intro t ht f hf
        have htf : t ≠ f := ne_new (upd_same (H := H3) (a := t)) hf
        exact q3 _ _ ((Ex.new ht).trans (Ex.new hf)) ⟨t, f, rfl, fresh_back e3 ht, fresh_back (e3.trans (Ex.new ht)) hf, htf, by rw [upd_ne htf]; exact upd_same, upd_same⟩
      · rintro u H3 ⟨q, vs, rfl, hq, t, f, rfl, h1⟩
        exact ⟨q, _, _, rfl, hq, t, f, rfl, rfl, h1⟩
      rintro x y H3 e3 ⟨t, f, rfl, rfl, ht0, hf0, htf, ht3, hf3⟩
      refine q_forT (K := K) (xs := us) (ev_var rfl) (st_of ((e2.trans e3) _ _ hp)) (fun i σ' H' => ∃ T F s5 s6 s7 s8 s9, σ' = [some (.str (tx (progT ls))), some (.ref p), some (.ref a), some (.ref t), some (.ref f), s5, s6, s7, s8, s9] ∧ Ex H2 H' ∧ H' t = some (.dK (dk T)) ∧ H' f = some (.dK (dk F)) ∧ walkB rs (ss.take i) ([], []) = some (T, F)) (fun H4 e4 => ⟨[], [], none, none, none, none, none, rfl, e3.trans e4, e4 _ _ ht3, e4 _ _ hf3, rfl⟩) (fun i σ' H' _ ⟨_, _, _, _, _, _, _, _, e, _⟩ => st_of (e _ _ (e2 _ _ hp))) ?_ ?_
      · rintro i x σ' H' hx ⟨T, F, s5, s6, s7, s8, s9, rfl, e', ht, hf, hw⟩
        obtain ⟨s, hs, hst⟩ := AllV.at hus hx
        have htl := walkB_tl _ _ _ (Tl.nil rs) hw
        have hTl : T.length ≤ 10 := Nat.le_trans (nd_len htl.nT htl.tn) hn10
        have hFl : F.length ≤ 10 := Nat.le_trans (nd_len htl.nF htl.fn) hn10
        have E12 : Ex H1 H' := e2.trans e'
        have hst' := (StepAt.mn s).mo _ _ _ E12 hst
        have hrs' := hrs.ex E12
        have wrong : stepB rs T F s = none → ∀ H9, Ex H' H9 → Q (.bl false) H9 := fun hn H9 e9 => by
          have := kk H9 (e1.trans (E12.trans e9))
          rwa [walk_none hw hs hn] at this
        show tIfS _ _ _ _ _ _
        cases s with
        | int n =>
          have hx1 : x = .int n := hst'
          subst hx1
          obtain ⟨vs, hvs, hall⟩ := hrs'
          have hvl := hall.1
          refine s_if (b := decide (0 ≤ n) && decide (n < (rs.length : Int))) (et_is (et_and (a := true) (et_B (ev_isi (b := true) (ev_var rfl) (fun H9 _ => .base (.int n)) (by decide +kernel))) (fun _ => et_and (a := true) (et_is (et_not (et_B (ev_isi (b := false) (ev_var rfl) (fun H9 _ => .base (.int n)) (by decide +kernel)))) rfl) (fun _ => et_test (ev_chainLt ev_c (ev_var rfl) (ev_len (ev_var rfl) (sq_of hvs)))))) (by rw [hvl]; rfl)) (fun hb H4 e4 => ?_) (fun hb H4 e4 => ?_)
          · rw [Bool.and_eq_true] at hb
            have h0 := of_decide_eq_true hb.1
            have h1 := of_decide_eq_true hb.2
            obtain ⟨r, hr⟩ : ∃ r, rs[n.toNat]? = some r := ⟨_, List.getElem?_eq_getElem (by omega)⟩
            obtain ⟨z1, z2⟩ := hpo.2.2.2.1.2.1 r (List.mem_of_getElem? hr)
            obtain ⟨xv, hxv⟩ : ∃ xv, vs[n.toNat]? = some xv := ⟨_, List.getElem?_eq_getElem (by omega)⟩
            have hrow := hall.2 _ _ _ hxv hr
            obtain ⟨pr, w, dn, rfl, c1, c2, c3⟩ := hrow
            have hat : atI vs n = some (.ref pr) := by
              have := atI_nat hxv
              rwa [Int.toNat_of_nonneg h0] at this
            refine q_asgTup3 (P3 := fun x y z H9 => x = nmV r.1 ∧ y = .ref w ∧ z = .ref dn) (fun H5 e5 Q5 q5 => (ev_op (ev_var rfl) (ev_var rfl) (rv_ixL (K := K) (sq_of (e4 _ _ hvs)) hat)) H5 e5 _ fun H6 e6 => q5 _ H6 e6 ⟨pr, _, _, _, rfl, (e4.trans (e5.trans e6)) _ _ c1, rfl, rfl, rfl⟩) ?_
            rintro x y z H5 e5 ⟨rfl, rfl, rfl⟩
            have e45 := e4.trans e5
            have hno : (!((r.2.1.all fun c => decide (c ∈ T)) && (r.2.2.all fun c => decide (c ∈ F)))) = ((!(r.2.1.all fun c => decide (c ∈ T))) || !(r.2.2.all fun c => decide (c ∈ F))) := Bool.not_and _ _
            refine q_when (b := !((r.2.1.all fun c => decide (c ∈ T)) && (r.2.2.all fun c => decide (c ∈ F)))) (et_is (et_or (et_not (et_B (ev_allc (K := K) (p := fun c => decide (c ∈ T)) (as := r.2.1) (inj := nmV) (ei_L (K := K) (ev_var rfl) (sq_of (e45 _ _ c2))) (by omega) (fun _ => rfl) (fun c _ H9 e9 => ev_din (ev_var rfl) (ev_var rfl) ((e45.trans e9) _ _ ht))))) (fun _ => et_not (et_B (ev_allc (K := K) (p := fun c => decide (c ∈ F)) (as := r.2.2) (inj := nmV) (ei_L (K := K) (ev_var rfl) (sq_of (e45 _ _ c3))) (by omega) (fun _ => rfl) (fun c _ H9 e9 => ev_din (ev_var rfl) (ev_var rfl) ((e45.trans e9) _ _ hf)))))) hno.symm) (fun hb H6 e6 => ?_) (fun hb H6 e6 => ?_)
            · refine s_ret ev_c (fun H7 e7 => wrong ?_ H7 (e45.trans (e6.trans e7)))
              show (intB rs T F n).map _ = none
              unfold intB
              rw [if_pos h0, hr, Option.filter_some, if_neg (by rw [not_t hb]; decide)]
              rfl
            · have hg := not_f hb
              have hstep : stepB rs T F (.int n) = some (addN T r.1, F) := by
                show (intB rs T F n).map _ = _
                unfold intB
                rw [if_pos h0, hr, Option.filter_some, if_pos hg]
                rfl
              refine s_dput (ns := T) (c := r.1) ev_c (ev_var rfl) (ev_var rfl) ((e45.trans e6) _ _ ht) (by omega) (fun H7 e7 => ?_)
              have e47 := e45.trans (e6.trans e7)
              exact ⟨_, _, _, _, _, _, _, rfl, Ex.mut (e'.trans e47) ht0, upd_same, by rw [upd_ne htf.symm]; exact e47 _ _ hf, walk_some hw hs hstep⟩
          · have hn : stepB rs T F (.int n) = none := by
              show (intB rs T F n).map _ = none
              unfold intB
              split
              · rename_i h0
                have h1 : ¬ n < (rs.length : Int) := by
                  rw [decide_eq_true h0, Bool.true_and] at hb
                  exact of_decide_eq_false hb
                rw [List.getElem?_eq_none (by omega)]
                rfl
              · rfl
            refine s_if (b := false) (et_is (et_and (a := false) (b := false) (et_B (ev_call (z := .bl false) (vs := [.int n, .int 1, .int 10]) (ea_cons (ev_var rfl) (ea_cons ev_c (ea_cons ev_c ea_nil))) (fun H5 e5 Q5 q5 E5 => ⟨.int n, 1, 10, rfl, .inr ⟨"int", .base (.int n), by decide +kernel, q5 H5 (Ex.refl _)⟩⟩))) (fun h => absurd h (by decide))) rfl) (fun h => absurd h (by decide)) (fun _ H5 e5 => s_ret ev_c (fun H6 e6 => wrong hn H6 (e4.trans (e5.trans e6))))
        | bl b =>
          have hx1 : x = .bl b := hst'
          subst hx1
          have hn : stepB rs T F (.bl b) = none := rfl
          refine s_if (b := false) (et_is (et_and (a := true) (et_B (ev_isi (b := true) (ev_var rfl) (fun H9 _ => .base (.bl b)) (by decide +kernel))) (fun _ => et_and (a := false) (b := false) (et_is (et_not (et_B (ev_isi (b := true) (ev_var rfl) (fun H9 _ => .base (.bl b)) (by decide +kernel)))) rfl) (fun h => absurd h (by decide)))) rfl) (fun h => absurd h (by decide)) (fun _ H4 e4 => ?_)
          refine s_if (b := false) (et_is (et_and (a := false) (b := false) (et_B (ev_call (z := .bl false) (vs := [.bl b, .int 1, .int 10]) (ea_cons (ev_var rfl) (ea_cons ev_c (ea_cons ev_c ea_nil))) (fun H5 e5 Q5 q5 E5 => ⟨.bl b, 1, 10, rfl, .inr ⟨"bool", .base (.bl b), by decide +kernel, q5 H5 (Ex.refl _)⟩⟩))) (fun h => absurd h (by decide))) rfl) (fun h => absurd h (by decide)) (fun _ H5 e5 => s_ret ev_c (fun H6 e6 => wrong hn H6 (e4.trans (e5.trans e6))))
        | str c =>
          have hx1 : x = nmV c := hst'
          subst hx1
          have hn : stepB rs T F (.str c) = none := rfl
          refine s_if (b := false) (et_is (et_and (a := false) (b := false) (et_B (ev_isi (b := false) (ev_var rfl) (fun H9 _ => .base (.str _)) (by decide +kernel))) (fun h => absurd h (by decide))) rfl) (fun h => absurd h (by decide)) (fun _ H4 e4 => ?_)
          refine s_if (b := false) (et_is (et_and (a := false) (b := false) (et_B (ev_call (z := .bl false) (vs := [nmV c, .int 1, .int 10]) (ea_cons (ev_var rfl) (ea_cons ev_c (ea_cons ev_c ea_nil))) (fun H5 e5 Q5 q5 E5 => ⟨nmV c, 1, 10, rfl, .inr ⟨"str", .base (.str _), by decide +kernel, q5 H5 (Ex.refl _)⟩⟩))) (fun h => absurd h (by decide))) rfl) (fun h => absurd h (by decide)) (fun _ H5 e5 => s_ret ev_c (fun H6 e6 => wrong hn H6 (e4.trans (e5.trans e6))))
        | tup xs =>
          obtain ⟨u, rfl, hu, hxl⟩ := hst'
          refine s_if (b := false) (et_is (et_and (a := false) (b := false) (et_B (ev_isi (b := false) (ev_var rfl) (fun H9 e9 => .base (.tup (e9 _ _ hu))) (by decide +kernel))) (fun h => absurd h (by decide))) rfl) (fun h => absurd h (by decide)) (fun _ H4 e4 => ?_)
          have hu4 := e4 _ _ hu
          have hxm : (xs.map itV).length = xs.length := List.length_map _
          refine s_if (b := (decide (1 ≤ xs.length) && decide (xs.length ≤ 10)) && xs.all (inNs (namesOf rs))) (et_and (et_B (ev_call (vs := [.ref u, .int 1, .int 10]) (ea_cons (ev_var rfl) (ea_cons ev_c (ea_cons ev_c ea_nil))) (fun H5 e5 Q5 q5 E5 => ⟨.ref u, 1, 10, rfl, .inl ⟨u, _, rfl, e5 _ _ hu4, fun H6 e6 => ?_⟩⟩))) (fun _ => et_B (ev_allc (K := K) (p := inNs (namesOf rs)) (as := xs) (inj := itV) (ei_T (K := K) (ev_var rfl) (st_of hu4)) (by omega) (fun _ => rfl) (fun o _ H5 e5 => ?_)))) (fun hb H5 e5 => ?_) (fun hb H5 e5 => ?_)
          · have e : (decide ((1 : Int) ≤ ((xs.map itV).length : Int)) && decide (((xs.map itV).length : Int) ≤ 10)) = (decide (1 ≤ xs.length) && decide (xs.length ≤ 10)) := by
              rw [hxm]
              congr 1 <;> rw [decide_eq_decide] <;> omega
            rw [e]
            exact q5 H6 e6
          · refine ev_opL (z := .bl (inNs (namesOf rs) o)) (ev_var rfl) (el_call (xs := nmL (namesOf rs)) (ea_cons (ev_var rfl) ea_nil) (fun H6 e6 Q6 q6 E6 => ⟨a, rs, rfl, hrs'.ex (e4.trans (e5.trans e6)), hpo.2.2.2.1, q6⟩)) (fun q H6 hq e6 => ?_)
            have := rv_isL (K := K) (x := itV o) (sq_of hq) (flat_it o) (flat_nm (namesOf rs))
            rwa [inV_it] at this
          · rw [Bool.and_eq_true] at hb
            obtain ⟨m1, m2⟩ := ms_names hb.2
            have e45 := e4.trans e5
            have hum : H5 u = some (.tup (nmL (msOf xs))) := by
              have := e5 _ _ hu4
              rwa [m1, it_nm] at this
            refine q_when (b := !unfB rs T F (msOf xs)) (et_not (et_B (ev_call (vs := [.ref a, .ref t, .ref f, .ref u]) (ea_cons (ev_var rfl) (ea_cons (ev_var rfl) (ea_cons (ev_var rfl) (ea_cons (ev_var rfl) ea_nil)))) (fun H6 e6 Q6 q6 E6 => ⟨a, t, f, u, rs, T, F, msOf xs, rfl, hrs'.ex (e45.trans e6), (e45.trans e6) _ _ ht, (e45.trans e6) _ _ hf, e6 _ _ hum, hpo.2.2.2.1, fun H7 e7 => q6 H7 e7⟩)))) (fun hb2 H6 e6 => ?_) (fun hb2 H6 e6 => ?_)
            · refine s_ret ev_c (fun H7 e7 => wrong ?_ H7 (e45.trans (e6.trans e7)))
              show (if (decide (1 ≤ xs.length) && decide (xs.length ≤ 10)) && (xs.all (inNs (namesOf rs)) && unfB rs T F (msOf xs)) then _ else none) = none
              rw [not_t hb2, Bool.and_false, Bool.and_false]
              rfl
            · have hstep : stepB rs T F (.tup xs) = some (T, addAll F (msOf xs)) := by
                show (if (decide (1 ≤ xs.length) && decide (xs.length ≤ 10)) && (xs.all (inNs (namesOf rs)) && unfB rs T F (msOf xs)) then _ else none) = _
                rw [not_f hb2, hb.2, hb.1]
                rfl
              have hml : (msOf xs).length ≤ 10 := by
                have h10 := (Bool.and_eq_true_iff.mp hb.1).2
                have := of_decide_eq_true h10
                rw [m1, List.length_map] at this
                exact this
              have hal := addAll_len
              refine s_forTn (K := K) (xs := nmL (msOf xs)) (ev_var rfl) (st_of (e6 _ _ hum)) (fun j σ' H7 => ∃ s9 : Option V, σ' = [some (.str (tx (progT ls))), some (.ref p), some (.ref a), some (.ref t), some (.ref f), some (.ref u), s6, s7, s8, s9] ∧ Ex (del H6 f) (del H7 f) ∧ H7 f = some (.dK (dk (addAll F ((msOf xs).take j))))) (fun H7 e7 => ⟨s9, rfl, ex_deldel e7, by rw [List.take_zero]; exact (e45.trans (e6.trans e7)) _ _ hf⟩) (fun j σ' H7 _ ⟨_, _, e, h9⟩ => st_of ?_) ?_ ?_
              · have hne : u ≠ f := fun x => by subst x; rw [e45 _ _ hf] at hum; cases hum
                have := e u _ (by rw [del_ne hne]; exact e6 _ _ hum)
                rwa [del_ne hne] at this
              · rintro j x σ' H7 hj ⟨s9, rfl, e7, hf7⟩
                unfold nmL at hj
                rw [List.getElem?_map] at hj
                obtain ⟨c, hc, rfl⟩ := Option.map_eq_some_iff.mp hj
                have := hal ((msOf xs).take j) F
                rw [List.length_take] at this
                refine s_dput (ns := addAll F ((msOf xs).take j)) (c := c) ev_c (ev_var rfl) (ev_var rfl) hf7 (by omega) (fun H8 e8 => ⟨_, rfl, by rw [del_upd]; exact e7.trans (ex_deldel e8), by rw [upd_same, addAll_take hc]⟩)
              · rintro σ' H7 ⟨s9, rfl, e7, hf7⟩
                rw [nmL_len, List.take_length] at hf7
                have back : ∀ b v, b ≠ f → H6 b = some v → H7 b = some v := fun b v hn h => by
                  have := e7 b v (by rw [del_ne hn]; exact h)
                  rwa [del_ne hn] at this
                refine ⟨_, _, _, _, _, _, _, rfl, fun b v h => back b v (fun x => by subst x; rw [hf0] at h; cases h) ((e'.trans (e45.trans e6)) _ _ h), back _ _ htf ((e45.trans e6) _ _ ht), hf7, walk_some hw hs hstep⟩
          · refine s_ret ev_c (fun H6 e6 => wrong ?_ H6 (e4.trans (e5.trans e6)))
            show (if (decide (1 ≤ xs.length) && decide (xs.length ≤ 10)) && (xs.all (inNs (namesOf rs)) && unfB rs T F (msOf xs)) then _ else none) = none
            rw [← Bool.and_assoc, hb, Bool.false_and]
            rfl
      · rintro σ' H' ⟨T, F, s5, s6, s7, s8, s9, rfl, e', ht, hf, hw⟩
        rw [hul, List.take_length] at hw
        refine s_ret ev_c (fun H4 e4 => ?_)
        have := kk H4 (e1.trans (e2.trans (e'.trans e4)))
        rwa [hw] at this

end
end Tx
end
section
set_option Elab.async false
set_option linter.all false
set_option maxRecDepth 100000
set_option maxHeartbeats 4000000
namespace Tx
open PySem PySem.Spec PyProof.Rows L2 Evl Wk
section
variable {w : World} {K : PySem.W.Frag} {mg : Str → Option Value} {base : Heap}

def toldB (rs : List Rw) (o : Option (List Sv)) : Option (List Nat × List Nat) := match o with
  | some ss => if ss.length ≤ 40 then walkB rs ss ([], []) else none
  | none => none
theorem reas_told (rs : List Rw) (o : Option (List Sv)) : reasB rs o = (toldB rs o).isSome := by
  cases o with
  | none => rfl
  | some ss =>
    show (decide (ss.length ≤ 40) && _) = Option.isSome (if ss.length ≤ 40 then _ else none)
    by_cases h : ss.length ≤ 40
    · rw [if_pos h, decide_eq_true h, Bool.true_and]
    · rw [if_neg h, decide_eq_false h, Bool.false_and]
      rfl
/-- a walk that comes to its end has a right step at each place -/
theorem walk_at {rs : List Rw} {ss : List Sv} {y : List Nat × List Nat} (h : walkB rs ss ([], []) = some y) {i : Nat} {s : Sv} (hs : ss[i]? = some s) : ∃ z x, walkB rs (ss.take i) ([], []) = some z ∧ stepB rs z.1 z.2 s = some x ∧ walkB rs (ss.take (i + 1)) ([], []) = some x := by
  cases hz : walkB rs (ss.take i) ([], []) with
  | none =>
    have e := (List.take_append_drop i ss).symm
    rw [e, walkB_app, hz] at h
    cases h
  | some z =>
    cases hx : stepB rs z.1 z.2 s with
    | none =>
      rw [walk_none hz hs hx] at h
      cases h
    | some x => exact ⟨z, x, rfl, hx, walk_some hz hs hx⟩
theorem x_tupNL {σ : L2.St} {H : Hp} {te : TE} {xs : List V} (h : EvL te σ H xs) : EvX (tCB (rTupS K) (tCons te tNil)) σ H (fun v H' => ∃ q, v = .ref q ∧ H' q = some (.tup xs)) := fun H1 e Q q =>
  h H1 e _ fun p H2 hp e2 h2 => ⟨p, xs, rfl, .inl ⟨sq_of h2, fun l hl => q _ _ (e2.trans (Ex.new hl)) ⟨l, rfl, upd_same⟩⟩⟩
def sp_told_by (K : PySem.W.Frag) : Sp := fun vs H Q _ => ∃ (ls : List (List Nat)) (rs : List Rw) (v : V) (o : Option (List Sv)), vs = [.str (tx (progT ls)), v] ∧ ProgOk ls rs ∧ ValR K o v H ∧ (toldB rs o = none → ∀ H', Ex H H' → Q .non H') ∧
  ∀ T F, toldB rs o = some (T, F) → ∀ p a b H', Ex H H' → H' p = some (.tup [.ref a, .ref b]) → H' a = some (.tup (nmL (riseOf T))) → H' b = some (.tup (nmL (riseOf F))) → Q (.ref p) H'
theorem sc_told_by : FnScope ["program", "value", "rows", "true", "false", "step", "name"] ["program", "value"] (defScope s_told_by) := ⟨rfl, rfl, rfl, by decide +kernel, rfl, by decide +kernel, by decide +kernel⟩
theorem ok_told_by (Z : Zx K mg) : OkD prog w K mg base (L2.CX prog w) 10 "told_by" ["program", "value"] (sp_told_by K) := by
  obtain ⟨fd, F0⟩ := Z.fun_ 42
  have F : Fun K "told_by" "told_by" s_told_by (He.ga K "told_by") fd := Wk.fun_of F0
  have x_BadArgument := Z.bad
  have cBadArgument := Z.glo 59 (x := "BadArgument")
  obtain ⟨_, g_demand_names, b_demand_names, m_demand_names, k_demand_names⟩ := ok_demand_names (w := w) (base := base) Z
  obtain ⟨_, g_is_reason, b_is_reason, m_is_reason, k_is_reason⟩ := ok_is_reason (w := w) (base := base) Z
  have n_int := Z.free 66 (x := "int")
  have n_isinstance := Z.free 67 (x := "isinstance")
  have n_sorted := Z.free 74 (x := "sorted")
  have n_tuple := Z.free 76 (x := "tuple")
  refine ⟨fd, ?_, F.binds (ps := ["program", "value"]) fun _ _ _ _ _ _ us hl => match us, hl with | [_, _], _ => rfl, Z.glo 35, F.kp⟩
  refine F.okX sc_told_by (fun vs H Q E h => ?_) (fun cdv A outer s H vs Q E hr h => ?_)
  · obtain ⟨ls, rs, v, o, rfl, hpo, hv, k0, k1⟩ := h
    rfl
  · obtain ⟨ls, rs, v, o, rfl, hpo, hv, k0, k1⟩ := h
    have hu1 := hu_of hr
    refine ⟨_, (pss_cons (ps_set (i := 2) sc_told_by.nd rfl (by first | exact Or.inl rfl | exact Or.inr rfl) (pe_call g_demand_names (hr.mono (by decide)) (by rfl) m_demand_names k_demand_names b_demand_names .nil (passes_call (takes_of rfl rfl rfl rfl) (fun _ _ _ _ h => h)) (pa_cons (pv 0) pa_nil))) (pss_cons (ps_if (pt_not (pt_val (pe_call g_is_reason (hr.mono (by decide)) (by rfl) m_is_reason k_is_reason b_is_reason .nil (passes_call (takes_of rfl rfl rfl rfl) (fun _ _ _ _ h => h)) (pa_cons (pv 0) (pa_cons (pv 1) pa_nil))))) (pss_one (ps_ret pe_non)) pss_nil) (pss_cons (ps_par (i := 3) (j := 4) rfl sc_told_by.nd rfl rfl (by decide) rfl rfl (pa_cons pe_dnewK (pa_cons pe_dnewK pa_nil)) (by rfl)) (pss_cons (ps_for (passes_of rfl) rfl (pi_tup (pv 1)) (pg_name (i := 5) sc_told_by.nd rfl (by first | exact Or.inl rfl | exact Or.inr rfl)) (pss_one (ps_if (pt_val (pe_callB call_isi (by rfl) n_isinstance (by decide +kernel) (pa_cons (pv 5) (pa_cons (pe_bltn (v := .ty "int") (by rfl) n_int (by decide +kernel) rfl) pa_nil)))) (pss_one (ps_dput hu1 (pv 3) (pe_ix ix_tup (pe_ix ix_list (pv 2) (pv 5) (fun _ _ => rfl)) pe_int (fun _ _ => rfl)) pe_bl rfl)) (pss_one (ps_for (passes_of rfl) rfl (pi_tup (pv 5)) (pg_name (i := 6) sc_told_by.nd rfl (by first | exact Or.inl rfl | exact Or.inr rfl)) (pss_one (ps_dput hu1 (pv 4) (pv 6) pe_bl rfl))))))) (pss_one (ps_ret (pe_tup (pa_cons (pe_callTy call_tuple_of (by rfl) n_tuple (by decide +kernel) (pa_cons (pe_callB (call_sortedD rfl) (by rfl) n_sorted (by decide +kernel) (pa_cons (pv 3) pa_nil)) pa_nil)) (pa_cons (pe_callTy call_tuple_of (by rfl) n_tuple (by decide +kernel) (pa_cons (pe_callB (call_sortedD rfl) (by rfl) n_sorted (by decide +kernel) (pa_cons (pv 4) pa_nil)) pa_nil)) pa_nil))))))))), ?_⟩
    refine qx_asg (x_names (ev_var rfl) hpo) ?_
    rintro v1 H1 e1 ⟨a, rfl, ha0, hrs⟩
    have hn10 := hpo.2.2.2.2.1
    have hv1 := hv.ex e1
    refine q_when (b := !reasB rs o) (et_not (et_B (ev_call (vs := [.str (tx (progT ls)), v]) (ea_cons (ev_var rfl) (ea_cons (ev_var rfl) ea_nil)) (fun H2 e2 Q2 q2 E2 => ⟨ls, rs, v, o, rfl, hpo, hv1.ex e2, fun H3 e3 => q2 H3 e3⟩)))) (fun hb H2 e2 => ?_) (fun hb H2 e2 => ?_)
    · refine s_ret ev_c (fun H3 e3 => k0 ?_ H3 (e1.trans (e2.trans e3)))
      have := not_t hb
      rw [reas_told] at this
      cases hq : toldB rs o with
      | none => rfl
      | some y => rw [hq] at this; cases this
    have hsome := not_f hb
    rw [reas_told] at hsome
    obtain ⟨⟨T0, F0⟩, htold⟩ := Option.isSome_iff_exists.mp hsome
    obtain ⟨ss, rfl⟩ : ∃ ss, o = some ss := by
      cases o with
      | none => cases htold
      | some ss => exact ⟨ss, rfl⟩
    have hwalk : walkB rs ss ([], []) = some (T0, F0) := by
      have h : (if ss.length ≤ 40 then walkB rs ss ([], []) else none) = some (T0, F0) := htold
      split at h
      · exact h
      · cases h
    obtain ⟨p, us, rfl, hp, hus, hsl⟩ := hv1
    have hul := hus.1
    have hrs2 := hrs.ex e2
    refine q_parX (P := fun v H' => ∃ t, v = .ref t ∧ H2 t = none ∧ H' t = some (.dK [])) (R := fun H3 v H' => ∃ f, v = .ref f ∧ H3 f = none ∧ H' f = some (.dK [])) x_dnew (fun H3 e3 => x_dnew) ?_
    rintro v1 v2 H3 H4 e3 ⟨t, rfl, ht0, ht3⟩ e4 ⟨f, rfl, hf3, hf4⟩
    have htf : t ≠ f := ne_new ht3 hf3
    have hf0 : H2 f = none := fresh_back e3 hf3
    have e34 := e3.trans e4
    refine q_forT (K := K) (xs := us) (ev_var rfl) (st_of ((e2.trans e34) _ _ hp)) (fun i σ' H' => ∃ T F s5 s6, σ' = [some (.str (tx (progT ls))), some (.ref p), some (.ref a), some (.ref t), some (.ref f), s5, s6] ∧ Ex H2 H' ∧ H' t = some (.dK (dk T)) ∧ H' f = some (.dK (dk F)) ∧ walkB rs (ss.take i) ([], []) = some (T, F)) (fun H5 e5 => ⟨[], [], none, none, rfl, e34.trans e5, (e4.trans e5) _ _ ht3, e5 _ _ hf4, rfl⟩) (fun i σ' H' _ ⟨_, _, _, _, _, e, _⟩ => st_of (e _ _ (e2 _ _ hp))) ?_ ?_
    · rintro i x σ' H' hx ⟨T, F, s5, s6, rfl, e', ht, hf, hw⟩
      obtain ⟨s, hs, hst⟩ := AllV.at hus hx
      have htl := walkB_tl _ _ _ (Tl.nil rs) hw
      have hTl : T.length ≤ 10 := Nat.le_trans (nd_len htl.nT htl.tn) hn10
      have hFl : F.length ≤ 10 := Nat.le_trans (nd_len htl.nF htl.fn) hn10
      have E12 : Ex H1 H' := e2.trans e'
      have hst' := (StepAt.mn s).mo _ _ _ E12 hst
      have hrs' := hrs.ex E12
      obtain ⟨z, x2, hz, hstep, hnext⟩ := walk_at hwalk hs
      rw [hw] at hz
      cases hz
      show tIfS _ _ _ _ _ _
      cases s with
      | int n =>
        have hx1 : x = .int n := hst'
        subst hx1
        obtain ⟨vs, hvs, hall⟩ := hrs'
        have hvl := hall.1
        obtain ⟨r, hr, rfl⟩ := Option.map_eq_some_iff.mp hstep
        obtain ⟨h0, hrn, _, _⟩ := intB_some hr
        have hin := (List.getElem?_eq_some_iff.mp hrn).1
        obtain ⟨xv, hxv⟩ : ∃ xv, vs[n.toNat]? = some xv := ⟨_, List.getElem?_eq_getElem (by omega)⟩
        obtain ⟨pr, w, dn, rfl, c1, c2, c3⟩ := hall.2 _ _ _ hxv hrn
        have hat : atI vs n = some (.ref pr) := by
          have := atI_nat hxv
          rwa [Int.toNat_of_nonneg h0] at this
        refine s_if (b := true) (et_B (ev_isi (b := true) (ev_var rfl) (fun H9 _ => .base (.int n)) (by decide +kernel))) (fun _ H5 e5 => ?_) (fun h => absurd h (by decide))
        refine s_dput (ns := T) (c := r.1) ev_c (ev_var rfl) (ev_op (ev_op (ev_var rfl) (ev_var rfl) (rv_ixL (K := K) (sq_of (e5 _ _ hvs)) hat)) ev_c (rv_ixT (K := K) (st_of (e5 _ _ c1)) rfl)) (e5 _ _ ht) (by omega) (fun H6 e6 => ?_)
        have e56 := e5.trans e6
        exact ⟨_, _, _, _, rfl, Ex.mut (e'.trans e56) ht0, upd_same, by rw [upd_ne htf.symm]; exact e56 _ _ hf, hnext⟩
      | bl b => exact absurd hstep (by unfold stepB; exact fun h => by cases h)
      | str c => exact absurd hstep (by unfold stepB; exact fun h => by cases h)
      | tup xs =>
        obtain ⟨u, rfl, hu, hxl⟩ := hst'
        refine s_if (b := false) (et_B (ev_isi (b := false) (ev_var rfl) (fun H9 e9 => .base (.tup (e9 _ _ hu))) (by decide +kernel))) (fun h => absurd h (by decide)) (fun _ H5 e5 => ?_)
        have hs' : (if (decide (1 ≤ xs.length) && decide (xs.length ≤ 10)) && (xs.all (inNs (namesOf rs)) && unfB rs T F (msOf xs)) then some (T, addAll F (msOf xs)) else none) = some x2 := hstep
        split at hs'
        · rename_i hb
          cases hs'
          rw [Bool.and_eq_true, Bool.and_eq_true (xs.all _)] at hb
          obtain ⟨m1, m2⟩ := ms_names hb.2.1
          have hum : H5 u = some (.tup (nmL (msOf xs))) := by
            have := e5 _ _ hu
            rwa [m1, it_nm] at this
          have hml : (msOf xs).length ≤ 10 := by
            have h10 := (Bool.and_eq_true_iff.mp hb.1).2
            have := of_decide_eq_true h10
            rw [m1, List.length_map] at this
            exact this
          refine s_forTn (K := K) (xs := nmL (msOf xs)) (ev_var rfl) (st_of hum) (fun j σ' H7 => ∃ s6 : Option V, σ' = [some (.str (tx (progT ls))), some (.ref p), some (.ref a), some (.ref t), some (.ref f), some (.ref u), s6] ∧ Ex (del H5 f) (del H7 f) ∧ H7 f = some (.dK (dk (addAll F ((msOf xs).take j))))) (fun H7 e7 => ⟨s6, rfl, ex_deldel e7, by rw [List.take_zero]; exact (e5.trans e7) _ _ hf⟩) (fun j σ' H7 _ ⟨_, _, e, h9⟩ => st_of ?_) ?_ ?_
          · have hne : u ≠ f := fun x => by subst x; rw [e5 _ _ hf] at hum; cases hum
            have := e u _ (by rw [del_ne hne]; exact hum)
            rwa [del_ne hne] at this
          · rintro j x σ' H7 hj ⟨s6, rfl, e7, hf7⟩
            unfold nmL at hj
            rw [List.getElem?_map] at hj
            obtain ⟨c, hc, rfl⟩ := Option.map_eq_some_iff.mp hj
            have := addAll_len ((msOf xs).take j) F
            rw [List.length_take] at this
            refine s_dput (ns := addAll F ((msOf xs).take j)) (c := c) ev_c (ev_var rfl) (ev_var rfl) hf7 (by omega) (fun H8 e8 => ⟨_, rfl, by rw [del_upd]; exact e7.trans (ex_deldel e8), by rw [upd_same, addAll_take hc]⟩)
          · rintro σ' H7 ⟨s6, rfl, e7, hf7⟩
            rw [nmL_len, List.take_length] at hf7
            have back : ∀ b v, b ≠ f → H5 b = some v → H7 b = some v := fun b v hn h => by
              have := e7 b v (by rw [del_ne hn]; exact h)
              rwa [del_ne hn] at this
            exact ⟨_, _, _, _, rfl, fun b v h => back b v (fun x => by subst x; rw [hf0] at h; cases h) ((e'.trans e5) _ _ h), back _ _ htf (e5 _ _ ht), hf7, hnext⟩
        · cases hs'
    · rintro σ' H' ⟨T, F, s5, s6, rfl, e', ht, hf, hw⟩
      rw [hul, List.take_length, hwalk] at hw
      cases hw
      have htl := walkB_tl _ _ _ (Tl.nil rs) hwalk
      have hTl : T0.length ≤ 10 := Nat.le_trans (nd_len htl.nT htl.tn) hn10
      have hFl : F0.length ≤ 10 := Nat.le_trans (nd_len htl.nF htl.fn) hn10
      have sT : sortN T0 = riseOf T0 := sortN_rise htl.nT
      have sF : sortN F0 = riseOf F0 := sortN_rise htl.nF
      refine sx_ret (x_tup (x_cons (P := fun v H' => ∃ q, v = .ref q ∧ H' q = some (.tup (nmL (riseOf T0)))) (x_tupNL (K := K) (by rw [← sT]; exact el_sortedD (ev_var rfl) ht (by omega))) (fun v H1 H2 e ⟨q, a, b⟩ => ⟨q, a, e _ _ b⟩) (x_one (P := fun v H' => ∃ q, v = .ref q ∧ H' q = some (.tup (nmL (riseOf F0)))) (x_tupNL (K := K) (by rw [← sF]; exact el_sortedD (ev_var rfl) hf (by omega))))) (fun vs H1 H2 e ⟨v, r, h1, ⟨q, h2, h3⟩, v2, h4, q2, h5, h6⟩ => ⟨v, r, h1, ⟨q, h2, e _ _ h3⟩, v2, h4, q2, h5, e _ _ h6⟩) (fun vs H1 ⟨v, r, h1, _, v2, h4, _⟩ => by rw [h1, h4]; exact few5 rfl)) ?_
      rintro v H6 e6 ⟨q, vs, rfl, hq, v1, r, rfl, ⟨q1, rfl, g1⟩, v2, rfl, q2, rfl, g2⟩
      exact k1 T0 F0 htold q q1 q2 H6 (e1.trans (e2.trans (e'.trans e6))) hq g1 g2

end
end Tx
end
section
set_option Elab.async false
set_option linter.all false
set_option maxRecDepth 100000
set_option maxHeartbeats 4000000
namespace Tx
open PySem PySem.Spec PyProof.Rows L2 Evl Wk
section
variable {w : World} {K : PySem.W.Frag} {mg : Str → Option Value} {base : Heap}

/-- tuples stay -/
def Tu (H H' : Hp) : Prop := ∀ p zs, H p = some (.tup zs) → H' p = some (.tup zs)
theorem Tu.of {H H' : Hp} (e : Ex H H') : Tu H H' := fun p zs h => e _ _ h
theorem Tu.trans {H H' H'' : Hp} (a : Tu H H') (b : Tu H' H'') : Tu H H'' := fun p zs h => b p zs (a p zs h)
theorem Tu.upd {H : Hp} {x : Addr} {o y : HO} (h : H x = some o) (ho : ∀ zs, o ≠ .tup zs) : Tu H (upd H x y) := fun p zs hp => by
  rw [upd_ne (fun e => by subst e; rw [h] at hp; exact ho zs (Option.some.inj hp))]
  exact hp
theorem StepAt.tu {s : Sv} {v : V} {H H' : Hp} (h : StepAt s v H) (t : Tu H H') : StepAt s v H' := by
  cases s with
  | tup xs => exact let ⟨p, a, b, c⟩ := h; ⟨p, a, t _ _ b, c⟩
  | _ => exact h
theorem steps_tu {ss : List Sv} {vs : List V} {H H' : Hp} (h : AllV StepAt ss vs H) (t : Tu H H') : AllV StepAt ss vs H' := ⟨h.1, fun i v a hv ha => (h.2 i v a hv ha).tu t⟩
theorem ev_dnotinX {σ : L2.St} {H : Hp} {ty td : TE} {c : Nat} {ns : List Nat} (h : Ev ty σ H (nmV c)) (ho : EvX td σ H (fun v H' => ∃ d, v = .ref d ∧ H' d = some (.dK (dk ns)))) : Ev (tDNotIn ty td) σ H (.bl (!decide (c ∈ ns))) := fun H1 e Q q =>
  h H1 e _ fun H2 e2 => ho H2 (e.trans e2) _ fun v H3 e3 ⟨d, ev, hd⟩ => ⟨d, _, ev, DGet.k (k := Sum.inr (tx [c])) hd, by rw [val_dk]; exact q H3 (e2.trans e3)⟩
/-- for i, (x, y, z) in enumerate(a row that is there) -/
theorem s_forEnum3 {σ : L2.St} {H : Hp} {D : Ends} {tu : TS} {te : TE} {a : Addr} {xs : List V} {i j l m : Nat} (h : Ev te σ H (.ref a)) (hx : H a = some (.lst xs)) (Pv : Nat → L2.St → Hp → Prop) (h0 : ∀ H1, Ex H H1 → Pv 0 σ H1) (hl : ∀ k σ' H', Pv k σ' H' → H' a = some (.lst xs))
    (hs : ∀ (k : Nat) x σ' H' H'', xs[k]? = some x → Pv k σ' H' → Ex H' H'' → ∃ p u v w, x = .ref p ∧ H'' p = some (.tup [u, v, w]) ∧ tu { D with nx := Pv (k + 1), ct := Pv (k + 1), bk := D.nx } ((((σ'.set i (some (.int (k : Int)))).set j (some u)).set l (some v)).set m (some w)) H'') (hd : ∀ σ' H', Pv xs.length σ' H' → D.nx σ' H') :
    tFor (iEnum K (tCons te tNil)) (gTup K 2 (gCons (gName i) (gCons (gTup K 3 (gCons (gName j) (gCons (gName l) (gCons (gName m) gNil)))) gNil))) tu D σ H := h H (Ex.refl H) _ fun H1 e =>
  ⟨a, xs, rfl, sq_of (e _ _ hx), for_it (D := D) (walk_enum (K := K) (a := a) (xs := xs)) Pv (h0 H1 e) (fun k σ' H' _ q => sq_of (hl k σ' H' q)) (fun k x σ' H' H'' hk q ⟨T, u, b, ev, hT, eH, ha, hb⟩ => by
    subst ev
    subst eH
    cases ha
    obtain ⟨p, u, v, w, rfl, hp, hq⟩ := hs k b σ' H' _ hb q (Ex.new (o := .tup [.int (k : Int), b]) hT)
    exact ⟨T, _, rfl, st_of upd_same, rfl, _, _, rfl, _, _, rfl, p, _, rfl, st_of hp, rfl, _, _, rfl, _, _, rfl, _, _, rfl, rfl, rfl, hq⟩) hd⟩
theorem q_forEnum3 {σ : L2.St} {H : Hp} {D : Ends} {tu tz : TS} {te : TE} {a : Addr} {xs : List V} {i j l m : Nat} (h : Ev te σ H (.ref a)) (hx : H a = some (.lst xs)) (Pv : Nat → L2.St → Hp → Prop) (h0 : ∀ H1, Ex H H1 → Pv 0 σ H1) (hl : ∀ k σ' H', Pv k σ' H' → H' a = some (.lst xs))
    (hs : ∀ (k : Nat) x σ' H' H'', xs[k]? = some x → Pv k σ' H' → Ex H' H'' → ∃ p u v w, x = .ref p ∧ H'' p = some (.tup [u, v, w]) ∧ tu { D with nx := Pv (k + 1), ct := Pv (k + 1), bk := tz D } ((((σ'.set i (some (.int (k : Int)))).set j (some u)).set l (some v)).set m (some w)) H'') (hd : ∀ σ' H', Pv xs.length σ' H' → tz D σ' H') :
    tSeq (tFor (iEnum K (tCons te tNil)) (gTup K 2 (gCons (gName i) (gCons (gTup K 3 (gCons (gName j) (gCons (gName l) (gCons (gName m) gNil)))) gNil))) tu) tz D σ H := s_forEnum3 (D := { D with nx := tz D }) h hx Pv h0 hl hs hd
theorem q_when2 {σ : L2.St} {H : Hp} {t : TT} {D : Ends} {tu tz : TS} {b : Bool} (P : L2.St → Hp → Prop) (h : EvT t σ H b) (h1 : b = true → ∀ H1, Ex H H1 → ∀ N : L2.St → Hp → Prop, (∀ σ' H', P σ' H' → N σ' H') → tu { D with nx := N } σ H1) (h2 : b = false → ∀ H1, Ex H H1 → P σ H1) (k : ∀ σ' H', P σ' H' → tz D σ' H') : tSeq (tIfS t tu tNext) tz D σ H :=
  q_when h (fun hb H1 e1 => h1 hb H1 e1 (tz D) k) (fun hb H1 e1 => k _ _ (h2 hb H1 e1))
/-- the rule of a number is right -/
theorem stepB_int {rs : List Rw} {T F : List Nat} {i : Nat} {r : Rw} (h : rs[i]? = some r) (hg : ((r.2.1.all fun c => decide (c ∈ T)) && (r.2.2.all fun c => decide (c ∈ F))) = true) : stepB rs T F (.int (i : Int)) = some (addN T r.1, F) := by
  show (intB rs T F (i : Int)).map _ = _
  unfold intB
  rw [if_pos (by omega), Int.toNat_natCast, h, Option.filter_some, if_pos hg]
  rfl
def moreOf (rs : List Rw) (T F : List Nat) : List Nat := ((namesOf rs).filter fun c => !decide (c ∈ fixOf (okH T F) rs)).filter fun c => !decide (c ∈ F)
theorem more_mem {rs : List Rw} {T F : List Nat} {c : Nat} : c ∈ moreOf rs T F ↔ c ∈ namesOf rs ∧ c ∉ fixOf (okH T F) rs ∧ c ∉ F := by
  unfold moreOf
  rw [List.mem_filter, List.mem_filter, Bool.not_eq_true', Bool.not_eq_true', decide_eq_false_iff_not, decide_eq_false_iff_not, and_assoc]
theorem more_nd (rs : List Rw) (T F : List Nat) : (moreOf rs T F).Nodup := (ris_nodup (((namesOf_ris rs).sublist List.filter_sublist).sublist List.filter_sublist))
theorem more_len (rs : List Rw) (T F : List Nat) : (moreOf rs T F).length ≤ (namesOf rs).length := nd_len (more_nd rs T F) fun c hc => (more_mem.mp hc).1
theorem stepB_more {rs : List Rw} {T F : List Nat} (hn : (namesOf rs).length ≤ 10) (hne : moreOf rs T F ≠ []) : stepB rs T F (.tup ((moreOf rs T F).map some)) = some (T, addAll F (moreOf rs T F)) := by
  have hl := more_len rs T F
  have h1 : 1 ≤ (moreOf rs T F).length := by
    cases h : moreOf rs T F with
    | nil => exact absurd h hne
    | cons a b => simp
  show (if (decide (1 ≤ ((moreOf rs T F).map some).length) && decide (((moreOf rs T F).map some).length ≤ 10)) && (((moreOf rs T F).map some).all (inNs (namesOf rs)) && unfB rs T F (msOf ((moreOf rs T F).map some))) then some (T, addAll F (msOf ((moreOf rs T F).map some))) else none) = _
  rw [msOf_some, List.length_map, decide_eq_true h1, decide_eq_true (by omega : (moreOf rs T F).length ≤ 10)]
  have e1 : ((moreOf rs T F).map some).all (inNs (namesOf rs)) = true := by
    rw [List.all_map, List.all_eq_true]
    exact fun c hc => decide_eq_true (more_mem.mp hc).1
  have e2 : unfB rs T F (moreOf rs T F) = true := unfB_iff.mpr fun r hr hm ho => by
    apply Decidable.byContradiction
    intro hno
    refine (more_mem.mp hm).2.1 (fix_closed hr ho fun c hc => ?_)
    apply Decidable.byContradiction
    intro hcf
    exact hno ⟨c, hc, more_mem.mpr ⟨(rows_names hr).2.1 c hc, hcf, (okH_iff.mp ho).1 c hc⟩⟩
  rw [e1, e2]
  rfl
theorem addAll_more {rs : List Rw} {T F : List Nat} : (addAll F (moreOf rs T F)).length = F.length + (moreOf rs T F).length := by
  rw [addAll_nodup _ _ (more_nd rs T F) fun c hc => (more_mem.mp hc).2.2, List.length_append]
theorem addN_new {T : List Nat} {c : Nat} (h : c ∉ T) : addN T c = T ++ [c] := by
  have := addAll_nodup [c] T (by simp) fun d hd => by rw [List.mem_singleton.mp hd]; exact h
  exact this
theorem walk_snoc {rs : List Rw} {ss : List Sv} {s : Sv} {T F T' F' : List Nat} (h : walkB rs ss ([], []) = some (T, F)) (hs : stepB rs T F s = some (T', F')) : walkB rs (ss ++ [s]) ([], []) = some (T', F') := by
  rw [walkB_app, h]
  show walkB rs [s] (T, F) = _
  rw [walkB, hs]
  rfl
def szS : Sv → Nat
  | .tup xs => xs.length
  | _ => 0
def totS (ss : List Sv) : Nat := (ss.map szS).sum
theorem totS_app (a b : List Sv) : totS (a ++ b) = totS a + totS b := by unfold totS; rw [List.map_append, List.sum_append]
def sp_reason (K : PySem.W.Frag) : Sp := fun vs H Q _ => ∃ (ls : List (List Nat)) (rs : List Rw), vs = [.str (tx (progT ls))] ∧ ProgOk ls rs ∧ ∀ p us ss T F H', Ex H H' → H' p = some (.tup us) → AllV StepAt ss us H' → walkB rs ss ([], []) = some (T, F) → Full rs T F → ss.length ≤ 2 * (namesOf rs).length → totS ss ≤ (namesOf rs).length → Q (.ref p) H'
theorem sc_reason : FnScope ["program", "rows", "found", "true", "false", "is_new", "at", "head", "wanted", "denied", "is_good", "name", "more"] ["program"] (defScope s_reason) := ⟨rfl, rfl, rfl, by decide +kernel, rfl, by decide +kernel, by decide +kernel⟩
theorem ok_reason (Z : Zx K mg) : OkD prog w K mg base (L2.CX prog w) 9 "reason" ["program"] (sp_reason K) := by
  obtain ⟨fd, F0⟩ := Z.fun_ 40
  have F : Fun K "reason" "reason" s_reason (He.ga K "reason") fd := Wk.fun_of F0
  have x_BadArgument := Z.bad
  have cBadArgument := Z.glo 59 (x := "BadArgument")
  obtain ⟨_, g_demand_names, b_demand_names, m_demand_names, k_demand_names⟩ := ok_demand_names (w := w) (base := base) Z
  obtain ⟨_, g_high_of, b_high_of, m_high_of, k_high_of⟩ := ok_high_of (w := w) (base := base) Z
  obtain ⟨_, g_names_of, b_names_of, m_names_of, k_names_of⟩ := ok_names_of (w := w) (base := base) Z
  have n_all := Z.free 62 (x := "all")
  have n_enumerate := Z.free 65 (x := "enumerate")
  have n_len := Z.free 68 (x := "len")
  have n_tuple := Z.free 76 (x := "tuple")
  refine ⟨fd, ?_, F.binds (ps := ["program"]) fun _ _ _ _ _ _ us hl => match us, hl with | [_], _ => rfl, Z.glo 33, F.kp⟩
  refine F.okX sc_reason (fun vs H Q E h => ?_) (fun cdv A outer s H vs Q E hr h => ?_)
  · obtain ⟨ls, rs, rfl, hpo, k⟩ := h
    rfl
  · obtain ⟨ls, rs, rfl, hpo, k⟩ := h
    have hu1 := hu_of hr
    refine ⟨_, (pss_cons (ps_set (i := 1) sc_reason.nd rfl (by first | exact Or.inl rfl | exact Or.inr rfl) (pe_call g_demand_names (hr.mono (by decide)) (by rfl) m_demand_names k_demand_names b_demand_names .nil (passes_call (takes_of rfl rfl rfl rfl) (fun _ _ _ _ h => h)) (pa_cons (pv 0) pa_nil))) (pss_cons (ps_set (i := 2) sc_reason.nd rfl (by first | exact Or.inl rfl | exact Or.inr rfl) (pe_lst pa_nil)) (pss_cons (ps_asg (pe_tup (pa_cons pe_dnewK (pa_cons pe_dnewK pa_nil))) (pg_tup rfl (pgs_cons (pg_name (i := 3) sc_reason.nd rfl (by first | exact Or.inl rfl | exact Or.inr rfl)) (pgs_cons (pg_name (i := 4) sc_reason.nd rfl (by first | exact Or.inl rfl | exact Or.inr rfl)) pgs_nil)))) (pss_cons (ps_set (i := 5) sc_reason.nd rfl (by first | exact Or.inl rfl | exact Or.inr rfl) pe_bl) (pss_cons (ps_while (passes_of rfl) (pt_val (pv 5)) (pss_cons (ps_set (i := 5) sc_reason.nd rfl (by first | exact Or.inl rfl | exact Or.inr rfl) pe_bl) (pss_cons (ps_for (passes_of rfl) rfl (pi_enum (by rfl) n_enumerate (pa_cons (pv 1) pa_nil)) (pg_tup rfl (pgs_cons (pg_name (i := 6) sc_reason.nd rfl (by first | exact Or.inl rfl | exact Or.inr rfl)) (pgs_cons (pg_tup rfl (pgs_cons (pg_name (i := 7) sc_reason.nd rfl (by first | exact Or.inl rfl | exact Or.inr rfl)) (pgs_cons (pg_name (i := 8) sc_reason.nd rfl (by first | exact Or.inl rfl | exact Or.inr rfl)) (pgs_cons (pg_name (i := 9) sc_reason.nd rfl (by first | exact Or.inl rfl | exact Or.inr rfl)) pgs_nil)))) pgs_nil))) (pss_cons (ps_set (i := 10) sc_reason.nd rfl (by first | exact Or.inl rfl | exact Or.inr rfl) (pe_and (pe_callB (cr_all rfl) (by rfl) n_all (by decide +kernel) (pa_cons (pe_lc (own := [("name", 11)]) rfl sc_reason.nd (pi_list (pv 8)) (blkOk_by (own := [("name", 11)]) (N := ["program", "rows", "found", "true", "false", "is_new", "at", "head", "wanted", "denied", "is_good", "name", "more"]) (sc := defScope s_reason) (by decide +kernel)) (fun _ _ _ _ _ => pg_name (i := 11) sc_reason.nd rfl (by first | exact Or.inl rfl | exact Or.inr rfl)) (fun _ _ _ _ _ => pts_nil) (fun _ _ _ _ _ => (pe_cmp (pc_din hu1 (pv 11) (pv 3)) (by rfl)))) pa_nil)) (pe_one (pe_callB (cr_all rfl) (by rfl) n_all (by decide +kernel) (pa_cons (pe_lc (own := [("name", 11)]) rfl sc_reason.nd (pi_list (pv 9)) (blkOk_by (own := [("name", 11)]) (N := ["program", "rows", "found", "true", "false", "is_new", "at", "head", "wanted", "denied", "is_good", "name", "more"]) (sc := defScope s_reason) (by decide +kernel)) (fun _ _ _ _ _ => pg_name (i := 11) sc_reason.nd rfl (by first | exact Or.inl rfl | exact Or.inr rfl)) (fun _ _ _ _ _ => pts_nil) (fun _ _ _ _ _ => (pe_cmp (pc_din hu1 (pv 11) (pv 4)) (by rfl)))) pa_nil))))) (pss_one (ps_if (pw_and (pt_val (pv 10)) (pw_and1 (pt_cmp (pc_dnotin hu1 (pv 7) (pv 3)) (by rfl)))).pt (pss_cons (ps_dput hu1 (pv 3) (pv 7) pe_bl rfl) (pss_cons (ps_expr (pe_bm PySem.F.plainAttrs_list PySem.F.slot_list_append PySem.F.type_list_append mt_append (pv 2) (pa_cons (pv 6) pa_nil))) (pss_one (ps_set (i := 5) sc_reason.nd rfl (by first | exact Or.inl rfl | exact Or.inr rfl) pe_bl)))) pss_nil)))) (pss_cons (ps_setLc (i := 12) (tt := (tB (tDNotIn (tVar 11) (tCall (sp_high_of K) [] (fun _ _ _ => False) (tCons (tVar 1) (tCons (tVar 3) (tCons (tVar 4) tNil))))))) (own := [("name", 11)]) rfl sc_reason.nd rfl rfl (sw_true rfl rfl rfl (by decide +kernel)) (pi_list (pe_call g_names_of (hr.mono (by decide)) (by rfl) m_names_of k_names_of b_names_of .nil pass0 (pa_cons (pv 1) pa_nil))) (blkOk_by (own := [("name", 11)]) (N := ["program", "rows", "found", "true", "false", "is_new", "at", "head", "wanted", "denied", "is_good", "name", "more"]) (sc := defScope s_reason) (by decide +kernel)) (fun _ _ _ _ _ => pg_name (i := 11) sc_reason.nd rfl (by first | exact Or.inl rfl | exact Or.inr rfl)) (fun _ _ _ _ _ => pts_one (pt_cmp (pc_dnotin hu1 (pv 11) (pe_call g_high_of (hr.mono (by decide)) (by rfl) m_high_of k_high_of b_high_of .nil pass0 (pa_cons (pv 1) (pa_cons (pv 3) (pa_cons (pv 4) pa_nil))))) (by rfl))) (fun _ _ _ _ _ => (pv 11))) (pss_cons (ps_set (i := 12) sc_reason.nd rfl (by first | exact Or.inl rfl | exact Or.inr rfl) (pe_callTy call_tuple_of (by rfl) n_tuple (by decide +kernel) (pa_cons (pe_lc (own := [("name", 11)]) rfl sc_reason.nd (pi_list (pv 12)) (blkOk_by (own := [("name", 11)]) (N := ["program", "rows", "found", "true", "false", "is_new", "at", "head", "wanted", "denied", "is_good", "name", "more"]) (sc := defScope s_reason) (by decide +kernel)) (fun _ _ _ _ _ => pg_name (i := 11) sc_reason.nd rfl (by first | exact Or.inl rfl | exact Or.inr rfl)) (fun _ _ _ _ _ => pts_one (pt_cmp (pc_dnotin hu1 (pv 11) (pv 4)) (by rfl))) (fun _ _ _ _ _ => (pv 11))) pa_nil))) (pss_cons (ps_if (pt_cmpR op_gt (pe_callB call_len_seq (by rfl) n_len (by decide +kernel) (pa_cons (pv 12) pa_nil)) pe_int (nomark _)) (pss_cons (ps_expr (pe_bm PySem.F.plainAttrs_list PySem.F.slot_list_append PySem.F.type_list_append mt_append (pv 2) (pa_cons (pv 12) pa_nil))) (pss_one (ps_set (i := 5) sc_reason.nd rfl (by first | exact Or.inl rfl | exact Or.inr rfl) pe_bl))) pss_nil) (pss_one (ps_for (passes_of rfl) rfl (pi_tup (pv 12)) (pg_name (i := 11) sc_reason.nd rfl (by first | exact Or.inl rfl | exact Or.inr rfl)) (pss_one (ps_dput hu1 (pv 4) (pv 11) pe_bl rfl)))))))))) (pss_one (ps_ret (pe_callTy call_tuple_of (by rfl) n_tuple (by decide +kernel) (pa_cons (pv 2) pa_nil))))))))), ?_⟩
    refine qx_asg (x_names (ev_var rfl) hpo) ?_
    rintro v1 H1 e1 ⟨a, rfl, ha0, hrs⟩
    have hn10 := hpo.2.2.2.2.1
    obtain ⟨us, ha, hall⟩ := hrs
    have hul := hall.1
    have hr30 := hpo.2.2.2.1.1
    refine q_asgL (xs := []) (el_lst ea_nil (few5 rfl)) (fun o H2 ho e2 h2 => ?_)
    refine q_asgTupX (P2 := fun x y H' => ∃ t f, x = .ref t ∧ y = .ref f ∧ H2 t = none ∧ H2 f = none ∧ t ≠ f ∧ H' t = some (.dK []) ∧ H' f = some (.dK [])) ((x_tup (PA := fun vs H' => ∃ t f, vs = [.ref t, .ref f] ∧ H2 t = none ∧ H2 f = none ∧ t ≠ f ∧ H' t = some (.dK []) ∧ H' f = some (.dK [])) (fun H3 e3 Q3 q3 => ?_) (fun vs H3 H4 e ⟨t, f, h1, h2, h3, h4, h5, h6⟩ => ⟨t, f, h1, h2, h3, h4, e _ _ h5, e _ _ h6⟩) (fun vs H3 ⟨t, f, h1, _⟩ => by rw [h1]; exact few5 rfl)).imp ?_) ?_
    · intro t ht f hf
      have htf : t ≠ f := ne_new (upd_same (H := H3) (a := t)) hf
      exact q3 _ _ ((Ex.new ht).trans (Ex.new hf)) ⟨t, f, rfl, fresh_back e3 ht, fresh_back (e3.trans (Ex.new ht)) hf, htf, by rw [upd_ne htf]; exact upd_same, upd_same⟩
    · rintro u H3 ⟨q, vs, rfl, hq, t, f, rfl, h1⟩
      exact ⟨q, _, _, rfl, hq, t, f, rfl, rfl, h1⟩
    rintro x y H3 e3 ⟨t, f, rfl, rfl, ht2, hf2, htf, ht3, hf3⟩
    refine q_asg ev_c (fun H4 e4 => ?_)
    have ht0 : H1 t = none := fresh_back e2 ht2
    have hf0 : H1 f = none := fresh_back e2 hf2
    have hot : o ≠ t := ne_new h2 ht2
    have hof : o ≠ f := ne_new h2 hf2
    obtain ⟨W, hW⟩ : ∃ W : Nat → L2.St → Hp → Prop, W = fun m σ' H' => ∃ (T F : List Nat) (ss : List Sv) (vs : List V) (new : Bool) (s6 s7 s8 s9 s10 s11 s12 : Option V), σ' = [some (.str (tx (progT ls))), some (.ref a), some (.ref o), some (.ref t), some (.ref f), some (.bl new), s6, s7, s8, s9, s10, s11, s12] ∧ Ex H1 H' ∧ H' o = some (.lst vs) ∧ H' t = some (.dK (dk T)) ∧ H' f = some (.dK (dk F)) ∧ AllV StepAt ss vs H' ∧ walkB rs ss ([], []) = some (T, F) ∧ ss.length ≤ T.length + F.length ∧ totS ss ≤ F.length ∧
      (new = true → 21 ≤ m + T.length + F.length) ∧ (new = false → Full rs T F) := ⟨_, rfl⟩
    refine q_while W 21 (by
      rw [hW]
      exact ⟨[], [], [], [], true, none, none, none, none, none, none, none, rfl, e2.trans (e3.trans e4), (e3.trans e4) _ _ h2, e4 _ _ ht3, e4 _ _ hf3, AllV.nil, rfl, by simp, by simp [totS], (fun _ => by simp), (fun h => by cases h)⟩) ?_
    intro m σ' H' hw
    rw [hW] at hw
    obtain ⟨T, F, ss, vs, new, s6, s7, s8, s9, s10, s11, s12, rfl, e', ho', ht', hf', hss, hwk, hsl, htot, w1, w2⟩ := hw
    refine ⟨new, et_B (ev_var rfl), fun hb H5 e5 => ?_, fun hb H5 e5 => ?_⟩
    · subst hb
      have hm := w1 rfl
      have htl := walkB_tl _ _ _ (Tl.nil rs) hwk
      have hFl : F.length ≤ 10 := Nat.le_trans (nd_len htl.nF htl.fn) hn10
      refine ⟨fun σ2 H6 => ∃ m', m' < m ∧ W m' σ2 H6, fun _ _ h => h, ?_⟩
      refine q_asg ev_c (fun H6 e6 => ?_)
      have e56 := e5.trans e6
      refine q_forEnum3 (K := K) (xs := us) (ev_var rfl) (e56 _ _ (e' _ _ ha)) (fun i σ' H7 => ∃ T' ss' vs' new' s6 s7 s8 s9 s10, σ' = [some (.str (tx (progT ls))), some (.ref a), some (.ref o), some (.ref t), some (.ref f), some (.bl new'), s6, s7, s8, s9, s10, s11, s12] ∧ Ex H1 H7 ∧ H7 o = some (.lst vs') ∧ H7 t = some (.dK (dk T')) ∧ H7 f = some (.dK (dk F)) ∧ AllV StepAt ss' vs' H7 ∧ walkB rs ss' ([], []) = some (T', F) ∧ ss'.length ≤ T'.length + F.length ∧ totS ss' ≤ F.length ∧
        T.length ≤ T'.length ∧ (new' = true → T.length < T'.length) ∧ (new' = false → T' = T ∧ ∀ r, r ∈ rs.take i → ((r.2.1.all fun c => decide (c ∈ T)) && (r.2.2.all fun c => decide (c ∈ F))) = true → r.1 ∈ T))
        (fun H7 e7 => ⟨T, ss, vs, false, s6, s7, s8, s9, s10, rfl, e'.trans (e56.trans e7), (e56.trans e7) _ _ ho', (e56.trans e7) _ _ ht', (e56.trans e7) _ _ hf', steps_tu hss (Tu.of (e56.trans e7)), hwk, hsl, htot, Nat.le_refl _, (fun h => by cases h), fun _ => ⟨rfl, fun r hr => by simp at hr⟩⟩) (fun i σ' H7 ⟨_, _, _, _, _, _, _, _, _, _, e, _⟩ => e _ _ ha) ?_ ?_
      · rintro i x σ' H7 H8 hx ⟨T', ss', vs', new', s6, s7, s8, s9, s10, rfl, e7, ho7, ht7, hf7, hss7, hwk7, hsl7, htot7, hT1, hT2, hT3⟩ e8
        obtain ⟨r, hr, pr, w, dn, rfl, c1, c2, c3⟩ := AllV.at hall hx
        obtain ⟨z1, z2⟩ := hpo.2.2.2.1.2.1 r (List.mem_of_getElem? hr)
        have e78 := e7.trans e8
        refine ⟨pr, _, _, _, rfl, e78 _ _ c1, ?_⟩
        have c2 := e78 _ _ c2
        have c3 := e78 _ _ c3
        have htl7 := walkB_tl _ _ _ (Tl.nil rs) hwk7
        have hTl7 : T'.length ≤ 10 := Nat.le_trans (nd_len htl7.nT htl7.tn) hn10
        have hvl7 := hss7.1
        refine q_asg (v := .bl ((r.2.1.all fun c => decide (c ∈ T')) && (r.2.2.all fun c => decide (c ∈ F)))) (ev_andV (ev_allc (K := K) (p := fun c => decide (c ∈ T')) (as := r.2.1) (inj := nmV) (ei_L (K := K) (ev_var rfl) (sq_of c2)) (by omega) (fun _ => rfl) (fun c _ H9 e9 => ev_din (ev_var rfl) (ev_var rfl) ((e8.trans e9) _ _ ht7))) (fun _ => ev_allc (K := K) (p := fun c => decide (c ∈ F)) (as := r.2.2) (inj := nmV) (ei_L (K := K) (ev_var rfl) (sq_of c3)) (by omega) (fun _ => rfl) (fun c _ H9 e9 => ev_din (ev_var rfl) (ev_var rfl) ((e8.trans e9) _ _ hf7)))) (fun H9 e9 => ?_)
        have e89 := e8.trans e9
        refine s_when (b := ((r.2.1.all fun c => decide (c ∈ T')) && (r.2.2.all fun c => decide (c ∈ F))) && !decide (r.1 ∈ T')) (et_and (et_B (ev_var rfl)) (fun _ => et_B (ev_dnotin (ev_var rfl) (ev_var rfl) (e89 _ _ ht7)))) (fun hb H10 e10 => ?_) (fun hb H10 e10 => ?_)
        · rw [Bool.and_eq_true] at hb
          have hnT : r.1 ∉ T' := of_decide_eq_false (not_t hb.2)
          have e810 := e89.trans e10
          refine q_dput (ns := T') (c := r.1) ev_c (ev_var rfl) (ev_var rfl) (e810 _ _ ht7) (by omega) (fun H11 e11 => ?_)
          have e811 := e810.trans e11
          have hto : upd H11 t (.dK (dk (addN T' r.1))) o = some (.lst vs') := by rw [upd_ne hot]; exact e811 _ _ ho7
          refine q_app (xs := vs') hto (ev_var rfl) (ev_var rfl) (by omega) (fun H12 e12 => ?_)
          have h12o := e12 _ _ hto
          refine s_asg ev_c (fun H13 e13 => ?_)
          have u1 : Tu H11 (upd H11 t (.dK (dk (addN T' r.1)))) := Tu.upd (e811 _ _ ht7) (fun zs h => by cases h)
          have u2 : Tu H12 (upd H12 o (.lst (vs' ++ [.int (i : Int)]))) := Tu.upd h12o (fun zs h => by cases h)
          have uu : Tu H7 H13 := (Tu.of e811).trans (u1.trans ((Tu.of e12).trans (u2.trans (Tu.of e13))))
          have E13 : Ex H1 H13 := (Ex.mut ((Ex.mut (e7.trans e811) ht0).trans e12) ho).trans e13
          refine ⟨addN T' r.1, ss' ++ [.int (i : Int)], vs' ++ [.int (i : Int)], true, _, _, _, _, _, rfl, E13, e13 _ _ upd_same, e13 _ _ ?_, e13 _ _ ?_, AllV.cat (steps_tu hss7 uu) (AllV.cons (show StepAt (.int (i : Int)) (.int (i : Int)) _ from rfl) AllV.nil), walk_snoc hwk7 (stepB_int hr hb.1), ?_, by rw [totS_app]; exact htot7, ?_, fun _ => ?_, fun h => by cases h⟩
          · rw [upd_ne hot.symm]; exact e12 _ _ upd_same
          · rw [upd_ne hof.symm]; exact e12 _ _ (by rw [upd_ne htf.symm]; exact e811 _ _ hf7)
          · rw [addN_new hnT, List.length_append, List.length_append]
            show _ + 1 ≤ _ + 1 + _
            omega
          · rw [addN_new hnT, List.length_append]
            omega
          · rw [addN_new hnT, List.length_append]
            show _ < _ + 1
            omega
        · have e810 := e89.trans e10
          refine ⟨T', ss', vs', new', _, _, _, _, _, rfl, e7.trans e810, e810 _ _ ho7, e810 _ _ ht7, e810 _ _ hf7, steps_tu hss7 (Tu.of e810), hwk7, hsl7, htot7, hT1, hT2, fun h => ?_⟩
          obtain ⟨h1, h2⟩ := hT3 h
          refine ⟨h1, fun q hq hg => ?_⟩
          rw [List.take_add_one, hr, List.mem_append] at hq
          rcases hq with hq | hq
          · exact h2 q hq hg
          · have e : q = r := by simpa using hq
            subst e
            rw [h1, hg, Bool.true_and] at hb
            exact of_decide_eq_true (not_f hb)
      · rintro σ' H7 ⟨T', ss', vs', new', s6, s7, s8, s9, s10, rfl, e7, ho7, ht7, hf7, hss7, hwk7, hsl7, htot7, hT1, hT2, hT3⟩
        rw [hul, List.take_length] at hT3
        have htl7 := walkB_tl _ _ _ (Tl.nil rs) hwk7
        have hTl7 : T'.length ≤ 10 := Nat.le_trans (nd_len htl7.nT htl7.tn) hn10
        have hvl7 := hss7.1
        have hrs7 : ∀ H8, Ex H7 H8 → RowsAt rs a H8 := fun H8 e8 => ⟨us, (e7.trans e8) _ _ ha, AllV.mo RowAt.mo _ _ _ (e7.trans e8) hall⟩
        have hml := more_len rs T' F
        refine q_asgL (xs := nmL ((namesOf rs).filter fun c => !decide (c ∈ fixOf (okH T' F) rs))) (el_lc (as := namesOf rs) (inj := nmV) (fun c => !decide (c ∈ fixOf (okH T' F) rs)) nmV (ei_NL (el_call (ea_cons (ev_var rfl) ea_nil) (fun H8 e8 Q8 q8 E8 => ⟨a, rs, rfl, hrs7 H8 e8, hpo.2.2.2.1, q8⟩))) (by omega) (fun _ => rfl) (fun c _ H8 e8 => et_B (ev_dnotinX (ns := fixOf (okH T' F) rs) (ev_var rfl) (x_call (vs := [.ref a, .ref t, .ref f]) (ea_cons (ev_var rfl) (ea_cons (ev_var rfl) (ea_cons (ev_var rfl) ea_nil))) (fun H9 e9 Q9 q9 E9 => ⟨a, t, f, rs, T', F, rfl, hrs7 H9 (e8.trans e9), (e8.trans e9) _ _ ht7, (e8.trans e9) _ _ hf7, hpo.2.2.2.1, fun p H10 hp e10 h10 => q9 _ H10 e10 ⟨p, rfl, h10⟩⟩)))) (fun c _ H8 e8 _ => ev_var rfl)) (fun l H8 hl e8 h8 => ?_)
        have hfl : ((namesOf rs).filter fun c => !decide (c ∈ fixOf (okH T' F) rs)).length ≤ 10 := Nat.le_trans (List.length_filter_le _ _) hn10
        refine qx_asg (x_tupNL (K := K) (xs := nmL (moreOf rs T' F)) (el_lc (as := (namesOf rs).filter fun c => !decide (c ∈ fixOf (okH T' F) rs)) (inj := nmV) (fun c => !decide (c ∈ F)) nmV (ei_L (K := K) (ev_var rfl) (sq_of h8)) (by omega) (fun _ => rfl) (fun c _ H9 e9 => et_B (ev_dnotin (ev_var rfl) (ev_var rfl) ((e8.trans e9) _ _ hf7))) (fun c _ H9 e9 _ => ev_var rfl))) ?_
        rintro v H9 e9 ⟨q, rfl, hq⟩
        have e79 := e8.trans e9
        have E9 := e7.trans e79
        refine q_when2 (b := decide (0 < (moreOf rs T' F).length)) (P := fun σ2 H10 => ∃ ss2 vs2, σ2 = [some (.str (tx (progT ls))), some (.ref a), some (.ref o), some (.ref t), some (.ref f), some (.bl (new' || decide (0 < (moreOf rs T' F).length))), s6, s7, s8, s9, s10, s11, some (.ref q)] ∧ Ex H1 H10 ∧ H10 o = some (.lst vs2) ∧ H10 t = some (.dK (dk T')) ∧ H10 f = some (.dK (dk F)) ∧ H10 q = some (.tup (nmL (moreOf rs T' F))) ∧ AllV StepAt ss2 vs2 H10 ∧ walkB rs ss2 ([], []) = some (T', addAll F (moreOf rs T' F)) ∧ ss2.length ≤ T'.length + (addAll F (moreOf rs T' F)).length ∧ totS ss2 ≤ (addAll F (moreOf rs T' F)).length) (et_test (ev_is (ev_op (ev_lenT (K := K) (ev_var rfl) (st_of hq)) ev_c rv_I0) ?_)) (fun hb H10 e10 N kN => ?_) (fun hb H10 e10 => ?_) ?_
        · rw [nmL_len]
          congr 1
          rw [decide_eq_decide]
          omega
        · have hpos := of_decide_eq_true hb
          have hne : moreOf rs T' F ≠ [] := fun h => by rw [h] at hpos; exact absurd hpos (by simp)
          have e710 := e79.trans e10
          refine q_app (xs := vs') (e710 _ _ ho7) (ev_var rfl) (ev_var rfl) (by omega) (fun H11 e11 => ?_)
          refine s_asg ev_c (fun H12 e12 => ?_)
          have e711 := e710.trans e11
          have u2 : Tu H11 (upd H11 o (.lst (vs' ++ [.ref q]))) := Tu.upd (e711 _ _ ho7) (fun zs h => by cases h)
          have hq12 : H12 q = some (.tup (nmL (moreOf rs T' F))) := e12 _ _ (u2 _ _ ((e10.trans e11) _ _ hq))
          refine kN _ _ ⟨ss' ++ [.tup ((moreOf rs T' F).map some)], vs' ++ [.ref q], by rw [hb, Bool.or_true]; rfl, (Ex.mut (e7.trans e711) ho).trans e12, e12 _ _ upd_same, e12 _ _ ?_, e12 _ _ ?_, hq12, AllV.cat (steps_tu hss7 ((Tu.of e711).trans (u2.trans (Tu.of e12)))) (AllV.cons (show StepAt (.tup ((moreOf rs T' F).map some)) (.ref q) H12 from ⟨q, rfl, by rw [it_nm]; exact hq12, by rw [List.length_map]; omega⟩) AllV.nil), walk_snoc hwk7 (stepB_more hn10 hne), ?_, ?_⟩
          · rw [upd_ne hot.symm]; exact e711 _ _ ht7
          · rw [upd_ne hof.symm]; exact e711 _ _ hf7
          · rw [List.length_append, addAll_more]
            show _ + 1 ≤ _
            omega
          · rw [totS_app, addAll_more]
            show _ + (((moreOf rs T' F).map some).length + 0) ≤ _
            rw [List.length_map]
            omega
        · have h0 : moreOf rs T' F = [] := List.length_eq_zero_iff.mp (by have := of_decide_eq_false hb; omega)
          have e710 := e79.trans e10
          refine ⟨ss', vs', by rw [hb, Bool.or_false]; rfl, e7.trans e710, e710 _ _ ho7, e710 _ _ ht7, e710 _ _ hf7, e10 _ _ hq, steps_tu hss7 (Tu.of e710), by rw [h0]; exact hwk7, by rw [h0]; exact hsl7, by rw [h0]; exact htot7⟩
        rintro σ2 H10 ⟨ss2, vs2, rfl, e10, ho10, ht10, hf10, hq10, hss10, hwk10, hsl10, htot10⟩
        have hvl10 := hss10.1
        refine s_forTn (K := K) (xs := nmL (moreOf rs T' F)) (ev_var rfl) (st_of hq10) (fun j σ' H11 => ∃ s11 : Option V, σ' = [some (.str (tx (progT ls))), some (.ref a), some (.ref o), some (.ref t), some (.ref f), some (.bl (new' || decide (0 < (moreOf rs T' F).length))), s6, s7, s8, s9, s10, s11, some (.ref q)] ∧ Ex H1 H11 ∧ H11 o = some (.lst vs2) ∧ H11 t = some (.dK (dk T')) ∧ H11 f = some (.dK (dk (addAll F ((moreOf rs T' F).take j)))) ∧ H11 q = some (.tup (nmL (moreOf rs T' F))) ∧ Tu H10 H11) (fun H11 e11 => ⟨s11, rfl, e10.trans e11, e11 _ _ ho10, e11 _ _ ht10, by rw [List.take_zero]; exact e11 _ _ hf10, e11 _ _ hq10, Tu.of e11⟩) (fun j σ' H11 _ ⟨_, _, _, _, _, _, h, _⟩ => st_of h) ?_ ?_
        · rintro j x σ' H11 hj ⟨s11, rfl, e11, ho11, ht11, hf11, hq11, hu11⟩
          unfold nmL at hj
          rw [List.getElem?_map] at hj
          obtain ⟨c, hc, rfl⟩ := Option.map_eq_some_iff.mp hj
          have := addAll_len ((moreOf rs T' F).take j) F
          rw [List.length_take] at this
          refine s_dput (ns := addAll F ((moreOf rs T' F).take j)) (c := c) ev_c (ev_var rfl) (ev_var rfl) hf11 (by omega) (fun H12 e12 => ?_)
          have u1 : Tu H12 (upd H12 f (.dK (dk (addN (addAll F ((moreOf rs T' F).take j)) c)))) := Tu.upd (e12 _ _ hf11) (fun zs h => by cases h)
          exact ⟨_, rfl, Ex.mut (e11.trans e12) hf0, by rw [upd_ne hof]; exact e12 _ _ ho11, by rw [upd_ne htf]; exact e12 _ _ ht11, by rw [upd_same, addAll_take hc], u1 _ _ (e12 _ _ hq11), hu11.trans ((Tu.of e12).trans u1)⟩
        · rintro σ' H11 ⟨s11, rfl, e11, ho11, ht11, hf11, hq11, hu11⟩
          rw [nmL_len, List.take_length] at hf11
          have hFl2 : (addAll F (moreOf rs T' F)).length ≤ 10 := by
            have h2 := walkB_tl _ _ _ (Tl.nil rs) hwk10
            exact Nat.le_trans (nd_len h2.nF h2.fn) hn10
          refine ⟨m - 1, by omega, ?_⟩
          rw [hW]
          refine ⟨T', _, ss2, vs2, _, _, _, _, _, _, _, _, rfl, e11, ho11, ht11, hf11, steps_tu hss10 hu11, hwk10, hsl10, htot10, fun h => ?_, fun h => ?_⟩
          · rw [addAll_more]
            cases hnew : new' with
            | true =>
              have := hT2 hnew
              omega
            | false =>
              rw [hnew, Bool.false_or] at h
              have := of_decide_eq_true h
              omega
          · rw [Bool.or_eq_false_iff] at h
            obtain ⟨h1, h2⟩ := hT3 h.1
            have h0 : moreOf rs T' F = [] := List.length_eq_zero_iff.mp (by have := of_decide_eq_false h.2; omega)
            rw [h0]
            subst h1
            refine ⟨fun r hr hw hd => h2 r hr ?_, fun c hc hF => ?_⟩
            · rw [Bool.and_eq_true, List.all_eq_true, List.all_eq_true]
              exact ⟨fun c hc => decide_eq_true (hw c hc), fun c hc => decide_eq_true (hd c hc)⟩
            · apply Decidable.byContradiction
              intro hfx
              have : c ∈ moreOf rs T' F := more_mem.mpr ⟨hc, hfx, hF⟩
              rw [h0] at this
              cases this
    · have hfull := w2 hb
      have htl := walkB_tl _ _ _ (Tl.nil rs) hwk
      have hTl : T.length ≤ 10 := Nat.le_trans (nd_len htl.nT htl.tn) hn10
      have hFl : F.length ≤ 10 := Nat.le_trans (nd_len htl.nF htl.fn) hn10
      refine sx_ret (x_tup1 (K := K) (ev_var rfl) (e5 _ _ ho')) ?_
      rintro v H6 e6 ⟨q, rfl, hq⟩
      exact k q vs ss T F H6 (e1.trans (e'.trans (e5.trans e6))) hq (steps_tu hss (Tu.of (e5.trans e6))) hwk hfull (by have h1 : T.length ≤ _ := nd_len htl.nT htl.tn; have h2 : F.length ≤ _ := nd_len htl.nF htl.fn; omega) (by have h2 : F.length ≤ _ := nd_len htl.nF htl.fn; omega)

end
end Tx
end
section
set_option Elab.async false
set_option linter.all false
set_option maxRecDepth 100000
set_option maxHeartbeats 4000000
namespace Tx
open PySem PySem.Spec PyProof.Rows L2 Evl Wk
section
variable {w : World} {K : PySem.W.Frag} {mg : Str → Option Value} {base : Heap}

def wAdd (s : List Nat) (st : List (Nat × Nat)) (r : Rw) : Bool := ((r.2.1.all fun c => decide (c ∈ st.map Prod.fst)) && okB s r) && !decide (r.1 ∈ st.map Prod.fst)
def wStep (s : List Nat) (st : List (Nat × Nat)) (z : Rw × Nat) : List (Nat × Nat) := if wAdd s st z.1 = true then st ++ [(z.1.1, z.2)] else st
def wPass (rs : List Rw) (s : List Nat) (st : List (Nat × Nat)) : List (Nat × Nat) := rs.zipIdx.foldl (wStep s) st
def wN (rs : List Rw) (s : List Nat) : Nat → List (Nat × Nat) → List (Nat × Nat)
  | 0, st => st
  | n + 1, st => if st.length < s.length then wN rs s n (wPass rs s st) else st
def wstOf (rs : List Rw) (s : List Nat) : List (Nat × Nat) := wN rs s (s.length + 1) []
theorem wStep_len (s : List Nat) (st : List (Nat × Nat)) (z : Rw × Nat) : st.length ≤ (wStep s st z).length := by
  unfold wStep
  split
  · rw [List.length_append]; omega
  · exact Nat.le_refl _
theorem wFold_len (s : List Nat) : ∀ (l : List (Rw × Nat)) (st : List (Nat × Nat)), st.length ≤ (l.foldl (wStep s) st).length
  | [], st => Nat.le_refl _
  | z :: l, st => Nat.le_trans (wStep_len s st z) (wFold_len s l _)
theorem wFold_same {s : List Nat} : ∀ (l : List (Rw × Nat)) (st : List (Nat × Nat)), (l.foldl (wStep s) st).length ≤ st.length → ∀ z, z ∈ l → wAdd s st z.1 = false
  | [], st, _, z, hz => by cases hz
  | y :: l, st, h, z, hz => by
    have h1 : (l.foldl (wStep s) (wStep s st y)).length ≤ st.length := h
    have hy : wAdd s st y.1 = false := by
      cases c : wAdd s st y.1 with
      | false => rfl
      | true =>
        have e : wStep s st y = st ++ [(y.1.1, y.2)] := by unfold wStep; exact if_pos c
        have := wFold_len s l (wStep s st y)
        rw [e, List.length_append] at this
        rw [e] at h1
        simp at this
        omega
    have e : wStep s st y = st := by unfold wStep; exact if_neg (by rw [hy]; decide)
    rw [e] at h1
    rcases List.mem_cons.mp hz with x | x
    · rw [x]; exact hy
    · exact wFold_same l st h1 z x
structure WOk (s : List Nat) (st : List (Nat × Nat)) : Prop where
  nd : (st.map Prod.fst).Nodup
  sub : ∀ c, c ∈ st.map Prod.fst → c ∈ s
theorem WOk.len {s : List Nat} {st : List (Nat × Nat)} (h : WOk s st) : st.length ≤ s.length := by
  have := nd_len h.nd h.sub
  rwa [List.length_map] at this
theorem wAdd_iff {s : List Nat} {st : List (Nat × Nat)} {r : Rw} (h : wAdd s st r = true) : (∀ c, c ∈ r.2.1 → c ∈ st.map Prod.fst) ∧ okB s r = true ∧ r.1 ∉ st.map Prod.fst := by
  unfold wAdd at h
  rw [Bool.and_eq_true, Bool.and_eq_true, List.all_eq_true] at h
  exact ⟨fun c hc => of_decide_eq_true (h.1.1 c hc), h.1.2, of_decide_eq_false (not_t h.2)⟩
theorem wStep_ok {rs : List Rw} {s : List Nat} {st : List (Nat × Nat)} {z : Rw × Nat} (hw : isW rs s = true) (hz : z.1 ∈ rs) (h : WOk s st) : WOk s (wStep s st z) := by
  unfold wStep
  by_cases c : wAdd s st z.1 = true
  · rw [if_pos c]
    obtain ⟨c1, c2, c3⟩ := wAdd_iff c
    have e : (st ++ [(z.1.1, z.2)]).map Prod.fst = addN (st.map Prod.fst) z.1.1 := by rw [addN_new c3, List.map_append]; rfl
    refine ⟨by rw [e]; exact addN_nd h.nd, fun d hd => ?_⟩
    rw [e] at hd
    rcases addN_mem.mp hd with x | x
    · exact h.sub d x
    · rw [x]; exact world_step hw hz (fun e he => h.sub e (c1 e he)) (okB_iff.mp c2)
  · rw [if_neg c]; exact h
theorem wFold_ok {rs : List Rw} {s : List Nat} (hw : isW rs s = true) : ∀ (l : List (Rw × Nat)) (st : List (Nat × Nat)), (∀ z, z ∈ l → z.1 ∈ rs) → WOk s st → WOk s (l.foldl (wStep s) st)
  | [], st, _, h => h
  | z :: l, st, hl, h => wFold_ok hw l _ (fun y hy => hl y (List.mem_cons_of_mem _ hy)) (wStep_ok hw (hl z List.mem_cons_self) h)
theorem zip_mem {rs : List Rw} {z : Rw × Nat} (h : z ∈ rs.zipIdx) : z.1 ∈ rs := by
  obtain ⟨x, i⟩ := z
  exact List.fst_mem_of_mem_zipIdx h
theorem wPass_more {rs : List Rw} {s : List Nat} (hw : isW rs s = true) {st : List (Nat × Nat)} (h : WOk s st) (hl : st.length < s.length) : st.length < (wPass rs s st).length := by
  apply Decidable.byContradiction
  intro hno
  have hs := wFold_same (s := s) rs.zipIdx st (Nat.not_lt.mp hno)
  have hcl : ∀ c, c ∈ fixOf (okB s) rs → c ∈ st.map Prod.fst := fix_least (S := fun c => c ∈ st.map Prod.fst) fun r hr ho hwn => by
    obtain ⟨i, hi⟩ := List.mem_iff_getElem?.mp hr
    have hz : (r, i) ∈ rs.zipIdx := List.mem_iff_getElem?.mpr ⟨i, by rw [List.getElem?_zipIdx, hi]; simp⟩
    have h1 := hs (r, i) hz
    unfold wAdd at h1
    rw [List.all_eq_true.mpr fun c hc => decide_eq_true (hwn c hc), ho, Bool.true_and, Bool.true_and] at h1
    exact of_decide_eq_true (not_f h1)
  have hb := isW_Bo.mp hw
  have hnd : s.Nodup := by rw [← hb]; exact ris_nodup (Bo_ris rs s)
  have := nd_len hnd fun c hc => hcl c ((isW_mem hw c).mp hc)
  rw [List.length_map] at this
  omega
theorem zip_take {rs : List Rw} {i : Nat} {r : Rw} (h : rs[i]? = some r) : rs.zipIdx.take (i + 1) = rs.zipIdx.take i ++ [(r, i)] := by
  rw [List.take_add_one, List.getElem?_zipIdx, h]
  simp
def PairI (z : Nat × Nat) (v : V) (H : Hp) : Prop := ∃ p, v = .ref p ∧ H p = some (.tup [nmV z.1, .int (z.2 : Int)])
theorem pairI_tu {st : List (Nat × Nat)} {vs : List V} {H H' : Hp} (h : AllV PairI st vs H) (t : Tu H H') : AllV PairI st vs H' := ⟨h.1, fun i v a hv ha => let ⟨p, h1, h2⟩ := h.2 i v a hv ha; ⟨p, h1, t _ _ h2⟩⟩
theorem ev_neNL {σ : L2.St} {H : Hp} {ta tb : TE} {as bs : List Nat} (ha : EvL ta σ H (nmL as)) (hb : EvL tb σ H (nmL bs)) (la : Lo as) (lb : Lo bs) : Ev (tOp (rNeD K) ta tb) σ H (.bl (!decide (as = bs))) := fun H1 e Q q =>
  ha H1 e _ fun p H2 hp e2 h2 => hb H2 (e.trans e2) _ fun o H3 ho e3 h3 => ⟨.list (datN as), .list (datN bs), .lst (sq_of (e3 _ _ h2)) (dpN as), .lst (sq_of h3) (dpN bs), by rw [datN_S]; exact shS_l (okS_nm la), by rw [datN_S]; exact shS_l (okS_nm lb), by
    rw [PyData.eqv, eqvN]
    exact q H3 (e2.trans e3)⟩
def sp_world_steps (K : PySem.W.Frag) : Sp := fun vs H Q _ => ∃ (ls : List (List Nat)) (rs : List Rw) (p : Addr) (s : List Nat), vs = [.str (tx (progT ls)), .ref p] ∧ ProgOk ls rs ∧ H p = some (.tup (nmL s)) ∧ s.length ≤ 1000 ∧ Lo s ∧ (isW rs s = false → ∀ H', Ex H H' → Q .non H') ∧
  (isW rs s = true → ∀ q ys H', Ex H H' → H' q = some (.tup ys) → AllV PairI (wstOf rs s) ys H' → Q (.ref q) H')
theorem sc_world_steps : FnScope ["program", "value", "rows", "known", "found", "at", "head", "wanted", "denied", "is_good", "name"] ["program", "value"] (defScope s_world_steps) := ⟨rfl, rfl, rfl, by decide +kernel, rfl, by decide +kernel, by decide +kernel⟩
theorem ok_world_steps (Z : Zx K mg) : OkD prog w K mg base (L2.CX prog w) 9 "world_steps" ["program", "value"] (sp_world_steps K) := by
  obtain ⟨fd, F0⟩ := Z.fun_ 43
  have F : Fun K "world_steps" "world_steps" s_world_steps (He.ga K "world_steps") fd := Wk.fun_of F0
  have x_BadArgument := Z.bad
  have cBadArgument := Z.glo 59 (x := "BadArgument")
  obtain ⟨_, g_built_on, b_built_on, m_built_on, k_built_on⟩ := ok_built_on (w := w) (base := base) Z
  obtain ⟨_, g_demand_names, b_demand_names, m_demand_names, k_demand_names⟩ := ok_demand_names (w := w) (base := base) Z
  obtain ⟨_, g_is_tuple, b_is_tuple, m_is_tuple, k_is_tuple⟩ := ok_is_tuple (w := w) (base := base) Z
  obtain ⟨_, g_names_of, b_names_of, m_names_of, k_names_of⟩ := ok_names_of (w := w) (base := base) Z
  have n_all := Z.free 62 (x := "all")
  have n_any := Z.free 63 (x := "any")
  have n_enumerate := Z.free 65 (x := "enumerate")
  have n_len := Z.free 68 (x := "len")
  have n_list := Z.free 69 (x := "list")
  have n_tuple := Z.free 76 (x := "tuple")
  refine ⟨fd, ?_, F.binds (ps := ["program", "value"]) fun _ _ _ _ _ _ us hl => match us, hl with | [_, _], _ => rfl, Z.glo 36, F.kp⟩
  refine F.okX sc_world_steps (fun vs H Q E h => ?_) (fun cdv A outer s H vs Q E hr h => ?_)
  · obtain ⟨ls, rs, p, s, rfl, hpo, hp, hsl, hlo, k0, k1⟩ := h
    rfl
  · obtain ⟨ls, rs, p, s, rfl, hpo, hp, hsl, hlo, k0, k1⟩ := h
    have hu1 := hu_of hr
    have hu64 := hr.units
    refine ⟨_, (pss_cons (ps_set (i := 2) sc_world_steps.nd rfl (by first | exact Or.inl rfl | exact Or.inr rfl) (pe_call g_demand_names (hr.mono (by decide)) (by rfl) m_demand_names k_demand_names b_demand_names .nil (passes_call (takes_of rfl rfl rfl rfl) (fun _ _ _ _ h => h)) (pa_cons (pv 0) pa_nil))) (pss_cons (ps_if (pw_or (pt_not (pt_val (pe_call g_is_tuple (hr.mono (by decide)) (by rfl) m_is_tuple k_is_tuple b_is_tuple .nil pass0 (pa_cons (pv 1) (pa_cons pe_int (pa_cons (pe_callB call_len_seq (by rfl) n_len (by decide +kernel) (pa_cons (pe_call g_names_of (hr.mono (by decide)) (by rfl) m_names_of k_names_of b_names_of .nil pass0 (pa_cons (pv 2) pa_nil)) pa_nil)) pa_nil)))))) (pw_or1 (pt_cmpR (op_neD hu64) (pe_callTy call_list_of (by rfl) n_list (by decide +kernel) (pa_cons (pv 1) pa_nil)) (pe_call g_built_on (hr.mono (by decide)) (by rfl) m_built_on k_built_on b_built_on .nil pass0 (pa_cons (pv 2) (pa_cons (pv 1) pa_nil))) (nomark _)))).pt (pss_one (ps_ret pe_non)) pss_nil) (pss_cons (ps_set (i := 3) sc_world_steps.nd rfl (by first | exact Or.inl rfl | exact Or.inr rfl) pe_dnewK) (pss_cons (ps_set (i := 4) sc_world_steps.nd rfl (by first | exact Or.inl rfl | exact Or.inr rfl) (pe_lst pa_nil)) (pss_cons (ps_while (passes_of rfl) (pt_cmpR op_lt (pe_callB call_len_seq (by rfl) n_len (by decide +kernel) (pa_cons (pv 4) pa_nil)) (pe_callB call_len_seq (by rfl) n_len (by decide +kernel) (pa_cons (pv 1) pa_nil)) (nomark _)) (pss_one (ps_for (passes_of rfl) rfl (pi_enum (by rfl) n_enumerate (pa_cons (pv 2) pa_nil)) (pg_tup rfl (pgs_cons (pg_name (i := 5) sc_world_steps.nd rfl (by first | exact Or.inl rfl | exact Or.inr rfl)) (pgs_cons (pg_tup rfl (pgs_cons (pg_name (i := 6) sc_world_steps.nd rfl (by first | exact Or.inl rfl | exact Or.inr rfl)) (pgs_cons (pg_name (i := 7) sc_world_steps.nd rfl (by first | exact Or.inl rfl | exact Or.inr rfl)) (pgs_cons (pg_name (i := 8) sc_world_steps.nd rfl (by first | exact Or.inl rfl | exact Or.inr rfl)) pgs_nil)))) pgs_nil))) (pss_cons (ps_set (i := 9) sc_world_steps.nd rfl (by first | exact Or.inl rfl | exact Or.inr rfl) (pe_and (pe_callB (cr_all rfl) (by rfl) n_all (by decide +kernel) (pa_cons (pe_lc (own := [("name", 10)]) rfl sc_world_steps.nd (pi_list (pv 7)) (blkOk_by (own := [("name", 10)]) (N := ["program", "value", "rows", "known", "found", "at", "head", "wanted", "denied", "is_good", "name"]) (sc := defScope s_world_steps) (by decide +kernel)) (fun _ _ _ _ _ => pg_name (i := 10) sc_world_steps.nd rfl (by first | exact Or.inl rfl | exact Or.inr rfl)) (fun _ _ _ _ _ => pts_nil) (fun _ _ _ _ _ => (pe_cmp (pc_din hu1 (pv 10) (pv 3)) (by rfl)))) pa_nil)) (pe_one (pe_not (pe_callB (cr_any rfl) (by rfl) n_any (by decide +kernel) (pa_cons (pe_lc (te := (tOp (rIn K false) (tVar 10) (tVar 1))) (own := [("name", 10)]) rfl sc_world_steps.nd (pi_list (pv 8)) (blkOk_by (own := [("name", 10)]) (N := ["program", "value", "rows", "known", "found", "at", "head", "wanted", "denied", "is_good", "name"]) (sc := defScope s_world_steps) (by decide +kernel)) (fun _ _ _ _ _ => pg_name (i := 10) sc_world_steps.nd rfl (by first | exact Or.inl rfl | exact Or.inr rfl)) (fun _ _ _ _ _ => pts_nil) (fun _ _ _ _ _ => (pe_cmpR op_in_seq (pv 10) (pv 1) rfl))) pa_nil)))))) (pss_one (ps_if (pw_and (pt_val (pv 9)) (pw_and1 (pt_cmp (pc_dnotin hu1 (pv 6) (pv 3)) (by rfl)))).pt (pss_cons (ps_dput hu1 (pv 3) (pv 6) pe_bl rfl) (pss_one (ps_expr (pe_bm PySem.F.plainAttrs_list PySem.F.slot_list_append PySem.F.type_list_append mt_append (pv 4) (pa_cons (pe_tup (pa_cons (pv 6) (pa_cons (pv 5) pa_nil))) pa_nil))))) pss_nil)))))) (pss_one (ps_ret (pe_callTy call_tuple_of (by rfl) n_tuple (by decide +kernel) (pa_cons (pv 4) pa_nil))))))))), ?_⟩
    refine qx_asg (x_names (ev_var rfl) hpo) ?_
    rintro v1 H1 e1 ⟨a, rfl, ha0, hrs⟩
    have hn10 := hpo.2.2.2.2.1
    have hp1 := e1 _ _ hp
    have hcond : (!(decide ((0 : Int) ≤ ((nmL s).length : Int)) && decide (((nmL s).length : Int) ≤ ((nmL (namesOf rs)).length : Int))) || !decide (s = Bo rs s)) = !isW rs s := by
      rw [nmL_len, nmL_len]
      cases hw : isW rs s with
      | true =>
        have hb := isW_Bo.mp hw
        have hl : s.length ≤ (namesOf rs).length := by
          have := Bo_len rs s
          rwa [hb] at this
        rw [decide_eq_true (by omega : (0 : Int) ≤ (s.length : Int)), decide_eq_true (by omega : ((s.length : Int) ≤ ((namesOf rs).length : Int))), decide_eq_true hb.symm]
        rfl
      | false =>
        have hb : ¬ s = Bo rs s := fun h => by
          have := isW_Bo.mpr h.symm
          rw [hw] at this
          cases this
        rw [decide_eq_false hb]
        simp
    refine q_when (b := !isW rs s) (et_is (et_or (et_not (et_B (ev_call (z := .bl (decide ((0 : Int) ≤ ((nmL s).length : Int)) && decide (((nmL s).length : Int) ≤ ((nmL (namesOf rs)).length : Int)))) (vs := [.ref p, .int 0, .int ((nmL (namesOf rs)).length : Int)]) (ea_cons (ev_var rfl) (ea_cons ev_c (ea_cons (ev_lenN (K := K) (el_call (ea_cons (ev_var rfl) ea_nil) (fun H2 e2 Q2 q2 E2 => ⟨a, rs, rfl, hrs.ex e2, hpo.2.2.2.1, q2⟩))) ea_nil))) (fun H2 e2 Q2 q2 E2 => ⟨.ref p, 0, _, rfl, .inl ⟨p, nmL s, rfl, e2 _ _ hp1, fun H3 e3 => q2 H3 e3⟩⟩)))) (fun _ => et_test (ev_neNL (K := K) (el_listT (ev_var rfl) hp1) (el_call (xs := nmL (Bo rs s)) (ea_cons (ev_var rfl) (ea_cons (ev_var rfl) ea_nil)) (fun H2 e2 Q2 q2 E2 => ⟨a, p, rs, s, rfl, hrs.ex e2, .inr (st_of (e2 _ _ hp1)), hpo.2.2.2.1, q2⟩)) hlo (lo_bo hpo.2.2.2.2.2 _)))) hcond) (fun hb H2 e2 => ?_) (fun hb H2 e2 => ?_)
    · exact s_ret ev_c (fun H3 e3 => k0 (not_t hb) H3 (e1.trans (e2.trans e3)))
    have hw := not_f hb
    have hb2 := isW_Bo.mp hw
    have hs10 : s.length ≤ 10 := by
      have := Bo_len rs s
      rw [hb2] at this
      omega
    obtain ⟨us, ha, hall⟩ := hrs.ex e2
    have hul := hall.1
    have hp2 := e2 _ _ hp1
    refine q_dnew (fun d H3 hd e3 h3 => ?_)
    refine q_asgL (xs := []) (el_lst ea_nil (few5 rfl)) (fun o H4 ho e4 h4 => ?_)
    have ho0 : H2 o = none := fresh_back e3 ho
    have hdo : d ≠ o := ne_new h3 ho
    obtain ⟨W, hW⟩ : ∃ W : Nat → L2.St → Hp → Prop, W = fun m σ' H' => ∃ (st : List (Nat × Nat)) (vs : List V) (s5 s6 s7 s8 s9 s10 : Option V), σ' = [some (.str (tx (progT ls))), some (.ref p), some (.ref a), some (.ref d), some (.ref o), s5, s6, s7, s8, s9, s10] ∧ Ex H2 H' ∧ H' d = some (.dK (dk (st.map Prod.fst))) ∧ H' o = some (.lst vs) ∧ AllV PairI st vs H' ∧ WOk s st ∧ s.length < m + st.length ∧ wstOf rs s = wN rs s m st := ⟨_, rfl⟩
    refine q_while W (s.length + 1) (by
      rw [hW]
      exact ⟨[], [], none, none, none, none, none, none, rfl, e3.trans e4, e4 _ _ h3, h4, AllV.nil, ⟨List.nodup_nil, fun c hc => by cases hc⟩, by simp, rfl⟩) ?_
    intro m σ' H' hWm
    rw [hW] at hWm
    obtain ⟨st, vs, s5, s6, s7, s8, s9, s10, rfl, e', hd', ho', hvs, hok, hm, hst⟩ := hWm
    have hvl := hvs.1
    have hstl := hok.len
    refine ⟨decide (st.length < s.length), et_test (ev_is (ev_op (ev_len (ev_var rfl) (sq_of ho')) (ev_lenT (K := K) (ev_var rfl) (st_of (e' _ _ hp2))) rv_I0) (by rw [hvl, nmL_len]; congr 1; rw [decide_eq_decide]; omega)), fun hb H5 e5 => ?_, fun hb H5 e5 => ?_⟩
    · have hlt := of_decide_eq_true hb
      obtain ⟨m, rfl⟩ : ∃ m', m = m' + 1 := ⟨m - 1, by omega⟩
      have hstep : wN rs s (m + 1) st = if st.length < s.length then wN rs s m (wPass rs s st) else st := rfl
      rw [hstep, if_pos hlt] at hst
      refine ⟨fun σ2 H6 => ∃ m', m' < m + 1 ∧ W m' σ2 H6, fun _ _ h => h, ?_⟩
      refine s_forEnum3 (K := K) (xs := us) (ev_var rfl) (e5 _ _ (e' _ _ ha)) (fun i σ' H6 => ∃ (vs : List V) (s5 s6 s7 s8 s9 s10 : Option V), σ' = [some (.str (tx (progT ls))), some (.ref p), some (.ref a), some (.ref d), some (.ref o), s5, s6, s7, s8, s9, s10] ∧ Ex H2 H6 ∧ H6 d = some (.dK (dk (((rs.zipIdx.take i).foldl (wStep s) st).map Prod.fst))) ∧ H6 o = some (.lst vs) ∧ AllV PairI ((rs.zipIdx.take i).foldl (wStep s) st) vs H6) (fun H6 e6 => ⟨vs, s5, s6, s7, s8, s9, s10, rfl, e'.trans (e5.trans e6), (e5.trans e6) _ _ hd', (e5.trans e6) _ _ ho', pairI_tu hvs (Tu.of (e5.trans e6))⟩) (fun i σ' H6 ⟨_, _, _, _, _, _, _, _, e, _⟩ => e _ _ ha) ?_ ?_
      · rintro i x σ' H6 H7 hx ⟨vs, s5, s6, s7, s8, s9, s10, rfl, e6, hd6, ho6, hvs6⟩ e7
        obtain ⟨r, hr, pr, w, dn, rfl, c1, c2, c3⟩ := AllV.at hall hx
        obtain ⟨z1, z2⟩ := hpo.2.2.2.1.2.1 r (List.mem_of_getElem? hr)
        have e67 := e6.trans e7
        refine ⟨pr, _, _, _, rfl, e67 _ _ c1, ?_⟩
        have c2 := e67 _ _ c2
        have c3 := e67 _ _ c3
        have hok6 : WOk s ((rs.zipIdx.take i).foldl (wStep s) st) := wFold_ok hw _ _ (fun z hz => zip_mem (List.mem_of_mem_take hz)) hok
        rw [zip_take hr, List.foldl_append]
        show (tSeq _ _) _ _ _
        have hfl : [(r, i)].foldl (wStep s) ((rs.zipIdx.take i).foldl (wStep s) st) = wStep s ((rs.zipIdx.take i).foldl (wStep s) st) (r, i) := rfl
        rw [hfl]
        generalize (rs.zipIdx.take i).foldl (wStep s) st = S at *
        have hSl := hok6.len
        have hvl6 := hvs6.1
        refine q_asg (v := .bl ((r.2.1.all fun c => decide (c ∈ S.map Prod.fst)) && okB s r)) (ev_andV (ev_allc (K := K) (p := fun c => decide (c ∈ S.map Prod.fst)) (as := r.2.1) (inj := nmV) (ei_L (K := K) (ev_var rfl) (sq_of c2)) (by omega) (fun _ => rfl) (fun c _ H9 e9 => ev_din (ev_var rfl) (ev_var rfl) ((e7.trans e9) _ _ hd6))) (fun _ => ev_notV (ev_anyc (K := K) (p := fun c => decide (c ∈ s)) (as := r.2.2) (inj := nmV) (ei_L (K := K) (ev_var rfl) (sq_of c3)) (by omega) (fun _ => rfl) (fun c _ H9 e9 => ev_inT (K := K) (ev_var rfl) (ev_var rfl) (st_of ((e67.trans e9) _ _ hp2)))))) (fun H8 e8 => ?_)
        have e78 := e7.trans e8
        refine s_when (b := wAdd s S r) (et_and (et_B (ev_var rfl)) (fun _ => et_B (ev_dnotin (ev_var rfl) (ev_var rfl) (e78 _ _ hd6)))) (fun hb H9 e9 => ?_) (fun hb H9 e9 => ?_)
        · obtain ⟨_, _, hnS⟩ := wAdd_iff hb
          have e79 := e78.trans e9
          have eS : wStep s S (r, i) = S ++ [(r.1, i)] := by unfold wStep; exact if_pos hb
          have hml : (S.map Prod.fst).length ≤ 10 := by rw [List.length_map]; omega
          refine q_dput (ns := S.map Prod.fst) (c := r.1) ev_c (ev_var rfl) (ev_var rfl) (e79 _ _ hd6) (by omega) (fun H10 e10 => ?_)
          have e710 := e79.trans e10
          have hto : upd H10 d (.dK (dk (addN (S.map Prod.fst) r.1))) o = some (.lst vs) := by rw [upd_ne hdo.symm]; exact e710 _ _ ho6
          have u1 : Tu H10 (upd H10 d (.dK (dk (addN (S.map Prod.fst) r.1)))) := Tu.upd (e710 _ _ hd6) (fun zs h => by cases h)
          refine s_appU (xs := vs) (ys := [nmV r.1, .int (i : Int)]) hto (ev_var rfl) (eu_tup (ea_cons (ev_var rfl) (ea_cons (ev_var rfl) ea_nil)) (few5 rfl)) (by omega) (fun q H11 hq e11 h11 => ?_)
          have u2 : Tu H11 (upd H11 o (.lst (vs ++ [.ref q]))) := Tu.upd (e11 _ _ hto) (fun zs h => by cases h)
          refine ⟨vs ++ [.ref q], _, _, _, _, _, _, rfl, Ex.mut ((Ex.mut (e6.trans e710) hd).trans e11) ho0, ?_, upd_same, ?_⟩
          · rw [upd_ne hdo, eS, List.map_append]
            show _ = some (HO.dK (dk (S.map Prod.fst ++ [r.1])))
            rw [← addN_new hnS]
            exact e11 _ _ upd_same
          · rw [eS]
            exact AllV.cat (pairI_tu hvs6 ((Tu.of e710).trans (u1.trans ((Tu.of e11).trans u2)))) (AllV.cons ⟨q, rfl, u2 _ _ h11⟩ AllV.nil)
        · have e79 := e78.trans e9
          have eS : wStep s S (r, i) = S := by unfold wStep; exact if_neg (by rw [hb]; decide)
          rw [eS]
          exact ⟨vs, _, _, _, _, _, _, rfl, e6.trans e79, e79 _ _ hd6, e79 _ _ ho6, pairI_tu hvs6 (Tu.of e79)⟩
      · rintro σ' H6 ⟨vs, s5, s6, s7, s8, s9, s10, rfl, e6, hd6, ho6, hvs6⟩
        have hz : rs.zipIdx.take us.length = rs.zipIdx := List.take_of_length_le (by rw [List.length_zipIdx, hul]; exact Nat.le_refl _)
        rw [hz] at hd6 hvs6
        have hmore := wPass_more hw hok hlt
        have hok2 : WOk s (wPass rs s st) := wFold_ok hw _ _ (fun z hz => zip_mem hz) hok
        refine ⟨m, Nat.lt_succ_self _, ?_⟩
        rw [hW]
        exact ⟨wPass rs s st, vs, _, _, _, _, _, _, rfl, e6, hd6, ho6, hvs6, hok2, by omega, hst⟩
    · have hge := of_decide_eq_false hb
      have hend : wstOf rs s = st := by
        rw [hst]
        cases m with
        | zero => rfl
        | succ m =>
          show (if st.length < s.length then _ else st) = st
          rw [if_neg hge]
      rw [hend] at k1
      refine sx_ret (x_tup1 (K := K) (ev_var rfl) (e5 _ _ ho')) ?_
      rintro v H6 e6 ⟨q, rfl, hq⟩
      exact k1 hw q vs H6 (e1.trans (e2.trans (e'.trans (e5.trans e6)))) hq (pairI_tu hvs (Tu.of (e5.trans e6)))

end
end Tx
end
section
set_option Elab.async false
set_option linter.all false
set_option maxRecDepth 100000
set_option maxHeartbeats 4000000
namespace Tx
open PySem PySem.Spec PyProof.Rows L2 Evl Wk
section
variable {w : World} {K : PySem.W.Frag} {mg : Str → Option Value} {base : Heap}

def sp_wt_all (K : PySem.W.Frag) : Sp := fun vs H Q _ => ∃ (a : Addr) (rs : List Rw), vs = [.ref a] ∧ RowsAt rs a H ∧ rs.length ≤ 7 ∧ (∀ r, r ∈ rs → r.2.1.length ≤ 2 ∧ r.2.2.length ≤ 2) ∧ RetL (nmL (namesOf rs)) H Q
def allNs (rs : List Rw) : List Nat := (rs.map rowNs).flatten
theorem allNs_rise (rs : List Rw) : riseOf (allNs rs) = namesOf rs := ris_unique (riseOf_ris _) (namesOf_ris rs) fun c => by
  rw [riseOf_mem, namesOf_mem]
  unfold allNs
  rw [List.mem_flatten]
  constructor
  · rintro ⟨l, hl, hc⟩
    obtain ⟨r, hr, rfl⟩ := List.mem_map.mp hl
    exact ⟨r, hr, hc⟩
  · rintro ⟨r, hr, hc⟩
    exact ⟨_, List.mem_map.mpr ⟨r, hr, rfl⟩, hc⟩
theorem allNs_take {rs : List Rw} {i : Nat} {r : Rw} (h : rs[i]? = some r) : allNs (rs.take (i + 1)) = allNs (rs.take i) ++ rowNs r := by
  unfold allNs
  rw [List.take_add_one, h, List.map_append, List.flatten_append]
  simp
theorem sc__law_wt_named_all : FnScope ["clauses", "found", "head", "wanted", "denied"] ["clauses"] (defScope s__law_wt_named_all) := ⟨rfl, rfl, rfl, by decide +kernel, rfl, by decide +kernel, by decide +kernel⟩
theorem ok__law_wt_named_all (Z : Zx K mg) : OkD prog w K mg base CX0 1 "_law_wt_named_all" ["clauses"] (sp_wt_all K) := by
  obtain ⟨fd, F0⟩ := Z.fun_ 50
  have F : Fun K "_law_wt_named_all" "_law_wt_named_all" s__law_wt_named_all (He.ga K "_law_wt_named_all") fd := Wk.fun_of F0
  have n_set := Z.free 73 (x := "set")
  have n_sorted := Z.free 74 (x := "sorted")
  refine ⟨fd, ?_, F.binds (ps := ["clauses"]) fun _ _ _ _ _ _ us hl => match us, hl with | [_], _ => rfl, Z.glo 43, F.kp⟩
  refine F.ok sc__law_wt_named_all (fun vs H Q E h => ?_) (fun cdv A outer s H vs Q E hr h => ?_)
  · obtain ⟨a, rs, rfl, ⟨us, ha, hall⟩, hn, hsz, k⟩ := h
    rfl
  · obtain ⟨a, rs, rfl, ⟨us, ha, hall⟩, hn, hsz, k⟩ := h
    refine ⟨_, (pss_cons (ps_set (i := 1) sc__law_wt_named_all.nd rfl (by first | exact Or.inl rfl | exact Or.inr rfl) (pe_lst pa_nil)) (pss_cons (ps_for PassesOwn.never rfl (pi_list (pv 0)) (pg_tup rfl (pgs_cons (pg_name (i := 2) sc__law_wt_named_all.nd rfl (by first | exact Or.inl rfl | exact Or.inr rfl)) (pgs_cons (pg_name (i := 3) sc__law_wt_named_all.nd rfl (by first | exact Or.inl rfl | exact Or.inr rfl)) (pgs_cons (pg_name (i := 4) sc__law_wt_named_all.nd rfl (by first | exact Or.inl rfl | exact Or.inr rfl)) pgs_nil)))) (pss_one (ps_expr (pe_bm PySem.F.plainAttrs_list PySem.F.slot_list_extend PySem.F.type_list_extend mt_extend (pv 1) (pa_cons (pe_op op_cat (pe_op op_cat (pe_lst (pa_cons (pv 2) pa_nil)) (pv 3)) (pv 4)) pa_nil))))) (pss_one (ps_ret (pe_callB (TXS.cr_sortX rfl) (by rfl) n_sorted (by decide +kernel) (pa_cons (pe_callTy (TXS.cr_setX rfl) (by rfl) n_set (by decide +kernel) (pa_cons (pv 1) pa_nil)) pa_nil)))))), ?_⟩
    have hul := hall.1
    refine q_asgL (xs := []) (el_lst ea_nil (few5 rfl)) (fun o H1 ho e1 h1 => ?_)
    refine q_forL (K := K) (xs := us) (ev_var rfl) (sq_of (e1 _ _ ha)) (fun i σ' H' => ∃ s2 s3 s4, σ' = [some (.ref a), some (.ref o), s2, s3, s4] ∧ Ex H H' ∧ H' o = some (.lst (nmL (allNs (rs.take i)))) ∧ (allNs (rs.take i)).length ≤ 5 * i) (fun H2 e2 => ⟨none, none, none, rfl, e1.trans e2, e2 _ _ h1, by simp [allNs]⟩) (fun i σ' H' _ ⟨_, _, _, _, e, _⟩ => sq_of (e _ _ ha)) ?_ ?_
    · rintro i x σ' H' hx ⟨s2, s3, s4, rfl, e', ho', hlen⟩
      obtain ⟨r, hr, p, w, dn, rfl, c1, c2, c3⟩ := AllV.at hall hx
      obtain ⟨z1, z2⟩ := hsz r (List.mem_of_getElem? hr)
      have hi : i < us.length := (List.getElem?_eq_some_iff.mp hx).1
      refine ⟨p, _, rfl, st_of (e' _ _ c1), rfl, _, _, rfl, _, _, rfl, _, _, rfl, rfl, ?_⟩
      have hrl : (rowNs r).length ≤ 5 := by unfold rowNs; rw [List.length_cons, List.length_append]; omega
      refine s_extX (xs := nmL (allNs (rs.take i))) (PL := fun zs H => zs = nmL (rowNs r)) ho' (ev_var rfl) ((x_evL (el_cat (el_cat (el_lst (ea_cons (ev_var rfl) ea_nil) (few5 rfl)) (ev_var rfl) (e' _ _ c2) (by rw [nmL_len]; show 1 + _ ≤ _; omega)) (ev_var rfl) (e' _ _ c3) (by rw [List.length_append, nmL_len, nmL_len]; show 1 + _ + _ ≤ _; omega))).imp ?_) ?_ ?_
      · rintro v H2 ⟨q, rfl, _, hq⟩
        refine ⟨q, _, rfl, hq, ?_⟩
        unfold nmL rowNs
        rw [List.map_cons, List.map_append]
        rfl
      · rintro zs H2 rfl
        rw [nmL_len, nmL_len]
        omega
      · rintro zs H2 e2 rfl
        refine ⟨_, _, _, rfl, Ex.mut (e'.trans e2) ho, ?_, by rw [allNs_take hr, List.length_append]; omega⟩
        rw [upd_same, allNs_take hr]
        unfold nmL
        rw [List.map_append]
    · rintro σ' H' ⟨s2, s3, s4, rfl, e', ho', hlen⟩
      rw [hul, List.take_length] at ho' hlen
      have := el_setA (K := K) (P := prog) (w := w) (σ := [some (.ref a), some (.ref o), s2, s3, s4]) (te := tVar 1) (ns := allNs rs) (ev_var rfl) (.inr ho') (by omega)
      rw [allNs_rise] at this
      exact s_retL this (fun p H2 hp e2 h2 => k p H2 (fresh_back e' hp) (e'.trans e2) h2)
/-- is a value a world: a tuple of texts and ones, or no tuple -/
def ValW (K : PySem.W.Frag) (o : Option (List (Option Nat))) (v : V) (H : Hp) : Prop := match o with
  | some xs => ∃ p, v = .ref p ∧ H p = some (.tup (xs.map itV)) ∧ xs.length ≤ 1000 ∧ Lo (msOf xs)
  | none => ∃ t, (∀ H', Ex H H' → TyX K H' v (.type t)) ∧ kitB t "tuple" = some false
theorem ValW.ex {o : Option (List (Option Nat))} {v : V} {H H' : Hp} (h : ValW K o v H) (e : Ex H H') : ValW K o v H' := by
  cases o with
  | some xs => exact let ⟨p, a, b, c, d⟩ := h; ⟨p, a, e _ _ b, c, d⟩
  | none => exact let ⟨t, a, b⟩ := h; ⟨t, fun H2 e2 => a H2 (e.trans e2), b⟩
def wrldB (rs : List Rw) (o : Option (List (Option Nat))) : Bool := match o with
  | some xs => decide (xs.length ≤ 10) && (xs.all Option.isSome && isW rs (msOf xs))
  | none => false
theorem all_some : ∀ {xs : List (Option Nat)}, xs.all Option.isSome = true → xs = (msOf xs).map some
  | [], _ => rfl
  | none :: xs, h => by cases h
  | some c :: xs, h => by
    have h2 : xs.all Option.isSome = true := h
    have e : msOf (some c :: xs) = c :: msOf xs := rfl
    rw [e, List.map_cons, ← all_some h2]
def sp_is_world (K : PySem.W.Frag) : Sp := fun vs H Q _ => ∃ (ls : List (List Nat)) (rs : List Rw) (v : V) (o : Option (List (Option Nat))), vs = [.str (tx (progT ls)), v] ∧ ProgOk ls rs ∧ ValW K o v H ∧ ∀ H', Ex H H' → Q (.bl (wrldB rs o)) H'
theorem sc_is_world : FnScope ["program", "value", "rows", "name"] ["program", "value"] (defScope s_is_world) := ⟨rfl, rfl, rfl, by decide +kernel, rfl, by decide +kernel, by decide +kernel⟩
theorem ok_is_world (Z : Zx K mg) : OkD prog w K mg base (L2.CX prog w) 9 "is_world" ["program", "value"] (sp_is_world K) := by
  obtain ⟨fd, F0⟩ := Z.fun_ 36
  have F : Fun K "is_world" "is_world" s_is_world (He.ga K "is_world") fd := Wk.fun_of F0
  have x_BadArgument := Z.bad
  have cBadArgument := Z.glo 59 (x := "BadArgument")
  have c_MOST_NAMES := Z.int 88 (x := "MOST_NAMES")
  obtain ⟨_, g_built_on, b_built_on, m_built_on, k_built_on⟩ := ok_built_on (w := w) (base := base) Z
  obtain ⟨_, g_demand_names, b_demand_names, m_demand_names, k_demand_names⟩ := ok_demand_names (w := w) (base := base) Z
  obtain ⟨_, g_is_tuple, b_is_tuple, m_is_tuple, k_is_tuple⟩ := ok_is_tuple (w := w) (base := base) Z
  have n_all := Z.free 62 (x := "all")
  have n_isinstance := Z.free 67 (x := "isinstance")
  have n_list := Z.free 69 (x := "list")
  have n_str := Z.free 75 (x := "str")
  refine ⟨fd, ?_, F.binds (ps := ["program", "value"]) fun _ _ _ _ _ _ us hl => match us, hl with | [_, _], _ => rfl, Z.glo 29, F.kp⟩
  refine F.okX sc_is_world (fun vs H Q E h => ?_) (fun cdv A outer s H vs Q E hr h => ?_)
  · obtain ⟨ls, rs, v, o, rfl, hpo, hv, k⟩ := h
    rfl
  · obtain ⟨ls, rs, v, o, rfl, hpo, hv, k⟩ := h
    have hu64 := hr.units
    refine ⟨_, (pss_cons (ps_set (i := 2) sc_is_world.nd rfl (by first | exact Or.inl rfl | exact Or.inr rfl) (pe_call g_demand_names (hr.mono (by decide)) (by rfl) m_demand_names k_demand_names b_demand_names .nil (passes_call (takes_of rfl rfl rfl rfl) (fun _ _ _ _ h => h)) (pa_cons (pv 0) pa_nil))) (pss_cons (ps_if (pw_or (pt_not (pt_val (pe_call g_is_tuple (hr.mono (by decide)) (by rfl) m_is_tuple k_is_tuple b_is_tuple .nil pass0 (pa_cons (pv 1) (pa_cons pe_int (pa_cons (pe_gi c_MOST_NAMES) pa_nil)))))) (pw_or1 (pt_not (pt_val (pe_callB (cr_all rfl) (by rfl) n_all (by decide +kernel) (pa_cons (pe_lc (te := (tCB (rIsi K) (tCons (tVar 3) (tCons (tC (.ty "str")) tNil)))) (own := [("name", 3)]) rfl sc_is_world.nd (pi_tup (pv 1)) (blkOk_by (own := [("name", 3)]) (N := ["program", "value", "rows", "name"]) (sc := defScope s_is_world) (by decide +kernel)) (fun _ _ _ _ _ => pg_name (i := 3) sc_is_world.nd rfl (by first | exact Or.inl rfl | exact Or.inr rfl)) (fun _ _ _ _ _ => pts_nil) (fun _ _ _ _ _ => (pe_callB call_isi (by rfl) n_isinstance (by decide +kernel) (pa_cons (pv 3) (pa_cons (pe_bltn (v := .ty "str") (by rfl) n_str (by decide +kernel) rfl) pa_nil))))) pa_nil)))))).pt (pss_one (ps_ret pe_bl)) pss_nil) (pss_one (ps_ret (pe_cmpR (op_eqD hu64) (pe_callTy call_list_of (by rfl) n_list (by decide +kernel) (pa_cons (pv 1) pa_nil)) (pe_call g_built_on (hr.mono (by decide)) (by rfl) m_built_on k_built_on b_built_on .nil pass0 (pa_cons (pv 2) (pa_cons (pv 1) pa_nil))) (nomark _)))))), ?_⟩
    refine qx_asg (x_names (ev_var rfl) hpo) ?_
    rintro v1 H1 e1 ⟨q, rfl, hq, hrs⟩
    have hv1 := hv.ex e1
    cases o with
    | none =>
      obtain ⟨ty, t1, t2⟩ := hv1
      exact q_when (b := true) (et_is (et_or (a := true) (b := true) (et_is (et_not (et_B (ev_call (z := .bl false) (vs := [v, .int 0, .int 10]) (ea_cons (ev_var rfl) (ea_cons ev_c (ea_cons ev_c ea_nil))) (fun H2 e2 Q2 q2 E2 => ⟨v, 0, 10, rfl, .inr ⟨ty, t1 H2 e2, t2, q2 H2 (Ex.refl _)⟩⟩)))) rfl) (fun h => absurd h (by decide))) rfl) (fun _ H2 e2 => s_ret ev_c (fun H3 e3 => k H3 (e1.trans (e2.trans e3)))) (fun h => absurd h (by decide))
    | some xs =>
      obtain ⟨p, rfl, hp1, hxl, hlo⟩ := hv1
      have hxm : (xs.map itV).length = xs.length := List.length_map _
      refine q_when (b := !decide (xs.length ≤ 10) || !xs.all Option.isSome) (et_or (et_not (et_B (ev_call (z := .bl (decide (xs.length ≤ 10))) (vs := [.ref p, .int 0, .int 10]) (ea_cons (ev_var rfl) (ea_cons ev_c (ea_cons ev_c ea_nil))) (fun H2 e2 Q2 q2 E2 => ⟨.ref p, 0, 10, rfl, .inl ⟨p, _, rfl, e2 _ _ hp1, fun H3 e3 => ?_⟩⟩)))) (fun _ => et_not (et_B (ev_allc (K := K) (p := Option.isSome) (as := xs) (inj := itV) (ei_T (K := K) (ev_var rfl) (st_of hp1)) (by omega) (fun _ => rfl) (fun c _ H9 e9 => ?_))))) (fun hb H2 e2 => ?_) (fun hb H2 e2 => ?_)
      · have e : (decide ((0 : Int) ≤ ((xs.map itV).length : Int)) && decide (((xs.map itV).length : Int) ≤ 10)) = decide (xs.length ≤ 10) := by
          rw [hxm, decide_eq_true (by omega : (0 : Int) ≤ (xs.length : Int)), Bool.true_and, decide_eq_decide]
          omega
        rw [e]
        exact q2 H3 e3
      · cases c with
        | some d => exact ev_isi (b := true) (ev_var rfl) (fun H10 _ => .base (.str _)) (by decide +kernel)
        | none => exact ev_isi (b := false) (ev_var rfl) (fun H10 _ => .base (.int _)) (by decide +kernel)
      · refine s_ret ev_c (fun H3 e3 => ?_)
        have := k H3 (e1.trans (e2.trans e3))
        have e : wrldB rs (some xs) = false := by
          show (decide (xs.length ≤ 10) && (xs.all Option.isSome && isW rs (msOf xs))) = false
          rw [← Bool.and_assoc, ← Bool.not_not (decide (xs.length ≤ 10) && xs.all Option.isSome), Bool.not_and, hb]
          rfl
        rwa [e] at this
      · have hb2 : (decide (xs.length ≤ 10) && xs.all Option.isSome) = true := by
          rw [← Bool.not_not (decide (xs.length ≤ 10) && xs.all Option.isSome), Bool.not_and, hb]
          rfl
        rw [Bool.and_eq_true] at hb2
        have hx := all_some hb2.2
        have hp2 : H2 p = some (.tup (nmL (msOf xs))) := by
          have := e2 _ _ hp1
          rwa [hx, it_nm] at this
        refine s_ret (ev_is (ev_eqNL (K := K) (el_listT (ev_var rfl) hp2) (el_call (xs := nmL (Bo rs (msOf xs))) (ea_cons (ev_var rfl) (ea_cons (ev_var rfl) ea_nil)) (fun H3 e3 Q3 q3 E3 => ⟨q, p, rs, msOf xs, rfl, hrs.ex (e2.trans e3), .inr (st_of (e3 _ _ hp2)), hpo.2.2.2.1, q3⟩)) hlo (lo_bo hpo.2.2.2.2.2 _)) ?_) (fun H3 e3 => k H3 (e1.trans (e2.trans e3)))
        show _ = V.bl (decide (xs.length ≤ 10) && (xs.all Option.isSome && isW rs (msOf xs)))
        rw [hb2.1, hb2.2, Bool.true_and, Bool.true_and]
        congr 1
        unfold isW Bo
        rw [decide_eq_decide]
        exact eq_comm
theorem el_sortedS {σ : L2.St} {H : Hp} {te : TE} {a : Addr} {ns : List Nat} (h : Ev te σ H (.ref a)) (hx : H a = some (.lst (nmL ns))) (h64 : ns.length < 64) : EvL (tCB (rSortedS K) (tCons te tNil)) σ H (nmL (sortN ns)) := fun H1 e Q q => h H1 e _ fun H2 e2 =>
  ⟨a, txs ns, rfl, sq_of (by have hx2 := (e.trans e2) _ _ hx; rw [nmL_S] at hx2; exact hx2), by unfold txs; rw [List.length_map]; exact h64, fun ys p pm hs hp => by
    rw [map_perm_tx pm hs, ← nmL_S]
    exact q p _ (fresh_back e2 hp) (e2.trans (Ex.new hp)) upd_same⟩
def sp_law_built (K : PySem.W.Frag) : Sp := fun vs H Q _ => ∃ (a b : Addr) (rs : List Rw) (ks : List Nat), vs = [.ref a, .ref b] ∧ RowsAt rs a H ∧ (SqL K H b (nmL ks) ∨ SqT K H b (nmL ks)) ∧ SzRs rs ∧ rs.length ≤ 7 ∧ RetL (nmL (Bo rs ks)) H Q
theorem sc__law_wt_named_built : FnScope ["clauses", "given", "found", "turn", "head", "wanted", "denied", "is_good", "name"] ["clauses", "given"] (defScope s__law_wt_named_built) := ⟨rfl, rfl, rfl, by decide +kernel, rfl, by decide +kernel, by decide +kernel⟩
theorem ok__law_wt_named_built (Z : Zx K mg) : OkD prog w K mg base CX0 1 "_law_wt_named_built" ["clauses", "given"] (sp_law_built K) := by
  obtain ⟨fd, F0⟩ := Z.fun_ 51
  have F : Fun K "_law_wt_named_built" "_law_wt_named_built" s__law_wt_named_built (He.ga K "_law_wt_named_built") fd := Wk.fun_of F0
  have n_all := Z.free 62 (x := "all")
  have n_any := Z.free 63 (x := "any")
  have n_len := Z.free 68 (x := "len")
  have n_range := Z.free 72 (x := "range")
  have n_sorted := Z.free 74 (x := "sorted")
  refine ⟨fd, ?_, F.binds (ps := ["clauses", "given"]) fun _ _ _ _ _ _ us hl => match us, hl with | [_, _], _ => rfl, Z.glo 44, F.kp⟩
  refine F.ok sc__law_wt_named_built (fun vs H Q E h => ?_) (fun cdv A outer s H vs Q E hr h => ?_)
  · obtain ⟨a, b, rs, ks, rfl, hrs, hks, hsz, hr7, k⟩ := h
    rfl
  · obtain ⟨a, b, rs, ks, rfl, hrs, hks, hsz, hr7, k⟩ := h
    refine ⟨_, (pss_cons (ps_set (i := 2) sc__law_wt_named_built.nd rfl (by first | exact Or.inl rfl | exact Or.inr rfl) (pe_lst pa_nil)) (pss_cons (ps_for PassesOwn.never rfl (pi_range1 (by rfl) n_range (pa_cons (pe_op op_add (pe_callB call_len_seq (by rfl) n_len (by decide +kernel) (pa_cons (pv 0) pa_nil)) pe_int) pa_nil)) (pg_name (i := 3) sc__law_wt_named_built.nd rfl (by first | exact Or.inl rfl | exact Or.inr rfl)) (pss_one (ps_for PassesOwn.never rfl (pi_list (pv 0)) (pg_tup rfl (pgs_cons (pg_name (i := 4) sc__law_wt_named_built.nd rfl (by first | exact Or.inl rfl | exact Or.inr rfl)) (pgs_cons (pg_name (i := 5) sc__law_wt_named_built.nd rfl (by first | exact Or.inl rfl | exact Or.inr rfl)) (pgs_cons (pg_name (i := 6) sc__law_wt_named_built.nd rfl (by first | exact Or.inl rfl | exact Or.inr rfl)) pgs_nil)))) (pss_cons (ps_set (i := 7) sc__law_wt_named_built.nd rfl (by first | exact Or.inl rfl | exact Or.inr rfl) (pe_and (pe_callB (cr_all rfl) (by rfl) n_all (by decide +kernel) (pa_cons (pe_lc (te := (tOp (rIn K false) (tVar 8) (tVar 2))) (own := [("name", 8)]) rfl sc__law_wt_named_built.nd (pi_list (pv 5)) (blkOk_by (own := [("name", 8)]) (N := ["clauses", "given", "found", "turn", "head", "wanted", "denied", "is_good", "name"]) (sc := defScope s__law_wt_named_built) (by decide +kernel)) (fun _ _ _ _ _ => pg_name (i := 8) sc__law_wt_named_built.nd rfl (by first | exact Or.inl rfl | exact Or.inr rfl)) (fun _ _ _ _ _ => pts_nil) (fun _ _ _ _ _ => (pe_cmpR op_in_seq (pv 8) (pv 2) rfl))) pa_nil)) (pe_one (pe_not (pe_callB (cr_any rfl) (by rfl) n_any (by decide +kernel) (pa_cons (pe_lc (te := (tOp (rIn K false) (tVar 8) (tVar 1))) (own := [("name", 8)]) rfl sc__law_wt_named_built.nd (pi_list (pv 6)) (blkOk_by (own := [("name", 8)]) (N := ["clauses", "given", "found", "turn", "head", "wanted", "denied", "is_good", "name"]) (sc := defScope s__law_wt_named_built) (by decide +kernel)) (fun _ _ _ _ _ => pg_name (i := 8) sc__law_wt_named_built.nd rfl (by first | exact Or.inl rfl | exact Or.inr rfl)) (fun _ _ _ _ _ => pts_nil) (fun _ _ _ _ _ => (pe_cmpR op_in_seq (pv 8) (pv 1) rfl))) pa_nil)))))) (pss_one (ps_if (pw_and (pt_val (pv 7)) (pw_and1 (pt_cmpR op_notIn_seq (pv 4) (pv 2) rfl))).pt (pss_one (ps_expr (pe_bm PySem.F.plainAttrs_list PySem.F.slot_list_append PySem.F.type_list_append mt_append (pv 2) (pa_cons (pv 4) pa_nil)))) pss_nil)))))) (pss_one (ps_ret (pe_callB cr_sortedS (by rfl) n_sorted (by decide +kernel) (pa_cons (pv 2) pa_nil)))))), ?_⟩
    obtain ⟨us, ha, hall⟩ := hrs
    have hul := hall.1
    refine q_asgL (xs := []) (el_lst ea_nil (few5 rfl)) (fun hi H1 hhi e1 h1 => ?_)
    refine q_forR1 (n := ((rs.length + 1 : Nat) : Int)) (ea_cons (ev_is (ev_op (ev_len (ev_var rfl) (sq_of (e1 _ _ ha))) ev_c rv_I0) (by rw [hul]; rfl)) ea_nil) (by omega) (fun i σ' H2 => ∃ s3 s4 s5 s6 s7, σ' = [some (.ref a), some (.ref b), some (.ref hi), s3, s4, s5, s6, s7, none] ∧ Ex H H2 ∧ H2 hi = some (.lst (nmL (itN (okB ks) rs i)))) (fun H2 e2 => ⟨none, none, none, none, none, rfl, e1.trans e2, e2 _ _ h1⟩) ?_ ?_
    · rintro i σ' H2 hi2 ⟨s3, s4, s5, s6, s7, rfl, e2, ho2⟩
      have hc0 := itN_cnt (okB ks) rs i
      refine s_forL (K := K) (xs := us) (ev_var rfl) (sq_of (e2 _ _ ha)) (fun q σ' H3 => ∃ s4 s5 s6 s7, σ' = [some (.ref a), some (.ref b), some (.ref hi), some (.int (i : Int)), s4, s5, s6, s7, none] ∧ Ex H H3 ∧ H3 hi = some (.lst (nmL ((rs.take q).foldl (pStep (okB ks)) (itN (okB ks) rs i, false)).1)))
        (fun H3 e3 => ⟨s4, s5, s6, s7, rfl, e2.trans e3, e3 _ _ ho2⟩) (fun q σ' H3 _ ⟨_, _, _, _, _, e, _⟩ => sq_of (e _ _ ha)) ?_ ?_
      · rintro q x σ' H3 hx ⟨s4, s5, s6, s7, rfl, e3, ho3⟩
        obtain ⟨r, hr, pr, wa, dn, rfl, c1, c2, c3⟩ := AllV.at hall hx
        obtain ⟨z1, z2⟩ := hsz.2.1 r (List.mem_of_getElem? hr)
        have c2 := e3 _ _ c2
        have c3 := e3 _ _ c3
        have hcn := fold_cnt (ok := okB ks) (all := rs) (rs.take q) (itN (okB ks) rs i, false) (fun r hr => List.mem_of_mem_take hr) hc0
        refine ⟨pr, _, rfl, st_of (e3 _ _ c1), rfl, _, _, rfl, _, _, rfl, _, _, rfl, rfl, ?_⟩
        rw [pass_take hr, pStep_fst]
        generalize ((rs.take q).foldl (pStep (okB ks)) (itN (okB ks) rs i, false)) = S at *
        obtain ⟨g, nw⟩ := S
        dsimp only at ho3 hcn ⊢
        refine q_asg (v := .bl ((r.2.1.all fun c => decide (c ∈ g)) && okB ks r)) (ev_andV (ev_allc (K := K) (p := fun c => decide (c ∈ g)) (as := r.2.1) (inj := nmV) (ei_L (K := K) (ev_var rfl) (sq_of c2)) (by omega) (fun _ => rfl) (fun c _ H9 e9 => ev_inL (K := K) (ev_var rfl) (ev_var rfl) (sq_of (e9 _ _ ho3)))) (fun _ => ev_notV (ev_anyc (K := K) (p := fun c => decide (c ∈ ks)) (as := r.2.2) (inj := nmV) (ei_L (K := K) (ev_var rfl) (sq_of c3)) (by omega) (fun _ => rfl) (fun c _ H9 e9 => ev_inS (K := K) (ev_var rfl) (ev_var rfl) (hks.imp (ex_l (e3.trans e9)) (ex_t (e3.trans e9))))))) (fun H4 e4 => ?_)
        refine s_when (b := okB ks r && (decide (r.1 ∉ g) && r.2.1.all fun c => decide (c ∈ g))) (et_is (et_and (et_B (ev_var rfl)) (fun _ => et_test (ev_niL (K := K) (ev_var rfl) (ev_var rfl) (sq_of (e4 _ _ ho3))))) ?_) (fun hb H5 e5 => ?_) (fun hb H5 e5 => ?_)
        · rw [decide_not]
          cases okB ks r <;> cases (r.2.1.all fun c => decide (c ∈ g)) <;> cases decide (r.1 ∈ g) <;> rfl
        · rw [if_pos hb]
          refine s_app (xs := nmL g) ((e4.trans e5) _ _ ho3) (ev_var rfl) (ev_var (v := nmV r.1) rfl) (by rw [nmL_len]; omega) (fun H6 e6 => ⟨_, _, _, _, rfl, Ex.mut (e3.trans (e4.trans (e5.trans e6))) hhi, ?_⟩)
          rw [upd_same]
          unfold nmL
          rw [List.map_append]
          rfl
        · rw [if_neg (by rw [hb]; decide)]
          exact ⟨_, _, _, _, rfl, e3.trans (e4.trans e5), (e4.trans e5) _ _ ho3⟩
      · rintro σ' H3 ⟨s4, s5, s6, s7, rfl, e3, ho3⟩
        rw [hul, List.take_length] at ho3
        exact ⟨_, _, _, _, _, rfl, e3, ho3⟩
    rintro σ' H2 ⟨s3, s4, s5, s6, s7, rfl, e2, ho2⟩
    have hc := itN_cnt (okB ks) rs (rs.length + 1)
    rw [show ((rs.length + 1 : Nat) : Int).toNat = rs.length + 1 from rfl, itN_fix] at ho2
    rw [itN_fix] at hc
    exact s_retL (el_sortedS (K := K) (ev_var rfl) ho2 (by omega)) (fun p H3 hp e3 h3 => k p H3 (fresh_back e2 hp) (e2.trans e3) h3)
theorem sc__law_wt_named_sets : FnScope ["names", "found", "name", "row"] ["names"] (defScope s__law_wt_named_sets) := ⟨rfl, rfl, rfl, by decide +kernel, rfl, by decide +kernel, by decide +kernel⟩
theorem ok__law_wt_named_sets (Z : Zx K mg) : OkD prog w K mg base CX0 1 "_law_wt_named_sets" ["names"] (sp_subsets K) := by
  obtain ⟨fd, F0⟩ := Z.fun_ 52
  have F : Fun K "_law_wt_named_sets" "_law_wt_named_sets" s__law_wt_named_sets (He.ga K "_law_wt_named_sets") fd := Wk.fun_of F0
  have n_sorted := Z.free 74 (x := "sorted")
  refine ⟨fd, ?_, F.binds (ps := ["names"]) fun _ _ _ _ _ _ us hl => match us, hl with | [_], _ => rfl, Z.glo 45, F.kp⟩
  refine F.ok sc__law_wt_named_sets (fun vs H Q E h => ?_) (fun cdv A outer s H vs Q E hr h => ?_)
  · obtain ⟨a, ns, rfl, ha, hn, k⟩ := h
    rfl
  · obtain ⟨a, ns, rfl, ha, hn, k⟩ := h
    have hu64 := hr.units
    refine ⟨_, (pss_cons (ps_set (i := 1) sc__law_wt_named_sets.nd rfl (by first | exact Or.inl rfl | exact Or.inr rfl) (pe_lst (pa_cons (pe_tup pa_nil) pa_nil))) (pss_cons (ps_for PassesOwn.never rfl (pi_list (pv 0)) (pg_name (i := 2) sc__law_wt_named_sets.nd rfl (by first | exact Or.inl rfl | exact Or.inr rfl)) (pss_one (ps_set (i := 1) sc__law_wt_named_sets.nd rfl (by first | exact Or.inl rfl | exact Or.inr rfl) (pe_op op_cat (pv 1) (pe_lc (te := (tOp (rCatA K) (tVar 3) (tTup (tCons (tVar 2) tNil)))) (own := [("row", 3)]) rfl sc__law_wt_named_sets.nd (pi_list (pv 1)) (blkOk_by (own := [("row", 3)]) (N := ["names", "found", "name", "row"]) (sc := defScope s__law_wt_named_sets) (by decide +kernel)) (fun _ _ _ _ _ => pg_name (i := 3) sc__law_wt_named_sets.nd rfl (by first | exact Or.inl rfl | exact Or.inr rfl)) (fun _ _ _ _ _ => pts_nil) (fun _ _ _ _ _ => (pe_op op_catA (pv 3) (pe_tup (pa_cons (pv 2) pa_nil))))))))) (pss_one (ps_ret (pe_callB (TXT.cr_sortTx hu64) (by rfl) n_sorted (by decide +kernel) (pa_cons (pv 1) pa_nil)))))), ?_⟩
    have hpow : ∀ i, i ≤ 10 → 2 ^ i ≤ 1024 := fun i hi => Nat.pow_le_pow_right (by omega) (by omega : i ≤ 10)
    refine qx_asg (P := fun v H' => ∃ p ys, v = .ref p ∧ H' p = some (.lst ys) ∧ AllV TupN [[]] ys H') ((x_lst (x_one (P := TupN []) ((x_evU (eu_tup ea_nil (few5 rfl))).imp fun v H' ⟨p, h1, h2⟩ => ⟨p, h1, h2⟩)) ?_ ?_).imp ?_) ?_
    · rintro vs H1 H2 e ⟨v, rfl, h⟩
      exact ⟨v, rfl, (TupN.mn []).mo _ _ _ e h⟩
    · rintro vs H1 ⟨v, rfl, h⟩
      exact few5 rfl
    · rintro u H1 ⟨p, vs, rfl, hp, v, rfl, h⟩
      exact ⟨p, _, rfl, hp, AllV.cons h AllV.nil⟩
    rintro v H1 e1 ⟨p, ys, rfl, hp, hys⟩
    refine q_forLn (K := K) (xs := nmL ns) (ev_var rfl) (ex_l e1 ha) (fun i σ' H' => ∃ p ys s2 s3, σ' = [some (.ref a), some (.ref p), s2, s3] ∧ Ex H H' ∧ H' p = some (.lst ys) ∧ AllV TupN (subN (ns.take i)) ys H')
      (fun H2 e2 => ⟨p, ys, none, none, rfl, e1.trans e2, e2 _ _ hp, AllV.mo (fun a => (TupN.mn a).mo) _ _ _ e2 hys⟩) (fun i σ' H' _ ⟨_, _, _, _, _, e, _⟩ => ex_l e ha) ?_ ?_
    · rintro i x σ' H' hx ⟨p, ys, s2, s3, rfl, e', hp', hys'⟩
      unfold nmL at hx
      rw [List.getElem?_map] at hx
      obtain ⟨c, hc, rfl⟩ := Option.map_eq_some_iff.mp hx
      have hi : i < ns.length := (List.getElem?_eq_some_iff.mp hc).1
      have hyl := hys'.1
      have hsl := subN_len (ns.take i)
      rw [List.length_take, Nat.min_eq_left (by omega)] at hsl
      have hp10 := hpow i (by omega)
      have hstep : subN (ns.take (i + 1)) = subN (ns.take i) ++ (subN (ns.take i)).map (· ++ [c]) := by rw [List.take_add_one, hc]; exact subN_snoc _ _
      refine sx_asg (P := fun v H2 => ∃ q zs, v = .ref q ∧ H2 q = some (.lst (ys ++ zs)) ∧ AllV TupN ((subN (ns.take i)).map (· ++ [c])) zs H2) ?_ ?_
      · refine x_catR (xs := ys) (PL := fun ws H2 => AllV TupN ((subN (ns.take i)).map (· ++ [c])) ws H2) (ev_var rfl) hp' ((x_lc (xs := ys) (fun j w H => ∃ s, (subN (ns.take i))[j]? = some s ∧ TupN (s ++ [c]) w H) (fun j w H H' n ⟨s, h1, h2⟩ => ⟨s, h1, TupN.mn _ _ _ _ n h2⟩) (ei_L (K := K) (ev_var rfl) (sq_of hp')) (by omega) (fun _ => rfl) (fun j x hx H2 e2 => ?_)).imp ?_) (fun ws H1 H2 e => AllV.mo (fun a => (TupN.mn a).mo) _ _ _ e) (fun ws H2 h => ?_)
        · obtain ⟨s, hs, q, rfl, hq⟩ := AllV.at hys' hx
          have hsl2 : s.length ≤ 10 := by
            have := (subN_mem _ _).mp (List.mem_of_getElem? hs)
            have := this.length_le
            rw [List.length_take] at this
            omega
          refine EvX.imp (x_catT (K := K) (xs := nmL s) (ys := [nmV c]) (ev_var rfl) (e2 _ _ hq) (eu_tup (ea_cons (ev_var rfl) ea_nil) (few5 rfl)) (by simp) (by rw [nmL_len]; show s.length + 1 ≤ _; omega)) ?_
          rintro v H3 ⟨o, rfl, h3⟩
          exact ⟨s, hs, o, rfl, by rw [h3]; unfold nmL; rw [List.map_append]; rfl⟩
        · rintro v H2 ⟨q, zs, rfl, _, hq, hl, h3⟩
          refine ⟨q, zs, rfl, hq, AllV.ofMap (by rw [hl, hyl]) fun j w s hw hs => ?_⟩
          obtain ⟨s', hs', h4⟩ := h3 j w hw
          rw [hs] at hs'
          cases hs'
          exact h4
        · have := h.1
          rw [List.length_map] at this
          omega
      · rintro v H2 e2 ⟨q, zs, rfl, hq, hz⟩
        refine ⟨q, ys ++ zs, _, _, rfl, e'.trans e2, hq, ?_⟩
        rw [hstep]
        exact AllV.cat (AllV.mo (fun a => (TupN.mn a).mo) _ _ _ e2 hys') hz
    · rintro σ' H' ⟨p, ys, s2, s3, rfl, e', hp', hys'⟩
      rw [nmL_len, List.take_length] at hys'
      refine sx_ret (x_sortTx (K := K) (ev_var rfl) hp' hys' fun s r hs => by
        obtain ⟨r', hr'⟩ := subN_head ns
        rw [hr'] at hs
        exact (List.cons.inj hs).1.symm) ?_
      rintro v H2 e2 ⟨q, zs, rfl, hq, hq2, hz⟩
      exact k q zs H2 (fresh_back e' hq) (e'.trans e2) hq2 hz

end
end Tx
end
section
set_option Elab.async false
set_option linter.all false
set_option maxRecDepth 100000
set_option maxHeartbeats 4000000
namespace Tx
open PySem PySem.Spec PyProof.Rows L2 Evl Wk
section
variable {w : World} {K : PySem.W.Frag} {mg : Str → Option Value} {base : Heap}

theorem PairT.tu {z : List Nat × List Nat} {v : V} {H H' : Hp} (h : PairT z v H) (t : Tu H H') : PairT z v H' := let ⟨p, l, q, h1, h2, h3, h4⟩ := h; ⟨p, l, q, h1, t _ _ h2, t _ _ h3, t _ _ h4⟩
theorem pairT_tu {st : List (List Nat × List Nat)} {vs : List V} {H H' : Hp} (h : AllV PairT st vs H) (t : Tu H H') : AllV PairT st vs H' := ⟨h.1, fun i v a hv ha => let ⟨p, l, q, h1, h2, h3, h4⟩ := h.2 i v a hv ha; ⟨p, l, q, h1, t _ _ h2, t _ _ h3, t _ _ h4⟩⟩
def sp_stages_by (K : PySem.W.Frag) : Sp := fun vs H Q _ => ∃ (a : Addr) (rs : List Rw), vs = [.ref a] ∧ RowsAt rs a H ∧ SzRs rs ∧ rs.length ≤ 7 ∧ (namesOf rs).length ≤ 10 ∧ Lo (namesOf rs) ∧ ∀ p ys H', Ex H H' → H' p = some (.tup ys) → AllV PairT (stOf rs) ys H' → Q (.ref p) H'
theorem sc__law_stages_by : FnScope ["clauses", "low", "found", "high"] ["clauses"] (defScope s__law_stages_by) := ⟨rfl, rfl, rfl, by decide +kernel, rfl, by decide +kernel, by decide +kernel⟩
theorem ok__law_stages_by (Z : Zx K mg) : OkD prog w K mg base CX0 2 "_law_stages_by" ["clauses"] (sp_stages_by K) := by
  obtain ⟨fd, F0⟩ := Z.fun_ 53
  have F : Fun K "_law_stages_by" "_law_stages_by" s__law_stages_by (He.ga K "_law_stages_by") fd := Wk.fun_of F0
  obtain ⟨_, g__law_wt_named_built, b__law_wt_named_built, m__law_wt_named_built, k__law_wt_named_built⟩ := ok__law_wt_named_built (w := w) (base := base) Z
  have n_len := Z.free 68 (x := "len")
  have n_list := Z.free 69 (x := "list")
  have n_tuple := Z.free 76 (x := "tuple")
  refine ⟨fd, ?_, F.binds (ps := ["clauses"]) fun _ _ _ _ _ _ us hl => match us, hl with | [_], _ => rfl, Z.glo 46, F.kp⟩
  refine F.ok sc__law_stages_by (fun vs H Q E h => ?_) (fun cdv A outer s H vs Q E hr h => ?_)
  · obtain ⟨a, rs, rfl, hrs, hsz, hr7, hn10, hlo, k⟩ := h
    rfl
  · obtain ⟨a, rs, rfl, hrs, hsz, hr7, hn10, hlo, k⟩ := h
    have hu64 := hr.units
    refine ⟨_, (pss_cons (ps_par (i := 1) (j := 2) rfl sc__law_stages_by.nd rfl rfl (by decide) rfl rfl (pa_cons (pe_lst pa_nil) (pa_cons (pe_lst pa_nil) pa_nil)) (by rfl)) (pss_cons (ps_while PassesOwn.never (pw_or (pt_cmpR op_eq (pe_callB call_len_seq (by rfl) n_len (by decide +kernel) (pa_cons (pv 2) pa_nil)) pe_int (nomark _)) (pw_or1 (pt_cmpR (op_neD hu64) (pe_call g__law_wt_named_built (hr.mono (by decide)) (by rfl) m__law_wt_named_built k__law_wt_named_built b__law_wt_named_built .nil pass0 (pa_cons (pv 0) (pa_cons (pe_ix ix_tup (pe_ix ix_list (pv 2) (pe_un un_neg pe_int) (fun _ _ => rfl)) pe_int (fun _ _ => rfl)) pa_nil))) (pe_callTy call_list_of (by rfl) n_list (by decide +kernel) (pa_cons (pe_ix ix_tup (pe_ix ix_list (pv 2) (pe_un un_neg pe_int) (fun _ _ => rfl)) pe_int (fun _ _ => rfl)) pa_nil)) (nomark _)))).pt (pss_cons (ps_set (i := 3) sc__law_stages_by.nd rfl (by first | exact Or.inl rfl | exact Or.inr rfl) (pe_call g__law_wt_named_built (hr.mono (by decide)) (by rfl) m__law_wt_named_built k__law_wt_named_built b__law_wt_named_built .nil pass0 (pa_cons (pv 0) (pa_cons (pv 1) pa_nil)))) (pss_cons (ps_expr (pe_bm PySem.F.plainAttrs_list PySem.F.slot_list_append PySem.F.type_list_append mt_append (pv 2) (pa_cons (pe_tup (pa_cons (pe_callTy call_tuple_of (by rfl) n_tuple (by decide +kernel) (pa_cons (pv 1) pa_nil)) (pa_cons (pe_callTy call_tuple_of (by rfl) n_tuple (by decide +kernel) (pa_cons (pv 3) pa_nil)) pa_nil))) pa_nil))) (pss_one (ps_set (i := 1) sc__law_stages_by.nd rfl (by first | exact Or.inl rfl | exact Or.inr rfl) (pe_call g__law_wt_named_built (hr.mono (by decide)) (by rfl) m__law_wt_named_built k__law_wt_named_built b__law_wt_named_built .nil pass0 (pa_cons (pv 0) (pa_cons (pv 3) pa_nil)))))))) (pss_one (ps_ret (pe_callTy call_tuple_of (by rfl) n_tuple (by decide +kernel) (pa_cons (pv 2) pa_nil)))))), ?_⟩
    refine q_parX (P := fun v H' => ∃ l, v = .ref l ∧ H l = none ∧ H' l = some (.lst [])) (R := fun H1 v H' => ∃ o, v = .ref o ∧ H1 o = none ∧ H' o = some (.lst [])) (x_evL (el_lst ea_nil (few5 rfl))) (fun H1 e1 => x_evL (el_lst ea_nil (few5 rfl))) ?_
    rintro v1 v2 H1 H2 e1 ⟨l, rfl, hl0, hl1⟩ e2 ⟨o, rfl, ho1, ho2⟩
    have ho0 : H o = none := fresh_back e1 ho1
    obtain ⟨W, hW⟩ : ∃ W : Nat → L2.St → Hp → Prop, W = fun m σ' H' => ∃ (l : Addr) (low : List Nat) (done : List (List Nat × List Nat)) (ys : List V) (cont : Bool) (s3 : Option V), σ' = [some (.ref a), some (.ref l), some (.ref o), s3] ∧ Ex H H' ∧ H' o = some (.lst ys) ∧ l ≠ o ∧ H' l = some (.lst (nmL low)) ∧ AllV PairT done ys H' ∧ Asc rs low ∧ done.length + m ≤ 13 ∧
      ((done = [] ∧ cont = true) ∨ ∃ pre lp, done = pre ++ [(lp, Bo rs lp)] ∧ Lo lp ∧ cont = !decide (Bo rs (Bo rs lp) = lp)) ∧
      (cont = true → ∃ n, m = n + 1 ∧ (namesOf rs).length < low.length + n ∧ stOf rs = done ++ stgN rs n low) ∧ (cont = false → stOf rs = done) := ⟨_, rfl⟩
    refine q_while W ((namesOf rs).length + 2) (by
      rw [hW]
      exact ⟨l, [], [], [], true, none, rfl, e1.trans e2, ho2, ne_new hl1 ho1, e2 _ _ hl1, AllV.nil, Asc.nil rs, by simp; omega, .inl ⟨rfl, rfl⟩, fun _ => ⟨_, rfl, by simp, rfl⟩, (fun h => by cases h)⟩) ?_
    intro m σ' H' hw
    rw [hW] at hw
    obtain ⟨l, low, done, ys, cont, s3, rfl, e', ho', hlo', hl', hys, hasc, hcnt, htest, w1, w2⟩ := hw
    have hyl := hys.1
    refine ⟨cont, ?_, fun hb H4 e4 => ?_, fun hb H4 e4 => ?_⟩
    · rcases htest with ⟨rfl, rfl⟩ | ⟨pre, lp, rfl, hlp, hc⟩
      · have hy0 : ys = [] := List.length_eq_zero_iff.mp (by simpa using hyl)
        subst hy0
        exact et_is (et_or (a := true) (b := true) (et_test (ev_is (ev_op (ev_len (ev_var rfl) (sq_of ho')) ev_c (rv_eq (by rfl))) (by rfl))) (fun h => absurd h (by decide))) rfl
      · obtain ⟨vs0, u, rfl, _, q, l1, h1, rfl, hq, g1, g2⟩ := hys.snoc
        have hix : ∀ H5, Ex H' H5 → Ev (tOp (rIxL K) (tVar 2) (tUn (rU fun i => .int (-i)) (tC (.int 1)))) [some (.ref a), some (.ref l), some (.ref o), s3] H5 (.ref q) := fun H5 e5 => ev_op (ev_var rfl) (ev_un ev_c ru_neg) (rv_ixL (K := K) (sq_of (e5 _ _ ho')) (atI_last _ _))
        rw [hc]
        exact et_is (et_or (a := false) (et_test (ev_is (ev_op (ev_len (ev_var rfl) (sq_of ho')) ev_c (rv_eq (by rfl))) (by
          congr 1
          refine decide_eq_false fun h => ?_
          have := V.int.inj h
          rw [List.length_append] at this
          simp at this
          omega))) (fun _ => et_test (ev_neNL (K := K) (el_call (xs := nmL (Bo rs (Bo rs lp))) (vs := [.ref a, .ref h1]) (ea_cons (ev_var rfl) (ea_cons (ev_op (hix H' (Ex.refl _)) ev_c (rv_ixT (K := K) (st_of hq) rfl)) ea_nil)) (fun H5 e5 Q5 q5 E5 => ⟨a, h1, rs, Bo rs lp, rfl, hrs.ex (e'.trans e5), .inr (st_of (e5 _ _ g2)), hsz, hr7, q5⟩)) (el_listT (ev_op (hix H' (Ex.refl _)) ev_c (rv_ixT (K := K) (st_of hq) rfl)) g1) (lo_bo hlo _) hlp))) (Bool.false_or _)
    · subst hb
      obtain ⟨n, rfl, hn1, hst⟩ := w1 rfl
      have hal := hasc.len
      obtain ⟨n, rfl⟩ : ∃ n', n = n' + 1 := ⟨n - 1, by omega⟩
      have hstep : stgN rs (n + 1) low = (low, Bo rs low) :: if Bo rs (Bo rs low) = low then [] else stgN rs n (Bo rs (Bo rs low)) := rfl
      rw [hstep] at hst
      refine ⟨fun σ2 H5 => ∃ m', m' < n + 1 + 1 ∧ W m' σ2 H5, fun _ _ h => h, ?_⟩
      refine q_asgL (xs := nmL (Bo rs low)) (el_call (ea_cons (ev_var rfl) (ea_cons (ev_var rfl) ea_nil)) (fun H5 e5 Q5 q5 E5 => ⟨a, l, rs, low, rfl, hrs.ex (e'.trans (e4.trans e5)), .inl (sq_of ((e4.trans e5) _ _ hl')), hsz, hr7, q5⟩)) (fun h H5 hh e5 h5 => ?_)
      have e45 := e4.trans e5
      refine qx_app (xs := ys) (P := fun v H6 => PairT (low, Bo rs low) v H6) (e45 _ _ ho') (ev_var rfl) ((x_tup (x_cons (P := fun v H' => ∃ q, v = .ref q ∧ H' q = some (.tup (nmL low))) (x_tup1 (K := K) (ev_var rfl) (e45 _ _ hl')) (fun v H1 H2 e ⟨q, a, b⟩ => ⟨q, a, e _ _ b⟩) (x_one (P := fun v H' => ∃ q, v = .ref q ∧ H' q = some (.tup (nmL (Bo rs low)))) (x_tup1 (K := K) (ev_var rfl) h5))) (fun vs H1 H2 e ⟨v, r, h1, ⟨q, h2, h3⟩, v2, h4, q2, h5, h6⟩ => ⟨v, r, h1, ⟨q, h2, e _ _ h3⟩, v2, h4, q2, h5, e _ _ h6⟩) (fun vs H1 ⟨v, r, h1, _, v2, h4, _⟩ => by rw [h1, h4]; exact few5 rfl)).imp ?_) (by omega) (fun v H6 e6 hv => ?_)
      · rintro v H6 ⟨q, vs, rfl, hq, v1, r, rfl, ⟨q1, rfl, g1⟩, v2, rfl, q2, rfl, g2⟩
        exact ⟨q, q1, q2, rfl, hq, g1, g2⟩
      have hoh : h ≠ o := (ne_new (e4 _ _ ho') hh).symm
      have e46 := e45.trans e6
      have E6 : Ex H (upd H6 o (.lst (ys ++ [v]))) := Ex.mut (e'.trans e46) ho0
      have u6 : Tu H6 (upd H6 o (.lst (ys ++ [v]))) := Tu.upd (e46 _ _ ho') (fun zs h => by cases h)
      have hh6 : upd H6 o (.lst (ys ++ [v])) h = some (.lst (nmL (Bo rs low))) := by rw [upd_ne hoh]; exact e6 _ _ h5
      refine s_asgL (xs := nmL (Bo rs (Bo rs low))) (el_call (ea_cons (ev_var rfl) (ea_cons (ev_var rfl) ea_nil)) (fun H7 e7 Q7 q7 E7 => ⟨a, h, rs, Bo rs low, rfl, hrs.ex (E6.trans e7), .inl (sq_of (e7 _ _ hh6)), hsz, hr7, q7⟩)) (fun l2 H7 hl2 e7 h7 => ?_)
      refine ⟨if Bo rs (Bo rs low) = low then 0 else n + 1, by split <;> omega, ?_⟩
      rw [hW]
      refine ⟨l2, Bo rs (Bo rs low), done ++ [(low, Bo rs low)], ys ++ [v], !decide (Bo rs (Bo rs low) = low), _, rfl, E6.trans e7, e7 _ _ upd_same, (ne_new (upd_same (H := H6) (a := o)) hl2).symm, h7, AllV.cat (pairT_tu hys ((Tu.of e46).trans (u6.trans (Tu.of e7)))) (AllV.cons (PairT.tu hv (u6.trans (Tu.of e7))) AllV.nil), hasc.step, ?_, .inr ⟨done, low, rfl, asc_lw hasc hlo, rfl⟩, fun hb => ?_, fun hb => ?_⟩
      · rw [List.length_append]
        simp only [List.length_cons, List.length_nil]
        split <;> omega
      · have hne : Bo rs (Bo rs low) ≠ low := of_decide_eq_false (not_t hb)
        rw [if_neg hne] at hst ⊢
        have := hasc.grow hne
        exact ⟨n, rfl, by omega, by rw [hst, List.append_assoc]; rfl⟩
      · have he : Bo rs (Bo rs low) = low := of_decide_eq_true (not_f hb)
        rw [if_pos he] at hst
        exact hst
    · have hst := w2 hb
      rw [hst] at k
      refine sx_ret (x_tup1 (K := K) (ev_var rfl) (e4 _ _ ho')) ?_
      rintro v H6 e6 ⟨q, rfl, hq⟩
      exact k q ys H6 (e'.trans (e4.trans e6)) hq (pairT_tu hys (Tu.of (e4.trans e6)))
def sp_blocked (K : PySem.W.Frag) : Sp := fun vs H Q _ => ∃ (c : V) (t f : Addr) (r : Rw) (T F : List Nat), vs = [c, .ref t, .ref f] ∧ RowAt r c H ∧ SzR r ∧ H t = some (.lst (nmL T)) ∧ H f = some (.lst (nmL F)) ∧ ∀ H', Ex H H' → Q (.bl (!okH T F r)) H'
theorem sc__law_is_blocked : FnScope ["clause", "true", "false", "name"] ["clause", "true", "false"] (defScope s__law_is_blocked) := ⟨rfl, rfl, rfl, by decide +kernel, rfl, by decide +kernel, by decide +kernel⟩
theorem ok__law_is_blocked (Z : Zx K mg) : OkD prog w K mg base CX0 1 "_law_is_blocked" ["clause", "true", "false"] (sp_blocked K) := by
  obtain ⟨fd, F0⟩ := Z.fun_ 54
  have F : Fun K "_law_is_blocked" "_law_is_blocked" s__law_is_blocked (He.ga K "_law_is_blocked") fd := Wk.fun_of F0
  have n_any := Z.free 63 (x := "any")
  refine ⟨fd, ?_, F.binds (ps := ["clause", "true", "false"]) fun _ _ _ _ _ _ us hl => match us, hl with | [_, _, _], _ => rfl, Z.glo 47, F.kp⟩
  refine F.ok sc__law_is_blocked (fun vs H Q E h => ?_) (fun cdv A outer s H vs Q E hr h => ?_)
  · obtain ⟨c, t, f, r, T, F, rfl, ⟨p, w, dn, rfl, c1, c2, c3⟩, hsz, ht, hf, k⟩ := h
    rfl
  · obtain ⟨c, t, f, r, T, F, rfl, ⟨p, w, dn, rfl, c1, c2, c3⟩, hsz, ht, hf, k⟩ := h
    refine ⟨_, (pss_one (ps_ret (pe_or (pe_callB (cr_any rfl) (by rfl) n_any (by decide +kernel) (pa_cons (pe_lc (te := (tOp (rIn K false) (tVar 3) (tVar 2))) (own := [("name", 3)]) rfl sc__law_is_blocked.nd (pi_list (pe_ix ix_tup (pv 0) pe_int (fun _ _ => rfl))) (blkOk_by (own := [("name", 3)]) (N := ["clause", "true", "false", "name"]) (sc := defScope s__law_is_blocked) (by decide +kernel)) (fun _ _ _ _ _ => pg_name (i := 3) sc__law_is_blocked.nd rfl (by first | exact Or.inl rfl | exact Or.inr rfl)) (fun _ _ _ _ _ => pts_nil) (fun _ _ _ _ _ => (pe_cmpR op_in_seq (pv 3) (pv 2) rfl))) pa_nil)) (pe_one (pe_callB (cr_any rfl) (by rfl) n_any (by decide +kernel) (pa_cons (pe_lc (te := (tOp (rIn K false) (tVar 3) (tVar 1))) (own := [("name", 3)]) rfl sc__law_is_blocked.nd (pi_list (pe_ix ix_tup (pv 0) pe_int (fun _ _ => rfl))) (blkOk_by (own := [("name", 3)]) (N := ["clause", "true", "false", "name"]) (sc := defScope s__law_is_blocked) (by decide +kernel)) (fun _ _ _ _ _ => pg_name (i := 3) sc__law_is_blocked.nd rfl (by first | exact Or.inl rfl | exact Or.inr rfl)) (fun _ _ _ _ _ => pts_nil) (fun _ _ _ _ _ => (pe_cmpR op_in_seq (pv 3) (pv 1) rfl))) pa_nil)))))), ?_⟩
    obtain ⟨z1, z2⟩ := hsz
    refine s_ret (ev_is (ev_orV (ev_anyc (K := K) (p := fun c => decide (c ∈ F)) (as := r.2.1) (inj := nmV) (ei_L (K := K) (ev_op (ev_var rfl) ev_c (rv_ixT (K := K) (st_of c1) rfl)) (sq_of c2)) (by omega) (fun _ => rfl) (fun c _ H9 e9 => ev_inL (K := K) (ev_var rfl) (ev_var rfl) (sq_of (e9 _ _ hf)))) (fun _ => ev_anyc (K := K) (p := fun c => decide (c ∈ T)) (as := r.2.2) (inj := nmV) (ei_L (K := K) (ev_op (ev_var rfl) ev_c (rv_ixT (K := K) (st_of c1) rfl)) (sq_of c3)) (by omega) (fun _ => rfl) (fun c _ H9 e9 => ev_inL (K := K) (ev_var rfl) (ev_var rfl) (sq_of (e9 _ _ ht))))) (by unfold okH; rw [Bool.not_not])) k

end
end Tx
end
section
set_option Elab.async false
set_option linter.all false
set_option maxRecDepth 100000
set_option maxHeartbeats 4000000
namespace Tx
open PySem PySem.Spec PyProof.Rows L2 Evl Wk
section
variable {w : World} {K : PySem.W.Frag} {mg : Str → Option Value} {base : Heap}

def VStep (rs : List Rw) : Sv → Prop
  | .int n => 0 ≤ n ∧ n < (rs.length : Int)
  | .tup xs => 1 ≤ xs.length ∧ xs.length ≤ 10 ∧ xs.all (inNs (namesOf rs)) = true
  | _ => False
theorem stepB_eqm {rs : List Rw} {T F T0 F0 : List Nat} (h1 : Eqm T T0) (h2 : Eqm F F0) (s : Sv) : (stepB rs T F s).isSome = (stepB rs T0 F0 s).isSome := by
  have eT := all_eqm h1
  have eF := all_eqm h2
  cases s with
  | int n =>
    show ((intB rs T F n).map _).isSome = ((intB rs T0 F0 n).map _).isSome
    rw [Option.isSome_map, Option.isSome_map]
    unfold intB
    rw [eT, eF]
  | tup xs =>
    show (if _ && (_ && unfB rs T F (msOf xs)) then some (T, addAll F (msOf xs)) else none).isSome = (if _ && (_ && unfB rs T0 F0 (msOf xs)) then some (T0, addAll F0 (msOf xs)) else none).isSome
    have e : unfB rs T F (msOf xs) = unfB rs T0 F0 (msOf xs) := by unfold unfB; rw [okH_eqm h1 h2]
    rw [e]
    split <;> rfl
  | bl b => rfl
  | str c => rfl
def sp_step_right (K : PySem.W.Frag) : Sp := fun vs H Q _ => ∃ (a t f : Addr) (v : V) (rs : List Rw) (s : Sv) (T F : List Nat), vs = [.ref a, v, .ref t, .ref f] ∧ RowsAt rs a H ∧ SzRs rs ∧ StepAt s v H ∧ VStep rs s ∧ H t = some (.lst (nmL T)) ∧ H f = some (.lst (nmL F)) ∧ ∀ H', Ex H H' → Q (.bl (stepB rs T F s).isSome) H'
theorem sc__law_step_right : FnScope ["clauses", "step", "true", "false", "own", "name", "rows"] ["clauses", "step", "true", "false"] (defScope s__law_step_right) := ⟨rfl, rfl, rfl, by decide +kernel, rfl, by decide +kernel, by decide +kernel⟩
theorem ok__law_step_right (Z : Zx K mg) : OkD prog w K mg base CX0 2 "_law_step_right" ["clauses", "step", "true", "false"] (sp_step_right K) := by
  obtain ⟨fd, F0⟩ := Z.fun_ 55
  have F : Fun K "_law_step_right" "_law_step_right" s__law_step_right (He.ga K "_law_step_right") fd := Wk.fun_of F0
  obtain ⟨_, g__law_is_blocked, b__law_is_blocked, m__law_is_blocked, k__law_is_blocked⟩ := ok__law_is_blocked (w := w) (base := base) Z
  have n_all := Z.free 62 (x := "all")
  have n_any := Z.free 63 (x := "any")
  have n_int := Z.free 66 (x := "int")
  have n_isinstance := Z.free 67 (x := "isinstance")
  refine ⟨fd, ?_, F.binds (ps := ["clauses", "step", "true", "false"]) fun _ _ _ _ _ _ us hl => match us, hl with | [_, _, _, _], _ => rfl, Z.glo 48, F.kp⟩
  refine F.ok sc__law_step_right (fun vs H Q E h => ?_) (fun cdv A outer s H vs Q E hr h => ?_)
  · obtain ⟨a, t, f, v, rs, s, T, F, rfl, ⟨us, ha, hall⟩, hsz, hst, hvs, ht, hf, k⟩ := h
    rfl
  · obtain ⟨a, t, f, v, rs, s, T, F, rfl, ⟨us, ha, hall⟩, hsz, hst, hvs, ht, hf, k⟩ := h
    refine ⟨_, (pss_cons (ps_if (pt_val (pe_callB call_isi (by rfl) n_isinstance (by decide +kernel) (pa_cons (pv 1) (pa_cons (pe_bltn (v := .ty "int") (by rfl) n_int (by decide +kernel) rfl) pa_nil)))) (pss_cons (ps_set (i := 4) sc__law_step_right.nd rfl (by first | exact Or.inl rfl | exact Or.inr rfl) (pe_ix ix_list (pv 0) (pv 1) (fun _ _ => rfl))) (pss_one (ps_ret (pe_and (pe_callB (cr_all rfl) (by rfl) n_all (by decide +kernel) (pa_cons (pe_lc (te := (tOp (rIn K false) (tVar 5) (tVar 2))) (own := [("name", 5)]) rfl sc__law_step_right.nd (pi_list (pe_ix ix_tup (pv 4) pe_int (fun _ _ => rfl))) (blkOk_by (own := [("name", 5)]) (N := ["clauses", "step", "true", "false", "own", "name", "rows"]) (sc := defScope s__law_step_right) (by decide +kernel)) (fun _ _ _ _ _ => pg_name (i := 5) sc__law_step_right.nd rfl (by first | exact Or.inl rfl | exact Or.inr rfl)) (fun _ _ _ _ _ => pts_nil) (fun _ _ _ _ _ => (pe_cmpR op_in_seq (pv 5) (pv 2) rfl))) pa_nil)) (pe_one (pe_callB (cr_all rfl) (by rfl) n_all (by decide +kernel) (pa_cons (pe_lc (te := (tOp (rIn K false) (tVar 5) (tVar 3))) (own := [("name", 5)]) rfl sc__law_step_right.nd (pi_list (pe_ix ix_tup (pv 4) pe_int (fun _ _ => rfl))) (blkOk_by (own := [("name", 5)]) (N := ["clauses", "step", "true", "false", "own", "name", "rows"]) (sc := defScope s__law_step_right) (by decide +kernel)) (fun _ _ _ _ _ => pg_name (i := 5) sc__law_step_right.nd rfl (by first | exact Or.inl rfl | exact Or.inr rfl)) (fun _ _ _ _ _ => pts_nil) (fun _ _ _ _ _ => (pe_cmpR op_in_seq (pv 5) (pv 3) rfl))) pa_nil))))))) pss_nil) (pss_cons (ps_setLc (i := 6) (tt := (tAnd (tTest (tOp (rIn K false) (tOp (rIxT K) (tVar 4) (tC (.int 0))) (tVar 1))) (tNot (tB (tCall (sp_blocked K) [] (fun _ _ _ => False) (tCons (tVar 4) (tCons (tVar 2) (tCons (tVar 3) tNil)))))))) (own := [("own", 4)]) rfl sc__law_step_right.nd rfl rfl (sw_true rfl rfl rfl (by decide +kernel)) (pi_list (pv 0)) (blkOk_by (own := [("own", 4)]) (N := ["clauses", "step", "true", "false", "own", "name", "rows"]) (sc := defScope s__law_step_right) (by decide +kernel)) (fun _ _ _ _ _ => pg_name (i := 4) sc__law_step_right.nd rfl (by first | exact Or.inl rfl | exact Or.inr rfl)) (fun _ _ _ _ _ => pts_one (pw_and (pt_cmpR op_in_seq (pe_ix ix_tup (pv 4) pe_int (fun _ _ => rfl)) (pv 1) rfl) (pw_and1 (pt_not (pt_val (pe_call g__law_is_blocked (hr.mono (by decide)) (by rfl) m__law_is_blocked k__law_is_blocked b__law_is_blocked .nil pass0 (pa_cons (pv 4) (pa_cons (pv 2) (pa_cons (pv 3) pa_nil)))))))).pt) (fun _ _ _ _ _ => (pv 4))) (pss_one (ps_ret (pe_callB (cr_all rfl) (by rfl) n_all (by decide +kernel) (pa_cons (pe_lc (te := (tCB (rAny K) (tCons (tLc (iList K (tOp (rIxT K) (tVar 4) (tC (.int 1)))) (gName 5) tYes (tOp (rIn K false) (tVar 5) (tVar 1)) [5]) tNil))) (own := [("own", 4)]) rfl sc__law_step_right.nd (pi_list (pv 6)) (blkOk_by (own := [("own", 4)]) (N := ["clauses", "step", "true", "false", "own", "name", "rows"]) (sc := defScope s__law_step_right) (by decide +kernel)) (fun _ _ _ _ _ => pg_name (i := 4) sc__law_step_right.nd rfl (by first | exact Or.inl rfl | exact Or.inr rfl)) (fun _ _ _ _ _ => pts_nil) (fun _ _ _ _ _ => (pe_callB (cr_any rfl) (by rfl) n_any (by decide +kernel) (pa_cons (pe_lc (te := (tOp (rIn K false) (tVar 5) (tVar 1))) (own := [("name", 5)]) rfl sc__law_step_right.nd (pi_list (pe_ix ix_tup (pv 4) pe_int (fun _ _ => rfl))) (blkOk_by (own := [("name", 5)]) (N := ["clauses", "step", "true", "false", "own", "name", "rows"]) (sc := { kind := ScopeKind.function, names := [(Str.ofString ".0", NameKind.local), (Str.ofString "own", NameKind.local), (Str.ofString "any", NameKind.globalImplicit), (Str.ofString "step", NameKind.cell)], isGenerator := false, isCoroutine := false }) (by decide +kernel)) (fun _ _ _ _ _ => pg_name (i := 5) sc__law_step_right.nd rfl (by first | exact Or.inl rfl | exact Or.inr rfl)) (fun _ _ _ _ _ => pts_nil) (fun _ _ _ _ _ => (pe_cmpR op_in_seq (pv 5) (pv 1) rfl))) pa_nil)))) pa_nil)))))), ?_⟩
    have hul := hall.1
    cases s with
    | bl b => exact absurd hvs id
    | str c => exact absurd hvs id
    | int n =>
      have hv1 : v = .int n := hst
      subst hv1
      obtain ⟨h0, h1⟩ := hvs
      obtain ⟨r, hr⟩ : ∃ r, rs[n.toNat]? = some r := ⟨_, List.getElem?_eq_getElem (by omega)⟩
      obtain ⟨z1, z2⟩ := hsz.2.1 r (List.mem_of_getElem? hr)
      obtain ⟨xv, hxv⟩ : ∃ xv, us[n.toNat]? = some xv := ⟨_, List.getElem?_eq_getElem (by omega)⟩
      obtain ⟨pr, w, dn, rfl, c1, c2, c3⟩ := hall.2 _ _ _ hxv hr
      have hat : atI us n = some (.ref pr) := by
        have := atI_nat hxv
        rwa [Int.toNat_of_nonneg h0] at this
      refine q_when (b := true) (et_B (ev_isi (b := true) (ev_var rfl) (fun H9 _ => .base (.int n)) (by decide +kernel))) (fun _ H1 e1 => ?_) (fun h => absurd h (by decide))
      refine q_asg (ev_op (ev_var rfl) (ev_var rfl) (rv_ixL (K := K) (sq_of (e1 _ _ ha)) hat)) (fun H2 e2 => ?_)
      have e12 := e1.trans e2
      refine s_ret (ev_is (ev_andV (ev_allc (K := K) (p := fun c => decide (c ∈ T)) (as := r.2.1) (inj := nmV) (ei_L (K := K) (ev_op (ev_var rfl) ev_c (rv_ixT (K := K) (st_of (e12 _ _ c1)) rfl)) (sq_of (e12 _ _ c2))) (by omega) (fun _ => rfl) (fun c _ H9 e9 => ev_inL (K := K) (ev_var rfl) (ev_var rfl) (sq_of ((e12.trans e9) _ _ ht)))) (fun _ => ev_allc (K := K) (p := fun c => decide (c ∈ F)) (as := r.2.2) (inj := nmV) (ei_L (K := K) (ev_op (ev_var rfl) ev_c (rv_ixT (K := K) (st_of (e12 _ _ c1)) rfl)) (sq_of (e12 _ _ c3))) (by omega) (fun _ => rfl) (fun c _ H9 e9 => ev_inL (K := K) (ev_var rfl) (ev_var rfl) (sq_of ((e12.trans e9) _ _ hf))))) ?_) (fun H3 e3 => k H3 (e12.trans e3))
      congr 1
      show _ = ((intB rs T F n).map _).isSome
      rw [Option.isSome_map]
      unfold intB
      rw [if_pos h0, hr, Option.filter_some]
      split
      · rename_i hb
        exact hb
      · rename_i hb
        simpa using hb
    | tup xs =>
      obtain ⟨u, rfl, hu, hxl⟩ := hst
      obtain ⟨v1, v2, v3⟩ := hvs
      obtain ⟨m1, m2⟩ := ms_names v3
      have hum : H u = some (.tup (nmL (msOf xs))) := by
        have := hu
        rwa [m1, it_nm] at this
      have hres : (stepB rs T F (.tup xs)).isSome = unfB rs T F (msOf xs) := by
        show (if (decide (1 ≤ xs.length) && decide (xs.length ≤ 10)) && (xs.all (inNs (namesOf rs)) && unfB rs T F (msOf xs)) then some (T, addAll F (msOf xs)) else none).isSome = _
        rw [decide_eq_true v1, decide_eq_true v2, v3, Bool.true_and, Bool.true_and, Bool.true_and]
        cases unfB rs T F (msOf xs) <;> rfl
      rw [hres] at k
      generalize msOf xs = ms at *
      refine q_when (b := false) (et_B (ev_isi (b := false) (ev_var rfl) (fun H9 e9 => .base (.tup (e9 _ _ hu))) (by decide +kernel))) (fun h => absurd h (by decide)) (fun _ H1 e1 => ?_)
      have hrow : ∀ z, z ∈ us.zip rs → RowAt z.2 z.1 H ∧ SzR z.2 := fun z hz => ⟨hall.mem z hz, hsz.2.1 z.2 (by
        have := List.mem_map_of_mem (f := Prod.snd) hz
        rwa [hall.snd] at this)⟩
      refine q_asgL (xs := ((us.zip rs).filter fun z => decide (z.2.1 ∈ ms) && okH T F z.2).map Prod.fst) (el_lc (as := us.zip rs) (inj := Prod.fst) (fun z => decide (z.2.1 ∈ ms) && okH T F z.2) Prod.fst (by rw [hall.fst]; exact ei_L (K := K) (ev_var rfl) (sq_of (e1 _ _ ha))) (by rw [hall.zlen]; have := hsz.1; omega) (fun _ => rfl) (fun z hz H2 e2 => ?_) (fun z hz H2 e2 _ => ev_var rfl)) (fun r2 H2 hr2 e2 h2 => ?_)
      · obtain ⟨⟨pr, w, dn, er, c1, c2, c3⟩, hz2⟩ := hrow z hz
        have e12 := e1.trans e2
        rw [er]
        exact et_and (et_test (ev_inT (K := K) (c := z.2.1) (ev_op (ev_var rfl) ev_c (rv_ixT (K := K) (st_of (e12 _ _ c1)) rfl)) (ev_var rfl) (st_of (e12 _ _ hum)))) (fun _ => et_is (et_not (et_B (ev_call (z := .bl (!okH T F z.2)) (vs := [.ref pr, .ref t, .ref f]) (ea_cons (ev_var rfl) (ea_cons (ev_var rfl) (ea_cons (ev_var rfl) ea_nil))) (fun H3 e3 Q3 q3 E3 => ⟨.ref pr, t, f, z.2, T, F, rfl, RowAt.mo _ _ _ _ (e12.trans e3) ⟨pr, w, dn, rfl, c1, c2, c3⟩, hz2, (e12.trans e3) _ _ ht, (e12.trans e3) _ _ hf, q3⟩)))) (Bool.not_not _))
      · have e12 := e1.trans e2
        refine s_ret (ev_is (ev_allc (K := K) (p := fun z : V × Rw => z.2.2.1.any fun c => decide (c ∈ ms)) (as := (us.zip rs).filter fun z => decide (z.2.1 ∈ ms) && okH T F z.2) (inj := Prod.fst) (ei_L (K := K) (ev_var rfl) (sq_of h2)) (by have := List.length_filter_le (fun z : V × Rw => decide (z.2.1 ∈ ms) && okH T F z.2) (us.zip rs); rw [hall.zlen] at this; have := hsz.1; omega) (fun _ => rfl) (fun z hz H3 e3 => ?_)) ?_) (fun H3 e3 => k H3 (e12.trans e3))
        · obtain ⟨⟨pr, w, dn, er, c1, c2, c3⟩, z1, z2⟩ := hrow z (List.mem_filter.mp hz).1
          have e13 := e12.trans e3
          rw [er]
          exact ev_anyc (K := K) (p := fun c => decide (c ∈ ms)) (as := z.2.2.1) (inj := nmV) (ei_L (K := K) (ev_op (ev_var rfl) ev_c (rv_ixT (K := K) (st_of (e13 _ _ c1)) rfl)) (sq_of (e13 _ _ c2))) (by omega) (fun _ => rfl) (fun c _ H9 e9 => ev_inT (K := K) (ev_var rfl) (ev_var rfl) (st_of ((e13.trans e9) _ _ hum)))
        · congr 1
          rw [List.all_filter]
          have e : ((us.zip rs).all fun z => !(decide (z.2.1 ∈ ms) && okH T F z.2) || z.2.2.1.any fun c => decide (c ∈ ms)) = ((us.zip rs).map Prod.snd).all fun r => !(decide (r.1 ∈ ms) && okH T F r) || r.2.1.any fun c => decide (c ∈ ms) := by rw [List.all_map]; rfl
          rw [e, hall.snd]
          unfold unfB
          congr 1
          funext r
          cases decide (r.1 ∈ ms) <;> cases okH T F r <;> cases (r.2.1.any fun c => decide (c ∈ ms)) <;> rfl
def sp_law_told (K : PySem.W.Frag) : Sp := fun vs H Q _ => ∃ (a p : Addr) (rs : List Rw) (ss : List Sv) (us : List V), vs = [.ref a, .ref p] ∧ RowsAt rs a H ∧ SzRs rs ∧ H p = some (.tup us) ∧ AllV StepAt ss us H ∧ ss.length ≤ 40 ∧ totS ss ≤ 63 ∧ (∀ s, s ∈ ss → VStep rs s) ∧ (walkB rs ss ([], []) = none → ∀ H', Ex H H' → Q .non H') ∧
  ∀ T F, walkB rs ss ([], []) = some (T, F) → ∀ p a b H', Ex H H' → H' p = some (.tup [.ref a, .ref b]) → H' a = some (.tup (nmL (riseOf T))) → H' b = some (.tup (nmL (riseOf F))) → Q (.ref p) H'
theorem rise_eqm {a b : List Nat} (h : Eqm a b) : riseOf a = riseOf b := ris_unique (riseOf_ris a) (riseOf_ris b) fun c => by rw [riseOf_mem, riseOf_mem]; exact h c
theorem totS_take {ss : List Sv} {i : Nat} {s : Sv} (h : ss[i]? = some s) : totS (ss.take (i + 1)) = totS (ss.take i) + szS s := by
  rw [List.take_add_one, h, totS_app]
  simp [totS]
theorem totS_take_le (ss : List Sv) (i : Nat) : totS (ss.take i) ≤ totS ss := by
  have := totS_app (ss.take i) (ss.drop i)
  rw [List.take_append_drop] at this
  omega
theorem sc__law_told : FnScope ["clauses", "steps", "true", "false", "step"] ["clauses", "steps"] (defScope s__law_told) := ⟨rfl, rfl, rfl, by decide +kernel, rfl, by decide +kernel, by decide +kernel⟩
theorem ok__law_told (Z : Zx K mg) : OkD prog w K mg base CX0 3 "_law_told" ["clauses", "steps"] (sp_law_told K) := by
  obtain ⟨fd, F0⟩ := Z.fun_ 56
  have F : Fun K "_law_told" "_law_told" s__law_told (He.ga K "_law_told") fd := Wk.fun_of F0
  obtain ⟨_, g__law_step_right, b__law_step_right, m__law_step_right, k__law_step_right⟩ := ok__law_step_right (w := w) (base := base) Z
  have n_int := Z.free 66 (x := "int")
  have n_isinstance := Z.free 67 (x := "isinstance")
  have n_list := Z.free 69 (x := "list")
  have n_set := Z.free 73 (x := "set")
  have n_sorted := Z.free 74 (x := "sorted")
  have n_tuple := Z.free 76 (x := "tuple")
  refine ⟨fd, ?_, F.binds (ps := ["clauses", "steps"]) fun _ _ _ _ _ _ us hl => match us, hl with | [_, _], _ => rfl, Z.glo 49, F.kp⟩
  refine F.ok sc__law_told (fun vs H Q E h => ?_) (fun cdv A outer s H vs Q E hr h => ?_)
  · obtain ⟨a, p, rs, ss, us, rfl, hrs, hsz, hp, hus, hsl, htot, hvs, k0, k1⟩ := h
    rfl
  · obtain ⟨a, p, rs, ss, us, rfl, hrs, hsz, hp, hus, hsl, htot, hvs, k0, k1⟩ := h
    refine ⟨_, (pss_cons (ps_par (i := 2) (j := 3) rfl sc__law_told.nd rfl rfl (by decide) rfl rfl (pa_cons (pe_lst pa_nil) (pa_cons (pe_lst pa_nil) pa_nil)) (by rfl)) (pss_cons (ps_for PassesOwn.never rfl (pi_tup (pv 1)) (pg_name (i := 4) sc__law_told.nd rfl (by first | exact Or.inl rfl | exact Or.inr rfl)) (pss_cons (ps_if (pt_not (pt_val (pe_call g__law_step_right (hr.mono (by decide)) (by rfl) m__law_step_right k__law_step_right b__law_step_right .nil pass0 (pa_cons (pv 0) (pa_cons (pv 4) (pa_cons (pv 2) (pa_cons (pv 3) pa_nil))))))) (pss_one (ps_ret pe_non)) pss_nil) (pss_one (ps_if (pt_val (pe_callB call_isi (by rfl) n_isinstance (by decide +kernel) (pa_cons (pv 4) (pa_cons (pe_bltn (v := .ty "int") (by rfl) n_int (by decide +kernel) rfl) pa_nil)))) (pss_one (ps_expr (pe_bm PySem.F.plainAttrs_list PySem.F.slot_list_append PySem.F.type_list_append mt_append (pv 2) (pa_cons (pe_ix ix_tup (pe_ix ix_list (pv 0) (pv 4) (fun _ _ => rfl)) pe_int (fun _ _ => rfl)) pa_nil)))) (pss_one (ps_expr (pe_bm PySem.F.plainAttrs_list PySem.F.slot_list_extend PySem.F.type_list_extend mt_extend (pv 3) (pa_cons (pe_callTy call_list_of (by rfl) n_list (by decide +kernel) (pa_cons (pv 4) pa_nil)) pa_nil)))))))) (pss_one (ps_ret (pe_tup (pa_cons (pe_callTy call_tuple_of (by rfl) n_tuple (by decide +kernel) (pa_cons (pe_callB (TXS.cr_sortX rfl) (by rfl) n_sorted (by decide +kernel) (pa_cons (pe_callTy (TXS.cr_setX rfl) (by rfl) n_set (by decide +kernel) (pa_cons (pv 2) pa_nil)) pa_nil)) pa_nil)) (pa_cons (pe_callTy call_tuple_of (by rfl) n_tuple (by decide +kernel) (pa_cons (pe_callB (TXS.cr_sortX rfl) (by rfl) n_sorted (by decide +kernel) (pa_cons (pe_callTy (TXS.cr_setX rfl) (by rfl) n_set (by decide +kernel) (pa_cons (pv 3) pa_nil)) pa_nil)) pa_nil)) pa_nil))))))), ?_⟩
    have hul := hus.1
    refine q_parX (P := fun v H' => ∃ l, v = .ref l ∧ H l = none ∧ H' l = some (.lst [])) (R := fun H1 v H' => ∃ o, v = .ref o ∧ H1 o = none ∧ H' o = some (.lst [])) (x_evL (el_lst ea_nil (few5 rfl))) (fun H1 e1 => x_evL (el_lst ea_nil (few5 rfl))) ?_
    rintro v1 v2 H1 H2 e1 ⟨t, rfl, ht0, ht1⟩ e2 ⟨f, rfl, hf1, hf2⟩
    have hf0 : H f = none := fresh_back e1 hf1
    have htf : t ≠ f := ne_new ht1 hf1
    have e12 := e1.trans e2
    refine q_forT (K := K) (xs := us) (ev_var rfl) (st_of (e12 _ _ hp)) (fun i σ' H' => ∃ T F T0 F0 s4, σ' = [some (.ref a), some (.ref p), some (.ref t), some (.ref f), s4] ∧ Ex H H' ∧ H' t = some (.lst (nmL T)) ∧ H' f = some (.lst (nmL F)) ∧ Eqm T T0 ∧ Eqm F F0 ∧ T.length ≤ i ∧ F.length ≤ totS (ss.take i) ∧ walkB rs (ss.take i) ([], []) = some (T0, F0)) (fun H3 e3 => ⟨[], [], [], [], none, rfl, e12.trans e3, (e2.trans e3) _ _ ht1, e3 _ _ hf2, Eqm.refl _, Eqm.refl _, by simp, by simp, rfl⟩) (fun i σ' H' _ ⟨_, _, _, _, _, _, e, _⟩ => st_of (e _ _ hp)) ?_ ?_
    · rintro i x σ' H' hx ⟨T, F, T0, F0, s4, rfl, e', ht, hf, q1, q2, hTl, hFl, hw⟩
      obtain ⟨s, hs, hst⟩ := AllV.at hus hx
      have hst' := (StepAt.mn s).mo _ _ _ e' hst
      have hrs' := hrs.ex e'
      have hvst := hvs s (List.mem_of_getElem? hs)
      have hi : i < ss.length := (List.getElem?_eq_some_iff.mp hs).1
      have htl := totS_take_le ss i
      have hem := stepB_eqm (rs := rs) q1 q2 s
      show (tSeq _ _) _ _ _
      refine q_when (b := !(stepB rs T F s).isSome) (et_not (et_B (ev_call (vs := [.ref a, x, .ref t, .ref f]) (ea_cons (ev_var rfl) (ea_cons (ev_var rfl) (ea_cons (ev_var rfl) (ea_cons (ev_var rfl) ea_nil)))) (fun H3 e3 Q3 q3 E3 => ⟨a, t, f, x, rs, s, T, F, rfl, hrs'.ex e3, hsz, (StepAt.mn s).mo _ _ _ e3 hst', hvst, e3 _ _ ht, e3 _ _ hf, q3⟩)))) (fun hb H3 e3 => ?_) (fun hb H3 e3 => ?_)
      · refine s_ret ev_c (fun H4 e4 => k0 (walk_none hw hs ?_) H4 (e'.trans (e3.trans e4)))
        have := not_t hb
        rw [hem] at this
        cases hq : stepB rs T0 F0 s with
        | none => rfl
        | some y => rw [hq] at this; cases this
      · have hsome := not_f hb
        rw [hem] at hsome
        obtain ⟨y, hy⟩ := Option.isSome_iff_exists.mp hsome
        have hnext := walk_some hw hs hy
        have htk := totS_take hs
        cases s with
        | bl b => exact absurd hvst id
        | str c => exact absurd hvst id
        | int n =>
          have hx1 : x = .int n := hst'
          subst hx1
          obtain ⟨vs, hvl, hall⟩ := hrs'
          obtain ⟨r, hr, rfl⟩ := Option.map_eq_some_iff.mp hy
          obtain ⟨h0, hrn, _, _⟩ := intB_some hr
          have hin := (List.getElem?_eq_some_iff.mp hrn).1
          have hvll := hall.1
          obtain ⟨xv, hxv⟩ : ∃ xv, vs[n.toNat]? = some xv := ⟨_, List.getElem?_eq_getElem (by omega)⟩
          obtain ⟨pr, w, dn, rfl, c1, c2, c3⟩ := hall.2 _ _ _ hxv hrn
          have hat : atI vs n = some (.ref pr) := by
            have := atI_nat hxv
            rwa [Int.toNat_of_nonneg h0] at this
          refine s_if (b := true) (et_B (ev_isi (b := true) (ev_var rfl) (fun H9 _ => .base (.int n)) (by decide +kernel))) (fun _ H4 e4 => ?_) (fun h => absurd h (by decide))
          have e34 := e3.trans e4
          refine s_app (xs := nmL T) (e34 _ _ ht) (ev_var rfl) (v := nmV r.1) (ev_op (ev_op (ev_var rfl) (ev_var rfl) (rv_ixL (K := K) (sq_of (e34 _ _ hvl)) hat)) ev_c (rv_ixT (K := K) (st_of (e34 _ _ c1)) rfl)) (by rw [nmL_len]; omega) (fun H5 e5 => ?_)
          refine ⟨T ++ [r.1], F, addN T0 r.1, F0, _, rfl, Ex.mut (e'.trans (e34.trans e5)) ht0, by rw [upd_same]; unfold nmL; rw [List.map_append]; rfl, by rw [upd_ne htf.symm]; exact (e34.trans e5) _ _ hf, q1.addN, q2, by rw [List.length_append]; show _ + 1 ≤ _; omega, by rw [htk]; omega, hnext⟩
        | tup xs =>
          obtain ⟨u, rfl, hu, hxl⟩ := hst'
          obtain ⟨v1, v2, v3⟩ := hvst
          obtain ⟨m1, m2⟩ := ms_names v3
          have hum : H' u = some (.tup (nmL (msOf xs))) := by
            have := hu
            rwa [m1, it_nm] at this
          have hml : (msOf xs).length = xs.length := by
            have := congrArg List.length m1
            rw [List.length_map] at this
            exact this.symm
          have hsx : szS (.tup xs) = xs.length := rfl
          have htl2 := totS_take_le ss (i + 1)
          refine s_if (b := false) (et_B (ev_isi (b := false) (ev_var rfl) (fun H9 e9 => .base (.tup ((e3.trans e9) _ _ hu))) (by decide +kernel))) (fun h => absurd h (by decide)) (fun _ H4 e4 => ?_)
          have e34 := e3.trans e4
          refine s_extX (xs := nmL F) (PL := fun zs H => zs = nmL (msOf xs)) (e34 _ _ hf) (ev_var rfl) ((x_evL (el_listT (ev_var rfl) (e34 _ _ hum))).imp fun v H5 ⟨q, a1, _, a2⟩ => ⟨q, _, a1, a2, rfl⟩) (fun zs H5 h => by rw [h, nmL_len, nmL_len]; omega) (fun zs H5 e5 h => ?_)
          subst h
          have hy2 : y = (T0, addAll F0 (msOf xs)) := by
            have h2 : (if (decide (1 ≤ xs.length) && decide (xs.length ≤ 10)) && (xs.all (inNs (namesOf rs)) && unfB rs T0 F0 (msOf xs)) then some (T0, addAll F0 (msOf xs)) else none) = some y := hy
            split at h2
            · exact (Option.some.inj h2).symm
            · cases h2
          rw [hy2] at hnext
          refine ⟨T, F ++ msOf xs, T0, addAll F0 (msOf xs), _, rfl, Ex.mut (e'.trans (e34.trans e5)) hf0, by rw [upd_ne htf]; exact (e34.trans e5) _ _ ht, by rw [upd_same]; unfold nmL; rw [List.map_append], q1, q2.app, by omega, by rw [List.length_append, htk, hml, hsx]; omega, hnext⟩
    · rintro σ' H' ⟨T, F, T0, F0, s4, rfl, e', ht, hf, q1, q2, hTl, hFl, hw⟩
      rw [hul, List.take_length] at hw hFl
      have rT := rise_eqm q1
      have rF := rise_eqm q2
      refine sx_ret (x_tup (x_cons (P := fun v H' => ∃ q, v = .ref q ∧ H' q = some (.tup (nmL (riseOf T0)))) (x_tupNL (K := K) (by rw [← rT]; exact el_setA (K := K) (P := prog) (w := w) (ev_var rfl) (.inr ht) (by omega))) (fun v H1 H2 e ⟨q, a, b⟩ => ⟨q, a, e _ _ b⟩) (x_one (P := fun v H' => ∃ q, v = .ref q ∧ H' q = some (.tup (nmL (riseOf F0)))) (x_tupNL (K := K) (by rw [← rF]; exact el_setA (K := K) (P := prog) (w := w) (ev_var rfl) (.inr hf) (by omega))))) (fun vs H1 H2 e ⟨v, r, h1, ⟨q, h2, h3⟩, v2, h4, q2, h5, h6⟩ => ⟨v, r, h1, ⟨q, h2, e _ _ h3⟩, v2, h4, q2, h5, e _ _ h6⟩) (fun vs H1 ⟨v, r, h1, _, v2, h4, _⟩ => by rw [h1, h4]; exact few5 rfl)) ?_
      rintro v H6 e6 ⟨q, vs, rfl, hq, v1, r, rfl, ⟨q1', rfl, g1⟩, v2, rfl, q2', rfl, g2⟩
      exact k1 T0 F0 hw q q1' q2' H6 (e'.trans e6) hq g1 g2

end
end Tx
end
section
set_option Elab.async false
set_option linter.all false
set_option maxRecDepth 100000
set_option maxHeartbeats 4000000
namespace Tx
open PySem PySem.Spec PyProof.Rows L2 Evl Wk
section
variable {w : World} {K : PySem.W.Frag} {mg : Str → Option Value} {base : Heap}

def dPairI (z : Nat × Nat) : PyData := .tuple [.str (tx [z.1]), .int (z.2 : Int)]
theorem okPI {st : List (Nat × Nat)} (h : Lo (st.map Prod.fst)) : LayD 2 (.tuple (st.map dPairI)) := LayD.tup fun d hd => by
  obtain ⟨z, hz, rfl⟩ := List.mem_map.mp hd
  refine LayD.tup fun e he => ?_
  rcases List.mem_cons.mp he with x | x
  · rw [x]; exact okD_nm (h _ (List.mem_map_of_mem hz))
  · rw [List.mem_singleton.mp x]; exact okD_int _
theorem dpPI {H : Hp} {q : Addr} {st : List (Nat × Nat)} {ys : List V} (hq : H q = some (.tup ys)) (h : AllV PairI st ys H) : Dp K H (.ref q) (.tuple (st.map dPairI)) := .tup (st_of hq) (dpAll_of h fun z v _ ⟨p, ev, hp⟩ => by
  subst ev
  exact .tup (st_of hp) (.cons (.str _) (.cons (.int _) .nil)))
theorem wN_ok {rs : List Rw} {s : List Nat} (hw : isW rs s = true) : ∀ (n : Nat) (st : List (Nat × Nat)), WOk s st → WOk s (wN rs s n st)
  | 0, st, h => h
  | n + 1, st, h => by
    unfold wN
    split
    · exact wN_ok hw n _ (wFold_ok hw _ _ (fun z hz => zip_mem hz) h)
    · exact h
theorem wst_ok {rs : List Rw} {s : List Nat} (hw : isW rs s = true) : WOk s (wstOf rs s) := wN_ok hw _ _ ⟨List.nodup_nil, fun c hc => by cases hc⟩
def sp_world_right (K : PySem.W.Frag) : Sp := fun vs H Q _ => ∃ (a p q : Addr) (rs : List Rw) (s : List Nat) (ys : List V), vs = [.ref a, .ref p, .ref q] ∧ RowsAt rs a H ∧ SzRs rs ∧ (namesOf rs).length ≤ 10 ∧ Lo (namesOf rs) ∧ H p = some (.tup (nmL s)) ∧ isW rs s = true ∧ H q = some (.tup ys) ∧ AllV PairI (wstOf rs s) ys H ∧ ∀ H', Ex H H' → Q (.bl true) H'
theorem sc__law_world_right : FnScope ["clauses", "world", "rows", "known", "again", "at", "head", "wanted", "denied", "is_good", "name"] ["clauses", "world", "rows"] (defScope s__law_world_right) := ⟨rfl, rfl, rfl, by decide +kernel, rfl, by decide +kernel, by decide +kernel⟩
theorem ok__law_world_right (Z : Zx K mg) : OkD prog w K mg base CX0 1 "_law_world_right" ["clauses", "world", "rows"] (sp_world_right K) := by
  obtain ⟨fd, F0⟩ := Z.fun_ 58
  have F : Fun K "_law_world_right" "_law_world_right" s__law_world_right (He.ga K "_law_world_right") fd := Wk.fun_of F0
  have n_all := Z.free 62 (x := "all")
  have n_any := Z.free 63 (x := "any")
  have n_enumerate := Z.free 65 (x := "enumerate")
  have n_len := Z.free 68 (x := "len")
  have n_tuple := Z.free 76 (x := "tuple")
  refine ⟨fd, ?_, F.binds (ps := ["clauses", "world", "rows"]) fun _ _ _ _ _ _ us hl => match us, hl with | [_, _, _], _ => rfl, Z.glo 51, F.kp⟩
  refine F.ok sc__law_world_right (fun vs H Q E h => ?_) (fun cdv A outer s H vs Q E hr h => ?_)
  · obtain ⟨a, p, q, rs, s, ys, rfl, ⟨us, ha, hall⟩, hsz, hn10, hlo, hp, hw, hq, hys, k⟩ := h
    rfl
  · obtain ⟨a, p, q, rs, s, ys, rfl, ⟨us, ha, hall⟩, hsz, hn10, hlo, hp, hw, hq, hys, k⟩ := h
    have hu64 := hr.units
    refine ⟨_, (pss_cons (ps_asg (pe_tup (pa_cons (pe_lst pa_nil) (pa_cons (pe_lst pa_nil) pa_nil))) (pg_tup rfl (pgs_cons (pg_name (i := 3) sc__law_world_right.nd rfl (by first | exact Or.inl rfl | exact Or.inr rfl)) (pgs_cons (pg_name (i := 4) sc__law_world_right.nd rfl (by first | exact Or.inl rfl | exact Or.inr rfl)) pgs_nil)))) (pss_cons (ps_while PassesOwn.never (pt_cmpR op_lt (pe_callB call_len_seq (by rfl) n_len (by decide +kernel) (pa_cons (pv 3) pa_nil)) (pe_callB call_len_seq (by rfl) n_len (by decide +kernel) (pa_cons (pv 1) pa_nil)) (nomark _)) (pss_one (ps_for PassesOwn.never rfl (pi_enum (by rfl) n_enumerate (pa_cons (pv 0) pa_nil)) (pg_tup rfl (pgs_cons (pg_name (i := 5) sc__law_world_right.nd rfl (by first | exact Or.inl rfl | exact Or.inr rfl)) (pgs_cons (pg_tup rfl (pgs_cons (pg_name (i := 6) sc__law_world_right.nd rfl (by first | exact Or.inl rfl | exact Or.inr rfl)) (pgs_cons (pg_name (i := 7) sc__law_world_right.nd rfl (by first | exact Or.inl rfl | exact Or.inr rfl)) (pgs_cons (pg_name (i := 8) sc__law_world_right.nd rfl (by first | exact Or.inl rfl | exact Or.inr rfl)) pgs_nil)))) pgs_nil))) (pss_cons (ps_set (i := 9) sc__law_world_right.nd rfl (by first | exact Or.inl rfl | exact Or.inr rfl) (pe_and (pe_callB (cr_all rfl) (by rfl) n_all (by decide +kernel) (pa_cons (pe_lc (te := (tOp (rIn K false) (tVar 10) (tVar 3))) (own := [("name", 10)]) rfl sc__law_world_right.nd (pi_list (pv 7)) (blkOk_by (own := [("name", 10)]) (N := ["clauses", "world", "rows", "known", "again", "at", "head", "wanted", "denied", "is_good", "name"]) (sc := defScope s__law_world_right) (by decide +kernel)) (fun _ _ _ _ _ => pg_name (i := 10) sc__law_world_right.nd rfl (by first | exact Or.inl rfl | exact Or.inr rfl)) (fun _ _ _ _ _ => pts_nil) (fun _ _ _ _ _ => (pe_cmpR op_in_seq (pv 10) (pv 3) rfl))) pa_nil)) (pe_one (pe_not (pe_callB (cr_any rfl) (by rfl) n_any (by decide +kernel) (pa_cons (pe_lc (te := (tOp (rIn K false) (tVar 10) (tVar 1))) (own := [("name", 10)]) rfl sc__law_world_right.nd (pi_list (pv 8)) (blkOk_by (own := [("name", 10)]) (N := ["clauses", "world", "rows", "known", "again", "at", "head", "wanted", "denied", "is_good", "name"]) (sc := defScope s__law_world_right) (by decide +kernel)) (fun _ _ _ _ _ => pg_name (i := 10) sc__law_world_right.nd rfl (by first | exact Or.inl rfl | exact Or.inr rfl)) (fun _ _ _ _ _ => pts_nil) (fun _ _ _ _ _ => (pe_cmpR op_in_seq (pv 10) (pv 1) rfl))) pa_nil)))))) (pss_one (ps_if (pw_and (pt_val (pv 9)) (pw_and1 (pt_cmpR op_notIn_seq (pv 6) (pv 3) rfl))).pt (pss_cons (ps_expr (pe_bm PySem.F.plainAttrs_list PySem.F.slot_list_append PySem.F.type_list_append mt_append (pv 3) (pa_cons (pv 6) pa_nil))) (pss_one (ps_expr (pe_bm PySem.F.plainAttrs_list PySem.F.slot_list_append PySem.F.type_list_append mt_append (pv 4) (pa_cons (pe_tup (pa_cons (pv 6) (pa_cons (pv 5) pa_nil))) pa_nil))))) pss_nil)))))) (pss_one (ps_ret (pe_cmpR (op_eqD hu64) (pv 2) (pe_callTy call_tuple_of (by rfl) n_tuple (by decide +kernel) (pa_cons (pv 4) pa_nil)) (nomark _)))))), ?_⟩
    have hul := hall.1
    have hb2 := isW_Bo.mp hw
    have hs10 : s.length ≤ 10 := by
      have := Bo_len rs s
      rw [hb2] at this
      omega
    have hsn : ∀ c, c ∈ s → c ∈ namesOf rs := fun c hc => by rw [← hb2] at hc; exact Bo_names hc
    refine q_asgTupX (P2 := fun x y H' => ∃ t f, x = .ref t ∧ y = .ref f ∧ H t = none ∧ H f = none ∧ t ≠ f ∧ H' t = some (.lst []) ∧ H' f = some (.lst [])) ((x_tup (PA := fun vs H' => ∃ t f, vs = [.ref t, .ref f] ∧ H t = none ∧ H f = none ∧ t ≠ f ∧ H' t = some (.lst []) ∧ H' f = some (.lst [])) (fun H3 e3 Q3 q3 => ?_) (fun vs H3 H4 e ⟨t, f, h1, h2, h3, h4, h5, h6⟩ => ⟨t, f, h1, h2, h3, h4, e _ _ h5, e _ _ h6⟩) (fun vs H3 ⟨t, f, h1, _⟩ => by rw [h1]; exact few5 rfl)).imp ?_) ?_
    · refine ⟨sz_of (few5 rfl), fun t ht => ⟨sz_of (few5 rfl), fun f hf => ?_⟩⟩
      have htf : t ≠ f := ne_new (upd_same (H := H3) (a := t)) hf
      exact q3 _ _ ((Ex.new ht).trans (Ex.new hf)) ⟨t, f, rfl, fresh_back e3 ht, fresh_back (e3.trans (Ex.new ht)) hf, htf, by rw [upd_ne htf]; exact upd_same, upd_same⟩
    · rintro u H3 ⟨q, vs, rfl, hq, t, f, rfl, h1⟩
      exact ⟨q, _, _, rfl, hq, t, f, rfl, rfl, h1⟩
    rintro x y H3 e3 ⟨t, f, rfl, rfl, ht0, hf0, htf, ht3, hf3⟩
    obtain ⟨W, hW⟩ : ∃ W : Nat → L2.St → Hp → Prop, W = fun m σ' H' => ∃ (st : List (Nat × Nat)) (vs : List V) (s5 s6 s7 s8 s9 s10 : Option V), σ' = [some (.ref a), some (.ref p), some (.ref q), some (.ref t), some (.ref f), s5, s6, s7, s8, s9, s10] ∧ Ex H H' ∧ H' t = some (.lst (nmL (st.map Prod.fst))) ∧ H' f = some (.lst vs) ∧ AllV PairI st vs H' ∧ WOk s st ∧ s.length < m + st.length ∧ wstOf rs s = wN rs s m st := ⟨_, rfl⟩
    refine q_while W (s.length + 1) (by
      rw [hW]
      exact ⟨[], [], none, none, none, none, none, none, rfl, e3, ht3, hf3, AllV.nil, ⟨List.nodup_nil, fun c hc => by cases hc⟩, by simp, rfl⟩) ?_
    intro m σ' H' hWm
    rw [hW] at hWm
    obtain ⟨st, vs, s5, s6, s7, s8, s9, s10, rfl, e', ht', hf', hvs, hok, hm, hst⟩ := hWm
    have hvl := hvs.1
    have hstl := hok.len
    refine ⟨decide (st.length < s.length), et_test (ev_is (ev_op (ev_len (ev_var rfl) (sq_of ht')) (ev_lenT (K := K) (ev_var rfl) (st_of (e' _ _ hp))) rv_I0) (by rw [nmL_len, nmL_len, List.length_map]; congr 1; rw [decide_eq_decide]; omega)), fun hb H5 e5 => ?_, fun hb H5 e5 => ?_⟩
    · have hlt := of_decide_eq_true hb
      obtain ⟨m, rfl⟩ : ∃ m', m = m' + 1 := ⟨m - 1, by omega⟩
      have hstep : wN rs s (m + 1) st = if st.length < s.length then wN rs s m (wPass rs s st) else st := rfl
      rw [hstep, if_pos hlt] at hst
      refine ⟨fun σ2 H6 => ∃ m', m' < m + 1 ∧ W m' σ2 H6, fun _ _ h => h, ?_⟩
      refine s_forEnum3 (K := K) (xs := us) (ev_var rfl) (e5 _ _ (e' _ _ ha)) (fun i σ' H6 => ∃ (vs : List V) (s5 s6 s7 s8 s9 s10 : Option V), σ' = [some (.ref a), some (.ref p), some (.ref q), some (.ref t), some (.ref f), s5, s6, s7, s8, s9, s10] ∧ Ex H H6 ∧ H6 t = some (.lst (nmL (((rs.zipIdx.take i).foldl (wStep s) st).map Prod.fst))) ∧ H6 f = some (.lst vs) ∧ AllV PairI ((rs.zipIdx.take i).foldl (wStep s) st) vs H6) (fun H6 e6 => ⟨vs, s5, s6, s7, s8, s9, s10, rfl, e'.trans (e5.trans e6), (e5.trans e6) _ _ ht', (e5.trans e6) _ _ hf', pairI_tu hvs (Tu.of (e5.trans e6))⟩) (fun i σ' H6 ⟨_, _, _, _, _, _, _, _, e, _⟩ => e _ _ ha) ?_ ?_
      · rintro i x σ' H6 H7 hx ⟨vs, s5, s6, s7, s8, s9, s10, rfl, e6, ht6, hf6, hvs6⟩ e7
        obtain ⟨r, hr, pr, w, dn, rfl, c1, c2, c3⟩ := AllV.at hall hx
        obtain ⟨z1, z2⟩ := hsz.2.1 r (List.mem_of_getElem? hr)
        have e67 := e6.trans e7
        refine ⟨pr, _, _, _, rfl, e67 _ _ c1, ?_⟩
        have c2 := e67 _ _ c2
        have c3 := e67 _ _ c3
        have hok6 : WOk s ((rs.zipIdx.take i).foldl (wStep s) st) := wFold_ok hw _ _ (fun z hz => zip_mem (List.mem_of_mem_take hz)) hok
        rw [zip_take hr, List.foldl_append]
        have hfl : [(r, i)].foldl (wStep s) ((rs.zipIdx.take i).foldl (wStep s) st) = wStep s ((rs.zipIdx.take i).foldl (wStep s) st) (r, i) := rfl
        rw [hfl]
        generalize (rs.zipIdx.take i).foldl (wStep s) st = S at *
        have hSl := hok6.len
        have hvl6 := hvs6.1
        refine q_asg (v := .bl ((r.2.1.all fun c => decide (c ∈ S.map Prod.fst)) && okB s r)) (ev_andV (ev_allc (K := K) (p := fun c => decide (c ∈ S.map Prod.fst)) (as := r.2.1) (inj := nmV) (ei_L (K := K) (ev_var rfl) (sq_of c2)) (by omega) (fun _ => rfl) (fun c _ H9 e9 => ev_inL (K := K) (ev_var rfl) (ev_var rfl) (sq_of ((e7.trans e9) _ _ ht6)))) (fun _ => ev_notV (ev_anyc (K := K) (p := fun c => decide (c ∈ s)) (as := r.2.2) (inj := nmV) (ei_L (K := K) (ev_var rfl) (sq_of c3)) (by omega) (fun _ => rfl) (fun c _ H9 e9 => ev_inT (K := K) (ev_var rfl) (ev_var rfl) (st_of ((e67.trans e9) _ _ hp)))))) (fun H8 e8 => ?_)
        have e78 := e7.trans e8
        refine s_when (b := wAdd s S r) (et_and (et_B (ev_var rfl)) (fun _ => et_test (ev_niL (K := K) (ev_var rfl) (ev_var rfl) (sq_of (e78 _ _ ht6))))) (fun hb H9 e9 => ?_) (fun hb H9 e9 => ?_)
        · obtain ⟨_, _, hnS⟩ := wAdd_iff hb
          have e79 := e78.trans e9
          have eS : wStep s S (r, i) = S ++ [(r.1, i)] := by unfold wStep; exact if_pos hb
          have hml : (S.map Prod.fst).length ≤ 10 := by rw [List.length_map]; omega
          refine q_app (xs := nmL (S.map Prod.fst)) (v := nmV r.1) (e79 _ _ ht6) (ev_var rfl) (ev_var rfl) (by rw [nmL_len]; omega) (fun H10 e10 => ?_)
          have e710 := e79.trans e10
          have htf2 : upd H10 t (.lst (nmL (S.map Prod.fst) ++ [nmV r.1])) f = some (.lst vs) := by rw [upd_ne htf.symm]; exact e710 _ _ hf6
          have u1 : Tu H10 (upd H10 t (.lst (nmL (S.map Prod.fst) ++ [nmV r.1]))) := Tu.upd (e710 _ _ ht6) (fun zs h => by cases h)
          refine s_appU (xs := vs) (ys := [nmV r.1, .int (i : Int)]) htf2 (ev_var rfl) (eu_tup (ea_cons (ev_var rfl) (ea_cons (ev_var rfl) ea_nil)) (few5 rfl)) (by omega) (fun o H11 ho e11 h11 => ?_)
          have u2 : Tu H11 (upd H11 f (.lst (vs ++ [.ref o]))) := Tu.upd (e11 _ _ htf2) (fun zs h => by cases h)
          refine ⟨vs ++ [.ref o], _, _, _, _, _, _, rfl, Ex.mut ((Ex.mut (e6.trans e710) ht0).trans e11) hf0, ?_, upd_same, ?_⟩
          · rw [upd_ne htf, eS, List.map_append]
            have := e11 _ _ (upd_same (H := H10) (a := t) (o := .lst (nmL (S.map Prod.fst) ++ [nmV r.1])))
            rw [this]
            unfold nmL
            rw [List.map_append]
            rfl
          · rw [eS]
            exact AllV.cat (pairI_tu hvs6 ((Tu.of e710).trans (u1.trans ((Tu.of e11).trans u2)))) (AllV.cons ⟨o, rfl, u2 _ _ h11⟩ AllV.nil)
        · have e79 := e78.trans e9
          have eS : wStep s S (r, i) = S := by unfold wStep; exact if_neg (by rw [hb]; decide)
          rw [eS]
          exact ⟨vs, _, _, _, _, _, _, rfl, e6.trans e79, e79 _ _ ht6, e79 _ _ hf6, pairI_tu hvs6 (Tu.of e79)⟩
      · rintro σ' H6 ⟨vs, s5, s6, s7, s8, s9, s10, rfl, e6, ht6, hf6, hvs6⟩
        have hz : rs.zipIdx.take us.length = rs.zipIdx := List.take_of_length_le (by rw [List.length_zipIdx, hul]; exact Nat.le_refl _)
        rw [hz] at ht6 hvs6
        have hmore := wPass_more hw hok hlt
        have hok2 : WOk s (wPass rs s st) := wFold_ok hw _ _ (fun z hz => zip_mem hz) hok
        refine ⟨m, Nat.lt_succ_self _, ?_⟩
        rw [hW]
        exact ⟨wPass rs s st, vs, _, _, _, _, _, _, rfl, e6, ht6, hf6, hvs6, hok2, by omega, hst⟩
    · have hge := of_decide_eq_false hb
      have hend : wstOf rs s = st := by
        rw [hst]
        cases m with
        | zero => rfl
        | succ m =>
          show (if st.length < s.length then _ else st) = st
          rw [if_neg hge]
      rw [hend] at hys
      have e05 := e'.trans e5
      refine s_ret (ev_eqD (K := K) (d := .tuple (st.map dPairI)) (n := 2) (fun H6 e6 Q6 q6 => ev_var (v := .ref q) rfl H6 (Ex.refl _) _ fun H7 e7 => q6 _ H7 e7 (dpPI ((e05.trans (e6.trans e7)) _ _ hq) (pairI_tu hys (Tu.of (e05.trans (e6.trans e7)))))) (fun H6 e6 Q6 q6 => x_tup1 (K := K) (ev_var (i := 4) rfl) (e5 _ _ hf') H6 e6 _ fun v H7 e7 ⟨o, ev, ho⟩ => q6 v H7 e7 (by subst ev; exact dpPI ho (pairI_tu hvs (Tu.of (e5.trans (e6.trans e7)))))) (okPI fun c hc => hlo c (hsn c (hok.sub c hc))) (by decide)) (fun H6 e6 => k H6 (e05.trans e6))

end
end Tx
end
section
set_option Elab.async false
set_option linter.all false
set_option maxRecDepth 100000
set_option maxHeartbeats 4000000
namespace Tx
open PySem PySem.Spec PyProof.Rows L2 Evl Wk
section
variable {w : World} {K : PySem.W.Frag} {mg : Str → Option Value} {base : Heap}

theorem tu_ed {k : Nat} {d : Addr} {H H' : Hp} (hk : DiceAt k d H) (e : Ed d H H') : Tu H H' := fun p xs h => e.at h (fun x => by
  subst x
  obtain ⟨b, m, c, _, _, _, _, h5⟩ := hk
  rw [h] at h5
  cases h5)
section
variable {σ : L2.St} {H : Hp} {d : Addr} {ta tb te : TE} {D : Ends} {c1 c2 : Nat} {P : V → Hp → Prop}
theorem sd_ret {c k : Nat} (h : ED te σ d H c P) (hk : DiceAt k d H) (hc : k + c ≤ 90000) (kk : ∀ v H1, Ed d H H1 → DiceAt (k + c) d H1 → P v H1 → D.rt v H1) : tRet te D σ H := h k H (Ed.refl d H) hk hc _ kk
theorem sd_if {c k : Nat} {tu tw : TS} (h : ED te σ d H c (fun v _ => ∃ b, v = .bl b)) (hk : DiceAt k d H) (hc : k + c ≤ 90000) (h1 : ∀ H1, Ed d H H1 → DiceAt (k + c) d H1 → tu D σ H1) (h2 : ∀ H1, Ed d H H1 → DiceAt (k + c) d H1 → tw D σ H1) : tIfS (tTest te) tu tw D σ H :=
  h k H (Ed.refl d H) hk hc _ fun v H1 e hk1 ⟨b, ev⟩ => ⟨b, ev, by
    cases b with
    | true => exact h1 H1 e hk1
    | false => exact h2 H1 e hk1⟩
theorem sd_app {c k : Nat} {l : Addr} {xs : List V} (hl : H l = some (.lst xs)) (hld : l ≠ d) (ha : Ev ta σ H (.ref l)) (h : ED te σ d H c P) (hk : DiceAt k d H) (hc : k + c ≤ 90000) (hz : xs.length < 100000)
    (kk : ∀ v H1, Ed d H H1 → DiceAt (k + c) d H1 → P v H1 → D.nx σ (upd H1 l (.lst (xs ++ [v])))) : tDrop (tBM K "list" rAppend ta (tCons te tNil)) D σ H := ha H (Ex.refl H) _ fun H1 e1 =>
  ⟨Or.inl ⟨rfl, xs, sq_of (e1 l _ hl)⟩, h k H1 (Ed.of e1) (hk.ex e1) hc _ fun v H2 e2 hk2 pv => ⟨l, xs, v, rfl, rfl, e2.at (e1 _ _ hl) hld, sz_lt hz, kk v H2 ((Ed.of e1).trans e2) hk2 pv⟩⟩
theorem ed_eq0 {n : Nat} {c : Nat} (h : ED te σ d H c (fun v _ => ∃ i : Nat, i < n ∧ v = .int (i : Int))) : ED (tOp rEq te (tC (.int 0))) σ d H c (fun v _ => ∃ b, v = .bl b) := fun k H1 e hk hc Q q =>
  h k H1 e hk hc _ fun v H2 e2 hk2 ⟨i, hi, ev⟩ => by
    subst ev
    exact rv_eq (x := .int (i : Int)) (y := .int 0) (by rfl) H2 (Ex.refl H2) Q fun H3 e3 => q _ H3 (e2.trans (Ed.of e3)) (hk2.ex e3) ⟨_, rfl⟩
/-- tuple(sorted(set(names that are drawn))) -/
theorem ed_setT {c : Nat} {A : List Nat → Prop} (h : ED te σ d H c (fun v H' => ∃ p ms, v = .ref p ∧ H' p = some (.lst (nmL ms)) ∧ ms.length < 64 ∧ A ms)) :
    ED (tCB (rTupS K) (tCons (tCB (TXS.rSortX prog w) (tCons (tCB (TXS.rSetX K prog w) (tCons te tNil)) tNil)) tNil)) σ d H c (fun v H' => ∃ q ms, v = .ref q ∧ H' q = some (.tup (nmL (riseOf ms))) ∧ A ms) := fun k H1 e hk hc Q q =>
  h k H1 e hk hc _ fun v H2 e2 hk2 ⟨p, ms, ev, hp, hl, ha⟩ => by
    subst ev
    exact (x_tupNL (K := K) (σ := σ) (te := tCB (TXS.rSortX prog w) (tCons (tCB (TXS.rSetX K prog w) (tCons (tC (.ref p)) tNil)) tNil)) (el_setA (K := K) (P := prog) (w := w) (te := tC (.ref p)) ev_c (.inr hp) hl)) H2 (Ex.refl _) Q fun v H3 e3 ⟨o, eo, ho⟩ => q v H3 (e2.trans (Ed.of e3)) (hk2.ex e3) ⟨o, ms, eo, ho, ha⟩
end
section
variable {σ : L2.St} {H : Hp} {ta te tl tn : TE} {tr : TA} {D : Ends} {tu tz : TS} {d : Addr}
/-- the same, not empty -/
theorem d_lcR1 {j N c0 c1 : Nat} {vs : List Nat} {P : V → Prop} (hn : ED tn σ d H c0 (fun v _ => ∃ i : Nat, 1 ≤ i ∧ i ≤ N ∧ v = .int (i : Int))) (hN : N ≤ 100) (hw : ∀ x, wipe ((wipe σ vs).set j (some x)) vs = wipe σ vs)
    (he : ∀ (i : Nat) H1, Ed d H H1 → ED te ((wipe σ vs).set j (some (.int (i : Int)))) d H1 c1 (fun v _ => P v)) :
    ED (tLc (iRng1 (tCons tn tNil)) (gName j) tYes te vs) σ d H (c0 + N * c1) (fun v H' => ∃ p ys, v = .ref p ∧ H p = none ∧ p ≠ d ∧ H' p = some (.lst ys) ∧ 1 ≤ ys.length ∧ ys.length ≤ N ∧ ∀ y, y ∈ ys → P y) := fun k H1 e hk hlt Q q =>
  hn k H1 e hk (by omega) _ fun v H2 e2 hk2 ⟨n, hn1, hnN, ev⟩ => by
    subst ev
    have hmul : ∀ i, i ≤ n → i * c1 ≤ N * c1 := fun i hi => Nat.mul_le_mul_right _ (Nat.le_trans hi hnN)
    refine ⟨(n : Int), rfl, by omega, by omega, fun Dl hD => ?_⟩
    have hDd : Dl ≠ d := dice_ne hk2 hD
    refine lc_it (walk_range (lo := 0)) (fun i H' => Ed d H2 H' ∧ DiceAt (k + c0 + i * c1) d H' ∧ ∃ ys, H' Dl = some (.lst ys) ∧ ys.length = i ∧ ∀ y, y ∈ ys → P y) ⟨Ed.of (Ex.new hD), by rw [Nat.zero_mul]; exact dice_upd hk2 hDd, [], upd_same, rfl, fun y hy => by cases hy⟩ (fun _ _ _ _ => trivial) ?_ ?_
    · rintro i x H' H'' hi ⟨p1, p2, ys, p3, p4, p5⟩ ⟨rfl, rfl⟩
      have hin : i < n := by simpa using hi
      have e0 : (fun i : Nat => V.int ((0 : Int) + (i : Int))) i = V.int (i : Int) := by
        show V.int ((0 : Int) + (i : Int)) = _
        rw [Int.zero_add]
      rw [e0]
      refine ⟨hw _, et_yes (σ := (wipe σ vs).set j (some (.int (i : Int)))) H'' (Ex.refl _) _ fun H3 e3 => ?_⟩
      show te _ H3 _
      have h1 := hmul (i + 1) hin
      rw [Nat.add_mul, Nat.one_mul] at h1
      refine he i H3 (e.trans (e2.trans (p1.trans (Ed.of e3)))) (k + c0 + i * c1) H3 (Ed.refl d H3) (p2.ex e3) (by omega) _ fun u H4 e4 hk4 pu => ?_
      have hD4 := e4.at (e3 _ _ p3) hDd
      refine ⟨ys, hD4, sz_lt (by omega), Ex.mut (p1.trans ((Ed.of e3).trans e4)) (del_none hD), ?_, ys ++ [u], upd_same, by simp [p4], fun y hy => ?_⟩
      · rw [Nat.add_mul, Nat.one_mul, ← Nat.add_assoc]
        exact dice_upd hk4 hDd
      · rcases List.mem_append.mp hy with h | h
        · exact p5 y h
        · have : y = u := by simpa using h
          rw [this]; exact pu
    · rintro H' ⟨p1, p2, ys, p3, p4, p5⟩
      have h1 := hmul n (Nat.le_refl n)
      have hnt : (n : Int).toNat = n := by omega
      rw [hnt] at p2 p4
      refine q _ H' (e2.trans p1) (p2.mono (by omega)) ⟨Dl, ys, rfl, ?_, hDd, p3, by omega, by omega, p5⟩
      cases hh : H Dl with
      | none => rfl
      | some o =>
        have := (e.trans e2).at hh hDd
        rw [hD] at this
        cases this
/-- zs.append(ls.pop(a place that rolls)) -/
theorem sd_appPop {c k : Nat} {l f : Addr} {ls zs : List V} {tb : TE} (hl : H l = some (.lst ls)) (hld : l ≠ d) (hf : H f = some (.lst zs)) (hfd : f ≠ d) (hlf : l ≠ f) (ha : Ev ta σ H (.ref f)) (hb : Ev tb σ H (.ref l)) (h : ED te σ d H c (fun v _ => ∃ j : Nat, j < ls.length ∧ v = .int (j : Int))) (hk : DiceAt k d H) (hc : k + c ≤ 90000) (hz : zs.length < 100000) (hls : ls.length < 100000)
    (kk : ∀ j H1, (hj : j < ls.length) → Ed d H H1 → DiceAt (k + c) d H1 → H1 f = some (.lst zs) → D.nx σ (upd (upd H1 l (.lst (ls.eraseIdx j))) f (.lst (zs ++ [ls[j]])))) : tDrop (tBM K "list" rAppend ta (tCons (tBM K "list" rPopAt tb (tCons te tNil)) tNil)) D σ H := ha H (Ex.refl H) _ fun H1 e1 =>
  ⟨Or.inl ⟨rfl, zs, sq_of (e1 _ _ hf)⟩, hb H1 e1 _ fun H2 e2 => ⟨Or.inl ⟨rfl, ls, sq_of ((e1.trans e2) _ _ hl)⟩, h k H2 (Ed.of (e1.trans e2)) (hk.ex (e1.trans e2)) hc _ fun v H3 e3 hk3 ⟨j, hj, ev⟩ => by
    subst ev
    have E3 := (Ed.of (d := d) (e1.trans e2)).trans e3
    have hl3 := E3.at hl hld
    have hf3 := E3.at hf hfd
    exact ⟨l, ls, (j : Int), j, ls[j], rfl, rfl, hl3, by omega, by omega, (ixN_seq (ixN_nat hj)).1, List.getElem?_eq_getElem hj, f, zs, ls[j], rfl, rfl, by rw [upd_ne hlf.symm]; exact hf3, sz_lt hz, kk j H3 hj E3 hk3 hf3⟩⟩⟩
end
def sp_shuffled : Sp := fun vs H Q _ => ∃ (d a : Addr) (k : Nat) (ys : List V), vs = [.ref d, .ref a] ∧ DiceAt k d H ∧ k + ys.length ≤ 90000 ∧ H a = some (.lst ys) ∧ a ≠ d ∧ ys.length ≤ 1000 ∧ ∀ p zs H', H p = none → Ed d H H' → DiceAt (k + ys.length) d H' → H' p = some (.lst zs) → zs.length = ys.length → (∀ z, z ∈ zs → z ∈ ys) → Q (.ref p) H'
theorem sc__law_shuffled : FnScope ["dice", "things", "left", "found", "turn"] ["dice", "things"] (defScope s__law_shuffled) := ⟨rfl, rfl, rfl, by decide +kernel, rfl, by decide +kernel, by decide +kernel⟩
theorem ok__law_shuffled (Z : Zx K mg) : OkD prog w K mg base CX0 2 "_law_shuffled" ["dice", "things"] (sp_shuffled) := by
  obtain ⟨fd, F0⟩ := Z.fun_ 47
  have F : Fun K "_law_shuffled" "_law_shuffled" s__law_shuffled (He.ga K "_law_shuffled") fd := Wk.fun_of F0
  obtain ⟨_, g__law_roll, b__law_roll, m__law_roll, k__law_roll⟩ := ok__law_roll (w := w) (base := base) Z
  have n_len := Z.free 68 (x := "len")
  have n_list := Z.free 69 (x := "list")
  have n_range := Z.free 72 (x := "range")
  refine ⟨fd, ?_, F.binds (ps := ["dice", "things"]) fun _ _ _ _ _ _ us hl => match us, hl with | [_, _], _ => rfl, Z.glo 40, F.kp⟩
  refine F.ok sc__law_shuffled (fun vs H Q E h => ?_) (fun cdv A outer s H vs Q E hr h => ?_)
  · obtain ⟨d, a, k, ys, rfl, hk, hk2, ha, had, hyl, q⟩ := h
    rfl
  · obtain ⟨d, a, k, ys, rfl, hk, hk2, ha, had, hyl, q⟩ := h
    refine ⟨_, (pss_cons (ps_par (i := 2) (j := 3) rfl sc__law_shuffled.nd rfl rfl (by decide) rfl rfl (pa_cons (pe_callTy call_list_of (by rfl) n_list (by decide +kernel) (pa_cons (pv 1) pa_nil)) (pa_cons (pe_lst pa_nil) pa_nil)) (by rfl)) (pss_cons (ps_for PassesOwn.never rfl (pi_range1 (by rfl) n_range (pa_cons (pe_callB call_len_seq (by rfl) n_len (by decide +kernel) (pa_cons (pv 2) pa_nil)) pa_nil)) (pg_name (i := 4) sc__law_shuffled.nd rfl (by first | exact Or.inl rfl | exact Or.inr rfl)) (pss_one (ps_expr (pe_bm PySem.F.plainAttrs_list PySem.F.slot_list_append PySem.F.type_list_append mt_append (pv 3) (pa_cons (pe_bm PySem.F.plainAttrs_list PySem.F.slot_list_pop PySem.F.type_list_pop mt_popAt (pv 2) (pa_cons (pe_call g__law_roll (hr.mono (by decide)) (by rfl) m__law_roll k__law_roll b__law_roll .nil pass0 (pa_cons (pv 0) (pa_cons (pe_callB call_len_seq (by rfl) n_len (by decide +kernel) (pa_cons (pv 2) pa_nil)) pa_nil))) pa_nil)) pa_nil))))) (pss_one (ps_ret (pv 3))))), ?_⟩
    refine q_parX (P := fun v H' => ∃ l, v = .ref l ∧ H l = none ∧ H' l = some (.lst ys)) (R := fun H1 v H' => ∃ o, v = .ref o ∧ H1 o = none ∧ H' o = some (.lst [])) (fun H1 e1 Q1 q1 => (ev_var (i := 1) rfl H1 e1 _ fun H2 e2 => ⟨a, ys, rfl, .inl (sq_of ((e1.trans e2) _ _ ha)), fun l hl => q1 _ _ (e2.trans (Ex.new hl)) ⟨l, rfl, fresh_back (e1.trans e2) hl, upd_same⟩⟩)) (fun H1 e1 => x_evL (el_lst ea_nil (few5 rfl))) ?_
    rintro v1 v2 H1 H2 e1 ⟨l, rfl, hl0, hl1⟩ e2 ⟨f, rfl, hf1, hf2⟩
    have hf0 : H f = none := fresh_back e1 hf1
    have hlf : l ≠ f := ne_new hl1 hf1
    have hld : l ≠ d := dice_ne hk hl0
    have hfd : f ≠ d := dice_ne hk hf0
    have e12 := e1.trans e2
    refine q_forR1 (n := (ys.length : Int)) (ea_cons (ev_len (ev_var rfl) (sq_of (e2 _ _ hl1))) ea_nil) (by omega) (fun i σ' H' => ∃ ls zs s4, σ' = [some (.ref d), some (.ref a), some (.ref l), some (.ref f), s4] ∧ Ed d H H' ∧ DiceAt (k + i) d H' ∧ H' l = some (.lst ls) ∧ H' f = some (.lst zs) ∧ ls.length + i = ys.length ∧ zs.length = i ∧ (∀ z, z ∈ ls → z ∈ ys) ∧ ∀ z, z ∈ zs → z ∈ ys) (fun H3 e3 => ⟨ys, [], none, rfl, Ed.of (e12.trans e3), hk.ex (e12.trans e3), (e2.trans e3) _ _ hl1, e3 _ _ hf2, rfl, rfl, fun z hz => hz, fun z hz => by cases hz⟩) ?_ ?_
    · rintro i σ' H' hi ⟨ls, zs, s4, rfl, e', hk', hl', hf', hlen, hzl, hls, hzs⟩
      have hpos : 1 ≤ ls.length := by omega
      refine sd_appPop (K := K) (d := d) (c := 1) hl' hld hf' hfd hlf (ev_var rfl) (ev_var rfl) (d_roll (n := ls.length) (ev_var rfl) (ev_len (ev_var rfl) (sq_of (by rw [del_ne hld]; exact hl'))) hpos (by omega)) hk' (by omega) (by omega) (by omega) (fun j H5 hj E5 hk5 hf5 => ?_)
      refine ⟨ls.eraseIdx j, zs ++ [ls[j]], _, rfl, Ex.mut (Ex.mut (e'.trans E5) (del_none hl0)) (del_none hf0), dice_upd (dice_upd hk5 hld) hfd, by rw [upd_ne hlf]; exact upd_same, upd_same, by rw [List.length_eraseIdx_of_lt hj]; omega, by rw [List.length_append, hzl]; rfl, fun z hz => hls z (List.mem_of_mem_eraseIdx hz), fun z hz => ?_⟩
      rcases List.mem_append.mp hz with x | x
      · exact hzs z x
      · rw [List.mem_singleton.mp x]; exact hls _ (List.getElem_mem hj)
    · rintro σ' H' ⟨ls, zs, s4, rfl, e', hk', hl', hf', hlen, hzl, hls, hzs⟩
      exact s_ret (ev_var rfl) (fun H3 e3 => q f zs H3 hf0 (e'.trans (Ed.of e3)) (by simpa using hk'.ex e3) (e3 _ _ hf') (by simpa using hzl) hzs)
def sp_drawn (K : PySem.W.Frag) : Sp := fun vs H Q _ => ∃ (d a n : Addr) (k : Nat) (rs : List Rw), vs = [.ref d, .ref a, .ref n] ∧ DiceAt k d H ∧ k ≤ 80000 ∧ RowsAt rs a H ∧ rs.length ≤ 60 ∧ rs ≠ [] ∧ (namesOf rs).length ≤ 10 ∧ H n = some (.lst (nmL (namesOf rs))) ∧ ∀ p us ss H', Ed d H H' → DiceAt (k + 40) d H' → H' p = some (.tup us) → AllV StepAt ss us H' → ss.length ≤ 4 → totS ss ≤ 12 → (∀ s, s ∈ ss → VStep rs s) → Q (.ref p) H'
theorem rise_len (ns : List Nat) : (riseOf ns).length ≤ ns.length := by
  unfold riseOf
  rw [(sortN_perm _).length_eq]
  have := addAll_len ns []
  simpa using this
theorem sc__law_drawn_steps : FnScope ["dice", "clauses", "names", "found", "turn", "part"] ["dice", "clauses", "names"] (defScope s__law_drawn_steps) := ⟨rfl, rfl, rfl, by decide +kernel, rfl, by decide +kernel, by decide +kernel⟩
theorem ok__law_drawn_steps (Z : Zx K mg) : OkD prog w K mg base CX0 3 "_law_drawn_steps" ["dice", "clauses", "names"] (sp_drawn K) := by
  obtain ⟨fd, F0⟩ := Z.fun_ 57
  have F : Fun K "_law_drawn_steps" "_law_drawn_steps" s__law_drawn_steps (He.ga K "_law_drawn_steps") fd := Wk.fun_of F0
  obtain ⟨_, g__law_pick, b__law_pick, m__law_pick, k__law_pick⟩ := ok__law_pick (w := w) (base := base) Z
  obtain ⟨_, g__law_roll, b__law_roll, m__law_roll, k__law_roll⟩ := ok__law_roll (w := w) (base := base) Z
  have n_len := Z.free 68 (x := "len")
  have n_range := Z.free 72 (x := "range")
  have n_set := Z.free 73 (x := "set")
  have n_sorted := Z.free 74 (x := "sorted")
  have n_tuple := Z.free 76 (x := "tuple")
  refine ⟨fd, ?_, F.binds (ps := ["dice", "clauses", "names"]) fun _ _ _ _ _ _ us hl => match us, hl with | [_, _, _], _ => rfl, Z.glo 50, F.kp⟩
  refine F.ok sc__law_drawn_steps (fun vs H Q E h => ?_) (fun cdv A outer s H vs Q E hr h => ?_)
  · obtain ⟨d, a, n, k, rs, rfl, hk, hk2, ⟨rvs, ha, hall⟩, hr60, hrne, hn10, hn, q⟩ := h
    rfl
  · obtain ⟨d, a, n, k, rs, rfl, hk, hk2, ⟨rvs, ha, hall⟩, hr60, hrne, hn10, hn, q⟩ := h
    refine ⟨_, (pss_cons (ps_set (i := 3) sc__law_drawn_steps.nd rfl (by first | exact Or.inl rfl | exact Or.inr rfl) (pe_lst pa_nil)) (pss_cons (ps_for PassesOwn.never rfl (pi_range1 (by rfl) n_range (pa_cons (pe_call g__law_roll (hr.mono (by decide)) (by rfl) m__law_roll k__law_roll b__law_roll .nil pass0 (pa_cons (pv 0) (pa_cons pe_int pa_nil))) pa_nil)) (pg_name (i := 4) sc__law_drawn_steps.nd rfl (by first | exact Or.inl rfl | exact Or.inr rfl)) (pss_one (ps_if (pt_cmpR op_eq (pe_call g__law_roll (hr.mono (by decide)) (by rfl) m__law_roll k__law_roll b__law_roll .nil pass0 (pa_cons (pv 0) (pa_cons pe_int pa_nil))) pe_int (nomark _)) (pss_one (ps_expr (pe_bm PySem.F.plainAttrs_list PySem.F.slot_list_append PySem.F.type_list_append mt_append (pv 3) (pa_cons (pe_call g__law_roll (hr.mono (by decide)) (by rfl) m__law_roll k__law_roll b__law_roll .nil pass0 (pa_cons (pv 0) (pa_cons (pe_callB call_len_seq (by rfl) n_len (by decide +kernel) (pa_cons (pv 1) pa_nil)) pa_nil))) pa_nil)))) (pss_one (ps_expr (pe_bm PySem.F.plainAttrs_list PySem.F.slot_list_append PySem.F.type_list_append mt_append (pv 3) (pa_cons (pe_callTy call_tuple_of (by rfl) n_tuple (by decide +kernel) (pa_cons (pe_callB (TXS.cr_sortX rfl) (by rfl) n_sorted (by decide +kernel) (pa_cons (pe_callTy (TXS.cr_setX rfl) (by rfl) n_set (by decide +kernel) (pa_cons (pe_lc (own := [("part", 5)]) rfl sc__law_drawn_steps.nd (pi_range1 (by rfl) n_range (pa_cons (pe_op op_add pe_int (pe_call g__law_roll (hr.mono (by decide)) (by rfl) m__law_roll k__law_roll b__law_roll .nil pass0 (pa_cons (pv 0) (pa_cons pe_int pa_nil)))) pa_nil)) (blkOk_by (own := [("part", 5)]) (N := ["dice", "clauses", "names", "found", "turn", "part"]) (sc := defScope s__law_drawn_steps) (by decide +kernel)) (fun _ _ _ _ _ => pg_name (i := 5) sc__law_drawn_steps.nd rfl (by first | exact Or.inl rfl | exact Or.inr rfl)) (fun _ _ _ _ _ => pts_nil) (fun _ _ _ _ _ => (pe_call g__law_pick (hr.mono (by decide)) (by rfl) m__law_pick k__law_pick b__law_pick .nil pass0 (pa_cons (pv 0) (pa_cons (pv 2) pa_nil))))) pa_nil)) pa_nil)) pa_nil)) pa_nil))))))) (pss_one (ps_ret (pe_callTy call_tuple_of (by rfl) n_tuple (by decide +kernel) (pa_cons (pv 3) pa_nil)))))), ?_⟩
    have hrl := hall.1
    have hne : namesOf rs ≠ [] := by
      cases rs with
      | nil => exact absurd rfl hrne
      | cons r rs =>
        intro h
        have : r.1 ∈ namesOf (r :: rs) := (rows_names List.mem_cons_self).1
        rw [h] at this
        cases this
    have had : a ≠ d := fun x => by
      subst x
      obtain ⟨b, m, c, _, _, _, _, h5⟩ := hk
      rw [ha] at h5
      have e := HO.lst.inj (Option.some.inj h5)
      subst e
      cases rs with
      | nil => exact absurd rfl hrne
      | cons r rs => exact absurd (hall.2 0 _ r rfl rfl) (fun ⟨p, w, dn, h, _⟩ => by cases h)
    have hnd : n ≠ d := fun x => by
      subst x
      obtain ⟨b, m, c, _, _, _, _, h5⟩ := hk
      rw [hn] at h5
      exact nm_dice (Option.some.inj h5)
    refine q_asgL (xs := []) (el_lst ea_nil (few5 rfl)) (fun f H1 hf e1 h1 => ?_)
    have hk1 := hk.ex e1
    have hfd : f ≠ d := dice_ne hk hf
    refine q_forD (L := 0) (N := 4) (d := d) (ED.imp (d_roll (n := 5) (ev_var rfl) ev_c (by decide) (by decide)) (fun v H2 ⟨i, hi, ev⟩ => ⟨i, Nat.zero_le _, by omega, ev⟩)) hk1 (by omega) (by decide) (fun i σ' H' => ∃ s4 s5 ys ss, σ' = [some (.ref d), some (.ref a), some (.ref n), some (.ref f), s4, s5] ∧ Ed d H H' ∧ DiceAt (k + 1 + i * 6) d H' ∧ H' f = some (.lst ys) ∧ AllV StepAt ss ys H' ∧ ss.length = i ∧ totS ss ≤ 3 * i ∧ ∀ s, s ∈ ss → VStep rs s)
      (fun H2 e2 hk2 => ⟨none, none, [], [], rfl, (Ed.of e1).trans e2, hk2, e2.at h1 hfd, AllV.nil, rfl, by simp [totS], fun s hs => by cases hs⟩) ?_ ?_
    · rintro i σ' H' hi ⟨s4, s5, ys, ss, rfl, e', hk', hf', hss, hsl, htot, hvs⟩
      have hyl := hss.1
      refine sd_if (c := 1) (d := d) (ed_eq0 (n := 2) (d_roll (n := 2) (ev_var rfl) ev_c (by decide) (by decide))) hk' (by omega) (fun H2 e2 hk2 => ?_) (fun H2 e2 hk2 => ?_)
      · have hf2 := e2.at hf' hfd
        have ha2 := (e'.trans e2).at ha had
        refine sd_app (K := K) (d := d) (c := 1) (P := fun v _ => ∃ j : Nat, j < rs.length ∧ v = .int (j : Int)) hf2 hfd (ev_var rfl) (d_roll (n := rs.length) (ev_var rfl) (ev_is (ev_len (ev_var rfl) (sq_of (by rw [del_ne had]; exact ha2))) (by rw [hrl])) (by cases rs with | nil => exact absurd rfl hrne | cons r rs => simp) (by omega)) hk2 (by omega) (by omega) ?_
        rintro v H3 e3 hk3 ⟨j, hj, rfl⟩
        have hf3 := e3.at hf2 hfd
        have e23 := e2.trans e3
        have t3 : Tu H' (upd H3 f (.lst (ys ++ [.int (j : Int)]))) := (tu_ed hk' e23).trans (Tu.upd hf3 (fun zs h => by cases h))
        refine ⟨_, _, ys ++ [.int (j : Int)], ss ++ [.int (j : Int)], rfl, Ex.mut (e'.trans e23) (del_none hf), (dice_upd hk3 hfd).mono (by omega), upd_same, AllV.cat (steps_tu hss t3) (AllV.cons (show StepAt (.int (j : Int)) (.int (j : Int)) _ from rfl) AllV.nil), by simp [hsl], ?_, fun s hs => ?_⟩
        · rw [totS_app]
          show _ + (0 + 0) ≤ _
          omega
        · rcases List.mem_append.mp hs with x | x
          · exact hvs s x
          · rw [List.mem_singleton.mp x]
            show (0 : Int) ≤ (j : Int) ∧ (j : Int) < (rs.length : Int)
            omega
      · have hf2 := e2.at hf' hfd
        have hn2 := (e'.trans e2).at hn hnd
        refine sd_app (K := K) (d := d) (c := 1 + 3 * 1) (P := fun v H' => ∃ q ms, v = .ref q ∧ H' q = some (.tup (nmL (riseOf ms))) ∧ (1 ≤ ms.length ∧ ms.length ≤ 3 ∧ ∀ c, c ∈ ms → c ∈ namesOf rs)) hf2 hfd (ev_var rfl) (ed_setT (K := K) (w := w) (A := fun ms => 1 ≤ ms.length ∧ ms.length ≤ 3 ∧ ∀ c, c ∈ ms → c ∈ namesOf rs) (d_lcR1 (N := 3) (c0 := 1) (c1 := 1) (P := fun v => v ∈ nmL (namesOf rs)) (d_add1 (n := 3) (d_roll (n := 3) (ev_var rfl) ev_c (by decide) (by decide))) (by decide) (fun _ => rfl) (fun j H3 e3 => d_pick (ev_var rfl) (ev_var rfl) (by rw [del_ne hnd]; exact e3.at hn2 hnd) (by unfold nmL; simpa using hne) (by rw [nmL_len]; omega)) |> fun h => ED.imp h fun v H3 ⟨p, ys, ev, h0, h1, h2, h3, h4, h5⟩ => by
          obtain ⟨cs, rfl, hcs⟩ := names_back ys h5
          rw [nmL_len] at h3 h4
          exact ⟨p, cs, ev, h2, by omega, h3, h4, hcs⟩)) hk2 (by omega) (by omega) ?_
        rintro v H3 e3 hk3 ⟨o, ms, rfl, ho, m1, m2, m3⟩
        have hf3 := e3.at hf2 hfd
        have e23 := e2.trans e3
        have u3 : Tu H3 (upd H3 f (.lst (ys ++ [.ref o]))) := Tu.upd hf3 (fun zs h => by cases h)
        have t3 : Tu H' (upd H3 f (.lst (ys ++ [.ref o]))) := (tu_ed hk' e23).trans u3
        have rl := rise_len ms
        have r1 : 1 ≤ (riseOf ms).length := by
          cases ms with
          | nil => exact absurd m1 (by simp)
          | cons c ms =>
            have : c ∈ riseOf (c :: ms) := riseOf_mem.mpr List.mem_cons_self
            exact List.length_pos_of_mem this
        refine ⟨_, _, ys ++ [.ref o], ss ++ [.tup ((riseOf ms).map some)], rfl, Ex.mut (e'.trans e23) (del_none hf), (dice_upd hk3 hfd).mono (by omega), upd_same, AllV.cat (steps_tu hss t3) (AllV.cons (show StepAt (.tup ((riseOf ms).map some)) (.ref o) _ from ⟨o, rfl, by rw [it_nm]; exact u3 _ _ ho, by rw [List.length_map]; omega⟩) AllV.nil), by simp [hsl], ?_, fun s hs => ?_⟩
        · rw [totS_app]
          show _ + (((riseOf ms).map some).length + 0) ≤ _
          rw [List.length_map]
          omega
        · rcases List.mem_append.mp hs with x | x
          · exact hvs s x
          · rw [List.mem_singleton.mp x]
            show 1 ≤ ((riseOf ms).map some).length ∧ ((riseOf ms).map some).length ≤ 10 ∧ ((riseOf ms).map some).all (inNs (namesOf rs)) = true
            rw [List.length_map]
            refine ⟨r1, by omega, ?_⟩
            rw [List.all_map, List.all_eq_true]
            exact fun c hc => decide_eq_true (m3 c (riseOf_mem.mp hc))
    · rintro m σ' H' hL hm ⟨s4, s5, ys, ss, rfl, e', hk', hf', hss, hsl, htot, hvs⟩
      refine sx_ret (x_tup1 (K := K) (ev_var rfl) hf') ?_
      rintro v H2 e2 ⟨p, rfl, hp⟩
      exact q p ys ss H2 (e'.trans (Ed.of e2)) ((hk'.ex e2).mono (by omega)) hp (steps_tu hss (Tu.of e2)) (by omega) (by omega) hvs

end
end Tx
end
section
set_option Elab.async false
set_option linter.all false
set_option maxRecDepth 100000
set_option maxHeartbeats 4000000
namespace Tx
open PySem PySem.Spec PyProof.Rows L2 Evl Wk
section
variable {w : World} {K : PySem.W.Frag} {mg : Str → Option Value} {base : Heap}

theorem sc__law_refused : FnScope ["call", "e"] ["call"] (defScope s__law_refused) := ⟨rfl, rfl, rfl, by decide +kernel, rfl, by decide +kernel, by decide +kernel⟩
/-- the parameter that is refused, none: "" -/
def TTref (C : Addr) : (XK → Hp → VK → Prop) → Hp → VK → Prop := fun tl H Q =>
  tl (fun cls d H' => cls = .ref C ∧ ∃ dd z, d = some dd ∧ H' dd = some (.xd [("name", .str z)]) ∧ Q (.str z) H') H (fun _ H' => Q (.str "") H')
/-- a local, where the slots are as many as they are -/
def tVarL (i n : Nat) : TE := fun σ H Q => σ.length = n → tVar i σ H Q
theorem pe_varL {X : Cx} {i n : Nat} {e : Expr} (hn : X.N.length = n) (h : PE X e (tVar i)) : PE X e (tVarL i n) := ⟨fun pins s σ H Q I q => h.run pins s σ H Q I (q (I.len.trans hn))⟩
theorem ref_gives {X : Cx} {g : Addr} {cdg : Value} {q : Str} {C : Addr} (gC : X.mg "BadArgument" = some (.ref C)) (he : PySem.W.exmOne X.K (.ref C) (.ref C) = some true) (T : XfC X.K C) (hno : PySem.W.findIn X.K (.ref C) "name" = some none) :
    LamX.GivesTo X ["call", "e"] "_law_refused" (defScope s__law_refused) g cdg (defBody s__law_refused) "call" q (TTref C) := by
  intro f c' s H Q tl act hc h
  refine ⟨_, pss_cons (ps_try_as (i := 1) (n := "e") (c := .ref C) (X := (cxOf C8.CX0 X.prog X.w X.K X.mg X.base ["call", "e"] "_law_refused" (defScope s__law_refused) g cdg X.A X.stack s H C8.E0).nox) (Wout := fun _ _ _ _ => False)
      (tb := fun W D σ H => ∃ Ech : XK, (∀ cls d σ' H', Ech cls d H' → W cls d σ' H') ∧ σ[0]? = some (some (.ref f)) ∧ H c' = some (LamX.CodeO c' q) ∧ tl Ech H (fun _ H' => D.nx σ H'))
      rfl rfl sc__law_refused.nd rfl rfl ⟨rfl, by decide, .inl gC⟩ LamX.takes0 (fun W pn xe tk _ => ?_) (fun a oe cls d pn hz hf => pss_one (ps_ret (pe_xf (C := C) T hno hz hf (pe_varL (i := 1) (n := 2) rfl (pv 1)))))) (pss_one (ps_ret pe_str)), ?_⟩
  · refine ⟨fun pins s' σ H' D I h' => ?_⟩
    obtain ⟨Ech, hW, h1, h2, h3⟩ := h'
    exact (pss_one (ps_expr (act W pn xe Ech _ _ tk hW))).run pins s' σ H' D I ⟨h1, h2, h3⟩
  · refine ⟨fun cls d H' => cls = .ref C ∧ ∃ dd z, d = some dd ∧ H' dd = some (.xd [("name", .str z)]) ∧ Q (.str z) H', fun cls d σ' H' hq => ?_, rfl, hc, ?_⟩
    · obtain ⟨rfl, dd, z, rfl, hx, hq⟩ := hq
      refine ⟨true, he, fun _ a ha hl => ⟨.ref a, ?_, rfl, rfl, dd, _, .str z, rfl, hx, rfl, hq⟩, fun h => absurd h (by decide)⟩
      rw [List.length_set] at hl
      exact List.getElem?_set_self (by omega)
    · exact h
theorem pe_refcall {X : Cx} {C c P : Addr} {fdR : FuncData} {params : Arguments} {body : Expr} {scope : Scope} {lpos p pos : Pos} {t : XK → TE} (FR : Fun X.K "_law_refused" "_law_refused" s__law_refused (He.ga X.K "_law_refused") fdR) (bR : L2.Binds X.K fdR ["call"] []) (gR : X.mg "_law_refused" = some (.ref (He.ga X.K "_law_refused"))) (hg : Gl X "_law_refused")
    (gC : X.mg "BadArgument" = some (.ref C)) (he : PySem.W.exmOne X.K (.ref C) (.ref C) = some true) (T : XfC X.K C) (hno : PySem.W.findIn X.K (.ref C) "name" = some none) (TB : LamX.TabB X.base X.mg c P) (hcode : X.env.code = .ref c) (hr : Room 11 X.A) (L : LamX.LamS X.env.scope scope)
    (hdef : defaultsOf params X.env = ([], [])) (hbind : ∀ (q : Str) (cl : List (Str × Addr)) (pm cv ctv : Value), bindArgs (PySem.W.kla_fn "<lambda>" q params body scope cl pm cv ctv) ⟨[], []⟩ = pure [])
    (hbody : ∀ (A : Around) (outer : List Env) (s : Shared) (H : Hp) (E : XK) (f c' : Addr), Room 9 (A.deeper (LamX.lamEnv X scope s.heap.objs.size f c')) → PE (LamX.lamCx X A outer s H E scope f c') body (t E)) :
    PE X (.Call (.Name "_law_refused" p) [.Lambda params body scope lpos] [] pos) (LamX.tLam [(P, X.env.qual ++ "<lambda>")] (TTref C) t) := by
  obtain ⟨⟨oc, od, kV, doc, pm, an, cdv, ct, osl, rfl, lk, hcd⟩, kp⟩ := FR
  exact LamX.pe_lamcall (T := [(P, X.env.qual ++ "<lambda>")]) (a := "call") (Ng := ["call", "e"]) (k := 9) hg gR kp lk hcd bR sc__law_refused rfl (Or.inl rfl) (ref_gives gC he T hno) TB hcode (List.mem_singleton.mpr rfl) (fun p hp _ => by rw [List.mem_singleton.mp hp]) hr L hdef hbind hbody

end
end Tx
end
section
set_option Elab.async false
set_option linter.all false
set_option maxRecDepth 100000
set_option maxHeartbeats 4000000
namespace Tx
open PySem PySem.Spec PyProof.Rows L2 Evl Wk
section
variable {w : World} {K : PySem.W.Frag} {mg : Str → Option Value} {base : Heap}

theorem units65 {k : Nat} {A : Around} (r : Room k A) : A.units + 65 < cLine := by have := r.un; omega
theorem rows_ed {k : Nat} {d a : Addr} {H H' : Hp} {rs : List Rw} (hk : DiceAt k d H) (e : Ed d H H') (h : RowsAt rs a H) : RowsAt rs a H' := by
  obtain ⟨vs, h1, h2⟩ := h
  obtain ⟨b, m, c, _, _, _, _, h5⟩ := hk
  have key : ∀ x o, H x = some o → o ≠ .lst [.int b, .int m, .int (c : Int)] → H' x = some o := fun x o ho hn => e.at ho (fun y => by subst y; rw [h5] at ho; exact hn (Option.some.inj ho).symm)
  have hv : HO.lst vs ≠ .lst [.int b, .int m, .int (c : Int)] := fun x => by
    have x' := HO.lst.inj x
    obtain ⟨r, _, p, w, dn, e1, _⟩ := AllV.at h2 (i := 0) (v := .int b) (by rw [x']; rfl)
    cases e1
  refine ⟨vs, key _ _ h1 hv, h2.1, fun i v r x y => ?_⟩
  obtain ⟨p, w, dn, g1, g2, g3, g4⟩ := h2.2 i v r x y
  exact ⟨p, w, dn, g1, key _ _ g2 (by intro h; cases h), key _ _ g3 nm_dice, key _ _ g4 nm_dice⟩
/-! data of the law's values -/
def dPairT (z : List Nat × List Nat) : PyData := .tuple [dT z.1, dT z.2]
theorem okPT {z : List Nat × List Nat} (h1 : Lo z.1) (h2 : Lo z.2) : LayD 2 (dPairT z) := LayD.tup fun e he => by
  rcases List.mem_cons.mp he with x | x
  · rw [x]; exact okD_T h1
  · rw [List.mem_singleton.mp x]; exact okD_T h2
theorem dpPT {H : Hp} {z : List Nat × List Nat} {v : V} (h : PairT z v H) : Dp K H v (dPairT z) := by
  obtain ⟨p, l, q, rfl, h2, h3, h4⟩ := h
  exact .tup (st_of h2) (.cons (dp_T h3) (.cons (dp_T h4) .nil))
theorem st_lo {rs : List Rw} (h : Lo (namesOf rs)) : ∀ z, z ∈ stOf rs → Lo z.1 ∧ Lo z.2 := by
  have key : ∀ n l, Lo l → ∀ z, z ∈ stgN rs n l → Lo z.1 ∧ Lo z.2 := by
    intro n
    induction n with
    | zero => intro l _ z hz; cases hz
    | succ n ih =>
      intro l hl z hz
      unfold stgN at hz
      rcases List.mem_cons.mp hz with x | x
      · rw [x]; exact ⟨hl, lo_bo h _⟩
      · split at x
        · cases x
        · exact ih _ (lo_bo h _) z x
  exact key _ _ (fun c hc => by cases hc)
def dSt (rs : List Rw) : PyData := .tuple ((stOf rs).map dPairT)
theorem okSt {rs : List Rw} (h : Lo (namesOf rs)) : LayD 3 (dSt rs) := LayD.tup fun d hd => by
  obtain ⟨z, hz, rfl⟩ := List.mem_map.mp hd
  exact okPT (st_lo h z hz).1 (st_lo h z hz).2
theorem dpSt {H : Hp} {rs : List Rw} {q : Addr} {ys : List V} (hq : H q = some (.tup ys)) (h : AllV PairT (stOf rs) ys H) : Dp K H (.ref q) (dSt rs) := .tup (st_of hq) (dpAll_of h fun z v _ p => dpPT p)
def dPairW (rs : List Rw) (c : Nat) : PyData := .tuple [.str (tx [c]), .str (wordOf rs c)]
def dTr (rs : List Rw) : PyData := .tuple ((namesOf rs).map (dPairW rs))
theorem word_ok (rs : List Rw) (c : Nat) : PyData.strOk (wordOf rs c) = true := by
  unfold wordOf
  split
  · decide +kernel
  · split <;> decide +kernel
theorem okTr {rs : List Rw} (h : Lo (namesOf rs)) : LayD 2 (dTr rs) := LayD.tup fun d hd => by
  obtain ⟨c, hc, rfl⟩ := List.mem_map.mp hd
  refine LayD.tup fun e he => ?_
  rcases List.mem_cons.mp he with x | x
  · rw [x]; exact okD_nm (h c hc)
  · rw [List.mem_singleton.mp x]; exact okD_str (word_ok rs c)
theorem dpTr {H : Hp} {rs : List Rw} {q : Addr} {ys : List V} (hq : H q = some (.tup ys)) (h : AllV (PairW rs) (namesOf rs) ys H) : Dp K H (.ref q) (dTr rs) := .tup (st_of hq) (dpAll_of h fun c v _ ⟨p, ev, hp⟩ => by
  subst ev
  exact .tup (st_of hp) (.cons (.str _) (.cons (.str _) .nil)))
def dWs (ss : List (List Nat)) : PyData := .tuple (ss.map dT)
theorem okWs {ss : List (List Nat)} (h : ∀ s, s ∈ ss → Lo s) : LayD 2 (dWs ss) := LayD.tup fun d hd => by
  obtain ⟨s, hs, rfl⟩ := List.mem_map.mp hd
  exact okD_T (h s hs)
theorem dpWs {H : Hp} {ss : List (List Nat)} {q : Addr} {ys : List V} (hq : H q = some (.tup ys)) (h : AllV TupN ss ys H) : Dp K H (.ref q) (dWs ss) := .tup (st_of hq) (dpAll_of h fun s v _ ⟨p, ev, hp⟩ => by
  subst ev
  exact dp_T hp)
theorem eqvT (s t : List Nat) : PyData.eqv (dT s) (dT t) = decide (s = t) := by
  unfold dT
  rw [PyData.eqv, eqvN]
/-- is a row one of some rows -/
theorem in_dataR {H : Hp} {q r : Addr} {s : List Nat} {ms : List (List Nat)} {zs : List V} (hq : H q = some (.tup (nmL s))) (hr : H r = some (.lst zs)) (hz : AllV TupN ms zs H) (hs : Lo s) (hlo : ∀ m, m ∈ ms → Lo m) :
    Dp K H (.ref q) (dT s) ∧ Dp K H (.ref r) (.list (ms.map dT)) ∧ SeqAt.shaped (dT s) = true ∧ SeqAt.shaped (.list (ms.map dT)) = true ∧ ((ms.map dT).any fun z => PyData.eqv z (dT s)) = decide (s ∈ ms) := by
  refine ⟨dp_T hq, .lst (sq_of hr) (dpAll_of hz fun t v _ ⟨p, ev, hp⟩ => by subst ev; exact dp_T hp), (okD_T hs).sh (by decide), ?_, ?_⟩
  · have h := okWs hlo
    unfold dWs at h
    have h1 := h.1
    rw [PyData.canLay0] at h1
    have h2 := h.2
    rw [PyData.depth] at h2
    unfold SeqAt.shaped
    rw [PyData.canLay0, h1, PyData.depth, Bool.true_and]
    exact decide_eq_true (by omega)
  · rw [List.any_map]
    cases h : decide (s ∈ ms) with
    | true =>
      rw [List.any_eq_true]
      exact ⟨s, of_decide_eq_true h, by show PyData.eqv (dT s) (dT s) = true; rw [eqvT]; exact decide_eq_true rfl⟩
    | false =>
      rw [List.any_eq_false]
      intro t ht
      show ¬ PyData.eqv (dT t) (dT s) = true
      rw [eqvT]
      intro e
      have := of_decide_eq_true e
      subst this
      exact of_decide_eq_false h ht
theorem ev_inR {σ : L2.St} {H : Hp} {ta tb : TE} {q r : Addr} {s : List Nat} {ms : List (List Nat)} {zs : List V} (h1 : Ev ta σ H (.ref q)) (hq : H q = some (.tup (nmL s))) (h2 : Ev tb σ H (.ref r)) (hr : H r = some (.lst zs)) (hz : AllV TupN ms zs H) (hs : Lo s) (hlo : ∀ m, m ∈ ms → Lo m) :
    Ev (tOp (rInD K) ta tb) σ H (.bl (decide (s ∈ ms))) := fun H1 e Q k => h1 H1 e _ fun H2 e2 => h2 H2 (e.trans e2) _ fun H3 e3 => by
  have e03 := e.trans (e2.trans e3)
  obtain ⟨i1, i2, i3, i4, i5⟩ := in_dataR (K := K) (e03 _ _ hq) (e03 _ _ hr) (AllV.mo (fun a => (TupN.mn a).mo) _ _ _ e03 hz) hs hlo
  exact ⟨_, _, i1, i2, i3, i4, by rw [i5]; exact k H3 (e2.trans e3)⟩
theorem ev_niR {σ : L2.St} {H : Hp} {ta tb : TE} {q r : Addr} {s : List Nat} {ms : List (List Nat)} {zs : List V} (h1 : Ev ta σ H (.ref q)) (hq : H q = some (.tup (nmL s))) (h2 : Ev tb σ H (.ref r)) (hr : H r = some (.lst zs)) (hz : AllV TupN ms zs H) (hs : Lo s) (hlo : ∀ m, m ∈ ms → Lo m) :
    Ev (tOp (rNotInD K) ta tb) σ H (.bl (!decide (s ∈ ms))) := fun H1 e Q k => h1 H1 e _ fun H2 e2 => h2 H2 (e.trans e2) _ fun H3 e3 => by
  have e03 := e.trans (e2.trans e3)
  obtain ⟨i1, i2, i3, i4, i5⟩ := in_dataR (K := K) (e03 _ _ hq) (e03 _ _ hr) (AllV.mo (fun a => (TupN.mn a).mo) _ _ _ e03 hz) hs hlo
  exact ⟨_, _, i1, i2, i3, i4, by rw [i5]; exact k H3 (e2.trans e3)⟩
theorem ws_lo {rs : List Rw} (h : Lo (namesOf rs)) : ∀ s, s ∈ wsOf rs → Lo s := fun s hs c hc => h c (((subN_mem _ _).mp (wsOf_mem.mp hs).1).subset hc)
theorem sub_ws {rs : List Rw} {s : List Nat} (h : s ∈ subN (namesOf rs)) : decide (s ∈ wsOf rs) = isW rs s := by
  cases hw : isW rs s with
  | true => exact decide_eq_true (wsOf_mem.mpr ⟨h, hw⟩)
  | false => exact decide_eq_false fun x => by rw [(wsOf_mem.mp x).2] at hw; cases hw
/-- a value told, and an operation on two -/
theorem ev_opX {σ : L2.St} {H : Hp} {ta tb : TE} {r : R2} {z : V} {Pa Pb : V → Hp → Prop} (ha : EvX ta σ H Pa) (m : Mo Pa) (hb : EvX tb σ H Pb) (hr : ∀ x y H1, Ex H H1 → Pa x H1 → Pb y H1 → ∀ Q : VK, Q z H1 → r x y H1 Q) : Ev (tOp r ta tb) σ H z := fun H1 e Q q =>
  ha H1 e _ fun x H2 e2 px => hb H2 (e.trans e2) _ fun y H3 e3 py => hr x y H3 ((e.trans e2).trans e3) (m x H2 H3 e3 px) py Q (q H3 (e2.trans e3))
theorem q_forXD {σ : L2.St} {H : Hp} {D : Ends} {tu tz : TS} {tl : TE} {d : Addr} {c k0 : Nat} {g : TG} {PL : Addr → List V → Hp → Prop} (h : ED tl σ d H c (fun v H' => ∃ p ts, v = .ref p ∧ H' p = some (.lst ts) ∧ PL p ts H')) (hk : DiceAt k0 d H) (hc : k0 + c ≤ 90000)
    (k : ∀ p ts H1, Ed d H H1 → DiceAt (k0 + c) d H1 → H1 p = some (.lst ts) → PL p ts H1 → ∃ Pv : Nat → L2.St → Hp → Prop, Pv 0 σ H1 ∧ (∀ i σ' H', i ≤ ts.length → Pv i σ' H' → SqL K H' p ts) ∧
      (∀ (i : Nat) x σ' H', ts[i]? = some x → Pv i σ' H' → g x σ' H' fun σ2 H2 => tu { D with nx := Pv (i + 1), ct := Pv (i + 1), bk := tz D } σ2 H2) ∧ (∀ σ' H', Pv ts.length σ' H' → tz D σ' H')) : tSeq (tFor (iList K tl) g tu) tz D σ H :=
  h k0 H (Ed.refl d H) hk hc _ fun v H1 e hk1 ⟨p, ts, ev, h1, pl⟩ => by
    subst ev
    obtain ⟨Pv, k0, k1, k2, k3⟩ := k p ts H1 e hk1 h1 pl
    exact ⟨p, rfl, ⟨ts, sq_of h1⟩, for_list Pv k0 k1 k2 k3⟩
section
variable {σ : L2.St} {H : Hp} {d : Addr} {ta tb te : TE}
theorem d_shuf {E : XK} {ys : List V} {a : Addr} (hd : Ev ta σ (del H d) (.ref d)) (hl : Ev tb σ (del H d) (.ref a)) (ha : (del H d) a = some (.lst ys)) (hn : ys.length ≤ 100) : ED (tCall sp_shuffled [] E (tCons ta (tCons tb tNil))) σ d H 100 (fun v H' => ∃ p zs, v = .ref p ∧ p ≠ d ∧ H' p = some (.lst zs) ∧ (zs.length ≤ 100 ∧ ∀ z, z ∈ zs → z ∈ ys)) := fun k H1 e hk hlt Q q =>
  hd H1 e _ fun H2 e2 => hl H2 (Ex.trans e e2) _ fun H3 e3 => by
    have hne : a ≠ d := fun x => by subst x; rw [del_same] at ha; cases ha
    have hk3 := hk.ex (e2.trans e3)
    exact ⟨d, a, k, ys, rfl, hk3, by omega, (Ex.trans e (e2.trans e3)) _ _ ha, hne, by omega, fun p zs H' hp e' hk' hz hzl hm => q _ H' ((Ed.of (e2.trans e3)).trans e') (hk'.mono (by omega)) ⟨p, zs, rfl, dice_ne hk3 hp, hz, by omega, hm⟩⟩
theorem ed_cut {c : Nat} {n : Int} {b : Addr} {ws : List V} {PL : List V → Prop} (h : ED te σ d H c (fun v H' => ∃ p zs, v = .ref p ∧ p ≠ d ∧ H' p = some (.lst zs) ∧ (zs.length ≤ 100 ∧ PL zs))) (hb : Ev tb σ (del H d) (.ref b)) (hbl : (del H d) b = some (.lst ws)) (hz : ws.length ≤ 50000) :
    ED (tOp rCat (tSl (rSlL K) te tNoPart (tPart (tC (.int n)))) tb) σ d H c (fun v H' => ∃ p zs, v = .ref p ∧ p ≠ d ∧ H' p = some (.lst (cutV zs none (some n) ++ ws)) ∧ (zs.length ≤ 100 ∧ PL zs)) := fun k H1 e hk hc Q q =>
  h k H1 e hk hc _ fun v H2 e2 hk2 ⟨p, zs, ev, hpd, hp, hl, pl⟩ => by
    subst ev
    have E2 : Ed d H H2 := e.trans e2
    refine ⟨n, rfl, p, zs, rfl, sq_of hp, fun o ho => ?_⟩
    have e3 : Ex H2 (upd H2 o (.lst (cutV zs none (some n)))) := Ex.new ho
    refine hb _ (Ex.trans E2 e3) _ fun H4 e4 => ?_
    have ho4 := e4 _ _ (upd_same (H := H2) (a := o) (o := .lst (cutV zs none (some n))))
    have hcl := cutV_length zs none (some n)
    refine ⟨o, b, _, ws, rfl, rfl, ho4, (Ex.trans E2 (e3.trans e4)) _ _ hbl, sz_of (by omega), fun r hr => ?_⟩
    exact q _ _ (e2.trans (Ed.of (e3.trans (e4.trans (Ex.new hr))))) (hk2.ex (e3.trans (e4.trans (Ex.new hr)))) ⟨r, zs, rfl, dice_ne (hk2.ex (e3.trans e4)) hr, upd_same, hl, pl⟩
end
theorem cutV_mem {xs : List V} {lo hi : Option Int} {v : V} (h : v ∈ cutV xs lo hi) : v ∈ xs := by
  unfold cutV at h
  exact List.mem_of_mem_drop (List.mem_of_mem_take h)
theorem wrld_some {rs : List Rw} {s : List Nat} (h : s.length ≤ 10) : wrldB rs (some (s.map some)) = isW rs s := by
  show (decide ((s.map some).length ≤ 10) && ((s.map some).all Option.isSome && isW rs (msOf (s.map some)))) = _
  rw [msOf_some, List.length_map, decide_eq_true h, Bool.true_and]
  have e : (s.map some).all Option.isSome = true := by
    rw [List.all_map, List.all_eq_true]
    exact fun c _ => rfl
  rw [e, Bool.true_and]
/-- the values of the rows that are gone through -/
def RowV (rs : List Rw) (v : V) (H : Hp) : Prop := ∃ s, s ∈ subN (namesOf rs) ∧ TupN s v H
theorem RowV.tu {rs : List Rw} {v : V} {H H' : Hp} (h : RowV rs v H) (t : Tu H H') : RowV rs v H' := let ⟨s, h1, p, h2, h3⟩ := h; ⟨s, h1, p, h2, t _ _ h3⟩
theorem tupN_tu {ss : List (List Nat)} {vs : List V} {H H' : Hp} (h : AllV TupN ss vs H) (t : Tu H H') : AllV TupN ss vs H' := ⟨h.1, fun i v a hv ha => let ⟨p, h1, h2⟩ := h.2 i v a hv ha; ⟨p, h1, t _ _ h2⟩⟩
theorem ev_ofX {σ : L2.St} {H : Hp} {te : TE} {v : V} (h : EvX te σ H (fun x _ => x = v)) : Ev te σ H v := fun H1 e Q q => h H1 e Q fun x H2 e2 hx => by rw [hx]; exact q H2 e2
theorem q_if2 {σ : L2.St} {H : Hp} {t : TT} {D : Ends} {tu tw tz : TS} {b : Bool} (P : L2.St → Hp → Prop) (h : EvT t σ H b) (h1 : b = true → ∀ H1, Ex H H1 → ∀ N : L2.St → Hp → Prop, (∀ σ' H', P σ' H' → N σ' H') → tu { D with nx := N } σ H1) (h2 : b = false → ∀ H1, Ex H H1 → ∀ N : L2.St → Hp → Prop, (∀ σ' H', P σ' H' → N σ' H') → tw { D with nx := N } σ H1) (k : ∀ σ' H', P σ' H' → tz D σ' H') : tSeq (tIfS t tu tw) tz D σ H :=
  q_if h (fun hb H1 e1 => h1 hb H1 e1 (tz D) k) (fun hb H1 e1 => h2 hb H1 e1 (tz D) k)
theorem AllV.take {α : Type} {P : α → V → Hp → Prop} {as : List α} {vs : List V} {H : Hp} (h : AllV P as vs H) (n : Nat) : AllV P (as.take n) (vs.take n) H := ⟨by rw [List.length_take, List.length_take, h.1], fun i v a hv ha => by
  by_cases c : i < n
  · rw [List.getElem?_take_of_lt c] at hv ha
    exact h.2 i v a hv ha
  · rw [List.getElem?_take_eq_none (by omega)] at hv
    cases hv⟩
theorem AllV.drop {α : Type} {P : α → V → Hp → Prop} {as : List α} {vs : List V} {H : Hp} (h : AllV P as vs H) (n : Nat) : AllV P (as.drop n) (vs.drop n) H := ⟨by rw [List.length_drop, List.length_drop, h.1], fun i v a hv ha => by
  rw [List.getElem?_drop] at hv ha
  exact h.2 _ v a hv ha⟩
theorem cutV_from (xs : List V) {n : Nat} (h : n ≤ xs.length) : cutV xs (some (n : Int)) none = xs.drop n := by
  unfold cutV
  rw [HT.sIx_none, HT.sIx_nat, Nat.min_eq_left h, List.take_of_length_le (by rw [List.length_drop]; omega)]
theorem x_slA {σ : L2.St} {H : Hp} {te : TE} {tl th : TO} {p : Addr} {xs : List V} {lo hi : Option Int} (h : Ev te σ H (.ref p)) (h1 : EvO tl σ H lo) (h2 : EvO th σ H hi) (hp : H p = some (.tup xs)) : EvX (tSl (rSlA K) te tl th) σ H (fun v H' => ∃ q, v = .ref q ∧ H' q = some (.tup (cutV xs lo hi))) := fun H1 e Q q =>
  h H1 e _ fun H2 e2 => h1 H2 (e.trans e2) _ fun H3 e3 => h2 H3 (e.trans (e2.trans e3)) _ fun H4 e4 => by
    have e14 := e2.trans (e3.trans e4)
    have hp4 := (e.trans e14) _ _ hp
    refine ⟨p, xs, rfl, st_of hp4, fun hw => ?_, fun hw o ho => q _ _ (e14.trans (Ex.new ho)) ⟨o, rfl, upd_same⟩⟩
    refine q _ H4 e14 ⟨p, rfl, ?_⟩
    have : cutV xs lo hi = xs := by
      unfold cutV
      rw [hw.1, hw.2, List.drop_zero, Nat.sub_zero, List.take_length]
    rw [this]
    exact hp4
theorem q_forTX {σ : L2.St} {H : Hp} {te : TE} {g : TG} {tu tz : TS} {D : Ends} {P : V → Hp → Prop} (h : EvX te σ H P) (k : ∀ v H1, Ex H H1 → P v H1 → tSeq (tFor (iTup K (tC v)) g tu) tz D σ H1) : tSeq (tFor (iTup K te) g tu) tz D σ H := h H (Ex.refl H) _ k
theorem x_consC {σ : L2.St} {H : Hp} {te : TE} {tr : TA} {P : V → Hp → Prop} {n : Nat} (h : EvX te σ H P) (m : Mo P) (hr : EvAX tr σ H (fun vs H' => vs.length ≤ n ∧ ∀ v, v ∈ vs → P v H')) : EvAX (tCons te tr) σ H (fun vs H' => vs.length ≤ n + 1 ∧ ∀ v, v ∈ vs → P v H') := fun H1 e Q q =>
  x_cons h m hr H1 e Q (fun vs H2 e2 ⟨v, r, ev, hv, hl, hr⟩ => q vs H2 e2 ⟨by rw [ev]; exact Nat.succ_le_succ hl, fun u hu => by
    rw [ev] at hu
    rcases List.mem_cons.mp hu with x | x
    · rw [x]; exact hv
    · exact hr u x⟩)
theorem x_nilC {σ : L2.St} {H : Hp} {P : V → Hp → Prop} : EvAX tNil σ H (fun vs H' => vs.length ≤ 0 ∧ ∀ v, v ∈ vs → P v H') := fun H1 e Q q => q [] H1 (Ex.refl _) ⟨Nat.le_refl _, fun v hv => by cases hv⟩
theorem AllV.rev {α : Type} {P : α → V → Hp → Prop} {as : List α} {vs : List V} {H : Hp} (h : AllV P as vs H) : AllV P as.reverse vs.reverse H := ⟨by rw [List.length_reverse, List.length_reverse, h.1], fun i v a hv ha => by
  have hi : i < vs.length := by have := (List.getElem?_eq_some_iff.mp hv).1; rwa [List.length_reverse] at this
  rw [List.getElem?_reverse hi] at hv
  rw [List.getElem?_reverse (by rw [← h.1]; exact hi)] at ha
  rw [h.1] at hv
  exact h.2 _ v a hv ha⟩
theorem totS_rev : ∀ ss : List Sv, totS ss.reverse = totS ss
  | [] => rfl
  | s :: ss => by
    rw [List.reverse_cons, totS_app, totS_rev ss]
    have e : totS (s :: ss) = szS s + totS ss := by unfold totS; rw [List.map_cons, List.sum_cons]
    rw [e]
    show totS ss + (szS s + 0) = _
    omega
theorem totS_drop (ss : List Sv) (i : Nat) : totS (ss.drop i) ≤ totS ss := by
  have := totS_app (ss.take i) (ss.drop i)
  rw [List.take_append_drop] at this
  omega
theorem stepB_valid {rs : List Rw} {T F : List Nat} {s : Sv} {z : List Nat × List Nat} (h : stepB rs T F s = some z) : VStep rs s := by
  cases s with
  | int n =>
    obtain ⟨r, hr, _⟩ := Option.map_eq_some_iff.mp h
    obtain ⟨h0, h1, _⟩ := intB_some hr
    have := (List.getElem?_eq_some_iff.mp h1).1
    exact ⟨h0, by omega⟩
  | tup xs =>
    have hs' : (if (decide (1 ≤ xs.length) && decide (xs.length ≤ 10)) && (xs.all (inNs (namesOf rs)) && unfB rs T F (msOf xs)) then some (T, addAll F (msOf xs)) else none) = some z := h
    split at hs'
    · rename_i hb
      rw [Bool.and_eq_true, Bool.and_eq_true, Bool.and_eq_true] at hb
      exact ⟨of_decide_eq_true hb.1.1, of_decide_eq_true hb.1.2, hb.2.1⟩
    · cases hs'
  | bl b => cases h
  | str c => cases h
theorem walk_valid {rs : List Rw} : ∀ (ss : List Sv) (z y : List Nat × List Nat), walkB rs ss z = some y → ∀ s, s ∈ ss → VStep rs s
  | [], _, _, _ => fun s hs => by cases hs
  | s :: ss, z, y, h => fun t ht => by
    rw [walkB] at h
    obtain ⟨x, h1, h2⟩ := Option.bind_eq_some_iff.mp h
    rcases List.mem_cons.mp ht with e | e
    · rw [e]; exact stepB_valid h1
    · exact walk_valid ss x y h2 t e
theorem lo_sub {a b : List Nat} (h : Lo b) (s : ∀ c, c ∈ a → c ∈ b) : Lo a := fun c hc => h c (s c hc)
theorem x_varT {σ : L2.St} {H : Hp} {te : TE} {q : Addr} {a : List Nat} (h : Ev te σ H (.ref q)) (hq : H q = some (.tup (nmL a))) : EvX te σ H (fun v H' => ∃ q, v = .ref q ∧ H' q = some (.tup (nmL a))) := fun H1 e Q k => h H1 e _ fun H2 e2 => k _ H2 e2 ⟨q, rfl, (e.trans e2) _ _ hq⟩
theorem x_pairD {σ : L2.St} {H : Hp} {ta tb : TE} {a b : List Nat} (h1 : EvX ta σ H (fun v H' => ∃ q, v = .ref q ∧ H' q = some (.tup (nmL a)))) (h2 : EvX tb σ H (fun v H' => ∃ q, v = .ref q ∧ H' q = some (.tup (nmL b)))) : EvX (tTup (tCons ta (tCons tb tNil))) σ H (fun v H' => Dp K H' v (dPairT (a, b))) :=
  EvX.imp (x_tup (x_cons h1 (fun v H1 H2 e ⟨q, x, y⟩ => ⟨q, x, e _ _ y⟩) (x_one h2)) (fun vs H1 H2 e ⟨v, r, h1, ⟨q, h2, h3⟩, v2, h4, q2, h5, h6⟩ => ⟨v, r, h1, ⟨q, h2, e _ _ h3⟩, v2, h4, q2, h5, e _ _ h6⟩) (fun vs H1 ⟨v, r, h1, _, v2, h4, _⟩ => by rw [h1, h4]; exact few5 rfl)) fun v H' ⟨q, vs, ev, hq, v1, r, h1, ⟨q1, h2, g1⟩, v2, h3, q2, h4, g2⟩ => by
    subst h3; subst h1; subst h2; subst h4
    exact dpPT ⟨q, q1, q2, ev, hq, g1, g2⟩
/-- what steps tell, as a value -/
def ToldV (o : Option (List Nat × List Nat)) (v : V) (H : Hp) : Prop := match o with
  | none => v = .non
  | some z => PairT (riseOf z.1, riseOf z.2) v H
def dTold (o : Option (List Nat × List Nat)) : PyData := match o with
  | none => .none
  | some z => dPairT (riseOf z.1, riseOf z.2)
theorem dp_told {o : Option (List Nat × List Nat)} {v : V} {H : Hp} (h : ToldV o v H) : Dp K H v (dTold o) := by
  cases o with
  | none =>
    have e : v = .non := h
    subst e
    exact .non
  | some z => exact dpPT h
def LoO (o : Option (List Nat × List Nat)) : Prop := ∀ z, o = some z → Lo z.1 ∧ Lo z.2
theorem ok_told {o : Option (List Nat × List Nat)} (h : LoO o) : LayD 2 (dTold o) := by
  cases o with
  | none => exact ⟨by simp [dTold, PyData.canLay0], by simp [dTold, PyData.depth]⟩
  | some z => exact okPT (lo_sub (h z rfl).1 fun c hc => riseOf_mem.mp hc) (lo_sub (h z rfl).2 fun c hc => riseOf_mem.mp hc)
theorem told_lo {rs : List Rw} {ss : List Sv} (h : Lo (namesOf rs)) : LoO (walkB rs ss ([], [])) := fun z hz => by
  have t := walkB_tl ss ([], []) z (Tl.nil rs) hz
  exact ⟨lo_sub h t.tn, lo_sub h t.fn⟩
/-- rows of steps, short ones, of numbers of rows and of names -/
def ValS (rs : List Rw) (v : V) (H : Hp) : Prop := ∃ p us ss, v = .ref p ∧ H p = some (.tup us) ∧ AllV StepAt ss us H ∧ ss.length ≤ 40 ∧ totS ss ≤ 63 ∧ ∀ s, s ∈ ss → VStep rs s
theorem ValS.mo (rs : List Rw) : Mo (ValS rs) := fun v H H' e ⟨p, us, ss, h1, h2, h3, h4⟩ => ⟨p, us, ss, h1, e _ _ h2, AllV.mo (fun a => (StepAt.mn a).mo) _ _ _ e h3, h4⟩
theorem x_catA {σ : L2.St} {H : Hp} {ta tb : TE} {a b : Addr} {xs ys : List V} (ha : Ev ta σ H (.ref a)) (hb : Ev tb σ H (.ref b)) (h1 : H a = some (.tup xs)) (h2 : H b = some (.tup ys)) (hz : xs.length + ys.length ≤ 100000) : EvX (tOp (rCatA K) ta tb) σ H (fun v H' => Ex H H' ∧ ∃ p, v = .ref p ∧ H' p = some (.tup (xs ++ ys))) := fun H1 e Q q =>
  ha H1 e _ fun H2 e2 => hb H2 (e.trans e2) _ fun H3 e3 => by
    have e03 := e.trans (e2.trans e3)
    have g1 := e03 _ _ h1
    have g2 := e03 _ _ h2
    refine ⟨a, b, xs, ys, rfl, rfl, st_of g1, st_of g2, sz_of hz, fun hx => ?_, fun hx hy => ?_, fun hx hy p hp => ?_⟩
    · subst hx; exact q _ H3 (e2.trans e3) ⟨e03, b, rfl, g2⟩
    · subst hy; exact q _ H3 (e2.trans e3) ⟨e03, a, rfl, by rw [List.append_nil]; exact g1⟩
    · exact q _ _ ((e2.trans e3).trans (Ex.new hp)) ⟨e03.trans (Ex.new hp), p, rfl, upd_same⟩
theorem x_revT {σ : L2.St} {H : Hp} {te tk : TE} {a : Addr} {xs : List V} (ha : Ev te σ H (.ref a)) (hk : Ev tk σ H (.int (-1))) (h1 : H a = some (.tup xs)) : EvX (tRevT K te tk) σ H (fun v H' => Ex H H' ∧ ∃ p, v = .ref p ∧ H' p = some (.tup xs.reverse)) := fun H1 e Q q =>
  ha H1 e _ fun H2 e2 => hk H2 (e.trans e2) _ fun H3 e3 => ⟨rfl, a, xs, rfl, st_of ((e.trans (e2.trans e3)) _ _ h1), fun p hp => q _ _ ((e2.trans e3).trans (Ex.new hp)) ⟨(e.trans (e2.trans e3)).trans (Ex.new hp), p, rfl, upd_same⟩⟩
theorem x_slE {σ : L2.St} {H : Hp} {te : TE} {P : V → Hp → Prop} (h : EvX te σ H P) : EvX te σ H (fun v H' => Ex H H' ∧ P v H') := fun H1 e Q q => h H1 e _ fun v H2 e2 p => q v H2 e2 ⟨e.trans e2, p⟩
theorem vals_of {rs : List Rw} {H H' : Hp} {v : V} {us : List V} {ss : List Sv} (h : Ex H H' ∧ ∃ p, v = .ref p ∧ H' p = some (.tup us)) (hs : AllV StepAt ss us H) (h1 : ss.length ≤ 40) (h2 : totS ss ≤ 63) (h3 : ∀ s, s ∈ ss → VStep rs s) : ValS rs v H' :=
  let ⟨e, p, h4, h5⟩ := h; ⟨p, us, ss, h4, h5, AllV.mo (fun a => (StepAt.mn a).mo) _ _ _ e hs, h1, h2, h3⟩
def sp_law_one (K : PySem.W.Frag) : Sp := fun vs H Q _ => ∃ (d : Addr), vs = [.ref d] ∧ DiceAt 0 d H ∧ ∀ H', Ed d H H' → Q (.bl true) H'
theorem sc__law_one : FnScope ["dice", "clauses", "text", "names", "own", "low", "high", "words", "name", "sets", "good", "row", "every", "steps", "never", "drawn", "value", "found"] ["dice"] (defScope s__law_one) := ⟨rfl, rfl, rfl, by decide +kernel, rfl, by decide +kernel, by decide +kernel⟩
theorem ok__law_one (Z : Zx K mg) : OkD prog w K mg base CX0 11 "_law_one" ["dice"] (sp_law_one K) := by
  obtain ⟨fd, F0⟩ := Z.fun_ 59
  have F : Fun K "_law_one" "_law_one" s__law_one (He.ga K "_law_one") fd := Wk.fun_of F0
  obtain ⟨_, g__law_drawn_steps, b__law_drawn_steps, m__law_drawn_steps, k__law_drawn_steps⟩ := ok__law_drawn_steps (w := w) (base := base) Z
  obtain ⟨_, g__law_shuffled, b__law_shuffled, m__law_shuffled, k__law_shuffled⟩ := ok__law_shuffled (w := w) (base := base) Z
  obtain ⟨_, g__law_stages_by, b__law_stages_by, m__law_stages_by, k__law_stages_by⟩ := ok__law_stages_by (w := w) (base := base) Z
  obtain ⟨_, g__law_told, b__law_told, m__law_told, k__law_told⟩ := ok__law_told (w := w) (base := base) Z
  obtain ⟨_, g__law_world_right, b__law_world_right, m__law_world_right, k__law_world_right⟩ := ok__law_world_right (w := w) (base := base) Z
  obtain ⟨_, g__law_wt_named, b__law_wt_named, m__law_wt_named, k__law_wt_named⟩ := ok__law_wt_named (w := w) (base := base) Z
  obtain ⟨_, g__law_wt_named_all, b__law_wt_named_all, m__law_wt_named_all, k__law_wt_named_all⟩ := ok__law_wt_named_all (w := w) (base := base) Z
  obtain ⟨_, g__law_wt_named_built, b__law_wt_named_built, m__law_wt_named_built, k__law_wt_named_built⟩ := ok__law_wt_named_built (w := w) (base := base) Z
  obtain ⟨_, g__law_wt_named_sets, b__law_wt_named_sets, m__law_wt_named_sets, k__law_wt_named_sets⟩ := ok__law_wt_named_sets (w := w) (base := base) Z
  obtain ⟨_, g__law_wt_named_text, b__law_wt_named_text, m__law_wt_named_text, k__law_wt_named_text⟩ := ok__law_wt_named_text (w := w) (base := base) Z
  obtain ⟨_, g_always, b_always, m_always, k_always⟩ := ok_always (w := w) (base := base) Z
  obtain ⟨_, g_is_reason, b_is_reason, m_is_reason, k_is_reason⟩ := ok_is_reason (w := w) (base := base) Z
  obtain ⟨_, g_is_world, b_is_world, m_is_world, k_is_world⟩ := ok_is_world (w := w) (base := base) Z
  obtain ⟨_, g_reason, b_reason, m_reason, k_reason⟩ := ok_reason (w := w) (base := base) Z
  obtain ⟨_, g_stages, b_stages, m_stages, k_stages⟩ := ok_stages (w := w) (base := base) Z
  obtain ⟨_, g_told_by, b_told_by, m_told_by, k_told_by⟩ := ok_told_by (w := w) (base := base) Z
  obtain ⟨_, g_truths, b_truths, m_truths, k_truths⟩ := ok_truths (w := w) (base := base) Z
  obtain ⟨_, g_world_steps, b_world_steps, m_world_steps, k_world_steps⟩ := ok_world_steps (w := w) (base := base) Z
  obtain ⟨_, g_worlds, b_worlds, m_worlds, k_worlds⟩ := ok_worlds (w := w) (base := base) Z
  have n_all := Z.free 62 (x := "all")
  have n_any := Z.free 63 (x := "any")
  have n_len := Z.free 68 (x := "len")
  have n_list := Z.free 69 (x := "list")
  have n_tuple := Z.free 76 (x := "tuple")
  refine ⟨fd, ?_, F.binds (ps := ["dice"]) fun _ _ _ _ _ _ us hl => match us, hl with | [_], _ => rfl, Z.glo 52, F.kp⟩
  refine F.ok sc__law_one (fun vs H Q E h => ?_) (fun cdv A outer s H vs Q E hr h => ?_)
  · obtain ⟨d, rfl, hk, q⟩ := h
    rfl
  · obtain ⟨d, rfl, hk, q⟩ := h
    have hu64 := hr.units
    have hu65 := units65 hr
    refine ⟨_, (pss_cons (ps_set (i := 1) sc__law_one.nd rfl (by first | exact Or.inl rfl | exact Or.inr rfl) (pe_call g__law_wt_named (hr.mono (by decide)) (by rfl) m__law_wt_named k__law_wt_named b__law_wt_named .nil pass0 (pa_cons (pv 0) pa_nil))) (pss_cons (ps_par (i := 2) (j := 3) rfl sc__law_one.nd rfl rfl (by decide) rfl rfl (pa_cons (pe_call g__law_wt_named_text (hr.mono (by decide)) (by rfl) m__law_wt_named_text k__law_wt_named_text b__law_wt_named_text .nil pass0 (pa_cons (pv 1) pa_nil)) (pa_cons (pe_call g__law_wt_named_all (hr.mono (by decide)) (by rfl) m__law_wt_named_all k__law_wt_named_all b__law_wt_named_all .nil pass0 (pa_cons (pv 1) pa_nil)) pa_nil)) (by rfl)) (pss_cons (ps_set (i := 4) sc__law_one.nd rfl (by first | exact Or.inl rfl | exact Or.inr rfl) (pe_call g__law_stages_by (hr.mono (by decide)) (by rfl) m__law_stages_by k__law_stages_by b__law_stages_by .nil pass0 (pa_cons (pv 1) pa_nil))) (pss_cons (ps_if (pt_not (pt_cmpR (op_eqD hu64) (pe_call g_stages (hr.mono (by decide)) (by rfl) m_stages k_stages b_stages .nil passL (pa_cons (pv 2) pa_nil)) (pv 4) (nomark _))) (pss_one (ps_ret pe_bl)) pss_nil) (pss_cons (ps_asg (pe_ix ix_tup (pv 4) (pe_un un_neg pe_int) (fun _ _ => rfl)) (pg_tup rfl (pgs_cons (pg_name (i := 5) sc__law_one.nd rfl (by first | exact Or.inl rfl | exact Or.inr rfl)) (pgs_cons (pg_name (i := 6) sc__law_one.nd rfl (by first | exact Or.inl rfl | exact Or.inr rfl)) pgs_nil)))) (pss_cons (ps_setLc (i := 7) (te := (tTup (tCons (tVar 8) (tCons (tIf (tTest (tOp (rIn K false) (tVar 8) (tVar 5))) (tC (.str "yes")) (tIf (tTest (tOp (rIn K false) (tVar 8) (tVar 6))) (tC (.str "open")) (tC (.str "no")))) tNil)))) (own := [("name", 8)]) rfl sc__law_one.nd rfl rfl (sw_true rfl rfl rfl (by decide +kernel)) (pi_list (pv 3)) (blkOk_by (own := [("name", 8)]) (N := ["dice", "clauses", "text", "names", "own", "low", "high", "words", "name", "sets", "good", "row", "every", "steps", "never", "drawn", "value", "found"]) (sc := defScope s__law_one) (by decide +kernel)) (fun _ _ _ _ _ => pg_name (i := 8) sc__law_one.nd rfl (by first | exact Or.inl rfl | exact Or.inr rfl)) (fun _ _ _ _ _ => pts_nil) (fun _ _ _ _ _ => (pe_tup (pa_cons (pv 8) (pa_cons (pe_ifExp (pt_cmpR op_in_seq (pv 8) (pv 5) rfl) pe_str (pe_ifExp (pt_cmpR op_in_seq (pv 8) (pv 6) rfl) pe_str pe_str)) pa_nil))))) (pss_cons (ps_if (pt_not (pt_cmpR (op_eqD hu64) (pe_call g_truths (hr.mono (by decide)) (by rfl) m_truths k_truths b_truths .nil passL (pa_cons (pv 2) pa_nil)) (pe_callTy call_tuple_of (by rfl) n_tuple (by decide +kernel) (pa_cons (pv 7) pa_nil)) (nomark _))) (pss_one (ps_ret pe_bl)) pss_nil) (pss_cons (ps_set (i := 9) sc__law_one.nd rfl (by first | exact Or.inl rfl | exact Or.inr rfl) (pe_call g__law_wt_named_sets (hr.mono (by decide)) (by rfl) m__law_wt_named_sets k__law_wt_named_sets b__law_wt_named_sets .nil pass0 (pa_cons (pv 3) pa_nil))) (pss_cons (ps_set (i := 10) sc__law_one.nd rfl (by first | exact Or.inl rfl | exact Or.inr rfl) (pe_lc (tt := (tTest (tOp (rEqD K) (tCall (sp_law_built K) [] (fun _ _ _ => False) (tCons (tVar 1) (tCons (tVar 11) tNil))) (tCB (rLstS K) (tCons (tVar 11) tNil))))) (own := [("row", 11)]) rfl sc__law_one.nd (pi_list (pv 9)) (blkOk_by (own := [("row", 11)]) (N := ["dice", "clauses", "text", "names", "own", "low", "high", "words", "name", "sets", "good", "row", "every", "steps", "never", "drawn", "value", "found"]) (sc := defScope s__law_one) (by decide +kernel)) (fun _ _ _ _ _ => pg_name (i := 11) sc__law_one.nd rfl (by first | exact Or.inl rfl | exact Or.inr rfl)) (fun _ _ _ _ _ => pts_one (pt_cmpR (op_eqD hu64) (pe_call g__law_wt_named_built (hr.mono (by decide)) (by rfl) m__law_wt_named_built k__law_wt_named_built b__law_wt_named_built .nil pass0 (pa_cons (pv 1) (pa_cons (pv 11) pa_nil))) (pe_callTy call_list_of (by rfl) n_list (by decide +kernel) (pa_cons (pv 11) pa_nil)) (nomark _))) (fun _ _ _ _ _ => (pv 11)))) (pss_cons (ps_if (pt_not (pt_cmpR (op_eqD hu64) (pe_call g_worlds (hr.mono (by decide)) (by rfl) m_worlds k_worlds b_worlds .nil passL (pa_cons (pv 2) pa_nil)) (pe_callTy call_tuple_of (by rfl) n_tuple (by decide +kernel) (pa_cons (pv 10) pa_nil)) (nomark _))) (pss_one (ps_ret pe_bl)) pss_nil) (pss_cons (ps_for PassesOwn.never rfl (pi_list (pe_op op_cat (pe_slice sl_list (pe_call g__law_shuffled (hr.mono (by decide)) (by rfl) m__law_shuffled k__law_shuffled b__law_shuffled .nil pass0 (pa_cons (pv 0) (pa_cons (pv 9) pa_nil))) po_none (po_some pe_int)) (pv 10))) (pg_name (i := 11) sc__law_one.nd rfl (by first | exact Or.inl rfl | exact Or.inr rfl)) (pss_cons (ps_if (pt_not (pt_cmpR op_eq (pe_call g_is_world (hr.mono (by decide)) (by rfl) m_is_world k_is_world b_is_world .nil passL (pa_cons (pv 2) (pa_cons (pv 11) pa_nil))) (pe_cmpR (op_inD hu65) (pv 11) (pv 10) rfl) (nomark _))) (pss_one (ps_ret pe_bl)) pss_nil) (pss_cons (ps_if (pt_not (pt_cmpR op_eq (pe_cmpR op_notN (pe_call g_world_steps (hr.mono (by decide)) (by rfl) m_world_steps k_world_steps b_world_steps .nil passL (pa_cons (pv 2) (pa_cons (pv 11) pa_nil))) pe_non (nomark _)) (pe_cmpR (op_inD hu65) (pv 11) (pv 10) rfl) (nomark _))) (pss_one (ps_ret pe_bl)) pss_nil) (pss_cons (ps_if (pt_not (pw_or (pt_cmpR (op_notInD hu65) (pv 11) (pv 10) rfl) (pw_or1 (pt_val (pe_call g__law_world_right (hr.mono (by decide)) (by rfl) m__law_world_right k__law_world_right b__law_world_right .nil pass0 (pa_cons (pv 1) (pa_cons (pv 11) (pa_cons (pe_call g_world_steps (hr.mono (by decide)) (by rfl) m_world_steps k_world_steps b_world_steps .nil passL (pa_cons (pv 2) (pa_cons (pv 11) pa_nil))) pa_nil))))))).pt) (pss_one (ps_ret pe_bl)) pss_nil) (pss_cons (ps_if (pt_not (pw_or (pt_cmpR (op_notInD hu65) (pv 11) (pv 10) rfl) (pw_or1 (pt_val (pe_callB (cr_all rfl) (by rfl) n_all (by decide +kernel) (pa_cons (pe_lc (te := (tOp (rIn K false) (tVar 8) (tVar 11))) (own := [("name", 8)]) rfl sc__law_one.nd (pi_tup (pv 5)) (blkOk_by (own := [("name", 8)]) (N := ["dice", "clauses", "text", "names", "own", "low", "high", "words", "name", "sets", "good", "row", "every", "steps", "never", "drawn", "value", "found"]) (sc := defScope s__law_one) (by decide +kernel)) (fun _ _ _ _ _ => pg_name (i := 8) sc__law_one.nd rfl (by first | exact Or.inl rfl | exact Or.inr rfl)) (fun _ _ _ _ _ => pts_nil) (fun _ _ _ _ _ => (pe_cmpR op_in_seq (pv 8) (pv 11) rfl))) pa_nil))))).pt) (pss_one (ps_ret pe_bl)) pss_nil) (pss_one (ps_if (pt_not (pw_or (pt_cmpR (op_notInD hu65) (pv 11) (pv 10) rfl) (pw_or1 (pt_val (pe_callB (cr_all rfl) (by rfl) n_all (by decide +kernel) (pa_cons (pe_lc (te := (tOp (rIn K false) (tVar 8) (tVar 6))) (own := [("name", 8)]) rfl sc__law_one.nd (pi_tup (pv 11)) (blkOk_by (own := [("name", 8)]) (N := ["dice", "clauses", "text", "names", "own", "low", "high", "words", "name", "sets", "good", "row", "every", "steps", "never", "drawn", "value", "found"]) (sc := defScope s__law_one) (by decide +kernel)) (fun _ _ _ _ _ => pg_name (i := 8) sc__law_one.nd rfl (by first | exact Or.inl rfl | exact Or.inr rfl)) (fun _ _ _ _ _ => pts_nil) (fun _ _ _ _ _ => (pe_cmpR op_in_seq (pv 8) (pv 6) rfl))) pa_nil))))).pt) (pss_one (ps_ret pe_bl)) pss_nil))))))) (pss_cons (ps_if (pt_cmpR op_eq (pe_callB call_len_seq (by rfl) n_len (by decide +kernel) (pa_cons (pv 10) pa_nil)) pe_int (nomark _)) (pss_one (ps_if (pt_not (pt_cmpR op_isN (pe_call g_always (hr.mono (by decide)) (by rfl) m_always k_always b_always .nil passL (pa_cons (pv 2) pa_nil)) pe_non (nomark _))) (pss_one (ps_ret pe_bl)) pss_nil)) (pss_cons (ps_set (i := 12) sc__law_one.nd rfl (by first | exact Or.inl rfl | exact Or.inr rfl) (pe_callTy call_tuple_of (by rfl) n_tuple (by decide +kernel) (pa_cons (pe_lc (tt := (tB (tCB (rAll K) (tCons (tLc (iList K (tVar 10)) (gName 11) tYes (tOp (rIn K false) (tVar 8) (tVar 11)) [11]) tNil)))) (own := [("name", 8)]) rfl sc__law_one.nd (pi_list (pv 3)) (blkOk_by (own := [("name", 8)]) (N := ["dice", "clauses", "text", "names", "own", "low", "high", "words", "name", "sets", "good", "row", "every", "steps", "never", "drawn", "value", "found"]) (sc := defScope s__law_one) (by decide +kernel)) (fun _ _ _ _ _ => pg_name (i := 8) sc__law_one.nd rfl (by first | exact Or.inl rfl | exact Or.inr rfl)) (fun _ _ _ _ _ => pts_one (pt_val (pe_callB (cr_all rfl) (by rfl) n_all (by decide +kernel) (pa_cons (pe_lc (te := (tOp (rIn K false) (tVar 8) (tVar 11))) (own := [("row", 11)]) rfl sc__law_one.nd (pi_list (pv 10)) (blkOk_by (own := [("row", 11)]) (N := ["dice", "clauses", "text", "names", "own", "low", "high", "words", "name", "sets", "good", "row", "every", "steps", "never", "drawn", "value", "found"]) (sc := { kind := ScopeKind.function, names := [(Str.ofString ".0", NameKind.local), (Str.ofString "name", NameKind.cell), (Str.ofString "all", NameKind.globalImplicit), (Str.ofString "good", NameKind.cell)], isGenerator := false, isCoroutine := false }) (by decide +kernel)) (fun _ _ _ _ _ => pg_name (i := 11) sc__law_one.nd rfl (by first | exact Or.inl rfl | exact Or.inr rfl)) (fun _ _ _ _ _ => pts_nil) (fun _ _ _ _ _ => (pe_cmpR op_in_seq (pv 8) (pv 11) rfl))) pa_nil)))) (fun _ _ _ _ _ => (pv 8))) pa_nil))) (pss_one (ps_if (pt_not (pt_cmpR (op_eqD hu64) (pe_call g_always (hr.mono (by decide)) (by rfl) m_always k_always b_always .nil passL (pa_cons (pv 2) pa_nil)) (pe_tup (pa_cons (pv 12) (pa_cons (pe_callTy call_tuple_of (by rfl) n_tuple (by decide +kernel) (pa_cons (pe_lc (tt := (tNot (tB (tCB (rAny K) (tCons (tLc (iList K (tVar 10)) (gName 11) tYes (tOp (rIn K false) (tVar 8) (tVar 11)) [11]) tNil))))) (own := [("name", 8)]) rfl sc__law_one.nd (pi_list (pv 3)) (blkOk_by (own := [("name", 8)]) (N := ["dice", "clauses", "text", "names", "own", "low", "high", "words", "name", "sets", "good", "row", "every", "steps", "never", "drawn", "value", "found"]) (sc := defScope s__law_one) (by decide +kernel)) (fun _ _ _ _ _ => pg_name (i := 8) sc__law_one.nd rfl (by first | exact Or.inl rfl | exact Or.inr rfl)) (fun _ _ _ _ _ => pts_one (pt_not (pt_val (pe_callB (cr_any rfl) (by rfl) n_any (by decide +kernel) (pa_cons (pe_lc (te := (tOp (rIn K false) (tVar 8) (tVar 11))) (own := [("row", 11)]) rfl sc__law_one.nd (pi_list (pv 10)) (blkOk_by (own := [("row", 11)]) (N := ["dice", "clauses", "text", "names", "own", "low", "high", "words", "name", "sets", "good", "row", "every", "steps", "never", "drawn", "value", "found"]) (sc := { kind := ScopeKind.function, names := [(Str.ofString ".0", NameKind.local), (Str.ofString "name", NameKind.cell), (Str.ofString "any", NameKind.globalImplicit), (Str.ofString "good", NameKind.cell)], isGenerator := false, isCoroutine := false }) (by decide +kernel)) (fun _ _ _ _ _ => pg_name (i := 11) sc__law_one.nd rfl (by first | exact Or.inl rfl | exact Or.inr rfl)) (fun _ _ _ _ _ => pts_nil) (fun _ _ _ _ _ => (pe_cmpR op_in_seq (pv 8) (pv 11) rfl))) pa_nil))))) (fun _ _ _ _ _ => (pv 8))) pa_nil)) pa_nil))) (nomark _))) (pss_one (ps_ret pe_bl)) pss_nil)))) (pss_cons (ps_set (i := 13) sc__law_one.nd rfl (by first | exact Or.inl rfl | exact Or.inr rfl) (pe_call g_reason (hr.mono (by decide)) (by rfl) m_reason k_reason b_reason .nil passL (pa_cons (pv 2) pa_nil))) (pss_cons (ps_set (i := 14) sc__law_one.nd rfl (by first | exact Or.inl rfl | exact Or.inr rfl) (pe_callTy call_tuple_of (by rfl) n_tuple (by decide +kernel) (pa_cons (pe_lc (tt := (tTest (tOp (rIn K true) (tVar 8) (tVar 6)))) (own := [("name", 8)]) rfl sc__law_one.nd (pi_list (pv 3)) (blkOk_by (own := [("name", 8)]) (N := ["dice", "clauses", "text", "names", "own", "low", "high", "words", "name", "sets", "good", "row", "every", "steps", "never", "drawn", "value", "found"]) (sc := defScope s__law_one) (by decide +kernel)) (fun _ _ _ _ _ => pg_name (i := 8) sc__law_one.nd rfl (by first | exact Or.inl rfl | exact Or.inr rfl)) (fun _ _ _ _ _ => pts_one (pt_cmpR op_notIn_seq (pv 8) (pv 6) rfl)) (fun _ _ _ _ _ => (pv 8))) pa_nil))) (pss_cons (ps_if (pt_not (pw_and (pt_val (pe_call g_is_reason (hr.mono (by decide)) (by rfl) m_is_reason k_is_reason b_is_reason .nil passL (pa_cons (pv 2) (pa_cons (pv 13) pa_nil)))) (pw_and (pt_cmpR (op_eqD hu64) (pe_call g__law_told (hr.mono (by decide)) (by rfl) m__law_told k__law_told b__law_told .nil pass0 (pa_cons (pv 1) (pa_cons (pv 13) pa_nil))) (pe_tup (pa_cons (pv 5) (pa_cons (pv 14) pa_nil))) (nomark _)) (pw_and1 (pt_cmpR (op_eqD hu64) (pe_call g_told_by (hr.mono (by decide)) (by rfl) m_told_by k_told_by b_told_by .nil passL (pa_cons (pv 2) (pa_cons (pv 13) pa_nil))) (pe_tup (pa_cons (pv 5) (pa_cons (pv 14) pa_nil))) (nomark _))))).pt) (pss_one (ps_ret pe_bl)) pss_nil) (pss_cons (ps_set (i := 15) sc__law_one.nd rfl (by first | exact Or.inl rfl | exact Or.inr rfl) (pe_call g__law_drawn_steps (hr.mono (by decide)) (by rfl) m__law_drawn_steps k__law_drawn_steps b__law_drawn_steps .nil pass0 (pa_cons (pv 0) (pa_cons (pv 1) (pa_cons (pv 3) pa_nil))))) (pss_cons (ps_for PassesOwn.never rfl (pi_tup (pe_tup (pa_cons (pv 15) (pa_cons (pe_op op_catA (pv 13) (pv 15)) (pa_cons (pe_op op_catA (pv 15) (pv 13)) (pa_cons (pe_slice sl_tupA (pv 13) (po_some pe_int) po_none) (pa_cons (pe_revT (pv 13) (pe_un un_neg pe_int)) pa_nil))))))) (pg_name (i := 16) sc__law_one.nd rfl (by first | exact Or.inl rfl | exact Or.inr rfl)) (pss_cons (ps_set (i := 17) sc__law_one.nd rfl (by first | exact Or.inl rfl | exact Or.inr rfl) (pe_call g__law_told (hr.mono (by decide)) (by rfl) m__law_told k__law_told b__law_told .nil pass0 (pa_cons (pv 1) (pa_cons (pv 16) pa_nil)))) (pss_cons (ps_if (pt_not (pt_cmpR op_eq (pe_call g_is_reason (hr.mono (by decide)) (by rfl) m_is_reason k_is_reason b_is_reason .nil passL (pa_cons (pv 2) (pa_cons (pv 16) pa_nil))) (pe_cmpR op_notN (pv 17) pe_non (nomark _)) (nomark _))) (pss_one (ps_ret pe_bl)) pss_nil) (pss_cons (ps_if (pt_not (pt_cmpR (op_eqD hu64) (pe_call g_told_by (hr.mono (by decide)) (by rfl) m_told_by k_told_by b_told_by .nil passL (pa_cons (pv 2) (pa_cons (pv 16) pa_nil))) (pv 17) (nomark _))) (pss_one (ps_ret pe_bl)) pss_nil) (pss_one (ps_if (pt_not (pw_or (pt_cmpR op_isN (pv 17) pe_non (nomark _)) (pw_or1 (pw_and (pt_val (pe_callB (cr_all rfl) (by rfl) n_all (by decide +kernel) (pa_cons (pe_lc (te := (tOp (rIn K false) (tVar 8) (tVar 5))) (own := [("name", 8)]) rfl sc__law_one.nd (pi_tup (pe_ix ix_tup (pv 17) pe_int (fun _ _ => rfl))) (blkOk_by (own := [("name", 8)]) (N := ["dice", "clauses", "text", "names", "own", "low", "high", "words", "name", "sets", "good", "row", "every", "steps", "never", "drawn", "value", "found"]) (sc := defScope s__law_one) (by decide +kernel)) (fun _ _ _ _ _ => pg_name (i := 8) sc__law_one.nd rfl (by first | exact Or.inl rfl | exact Or.inr rfl)) (fun _ _ _ _ _ => pts_nil) (fun _ _ _ _ _ => (pe_cmpR op_in_seq (pv 8) (pv 5) rfl))) pa_nil))) (pw_and1 (pt_val (pe_callB (cr_all rfl) (by rfl) n_all (by decide +kernel) (pa_cons (pe_lc (te := (tOp (rIn K false) (tVar 8) (tVar 14))) (own := [("name", 8)]) rfl sc__law_one.nd (pi_tup (pe_ix ix_tup (pv 17) pe_int (fun _ _ => rfl))) (blkOk_by (own := [("name", 8)]) (N := ["dice", "clauses", "text", "names", "own", "low", "high", "words", "name", "sets", "good", "row", "every", "steps", "never", "drawn", "value", "found"]) (sc := defScope s__law_one) (by decide +kernel)) (fun _ _ _ _ _ => pg_name (i := 8) sc__law_one.nd rfl (by first | exact Or.inl rfl | exact Or.inr rfl)) (fun _ _ _ _ _ => pts_nil) (fun _ _ _ _ _ => (pe_cmpR op_in_seq (pv 8) (pv 14) rfl))) pa_nil))))).pt)).pt) (pss_one (ps_ret pe_bl)) pss_nil)))))) (pss_one (ps_ret pe_bl))))))))))))))))))), ?_⟩
    refine q_asgC (vs := [.ref d]) (ea_cons (ev_var rfl) ea_nil) (fun H1 e1 => ⟨d, 0, rfl, hk.ex e1, by omega, fun a rs H2 ha e2 hk2 hrs hg hne => ?_⟩)
    have hpo := prog_ok hg
    have hn5 := names_5 hg.2
    have hlo := hpo.2.2.2.2.2
    have hszR := hpo.2.2.2.1
    have hr7 : rs.length ≤ 7 := hg.1
    have E12 : Ed d H H2 := (Ed.of e1).trans e2
    refine q_parX (P := fun v _ => v = .str (tx (progT (rs.map lineT)))) (R := fun H3 v H' => ∃ n, v = .ref n ∧ H3 n = none ∧ H' n = some (.lst (nmL (namesOf rs)))) (x_ev (ev_call (ea_cons (ev_var rfl) ea_nil) (fun H3 e3 Q3 q3 E3 => ⟨a, rs, rfl, hrs.ex e3, hr7, fun r hr => ⟨(hg.2 r hr).2.1, (hg.2 r hr).2.2.1⟩, q3⟩))) (fun H3 e3 => x_evL (el_call (xs := nmL (namesOf rs)) (ea_cons (ev_var rfl) ea_nil) (fun H4 e4 Q4 q4 E4 => ⟨a, rs, rfl, hrs.ex (e3.trans e4), hr7, fun r hr => ⟨(hg.2 r hr).2.1, (hg.2 r hr).2.2.1⟩, q4⟩))) ?_
    rintro v1 v2 H3 H4 e3 rfl e4 ⟨n, rfl, hn3, hn4⟩
    have e24 := e3.trans e4
    have hrs4 := hrs.ex e24
    have hk4 := hk2.ex e24
    refine qx_asg (P := fun v H' => ∃ p ys, v = .ref p ∧ H' p = some (.tup ys) ∧ AllV PairT (stOf rs) ys H') (x_call (vs := [.ref a]) (ea_cons (ev_var rfl) ea_nil) (fun H5 e5 Q5 q5 E5 => ⟨a, rs, rfl, hrs4.ex e5, hszR, hr7, by omega, hlo, fun p ys H6 e6 h6 hys => q5 _ H6 e6 ⟨p, ys, rfl, h6, hys⟩⟩)) ?_
    rintro v H5 e5 ⟨ow, oys, rfl, how, hoys⟩
    refine q_when (b := false) (et_is (et_not (et_test (ev_eqD (K := K) (d := dSt rs) (n := 3) (x_call (vs := [.str (tx (progT (rs.map lineT)))]) (ea_cons (ev_var rfl) ea_nil) (fun H6 e6 Q6 q6 E6 => ⟨rs.map lineT, rs, rfl, hpo, fun p ys H7 hp e7 h7 hys => q6 _ H7 e7 (dpSt h7 hys)⟩)) (fun H6 e6 Q6 q6 => ev_var (v := .ref ow) rfl H6 (Ex.refl _) _ fun H7 e7 => q6 _ H7 e7 (dpSt ((e6.trans e7) _ _ how) (pairT_tu hoys (Tu.of (e6.trans e7))))) (okSt hlo) (by decide)))) rfl) (fun h => absurd h (by decide)) (fun _ H6 e6 => ?_)
    obtain ⟨pre, hpre⟩ := (st_last (rs := rs) (P := fun _ => True) trivial fun _ _ => trivial).1
    refine q_asgTupX (P2 := fun x y H' => ∃ l h, x = .ref l ∧ y = .ref h ∧ H' l = some (.tup (nmL (loOf rs))) ∧ H' h = some (.tup (nmL (hiOf rs)))) (fun H7 e7 Q7 q7 => ?_) ?_
    · have hoys2 := hoys
      rw [hpre] at hoys2
      obtain ⟨vs0, u, hu, _, p, l, h, rfl, hp, hl, hh⟩ := hoys2.snoc
      have hat : atI oys (-1) = some (.ref p) := by rw [hu]; exact atI_last _ _
      refine (ev_op (ev_var (i := 4) rfl) (ev_un ev_c ru_neg) (rv_ixT (K := K) (st_of (e6 _ _ how)) hat)) H7 e7 _ fun H8 e8 => q7 _ H8 e8 ⟨p, _, _, rfl, (e6.trans (e7.trans e8)) _ _ hp, l, h, rfl, rfl, (e6.trans (e7.trans e8)) _ _ hl, (e6.trans (e7.trans e8)) _ _ hh⟩
    rintro x y H7 e7 ⟨lo, hi, rfl, rfl, hlo7, hhi7⟩
    have e47 := e5.trans (e6.trans e7)
    have hn7 := e47 _ _ hn4
    have hrs7 := hrs4.ex e47
    have hk7 := hk4.ex e47
    refine qx_asg (P := fun v H' => ∃ p ys, v = .ref p ∧ H' p = some (.lst ys) ∧ AllV (PairW rs) (namesOf rs) ys H') ((x_lc (xs := nmL (namesOf rs)) (fun i v H => ∃ c, (namesOf rs)[i]? = some c ∧ PairW rs c v H) (fun i v H H' n ⟨c, h1, h2⟩ => ⟨c, h1, PairW.mn rs c _ _ _ n h2⟩) (ei_L (K := K) (ev_var rfl) (sq_of hn7)) (by rw [nmL_len]; omega) (fun _ => rfl) (fun i x hx H8 e8 => ?_)).imp ?_) ?_
    · unfold nmL at hx
      rw [List.getElem?_map] at hx
      obtain ⟨c, hc, rfl⟩ := Option.map_eq_some_iff.mp hx
      refine (x_evU (xs := [nmV c, .str (wordOf rs c)]) (eu_tup (ea_cons (ev_var rfl) (ea_cons (ev_if (b := decide (c ∈ loOf rs)) (et_test (ev_inT (K := K) (ev_var rfl) (ev_var rfl) (st_of (e8 _ _ hlo7)))) (fun hb => ev_is ev_c (by unfold wordOf; rw [if_pos (of_decide_eq_true hb)])) (fun hb => ev_if (b := decide (c ∈ hiOf rs)) (et_test (ev_inT (K := K) (ev_var rfl) (ev_var rfl) (st_of (e8 _ _ hhi7)))) (fun hb2 => ev_is ev_c (by unfold wordOf; rw [if_neg (of_decide_eq_false hb), if_pos (of_decide_eq_true hb2)])) (fun hb2 => ev_is ev_c (by unfold wordOf; rw [if_neg (of_decide_eq_false hb), if_neg (of_decide_eq_false hb2)])))) ea_nil)) (few5 rfl))).imp ?_
      rintro v H9 ⟨p, rfl, hp⟩
      exact ⟨c, hc, p, rfl, hp⟩
    · rintro v H8 ⟨p, ys, rfl, _, hp, hyl, hy⟩
      refine ⟨p, ys, rfl, hp, by rw [hyl, nmL_len], fun i v c hv hc => ?_⟩
      obtain ⟨c', hc', h⟩ := hy i v hv
      rw [hc] at hc'
      cases hc'
      exact h
    rintro v H8 e8 ⟨wo, wys, rfl, hwo, hwys⟩
    refine q_when (b := false) (et_is (et_not (et_test (ev_eqD (K := K) (d := dTr rs) (n := 2) (x_call (vs := [.str (tx (progT (rs.map lineT)))]) (ea_cons (ev_var rfl) ea_nil) (fun H9 e9 Q9 q9 E9 => ⟨rs.map lineT, rfl, .inr ⟨rs, hpo, fun p ys H10 hp e10 h10 hys => q9 _ H10 e10 (dpTr h10 hys)⟩⟩)) (fun H9 e9 Q9 q9 => x_tup1 (K := K) (ev_var (i := 7) rfl) hwo H9 e9 _ fun v H10 e10 ⟨p, ev, hp⟩ => q9 _ H10 e10 (by subst ev; exact dpTr hp (AllV.mo (fun a => (PairW.mn rs a).mo) _ _ _ (e9.trans e10) hwys))) (okTr hlo) (by decide)))) rfl) (fun h => absurd h (by decide)) (fun _ H9 e9 => ?_)
    have e79 := e8.trans e9
    have hn9 := e79 _ _ hn7
    refine qx_asg (P := fun v H' => ∃ p ys, v = .ref p ∧ H9 p = none ∧ H' p = some (.lst ys) ∧ AllV TupN (sortNN (subN (namesOf rs))) ys H') (x_call (vs := [.ref n]) (ea_cons (ev_var rfl) ea_nil) (fun H10 e10 Q10 q10 E10 => ⟨n, namesOf rs, rfl, sq_of (e10 _ _ hn9), by omega, fun p ys H11 hp e11 h11 hys => q10 _ H11 e11 ⟨p, ys, rfl, fresh_back e10 hp, h11, hys⟩⟩)) ?_
    rintro v H10 e10 ⟨se, sys, rfl, hse0, hse, hsys⟩
    have e710 := e79.trans e10
    have hrs10 := hrs7.ex e710
    have hk10 := hk7.ex e710
    have hsl : (sortNN (subN (namesOf rs))).length ≤ 32 := by
      rw [sortNN_len, subN_len]
      exact Nat.pow_le_pow_right (by omega) hn5
    have hsubm : ∀ z, z ∈ sys.zip (sortNN (subN (namesOf rs))) → z.2.Sublist (namesOf rs) := fun z hz => (subN_mem _ _).mp ((sortNN_perm _).mem_iff.mp (by
      have := List.mem_map_of_mem (f := Prod.snd) hz
      rwa [hsys.snd] at this))
    refine qx_asg (P := fun v H' => ∃ p zs, v = .ref p ∧ H10 p = none ∧ H' p = some (.lst zs) ∧ AllV TupN (wsOf rs) zs H') (fun H11 e11 Q11 q11 => (el_lc (H := H10) (te := tVar 11) (j := 11) (vs := [11]) (as := sys.zip (sortNN (subN (namesOf rs)))) (inj := Prod.fst) (fun z => isW rs z.2) Prod.fst (by rw [hsys.fst]; exact ei_L (K := K) (ev_var rfl) (sq_of hse)) (by rw [hsys.zlen]; omega) (fun _ => rfl) (fun z hz H12 e12 => ?_) (fun z hz H12 e12 _ => ev_var rfl)) H11 e11 _ fun o H12 ho e12 h12 => q11 _ H12 e12 ⟨o, _, rfl, fresh_back e11 ho, h12, ?_⟩) ?_
    · obtain ⟨y, s⟩ := z
      obtain ⟨p, rfl, hp⟩ := hsys.mem _ hz
      have hsub := hsubm _ hz
      refine et_test (ev_is (ev_eqNL (K := K) (el_call (xs := nmL (Bo rs s)) (ea_cons (ev_var rfl) (ea_cons (ev_var rfl) ea_nil)) (fun H13 e13 Q13 q13 E13 => ⟨a, p, rs, s, rfl, hrs10.ex (e12.trans e13), .inr (st_of ((e12.trans e13) _ _ hp)), hszR, hr7, q13⟩)) (el_listT (ev_var rfl) (e12 _ _ hp)) (lo_bo hlo _) (fun c hc => hlo c (hsub.subset hc))) ?_)
      congr 1
    · have e := zip_fm (isW rs) (fun x => x) sys (sortNN (subN (namesOf rs))) hsys.1
      rw [List.map_id'] at e
      have ew : wsOf rs = ((sys.zip (sortNN (subN (namesOf rs)))).filter fun z => isW rs z.2).map Prod.snd := e.symm
      rw [ew]
      exact AllV.ofPairs _ fun z hz => (TupN.mn z.2).mo _ _ _ (e11.trans e12) (hsys.mem z (List.mem_filter.mp hz).1)
    rintro v H11 e11 ⟨go, gys, rfl, hgo0, hgo, hgys⟩
    have hwl : (wsOf rs).length ≤ 32 := Nat.le_trans (List.length_filter_le _ _) hsl
    have hgl := hgys.1
    have wlo := ws_lo hlo
    refine q_when (b := false) (et_is (et_not (et_test (ev_eqD (K := K) (d := dWs (wsOf rs)) (n := 2) (x_call (vs := [.str (tx (progT (rs.map lineT)))]) (ea_cons (ev_var rfl) ea_nil) (fun H12 e12 Q12 q12 E12 => ⟨rs.map lineT, rfl, .inr ⟨rs, hpo, fun p ys H13 hp e13 h13 hys => q12 _ H13 e13 (dpWs h13 hys)⟩⟩)) (fun H12 e12 Q12 q12 => x_tup1 (K := K) (ev_var (i := 10) rfl) hgo H12 e12 _ fun v H13 e13 ⟨p, ev, hp⟩ => q12 _ H13 e13 (by subst ev; exact dpWs hp (AllV.mo (fun a => (TupN.mn a).mo) _ _ _ (e12.trans e13) hgys))) (okWs wlo) (by decide)))) rfl) (fun h => absurd h (by decide)) (fun _ H12 e12 => ?_)
    have e1012 := e11.trans e12
    have hk12 := hk10.ex e1012
    have had : a ≠ d := dice_ne (hk.ex e1) ha
    have hnd : n ≠ d := dice_ne (hk2.ex e3) hn3
    have hsed : se ≠ d := dice_ne (hk7.ex e79) hse0
    have hgod : go ≠ d := dice_ne hk10 hgo0
    have hse12 := e1012 _ _ hse
    have hsys12 := AllV.mo (fun a => (TupN.mn a).mo) _ _ _ e1012 hsys
    have hgo12 := e12 _ _ hgo
    have hgys12 := AllV.mo (fun a => (TupN.mn a).mo) _ _ _ e12 hgys
    have hrs12 := hrs10.ex e1012
    have hn12 := (e10.trans e1012) _ _ hn9
    have hlo12 := (e710.trans e1012) _ _ hlo7
    have hhi12 := (e710.trans e1012) _ _ hhi7
    have E12' : Ed d H H12 := E12.trans (Ed.of (e24.trans (e47.trans (e710.trans e1012))))
    refine q_forXD (K := K) (d := d) (c := 100) (PL := fun p ts H' => p ≠ d ∧ (∀ t, t ∈ ts → RowV rs t H') ∧ ts.length ≤ 200) (fun k0 H13 e13 hk13 hc Q13 q13 => ed_cut (K := K) (d := d) (H := H12) (b := go) (ws := gys) (PL := fun zs => ∀ z, z ∈ zs → z ∈ sys) (d_shuf (ev_var rfl) (ev_var rfl) (by rw [del_ne hsed]; exact hse12) (by rw [hsys.1]; omega)) (ev_var rfl) (by rw [del_ne hgod]; exact hgo12) (by omega) k0 H13 e13 hk13 hc Q13 fun v H14 e14 hk14 ⟨p, zs, ev, hpd, hp, hzl, hz⟩ => q13 v H14 e14 hk14 ⟨p, _, ev, hp, hpd, fun t ht => ?_, ?_⟩) hk12 (by omega) ?_
    · have t1 : Tu H12 H14 := (tu_ed hk12 (Ed.trans e13 e14))
      rcases List.mem_append.mp ht with x | x
      · obtain ⟨j, hj⟩ := List.mem_iff_getElem?.mp (hz t (cutV_mem x))
        obtain ⟨s, hs, hts⟩ := AllV.at hsys12 hj
        exact RowV.tu ⟨s, (sortNN_perm _).mem_iff.mp (List.mem_of_getElem? hs), hts⟩ t1
      · obtain ⟨j, hj⟩ := List.mem_iff_getElem?.mp x
        obtain ⟨s, hs, hts⟩ := AllV.at hgys12 hj
        exact RowV.tu ⟨s, (wsOf_mem.mp (List.mem_of_getElem? hs)).1, hts⟩ t1
    · have := cutV_length zs none (some 6)
      rw [List.length_append]
      omega
    rintro fp ts H13 e13 hk13 hfp ⟨hfpd, hts, htl⟩
    have t13 := tu_ed hk12 e13
    have hgo13 := e13.at hgo12 hgod
    have hgys13 := tupN_tu hgys12 t13
    have hrs13 := rows_ed hk12 e13 hrs12
    have hlo13 := t13 _ _ hlo12
    have hhi13 := t13 _ _ hhi12
    have hn13 := e13.at hn12 hnd
    refine ⟨fun i σ' H' => ∃ s8 s11, σ' = [some (.ref d), some (.ref a), some (.str (tx (progT (rs.map lineT)))), some (.ref n), some (.ref ow), some (.ref lo), some (.ref hi), some (.ref wo), s8, some (.ref se), some (.ref go), s11, none, none, none, none, none, none] ∧ Ex H13 H', ⟨none, none, rfl, Ex.refl _⟩, fun i σ' H' _ ⟨_, _, _, e⟩ => sq_of (e _ _ hfp), ?_, ?_⟩
    · rintro i x σ' H' hx ⟨s8, s11, rfl, e'⟩
      obtain ⟨s, hsub, r, rfl, hr13⟩ := hts x (List.mem_of_getElem? hx)
      have hsl2 := ((subN_mem _ _).mp hsub)
      have hs10 : s.length ≤ 10 := by have := hsl2.length_le; omega
      have hslo : Lo s := fun c hc => hlo c (hsl2.subset hc)
      have hr := e' _ _ hr13
      have hgo' := e' _ _ hgo13
      have hgys' := AllV.mo (fun a => (TupN.mn a).mo) _ _ _ e' hgys13
      have hrs' := hrs13.ex e'
      have hlo' := e' _ _ hlo13
      have hhi' := e' _ _ hhi13
      have hin := sub_ws hsub
      have hwb := wrld_some (rs := rs) hs10
      show (tSeq _ _) _ _ _
      refine q_when (b := false) (et_is (et_not (et_test (ev_op (x := .bl (isW rs s)) (y := .bl (isW rs s)) (ev_is (ev_call (vs := [.str (tx (progT (rs.map lineT))), .ref r]) (ea_cons (ev_var rfl) (ea_cons (ev_var rfl) ea_nil)) (fun H14 e14 Q14 q14 E14 => ⟨rs.map lineT, rs, .ref r, some (s.map some), rfl, hpo, ⟨r, rfl, by rw [it_nm]; exact e14 _ _ hr, by rw [List.length_map]; omega, by rw [msOf_some]; exact hslo⟩, q14⟩)) (by rw [hwb])) (ev_is (ev_inR (K := K) (ev_var rfl) hr (ev_var rfl) hgo' hgys' hslo wlo) (by rw [hin])) (rv_eq (by rfl))))) (by rw [decide_eq_true rfl]; rfl)) (fun h => absurd h (by decide)) (fun _ H14 e14 => ?_)
      have hr14 := e14 _ _ hr
      have hgo14 := e14 _ _ hgo'
      have hgys14 := AllV.mo (fun a => (TupN.mn a).mo) _ _ _ e14 hgys'
      refine q_when (b := false) (et_is (et_not (et_test (ev_op (x := .bl (isW rs s)) (y := .bl (isW rs s)) (ev_opX (Pa := fun v _ => (isW rs s = false ∧ v = .non) ∨ (isW rs s = true ∧ ∃ q, v = .ref q)) (x_call (vs := [.str (tx (progT (rs.map lineT))), .ref r]) (ea_cons (ev_var rfl) (ea_cons (ev_var rfl) ea_nil)) (fun H15 e15 Q15 q15 E15 => ⟨rs.map lineT, rs, r, s, rfl, hpo, e15 _ _ hr14, by omega, hslo, fun h H16 e16 => q15 _ H16 e16 (.inl ⟨h, rfl⟩), fun h q ys H16 e16 h16 hys => q15 _ H16 e16 (.inr ⟨h, q, rfl⟩)⟩)) (fun _ _ _ _ h => h) (x_ev ev_c) (fun x y H15 e15 hx hy Q15 q15 => ⟨hy, ?_⟩)) (ev_is (ev_inR (K := K) (ev_var rfl) hr14 (ev_var rfl) hgo14 hgys14 hslo wlo) (by rw [hin])) (rv_eq (by rfl))))) (by rw [decide_eq_true rfl]; rfl)) (fun h => absurd h (by decide)) (fun _ H15 e15 => ?_)
      · rcases hx with ⟨hw, rfl⟩ | ⟨hw, o, rfl⟩
        · rw [hw] at q15; exact q15
        · rw [hw] at q15; exact q15
      have e1315 := e'.trans (e14.trans e15)
      have hr15 := e15 _ _ hr14
      have hgo15 := e15 _ _ hgo14
      have hgys15 := AllV.mo (fun a => (TupN.mn a).mo) _ _ _ e15 hgys14
      have hni : ∀ H16, Ex H15 H16 → Ev (tOp (rNotInD K) (tVar 11) (tVar 10)) [some (.ref d), some (.ref a), some (.str (tx (progT (rs.map lineT)))), some (.ref n), some (.ref ow), some (.ref lo), some (.ref hi), some (.ref wo), s8, some (.ref se), some (.ref go), some (.ref r), none, none, none, none, none, none] H16 (.bl (!isW rs s)) := fun H16 e16 => ev_is (ev_niR (K := K) (ev_var rfl) (e16 _ _ hr15) (ev_var rfl) (e16 _ _ hgo15) (AllV.mo (fun a => (TupN.mn a).mo) _ _ _ e16 hgys15) hslo wlo) (by rw [hin])
      refine q_when (b := false) (et_is (et_not (et_or (a := !isW rs s) (b := true) (et_test (hni H15 (Ex.refl _))) (fun hb => et_B (ev_ofX (x_callX (x_cons (P := fun v _ => v = .ref a) (x_ev (ev_var rfl)) (fun _ _ _ _ h => h) (x_cons (P := fun v _ => v = .ref r) (x_ev (ev_var rfl)) (fun _ _ _ _ h => h) (x_one (P := fun v H' => ∃ q ys, v = .ref q ∧ H' q = some (.tup ys) ∧ AllV PairI (wstOf rs s) ys H') (x_call (vs := [.str (tx (progT (rs.map lineT))), .ref r]) (ea_cons (ev_var rfl) (ea_cons (ev_var rfl) ea_nil)) (fun H16 e16 Q16 q16 E16 => ⟨rs.map lineT, rs, r, s, rfl, hpo, e16 _ _ hr15, by omega, hslo, fun h => absurd h (by rw [not_f hb]; decide), fun h q ys H17 e17 h17 hys => q16 _ H17 e17 ⟨q, ys, rfl, h17, hys⟩⟩))))) ?_))))) (by rw [Bool.or_true]; rfl)) (fun h => absurd h (by decide)) (fun _ H16 e16 => ?_)
      · rintro vs H16 e16 ⟨v, r1, rfl, rfl, v2, r2, rfl, rfl, v3, rfl, q', ys, rfl, hq', hys⟩ Q16 q16 E16
        exact ⟨a, r, q', rs, s, ys, rfl, hrs13.ex (e1315.trans e16), hszR, by omega, hlo, e16 _ _ hr15, not_f hb, hq', hys, fun H17 e17 => q16 _ H17 e17 rfl⟩
      refine q_when (b := false) (et_is (et_not (et_or (a := !isW rs s) (b := (loOf rs).all fun c => decide (c ∈ s)) (et_test (hni H16 e16)) (fun hb => et_B (ev_allc (K := K) (p := fun c => decide (c ∈ s)) (as := loOf rs) (inj := nmV) (ei_T (K := K) (ev_var rfl) (st_of ((e1315.trans e16) _ _ hlo13))) (by have := (lo_asc rs).len; omega) (fun _ => rfl) (fun c _ H17 e17 => ev_inT (K := K) (ev_var rfl) (ev_var rfl) (st_of ((e16.trans e17) _ _ hr15))))))) ?_) (fun h => absurd h (by decide)) (fun _ H17 e17 => ?_)
      · cases hw : isW rs s with
        | false => rfl
        | true =>
          have : ((loOf rs).all fun c => decide (c ∈ s)) = true := List.all_eq_true.mpr fun c hc => decide_eq_true (lo_world hw c hc)
          rw [this]
          rfl
      have e1517 := e16.trans e17
      refine s_when (b := false) (et_is (et_not (et_or (a := !isW rs s) (b := s.all fun c => decide (c ∈ hiOf rs)) (et_test (hni H17 e1517)) (fun hb => et_B (ev_allc (K := K) (p := fun c => decide (c ∈ hiOf rs)) (as := s) (inj := nmV) (ei_T (K := K) (ev_var rfl) (st_of (e1517 _ _ hr15))) (by omega) (fun _ => rfl) (fun c _ H18 e18 => ev_inT (K := K) (ev_var rfl) (ev_var rfl) (st_of ((e1315.trans (e1517.trans e18)) _ _ hhi13))))))) ?_) (fun h => absurd h (by decide)) (fun _ H18 e18 => ⟨_, _, rfl, e1315.trans (e1517.trans e18)⟩)
      cases hw : isW rs s with
      | false => rfl
      | true =>
        have : (s.all fun c => decide (c ∈ hiOf rs)) = true := List.all_eq_true.mpr fun c hc => decide_eq_true (world_hi hw c hc)
        rw [this]
        rfl
    rintro σ' H14 ⟨s8, s11, rfl, e14⟩
    have hn14 := e14 _ _ hn13
    have hgo14 := e14 _ _ hgo13
    have hgys14 := AllV.mo (fun a => (TupN.mn a).mo) _ _ _ e14 hgys13
    have hgl14 := hgys14.1
    have lev : Lo (evyOf rs) := lo_sub hlo fun c hc => (List.mem_filter.mp hc).1
    have lno : Lo (nonOf rs) := lo_sub hlo fun c hc => (List.mem_filter.mp hc).1
    refine q_if2 (b := decide (wsOf rs = [])) (fun σ' H' => ∃ s8 s11 s12, σ' = [some (.ref d), some (.ref a), some (.str (tx (progT (rs.map lineT)))), some (.ref n), some (.ref ow), some (.ref lo), some (.ref hi), some (.ref wo), s8, some (.ref se), some (.ref go), s11, s12, none, none, none, none, none] ∧ Ex H14 H') (et_test (ev_is (ev_op (ev_len (ev_var rfl) (sq_of hgo14)) ev_c (rv_eq (by rfl))) ?_)) (fun hb H15 e15 N hN => ?_) (fun hb H15 e15 N hN => ?_) ?_
    · congr 1
      rw [decide_eq_decide, hgl14]
      constructor
      · intro h
        have := V.int.inj h
        exact List.length_eq_zero_iff.mp (by omega)
      · intro h; rw [h]; rfl
    · refine s_when (b := false) (et_is (et_not (et_test (ev_opX (z := .bl true) (Pa := fun v _ => v = .non) (Pb := fun v _ => v = .non) (x_call (vs := [.str (tx (progT (rs.map lineT)))]) (ea_cons (ev_var rfl) ea_nil) (fun H16 e16 Q16 q16 E16 => ⟨rs.map lineT, rs, rfl, hpo, fun _ H17 e17 => q16 _ H17 e17 rfl, fun h => absurd (of_decide_eq_true hb) h⟩)) (fun _ _ _ _ h => h) (x_ev ev_c) ?_))) rfl) (fun h => absurd h (by decide)) (fun _ H16 e16 => hN _ _ ⟨_, _, _, rfl, e15.trans e16⟩)
      rintro x y H1 e1 rfl rfl Q k
      exact ⟨rfl, k⟩
    · have hn15 := e15 _ _ hn14
      have hgo15 := e15 _ _ hgo14
      have hgys15 := AllV.mo (fun a => (TupN.mn a).mo) _ _ _ e15 hgys14
      refine qx_asg (P := fun v H' => ∃ q, v = .ref q ∧ H' q = some (.tup (nmL (evyOf rs)))) (x_tupNL (el_lc (as := namesOf rs) (inj := nmV) (fun c => (wsOf rs).all fun s => decide (c ∈ s)) nmV (ei_L (K := K) (ev_var rfl) (sq_of hn15)) (by omega) (fun _ => rfl) (fun c _ H4 e4 => et_B ((ev_allRows (K := K) (ev_var rfl) (e4 _ _ hgo15) (AllV.mo (fun a => (TupN.mn a).mo) _ _ _ e4 hgys15) (by omega) (fun x => ⟨fun H5 e5 => ev_var rfl, ev_var rfl⟩) (fun _ => rfl)).1)) (fun c _ H4 e4 _ => ev_var rfl))) ?_
      rintro v H16 e16 ⟨ev, rfl, hev⟩
      have hn16 := e16 _ _ hn15
      have hgo16 := e16 _ _ hgo15
      have hgys16 := AllV.mo (fun a => (TupN.mn a).mo) _ _ _ e16 hgys15
      refine s_when (b := false) (et_is (et_not (et_test (ev_eqD (K := K) (d := dPairT (evyOf rs, nonOf rs)) (n := 2) (x_call (vs := [.str (tx (progT (rs.map lineT)))]) (ea_cons (ev_var rfl) ea_nil) (fun H17 e17 Q17 q17 E17 => ⟨rs.map lineT, rs, rfl, hpo, fun h => absurd h (of_decide_eq_false hb), fun _ p x y H18 e18 h1 h2 h3 => q17 _ H18 e18 (dpPT ⟨p, x, y, rfl, h1, h2, h3⟩)⟩)) (x_pairD (x_varT (ev_var rfl) hev) (x_tupNL (el_lc (as := namesOf rs) (inj := nmV) (fun c => !((wsOf rs).any fun s => decide (c ∈ s))) nmV (ei_L (K := K) (ev_var rfl) (sq_of hn16)) (by omega) (fun _ => rfl) (fun c _ H4 e4 => et_not (et_B ((ev_allRows (K := K) (ev_var rfl) (e4 _ _ hgo16) (AllV.mo (fun a => (TupN.mn a).mo) _ _ _ e4 hgys16) (by omega) (fun x => ⟨fun H5 e5 => ev_var rfl, ev_var rfl⟩) (fun _ => rfl)).2))) (fun c _ H4 e4 _ => ev_var rfl)))) (okPT lev lno) (by decide)))) rfl) (fun h => absurd h (by decide)) (fun _ H17 e17 => hN _ _ ⟨_, _, _, rfl, e15.trans (e16.trans e17)⟩)
    rintro σ' H15 ⟨s8, s11, s12, rfl, e15⟩
    have e1315 := e14.trans e15
    refine qx_asg (P := fun v H' => ∃ p us ss T F, v = .ref p ∧ H' p = some (.tup us) ∧ AllV StepAt ss us H' ∧ walkB rs ss ([], []) = some (T, F) ∧ Full rs T F ∧ ss.length ≤ 2 * (namesOf rs).length ∧ totS ss ≤ (namesOf rs).length) (x_call (vs := [.str (tx (progT (rs.map lineT)))]) (ea_cons (ev_var rfl) ea_nil) (fun H16 e16 Q16 q16 E16 => ⟨rs.map lineT, rs, rfl, hpo, fun p us ss T F H17 e17 h17 hus hw hf hl ht => q16 _ H17 e17 ⟨p, us, ss, T, F, rfl, h17, hus, hw, hf, hl, ht⟩⟩)) ?_
    rintro v H16 e16 ⟨sp, us, ss, T, F, rfl, hsp, hus, hwk, hfull, hssl, htot⟩
    have tl : Wk.Tl rs T F := walkB_tl ss ([], []) (T, F) (Wk.Tl.nil rs) hwk
    obtain ⟨eT, eF⟩ := full_told hfull tl
    have hn16 := (e1315.trans e16) _ _ hn13
    have hhi16 := (e1315.trans e16) _ _ hhi13
    refine qx_asg (P := fun v H' => ∃ q, v = .ref q ∧ H' q = some (.tup (nmL (nevOf rs)))) (x_tupNL (el_lc (as := namesOf rs) (inj := nmV) (fun c => !decide (c ∈ hiOf rs)) nmV (ei_L (K := K) (ev_var rfl) (sq_of hn16)) (by omega) (fun _ => rfl) (fun c _ H4 e4 => et_test (ev_niT (K := K) (ev_var rfl) (ev_var rfl) (st_of (e4 _ _ hhi16)))) (fun c _ H4 e4 _ => ev_var rfl))) ?_
    rintro v H17 e17 ⟨ne, rfl, hne17⟩
    have e1317 := e1315.trans (e16.trans e17)
    have hrs17 := hrs13.ex e1317
    have hsp17 := e17 _ _ hsp
    have hus17 := AllV.mo (fun a => (StepAt.mn a).mo) _ _ _ e17 hus
    have hlo17 := e1317 _ _ hlo13
    have lnev : Lo (nevOf rs) := lo_sub hlo fun c hc => (nev_mem.mp hc).1
    have llo : Lo (loOf rs) := lo_sub hlo (lo_asc rs).names
    have hvss := walk_valid ss ([], []) (T, F) hwk
    have hreas : reasB rs (some ss) = true := by
      show (decide (ss.length ≤ 40) && (walkB rs ss ([], [])).isSome) = true
      rw [hwk, decide_eq_true (by omega)]
      rfl
    have htold : toldB rs (some ss) = some (T, F) := by
      show (if ss.length ≤ 40 then walkB rs ss ([], []) else none) = some (T, F)
      rw [if_pos (by omega), hwk]
    refine q_when (b := false) (et_is (et_not (et_and (a := true) (b := true) (et_B (ev_call (vs := [.str (tx (progT (rs.map lineT))), .ref sp]) (ea_cons (ev_var rfl) (ea_cons (ev_var rfl) ea_nil)) (fun H18 e18 Q18 q18 E18 => ⟨rs.map lineT, rs, .ref sp, some ss, rfl, hpo, ⟨sp, us, rfl, e18 _ _ hsp17, AllV.mo (fun a => (StepAt.mn a).mo) _ _ _ e18 hus17, by omega⟩, fun H19 e19 => by rw [hreas]; exact q18 H19 e19⟩))) (fun _ => et_and (a := true) (b := true) (et_test (ev_eqD (K := K) (d := dPairT (loOf rs, nevOf rs)) (n := 2) (x_call (vs := [.ref a, .ref sp]) (ea_cons (ev_var rfl) (ea_cons (ev_var rfl) ea_nil)) (fun H18 e18 Q18 q18 E18 => ⟨a, sp, rs, ss, us, rfl, hrs17.ex e18, hszR, e18 _ _ hsp17, AllV.mo (fun a => (StepAt.mn a).mo) _ _ _ e18 hus17, by omega, by omega, hvss, fun h => absurd h (by rw [hwk]; simp), fun T2 F2 h p x y H19 e19 h1 h2 h3 => by
      rw [hwk] at h
      cases h
      rw [eT] at h2
      rw [eF] at h3
      exact q18 _ H19 e19 (dpPT ⟨p, x, y, rfl, h1, h2, h3⟩)⟩)) (x_pairD (x_varT (ev_var rfl) hlo17) (x_varT (ev_var rfl) hne17)) (okPT llo lnev) (by decide))) (fun _ => et_test (ev_eqD (K := K) (d := dPairT (loOf rs, nevOf rs)) (n := 2) (x_call (vs := [.str (tx (progT (rs.map lineT))), .ref sp]) (ea_cons (ev_var rfl) (ea_cons (ev_var rfl) ea_nil)) (fun H18 e18 Q18 q18 E18 => ⟨rs.map lineT, rs, .ref sp, some ss, rfl, hpo, ⟨sp, us, rfl, e18 _ _ hsp17, AllV.mo (fun a => (StepAt.mn a).mo) _ _ _ e18 hus17, by omega⟩, fun h => absurd h (by rw [htold]; simp), fun T2 F2 h p x y H19 e19 h1 h2 h3 => by
      rw [htold] at h
      cases h
      rw [eT] at h2
      rw [eF] at h3
      exact q18 _ H19 e19 (dpPT ⟨p, x, y, rfl, h1, h2, h3⟩)⟩)) (x_pairD (x_varT (ev_var rfl) hlo17) (x_varT (ev_var rfl) hne17)) (okPT llo lnev) (by decide))))) ) rfl) (fun h => absurd h (by decide)) (fun _ H18 e18 => ?_)
    have e1318 := e1317.trans e18
    have hk18 := hk13.ex e1318
    refine q_asgC (vs := [.ref d, .ref a, .ref n]) (ea_cons (ev_var rfl) (ea_cons (ev_var rfl) (ea_cons (ev_var rfl) ea_nil))) (fun H19 e19 => ⟨d, a, n, _, rs, rfl, hk18.ex e19, by omega, hrs13.ex (e1318.trans e19), by omega, hne, by omega, (e1318.trans e19) _ _ hn13, fun dr uz zz H20 e20 hk20 hdr hzz hzl hzt hzv => ?_⟩)
    have E20 : Ed d H13 H20 := (Ed.of (e1318.trans e19)).trans e20
    have t20 : Tu H13 H20 := tu_ed hk13 E20
    have u20 : Tu H17 H20 := (Tu.of (e18.trans e19)).trans (tu_ed (hk18.ex e19) e20)
    have hrs20 := rows_ed hk13 E20 hrs13
    have hlo20 := t20 _ _ hlo13
    have hne20 := u20 _ _ hne17
    have hsp20 := u20 _ _ hsp17
    have hus20 := steps_tu hus17 u20
    have hul := hus20.1
    have huz := hzz.1
    refine q_forTX (P := fun v H' => ∃ p xs, v = .ref p ∧ H' p = some (.tup xs) ∧ ∀ x, x ∈ xs → ValS rs x H') (EvX.imp (x_tup (PA := fun vs H' => vs.length ≤ 5 ∧ ∀ v, v ∈ vs → ValS rs v H') ?_ (fun vs H1 H2 e ⟨a, b⟩ => ⟨a, fun v hv => ValS.mo rs _ _ _ e (b v hv)⟩) (fun vs H1 ⟨a, b⟩ => by omega)) (fun v H' ⟨p, vs, ev, hp, a⟩ => ⟨p, vs, ev, hp, a.2⟩)) ?_
    · refine x_consC (EvX.imp (x_slE (P := fun v _ => v = .ref dr) (x_ev (ev_var rfl))) (fun v H' ⟨e, hv⟩ => vals_of ⟨e, dr, hv, e _ _ hdr⟩ hzz (by omega) (by omega) hzv)) (ValS.mo rs) ?_
      refine x_consC (EvX.imp (x_catA (K := K) (ev_var rfl) (ev_var rfl) hsp20 hdr (by omega)) (fun v H' h => vals_of h (AllV.cat hus20 hzz) (by rw [List.length_append]; omega) (by rw [totS_app]; omega) (fun s hs => (List.mem_append.mp hs).elim (hvss s) (hzv s)))) (ValS.mo rs) ?_
      refine x_consC (EvX.imp (x_catA (K := K) (ev_var rfl) (ev_var rfl) hdr hsp20 (by omega)) (fun v H' h => vals_of h (AllV.cat hzz hus20) (by rw [List.length_append]; omega) (by rw [totS_app]; omega) (fun s hs => (List.mem_append.mp hs).elim (hzv s) (hvss s)))) (ValS.mo rs) ?_
      refine x_consC (EvX.imp (x_slE (x_slA (K := K) (lo := some 1) (hi := none) (ev_var rfl) (eo_some ev_c) eo_none hsp20)) (fun v H' ⟨e, q, h1, h2⟩ => ?_)) (ValS.mo rs) ?_
      · have e1 : cutV us (some 1) none = us.drop 1 := by
          cases hul0 : us with
          | nil => rfl
          | cons u us' => exact cutV_from (u :: us') (n := 1) (by simp)
        rw [e1] at h2
        have := totS_drop ss 1
        exact vals_of ⟨e, q, h1, h2⟩ (AllV.drop hus20 1) (by rw [List.length_drop]; omega) (by omega) (fun s hs => hvss s (List.mem_of_mem_drop hs))
      exact x_consC (EvX.imp (x_revT (K := K) (ev_var rfl) (ev_un ev_c ru_neg) hsp20) (fun v H' h => vals_of h (AllV.rev hus20) (by rw [List.length_reverse]; omega) (by rw [totS_rev]; omega) (fun s hs => hvss s (List.mem_reverse.mp hs)))) (ValS.mo rs) x_nilC
    rintro v21 H21 e21 ⟨vp, xs, rfl, hvp, hxs⟩
    refine q_forT (K := K) (xs := xs) ev_c (st_of hvp) (fun i σ' H' => ∃ s16 s17, σ' = [some (.ref d), some (.ref a), some (.str (tx (progT (rs.map lineT)))), some (.ref n), some (.ref ow), some (.ref lo), some (.ref hi), some (.ref wo), s8, some (.ref se), some (.ref go), s11, s12, some (.ref sp), some (.ref ne), some (.ref dr), s16, s17] ∧ Ex H21 H') (fun H22 e22 => ⟨none, none, rfl, e22⟩) (fun i σ' H' _ ⟨_, _, _, e⟩ => st_of (e _ _ hvp)) ?_ ?_
    · rintro i x σ' H' hx ⟨s16, s17, rfl, e'⟩
      obtain ⟨p, zs, ts, rfl, hp, hts, htl, htt, htv⟩ := ValS.mo rs _ _ _ e' (hxs x (List.mem_of_getElem? hx))
      have hrs' := hrs20.ex (e21.trans e')
      have hlo' := (e21.trans e') _ _ hlo20
      have hne' := (e21.trans e') _ _ hne20
      obtain ⟨w, hw⟩ : ∃ w, w = walkB rs ts ([], []) := ⟨_, rfl⟩
      have lw : LoO w := by rw [hw]; exact told_lo hlo
      show (tSeq _ _) _ _ _
      refine qx_asg (P := ToldV w) (x_call (vs := [.ref a, .ref p]) (ea_cons (ev_var rfl) (ea_cons (ev_var rfl) ea_nil)) (fun H3 e3 Q3 q3 E3 => ⟨a, p, rs, ts, zs, rfl, hrs'.ex e3, hszR, e3 _ _ hp, AllV.mo (fun a => (StepAt.mn a).mo) _ _ _ e3 hts, htl, htt, htv, fun h H4 e4 => q3 _ H4 e4 (by rw [hw, h]; rfl), fun T2 F2 h q x y H4 e4 h1 h2 h3 => q3 _ H4 e4 (by rw [hw, h]; exact ⟨q, x, y, rfl, h1, h2, h3⟩)⟩)) ?_
      rintro v H3 e3 hv
      have hp3 := e3 _ _ hp
      have hts3 := AllV.mo (fun a => (StepAt.mn a).mo) _ _ _ e3 hts
      have hmo : ∀ H4, Ex H3 H4 → ToldV w v H4 := fun H4 e4 => by
        cases w with
        | none => exact hv
        | some z => exact let ⟨q, x, y, h1, h2, h3, h4⟩ := hv; ⟨q, x, y, h1, e4 _ _ h2, e4 _ _ h3, e4 _ _ h4⟩
      have hre : reasB rs (some ts) = w.isSome := by
        show (decide (ts.length ≤ 40) && (walkB rs ts ([], [])).isSome) = _
        rw [← hw, decide_eq_true htl, Bool.true_and]
      have hto : toldB rs (some ts) = w := by
        show (if ts.length ≤ 40 then walkB rs ts ([], []) else none) = w
        rw [if_pos htl, hw]
      refine q_when (b := false) (et_is (et_not (et_test (ev_op (x := .bl w.isSome) (y := .bl w.isSome) (ev_call (vs := [.str (tx (progT (rs.map lineT))), .ref p]) (ea_cons (ev_var rfl) (ea_cons (ev_var rfl) ea_nil)) (fun H4 e4 Q4 q4 E4 => ⟨rs.map lineT, rs, .ref p, some ts, rfl, hpo, ⟨p, zs, rfl, e4 _ _ hp3, AllV.mo (fun a => (StepAt.mn a).mo) _ _ _ e4 hts3, by omega⟩, fun H5 e5 => by rw [hre]; exact q4 H5 e5⟩)) (ev_opX (Pa := fun u _ => u = v) (Pb := fun u _ => u = .non) (x_ev (ev_var rfl)) (fun _ _ _ _ h => h) (x_ev ev_c) ?_) (rv_eq (by rfl))))) (by rw [decide_eq_true rfl]; rfl)) (fun h => absurd h (by decide)) (fun _ H4 e4 => ?_)
      · rintro x y H4 e4 rfl rfl Q4 q4
        refine ⟨rfl, ?_⟩
        cases w with
        | none =>
          have ev0 : x = .non := hv
          subst ev0
          exact q4
        | some z =>
          obtain ⟨q, x2, y2, rfl, _⟩ := hv
          exact q4
      have hp4 := e4 _ _ hp3
      have hts4 := AllV.mo (fun a => (StepAt.mn a).mo) _ _ _ e4 hts3
      refine q_when (b := false) (et_is (et_not (et_test (ev_eqD (K := K) (d := dTold w) (n := 2) (x_call (vs := [.str (tx (progT (rs.map lineT))), .ref p]) (ea_cons (ev_var rfl) (ea_cons (ev_var rfl) ea_nil)) (fun H5 e5 Q5 q5 E5 => ⟨rs.map lineT, rs, .ref p, some ts, rfl, hpo, ⟨p, zs, rfl, e5 _ _ hp4, AllV.mo (fun a => (StepAt.mn a).mo) _ _ _ e5 hts4, by omega⟩, fun h H6 e6 => q5 _ H6 e6 (by rw [hto] at h; rw [h]; exact .non), fun T2 F2 h q x y H6 e6 h1 h2 h3 => q5 _ H6 e6 (by rw [hto] at h; rw [h]; exact dpPT ⟨q, x, y, rfl, h1, h2, h3⟩)⟩)) (fun H5 e5 Q5 q5 => ev_var (v := v) rfl H5 (Ex.refl _) _ fun H6 e6 => q5 _ H6 e6 (dp_told (hmo H6 (e4.trans (e5.trans e6))))) (ok_told lw) (by decide)))) rfl) (fun h => absurd h (by decide)) (fun _ H5 e5 => ?_)
      have e35 := e4.trans e5
      have fin : ∀ H6, Ex H5 H6 → ∃ s16 s17, ([some (.ref d), some (.ref a), some (.str (tx (progT (rs.map lineT)))), some (.ref n), some (.ref ow), some (.ref lo), some (.ref hi), some (.ref wo), s8, some (.ref se), some (.ref go), s11, s12, some (.ref sp), some (.ref ne), some (.ref dr), some (.ref p), some v] : L2.St) = [some (.ref d), some (.ref a), some (.str (tx (progT (rs.map lineT)))), some (.ref n), some (.ref ow), some (.ref lo), some (.ref hi), some (.ref wo), s8, some (.ref se), some (.ref go), s11, s12, some (.ref sp), some (.ref ne), some (.ref dr), s16, s17] ∧ Ex H21 H6 := fun H6 e6 => ⟨_, _, rfl, e'.trans (e3.trans (e35.trans e6))⟩
      cases w with
      | none =>
        have ev0 : v = .non := hv
        subst ev0
        refine s_when (b := false) (et_is (et_not (et_or (a := true) (b := true) (et_test (ev_opX (z := .bl true) (Pa := fun u _ => u = .non) (Pb := fun u _ => u = .non) (x_ev (ev_var rfl)) (fun _ _ _ _ h => h) (x_ev ev_c) ?_)) (fun hb => absurd hb (by decide)))) rfl) (fun h => absurd h (by decide)) (fun _ H6 e6 => fin H6 e6)
        rintro x y H6 e6 rfl rfl Q k
        exact ⟨rfl, k⟩
      | some z =>
        have ht := walkB_tl ts ([], []) z (Wk.Tl.nil rs) hw.symm
        obtain ⟨q, x1, y1, rfl, g1, g2, g3⟩ := hmo H5 e35
        have hlo5 := (e3.trans e35) _ _ hlo'
        have hne5 := (e3.trans e35) _ _ hne'
        have l1 : (riseOf z.1).length ≤ (namesOf rs).length := nd_len (ris_nodup (riseOf_ris _)) fun c hc => ht.tn c (riseOf_mem.mp hc)
        have l2 : (riseOf z.2).length ≤ (namesOf rs).length := nd_len (ris_nodup (riseOf_ris _)) fun c hc => ht.fn c (riseOf_mem.mp hc)
        refine s_when (b := false) (et_is (et_not (et_or (a := false) (b := true) (et_test (ev_opX (z := .bl false) (Pa := fun u _ => u = .ref q) (Pb := fun u _ => u = .non) (x_ev (ev_var rfl)) (fun _ _ _ _ h => h) (x_ev ev_c) ?_)) (fun _ => et_is (et_and (et_B (ev_allc (K := K) (p := fun c => decide (c ∈ loOf rs)) (as := riseOf z.1) (inj := nmV) (ei_T (K := K) (ev_op (ev_var (i := 17) rfl) ev_c (rv_ixT (K := K) (st_of g1) rfl)) (st_of g2)) (by omega) (fun _ => rfl) (fun c _ H6 e6 => ev_inT (K := K) (ev_var rfl) (ev_var rfl) (st_of (e6 _ _ hlo5))))) (fun _ => et_B (ev_allc (K := K) (p := fun c => decide (c ∈ nevOf rs)) (as := riseOf z.2) (inj := nmV) (ei_T (K := K) (ev_op (ev_var (i := 17) rfl) ev_c (rv_ixT (K := K) (st_of g1) rfl)) (st_of g3)) (by omega) (fun _ => rfl) (fun c _ H6 e6 => ev_inT (K := K) (ev_var rfl) (ev_var rfl) (st_of (e6 _ _ hne5)))))) ?_))) rfl) (fun h => absurd h (by decide)) (fun _ H6 e6 => fin H6 e6)
        · rintro x y H6 e6 rfl rfl Q k
          exact ⟨rfl, k⟩
        · have a1 : ((riseOf z.1).all fun c => decide (c ∈ loOf rs)) = true := List.all_eq_true.mpr fun c hc => decide_eq_true (ht.lo c (riseOf_mem.mp hc))
          have a2 : ((riseOf z.2).all fun c => decide (c ∈ nevOf rs)) = true := List.all_eq_true.mpr fun c hc => decide_eq_true (nev_mem.mpr ⟨ht.fn c (riseOf_mem.mp hc), ht.hi c (riseOf_mem.mp hc)⟩)
          rw [a1, a2]
          rfl
    rintro σ' H22 ⟨s16, s17, rfl, e22⟩
    exact s_ret ev_c (fun H23 e23 => q H23 (E12'.trans (e13.trans (E20.trans (Ed.of (e21.trans (e22.trans e23)))))))

end
end Tx
end
section
set_option Elab.async false
set_option linter.all false
set_option maxRecDepth 100000
set_option maxHeartbeats 4000000
namespace Tx
open PySem PySem.Spec PyProof.Rows L2 Evl Wk
section
variable {w : World} {K : PySem.W.Frag} {mg : Str → Option Value} {base : Heap}

theorem fun_okC {P : Program} {x qual : Str} {st : Stmt} {fd : FuncData} {N ps : List Str} {k : Nat} {sp : Sp} {p : He.Defn} (F : Fun K x qual st (He.fAd K p) fd) (S : FnScope N ps (defScope st)) (len : ∀ vs H Q E, sp vs H Q E → vs.length = ps.length)
    (hbody : ∀ (A : Around) (outer : List Env) (s : Shared) (H : Hp) (vs : List V) (Q : VK) (E : XK), Room k (A.deeper (envOfC qual (defScope st) s.heap.objs.size (He.fAd K p) (.ref (He.cT K p).1))) → sp vs H Q E →
      ∃ t, PSs (cxOf CX0 P w K mg base N qual (defScope st) (He.fAd K p) (.ref (He.cT K p).1) A outer s H E).nox (defBody st) t ∧ t { nx := fun _ H' => Q .non H', rt := Q } (L2.start N vs) H) : FnOk P w K mg base CX0 (k + 1) (He.fAd K p) fd ps sp := by
  obtain ⟨oc, od, kV, doc, pm, an, cdv, ct, osl, rfl, lk, hcd⟩ := F.ex
  obtain ⟨c, rfl⟩ := He.codeIn_ref hcd
  have e : (He.cT K p).1 = c := He.codeOf_eq lk rfl
  rw [e] at hbody
  refine fn_of lk hcd S len fun A outer s H vs Q E hr hsp => ?_
  obtain ⟨t, h, q⟩ := hbody A outer s H vs Q E hr hsp
  exact ⟨t, h.nox, q⟩
def sp_law (K : PySem.W.Frag) : Sp := fun vs H Q _ => ∃ (a : Addr) (ns : List Int), vs = [.ref a] ∧ SqL K H a (ns.map V.int) ∧ ns.length ≤ 63 ∧ H (He.cT K ("law", none)).2 = some (.tbl #[]) ∧ ∀ H', Q (.bl true) H'
/-! the written programs -/
abbrev rA : List Rw := [(97, [], [])]
abbrev rN : List Rw := [(97, [], [97])]
abbrev rC : List Rw := [(97, [98], []), (98, [97], [])]
abbrev rD : List Rw := [(97, [], [98]), (98, [], [97])]
abbrev rE : List Rw := [(97, [98, 99, 100, 101], []), (102, [103, 104, 105, 106], []), (107, [], [])]
abbrev r0 : List Rw := []
theorem tA : ("a.\n" : Str) = tx (progT (rA.map lineT)) := by decide +kernel
theorem tN : ("a :- not a.\n" : Str) = tx (progT (rN.map lineT)) := by decide +kernel
theorem tC' : ("a :- b.\nb :- a.\n" : Str) = tx (progT (rC.map lineT)) := by decide +kernel
theorem tD : ("a :- not b.\nb :- not a.\n" : Str) = tx (progT (rD.map lineT)) := by decide +kernel
theorem tE : ("a :- b, c, d, e.\nf :- g, h, i, j.\nk.\n" : Str) = tx (progT (rE.map lineT)) := by decide +kernel
theorem t0 : ("" : Str) = tx (progT (r0.map lineT)) := by decide +kernel
def lP : List (List Nat) := [[112, 40, 97, 41, 46]]
theorem tP : ("p(a).\n" : Str) = tx (progT lP) := by decide +kernel
theorem gA : GoodR rA := ⟨by decide, fun r hr => by rw [List.mem_singleton.mp hr]; decide⟩
theorem gN : GoodR rN := ⟨by decide, fun r hr => by rw [List.mem_singleton.mp hr]; decide⟩
theorem gCC : GoodR rC := ⟨by decide, fun r hr => by
  rcases List.mem_cons.mp hr with x | x
  · rw [x]; decide
  · rw [List.mem_singleton.mp x]; decide⟩
theorem gD : GoodR rD := ⟨by decide, fun r hr => by
  rcases List.mem_cons.mp hr with x | x
  · rw [x]; decide
  · rw [List.mem_singleton.mp x]; decide⟩
theorem g0 : GoodR r0 := ⟨by decide, fun r hr => by cases hr⟩
theorem readP : readCl [112, 40, 97, 41, 46] = some ([([112], 1), ([97], 0)], []) := by decide +kernel
theorem bad_P {H : Hp} {E : XK} (h : BadE K "program" H E) : BadN K lP H E :=
  ⟨[([([112], 1), ([97], 0)], [])], ⟨by decide, by decide, fun l hl => by
    rw [List.mem_singleton.mp hl]
    refine ⟨by decide, ?_, by decide⟩
    show ∀ c, c ∈ [112, 40, 97, 41, 46] → c ∉ great
    decide +kernel, by
    show [readCl [112, 40, 97, 41, 46]] = _
    rw [readP]
    rfl⟩, by decide, fun z hz => by rw [List.mem_singleton.mp hz]; decide, .inl ⟨⟨_, List.mem_singleton.mpr rfl, _, List.mem_cons_self, by decide⟩, h⟩⟩
theorem readE1 : readCl (lineT (97, [98, 99, 100, 101], [])) = some ([([97], 0)], [([([98], 0)], false), ([([99], 0)], false), ([([100], 0)], false), ([([101], 0)], false)]) := by decide +kernel
theorem readE2 : readCl (lineT (102, [103, 104, 105, 106], [])) = some ([([102], 0)], [([([103], 0)], false), ([([104], 0)], false), ([([105], 0)], false), ([([106], 0)], false)]) := by decide +kernel
theorem readE3 : readCl (lineT (107, [], [])) = some ([([107], 0)], []) := by decide +kernel
theorem readE : (rE.map lineT).map readCl = (rE.map clOf).map some := by
  show [readCl (lineT (97, [98, 99, 100, 101], [])), readCl (lineT (102, [103, 104, 105, 106], [])), readCl (lineT (107, [], []))] = _
  rw [readE1, readE2, readE3]
  rfl
theorem sortN_asc {l : List Nat} (h : l.Pairwise (· < ·)) : sortN l = l := ris_unique (lt_of_le_nd (sortN_sorted l) ((sortN_perm l).nodup_iff.mpr (ris_nodup h))) h fun c => (sortN_perm l).mem_iff
theorem names_C : namesOf rC = [97, 98] := by
  unfold Wk.namesOf
  rw [show keysOf rC = [97, 98] from by decide +kernel]
  exact sortN_asc (by decide)
theorem names_D : namesOf rD = [97, 98] := by
  unfold Wk.namesOf
  rw [show keysOf rD = [97, 98] from by decide +kernel]
  exact sortN_asc (by decide)
theorem bo_D0 : Bo rD [] = [97, 98] := by
  unfold Bo
  rw [show fixOf (okB []) rD = [97, 98] from by decide +kernel]
  exact sortN_asc (by decide)
theorem bo_D1 : Bo rD [97, 98] = [] := by
  unfold Bo
  rw [show fixOf (okB [97, 98]) rD = [] from by decide +kernel]
  exact sortN_asc List.Pairwise.nil
theorem st_D : stOf rD = [([], [97, 98])] := by
  unfold stOf
  rw [names_D]
  show stgN rD 3 [] = _
  unfold stgN
  rw [bo_D0, bo_D1]
  rfl
theorem signsE : ∀ l, l ∈ rE.map lineT → 10 ∉ l ∧ (∀ c, c ∈ l → c ∉ great) ∧ l.length ≤ 4000 := by decide +kernel
theorem sizesE : (∀ r, r ∈ rE → r.2.1.length ≤ 100 ∧ r.2.2.length ≤ 100) ∧ (keysOf rE).length < 64 ∧ 10 < (keysOf rE).length ∧ (progT (rE.map lineT)).length ≤ 4000 ∧ ∀ z, z ∈ rE.map clOf → z.2.length ≤ 100 := by decide +kernel
theorem bad_E {H : Hp} {E : XK} (h : BadE K "program" H E) : BadN K (rE.map lineT) H E :=
  ⟨rE.map clOf, ⟨sizesE.2.2.2.1, by decide, fun l hl => signsE l hl, readE⟩, by decide, sizesE.2.2.2.2, .inr ⟨rE, rfl, ⟨by decide, sizesE.1, sizesE.2.1⟩, by rw [show (namesOf rE).length = (keysOf rE).length from (sortN_perm _).length_eq]; exact sizesE.2.2.1, h⟩⟩
theorem nm_A : V.str "a" = nmV 97 := by
  rw [show ("a" : Str) = tx [97] from by decide +kernel]
  rfl
theorem nm_B : V.str "b" = nmV 98 := by
  rw [show ("b" : Str) = tx [98] from by decide +kernel]
  rfl
theorem ws_N : wsOf rN = [] := by
  have h : ((subN (namesOf rN)).filter (isW rN)) = [] := by decide +kernel
  have p := (sortNN_perm (subN (namesOf rN))).filter (isW rN)
  rw [h] at p
  exact p.eq_nil
theorem ws_C : wsOf rC = [[]] := by
  have h : ((subN (namesOf rC)).filter (isW rC)) = [[]] := by rw [names_C]; decide +kernel
  have p := (sortNN_perm (subN (namesOf rC))).filter (isW rC)
  rw [h] at p
  exact List.perm_singleton.mp p
theorem tr_D : dTr rD = .tuple [.tuple [.str "a", .str "open"], .tuple [.str "b", .str "open"]] := by
  have h1 := names_D
  have h2 : wordOf rD 97 = "open" ∧ wordOf rD 98 = "open" := by
    unfold wordOf loOf hiOf
    rw [st_D]
    decide +kernel
  unfold dTr dPairW
  rw [h1]
  show PyData.tuple [.tuple [.str (tx [97]), .str (wordOf rD 97)], .tuple [.str (tx [98]), .str (wordOf rD 98)]] = _
  rw [h2.1, h2.2, show ("a" : Str) = tx [97] from by decide +kernel, show ("b" : Str) = tx [98] from by decide +kernel]
theorem re_no : reasB rA (some [.bl true]) = false ∧ reasB rA (some [.int (-1)]) = false ∧ reasB rA (some [.str 97]) = false ∧ reasB rA (some [.tup []]) = false ∧ reasB rA (some [.tup [some 98]]) = false ∧ reasB rA (some [.tup [some 97, none]]) = false ∧ reasB rA (some [.str 97, .str 98]) = false ∧ reasB rA (some [.int 1]) = false := by decide +kernel
theorem step_C1 : (stepB rC [] [] (.tup [some 97, some 98])).isSome = true := by
  unfold stepB
  rw [names_C]
  decide +kernel
theorem step_C2 : stepB rC [] [] (.tup [some 97]) = none := by
  unfold stepB
  rw [names_C]
  rfl
theorem re_C : reasB rC (some [.tup [some 97, some 98]]) = true ∧ reasB rC (some [.tup [some 97]]) = false ∧ reasB r0 (some []) = true := by
  refine ⟨?_, ?_, by decide +kernel⟩
  · show (true && ((stepB rC [] [] (.tup [some 97, some 98])).bind (walkB rC [])).isSome) = true
    obtain ⟨z, hz⟩ := Option.isSome_iff_exists.mp step_C1
    rw [hz]
    rfl
  · show (true && ((stepB rC [] [] (.tup [some 97])).bind (walkB rC [])).isSome) = false
    rw [step_C2]
    rfl
theorem wr_A : wrldB rA (some [none]) = false ∧ wrldB r0 (some []) = true ∧ isW rA [] = false := by decide +kernel
theorem s_refused {T : List (Addr × Str)} {C : Addr} {t : XK → TE} {z : Str} {D : Ends} {tu tz : TS} {σ : L2.St} {H : Hp} (hT : LamX.Tabs T H) (ht : ∀ (H1 : Hp) (E : XK) (Qn : VK), (∀ d H2, Ex H1 H2 → H2 d = some (.xd [("name", .str z)]) → E (.ref C) (some d) H2) → t E σ H1 Qn) (k : ∀ H1, LamX.Tabs T H1 → tz D σ H1) :
    tSeq (tIfS (tNot (tTest (tOp rEq (LamX.tLam T (TTref C) t) (tC (.str z))))) tu tNext) tz D σ H :=
  ⟨hT, fun H1 eN T1 => ht H1 _ _ fun d H2 e2 hd => ⟨rfl, d, z, rfl, hd, by
    refine (ev_c (σ := σ) (H := H2) (v := .str z)) H2 (Ex.refl H2) _ (fun H3 e3 => ?_)
    refine rv_eq (x := .str z) (y := .str z) (by rfl) H3 (Ex.refl H3) _ (fun H4 e4 => ⟨_, rfl, ?_⟩)
    have e : (!decide (V.str z = V.str z)) = false := by rw [decide_eq_true rfl]; rfl
    show (if (!decide (V.str z = V.str z)) = true then _ else _)
    rw [e]
    exact k H4 (T1.ext fun b o h => (e2.trans (e3.trans e4)) b o h)⟩⟩
theorem x_2N {σ : L2.St} {H : Hp} {z : Str} {te : TE} {P R : V → Hp → Prop} {sp : Sp} {E : XK} (h : EvX te σ H P) (hs : ∀ v H1, Ex H H1 → P v H1 → ∀ Q : VK, (∀ u H2, Ex H1 H2 → R u H2 → Q u H2) → ∀ E, sp [.str z, v] H1 Q E) : EvX (tCall sp [] E (tCons (tC (.str z)) (tCons te tNil))) σ H R :=
  x_callX (x_cons (P := fun v _ => v = .str z) (x_ev ev_c) (fun _ _ _ _ h => h) (x_one h)) (fun vs H1 e ⟨v, r, ev, hv, v2, er, p⟩ Q q E => by
    subst er; subst ev; subst hv
    exact hs v2 H1 e p Q q E)
theorem x_1N {σ : L2.St} {H : Hp} {z : Str} {R : V → Hp → Prop} {sp : Sp} {E : XK} (hs : ∀ H1, Ex H H1 → ∀ Q : VK, (∀ u H2, Ex H1 H2 → R u H2 → Q u H2) → ∀ E, sp [.str z] H1 Q E) : EvX (tCall sp [] E (tCons (tC (.str z)) tNil)) σ H R :=
  x_call (ea_cons ev_c ea_nil) hs
/-- no row of steps of the program of one row -/
def NoReas (K : PySem.W.Frag) (v : V) (H : Hp) : Prop := ∃ o, ValR K o v H ∧ reasB rA o = false
theorem NoReas.mo : Mo (NoReas K) := fun v H H' e ⟨n, h1, h2⟩ => ⟨n, h1.ex e, h2⟩
/-- a tuple of steps -/
theorem x_steps {σ : L2.St} {H : Hp} {tr : TA} {ss : List Sv} (h : EvAX tr σ H (fun vs H' => AllV StepAt ss vs H')) (hl : ss.length ≤ 1000) : EvX (tTup tr) σ H (fun v H' => ValR K (some ss) v H') :=
  EvX.imp (x_tup h (fun vs H1 H2 e a => AllV.mo (fun a => (StepAt.mn a).mo) _ _ _ e a) (fun vs H1 a => by rw [a.1]; omega)) (fun v H' ⟨p, vs, ev, hp, a⟩ => ⟨p, vs, ev, hp, a, hl⟩)
theorem xs_nil {σ : L2.St} {H : Hp} : EvAX tNil σ H (fun vs H' => AllV StepAt [] vs H') := fun H1 e Q q => q [] H1 (Ex.refl _) AllV.nil
theorem xs_cons {σ : L2.St} {H : Hp} {te : TE} {tr : TA} {s : Sv} {ss : List Sv} (h : EvX te σ H (StepAt s)) (hr : EvAX tr σ H (fun vs H' => AllV StepAt ss vs H')) : EvAX (tCons te tr) σ H (fun vs H' => AllV StepAt (s :: ss) vs H') := fun H1 e Q q =>
  x_cons (P := StepAt s) h (StepAt.mn s).mo hr H1 e Q (fun vs H2 e2 ⟨v, r, ev, hv, hr⟩ => q vs H2 e2 (by rw [ev]; exact AllV.cons hv hr))
theorem xs_c {σ : L2.St} {H : Hp} {v : V} {s : Sv} (h : ∀ H', StepAt s v H') : EvX (tC v) σ H (StepAt s) := EvX.imp (x_ev ev_c) (fun u H' hu => by rw [hu]; exact h H')
theorem xs_t {σ : L2.St} {H : Hp} {tr : TA} {xs : List (Option Nat)} {ys : List V} (h : EvA tr σ H ys) (hy : ys = xs.map itV) (hx : xs.length ≤ 1000) : EvX (tTup tr) σ H (StepAt (.tup xs)) := EvX.imp (x_evU (eu_tup h (by rw [hy, List.length_map]; omega))) (fun v H' ⟨p, h1, h2⟩ => ⟨p, h1, by rw [← hy]; exact h2, hx⟩)
theorem no_st {σ : L2.St} {H : Hp} {te : TE} {ss : List Sv} (h : EvX te σ H (fun v H' => ValR K (some ss) v H')) (hr : reasB rA (some ss) = false) : EvX te σ H (NoReas K) := EvX.imp h fun v H' hv => ⟨some ss, hv, hr⟩

theorem sc_law : FnScope ["script", "spot", "value"] ["script"] (defScope s_law) := ⟨rfl, rfl, rfl, by decide +kernel, rfl, by decide +kernel, by decide +kernel⟩
theorem ok_law {fd : FuncData} (Z : Zx K mg) (hy : exY K = true) (F : Fun K "law" "law" s_law (He.fAd K ("law", none)) fd) (TBl : LamX.TabB base mg (He.cT K ("law", none)).1 (He.cT K ("law", none)).2) : FnOk prog w K mg base CX0 12 (He.fAd K ("law", none)) fd ["script"] (sp_law K) := by
  obtain ⟨_, g__law_dice, b__law_dice, m__law_dice, k__law_dice⟩ := ok__law_dice (w := w) (base := base) Z
  obtain ⟨_, g__law_one, b__law_one, m__law_one, k__law_one⟩ := ok__law_one (w := w) (base := base) Z
  obtain ⟨_, g_is_reason, b_is_reason, m_is_reason, k_is_reason⟩ := ok_is_reason (w := w) (base := base) Z
  obtain ⟨_, g_is_world, b_is_world, m_is_world, k_is_world⟩ := ok_is_world (w := w) (base := base) Z
  obtain ⟨_, g_told_by, b_told_by, m_told_by, k_told_by⟩ := ok_told_by (w := w) (base := base) Z
  obtain ⟨_, g_truths, b_truths, m_truths, k_truths⟩ := ok_truths (w := w) (base := base) Z
  obtain ⟨_, g_world_steps, b_world_steps, m_world_steps, k_world_steps⟩ := ok_world_steps (w := w) (base := base) Z
  obtain ⟨_, g_worlds, b_worlds, m_worlds, k_worlds⟩ := ok_worlds (w := w) (base := base) Z
  have n_len := Z.free 68 (x := "len")
  have n_max := Z.free 70 (x := "max")
  have n_min := Z.free 71 (x := "min")
  have n_range := Z.free 72 (x := "range")
  obtain ⟨fdR, FR0⟩ := Z.fun_ 60
  have FR : Fun K "_law_refused" "_law_refused" s__law_refused (He.ga K "_law_refused") fdR := Wk.fun_of FR0
  have bR : L2.Binds K fdR ["call"] [] := FR.binds (ps := ["call"]) fun _ _ _ _ _ _ us hl => match us, hl with | [_], _ => rfl
  have gR := Z.glo 53 (x := "_law_refused")
  have gC := Z.glo 59 (x := "BadArgument")
  obtain ⟨hy1, hy2⟩ := Bool.and_eq_true_iff.mp hy
  obtain ⟨hy2, hy3⟩ := Bool.and_eq_true_iff.mp hy2
  have heB := of_decide_eq_true hy1
  have xfB1 := xfB_ok hy2
  have hnoB := of_decide_eq_true hy3
  refine fun_okC F sc_law (fun vs H Q E h => ?_) (fun A outer s H vs Q E hr h => ?_)
  · obtain ⟨a, ns, rfl, _⟩ := h
    rfl
  · obtain ⟨a, ns, rfl, hs, hn, hP, q⟩ := h
    have hu64 := hr.units
    refine ⟨_, (pss_cons (ps_for PassesOwn.never rfl (pi_range1 (by rfl) n_range (pa_cons (pe_callB (call_max2 rfl) (by rfl) n_max (by decide +kernel) (pa_cons pe_int (pa_cons (pe_callB (call_min2 rfl) (by rfl) n_min (by decide +kernel) (pa_cons pe_int (pa_cons (pe_callB call_len_seq (by rfl) n_len (by decide +kernel) (pa_cons (pv 0) pa_nil)) pa_nil))) pa_nil))) pa_nil)) (pg_name (i := 1) sc_law.nd rfl (by first | exact Or.inl rfl | exact Or.inr rfl)) (pss_one (ps_if (pt_not (pt_val (pe_call g__law_one (hr.mono (by decide)) (by rfl) m__law_one k__law_one b__law_one .nil pass0 (pa_cons (pe_call g__law_dice (hr.mono (by decide)) (by rfl) m__law_dice k__law_dice b__law_dice .nil pass0 (pa_cons (pv 0) (pa_cons (pv 1) pa_nil))) pa_nil)))) (pss_one (ps_ret pe_bl)) pss_nil))) (pss_cons (ps_if (pt_not (pt_cmpR op_eq (pe_refcall FR bR gR rfl gC heB xfB1 hnoB TBl rfl hr (LamX.lamS_by (sc := defScope s_law) (by decide +kernel)) rfl (fun _ _ _ _ _ => rfl) (fun A outer s H E f c' hrL => (pe_call g_truths (hrL.mono (by decide)) (by rfl) m_truths k_truths b_truths .nil (passes_call (takes_of rfl rfl rfl rfl) (fun _ _ _ _ h => h)) (pa_cons pe_str pa_nil)))) pe_str (nomark _))) (pss_one (ps_ret pe_bl)) pss_nil) (pss_cons (ps_if (pt_not (pt_cmpR op_eq (pe_refcall FR bR gR rfl gC heB xfB1 hnoB TBl rfl hr (LamX.lamS_by (sc := defScope s_law) (by decide +kernel)) rfl (fun _ _ _ _ _ => rfl) (fun A outer s H E f c' hrL => (pe_call g_worlds (hrL.mono (by decide)) (by rfl) m_worlds k_worlds b_worlds .nil (passes_call (takes_of rfl rfl rfl rfl) (fun _ _ _ _ h => h)) (pa_cons pe_str pa_nil)))) pe_str (nomark _))) (pss_one (ps_ret pe_bl)) pss_nil) (pss_cons (ps_for PassesOwn.never rfl (pi_tup (pe_tup (pa_cons pe_int (pa_cons (pe_lst pa_nil) (pa_cons (pe_tup (pa_cons pe_bl pa_nil)) (pa_cons (pe_tup (pa_cons (pe_un un_neg pe_int) pa_nil)) (pa_cons (pe_tup (pa_cons pe_str pa_nil)) (pa_cons (pe_tup (pa_cons (pe_tup pa_nil) pa_nil)) (pa_cons (pe_tup (pa_cons (pe_tup (pa_cons pe_str pa_nil)) pa_nil)) (pa_cons (pe_tup (pa_cons (pe_tup (pa_cons pe_str (pa_cons pe_int pa_nil))) pa_nil)) (pa_cons (pe_tup (pa_cons pe_str (pa_cons pe_str pa_nil))) (pa_cons (pe_tup (pa_cons pe_int pa_nil)) pa_nil)))))))))))) (pg_name (i := 2) sc_law.nd rfl (by first | exact Or.inl rfl | exact Or.inr rfl)) (pss_one (ps_if (pw_or (pt_val (pe_call g_is_reason (hr.mono (by decide)) (by rfl) m_is_reason k_is_reason b_is_reason .nil passL (pa_cons pe_str (pa_cons (pv 2) pa_nil)))) (pw_or1 (pt_cmpR op_notN (pe_call g_told_by (hr.mono (by decide)) (by rfl) m_told_by k_told_by b_told_by .nil passL (pa_cons pe_str (pa_cons (pv 2) pa_nil))) pe_non (nomark _)))).pt (pss_one (ps_ret pe_bl)) pss_nil))) (pss_cons (ps_if (pt_not (pw_and (pt_not (pt_val (pe_call g_is_world (hr.mono (by decide)) (by rfl) m_is_world k_is_world b_is_world .nil passL (pa_cons pe_str (pa_cons (pe_lst (pa_cons pe_str pa_nil)) pa_nil))))) (pw_and (pt_not (pt_val (pe_call g_is_world (hr.mono (by decide)) (by rfl) m_is_world k_is_world b_is_world .nil passL (pa_cons pe_str (pa_cons (pe_tup (pa_cons pe_int pa_nil)) pa_nil))))) (pw_and (pt_val (pe_call g_is_world (hr.mono (by decide)) (by rfl) m_is_world k_is_world b_is_world .nil passL (pa_cons pe_str (pa_cons (pe_tup pa_nil) pa_nil)))) (pw_and1 (pt_val (pe_call g_is_reason (hr.mono (by decide)) (by rfl) m_is_reason k_is_reason b_is_reason .nil passL (pa_cons pe_str (pa_cons (pe_tup pa_nil) pa_nil)))))))).pt) (pss_one (ps_ret pe_bl)) pss_nil) (pss_cons (ps_if (pt_not (pw_and (pt_val (pe_call g_is_reason (hr.mono (by decide)) (by rfl) m_is_reason k_is_reason b_is_reason .nil passL (pa_cons pe_str (pa_cons (pe_tup (pa_cons (pe_tup (pa_cons pe_str (pa_cons pe_str pa_nil))) pa_nil)) pa_nil)))) (pw_and1 (pt_not (pt_val (pe_call g_is_reason (hr.mono (by decide)) (by rfl) m_is_reason k_is_reason b_is_reason .nil passL (pa_cons pe_str (pa_cons (pe_tup (pa_cons (pe_tup (pa_cons pe_str pa_nil)) pa_nil)) pa_nil))))))).pt) (pss_one (ps_ret pe_bl)) pss_nil) (pss_cons (ps_if (pt_not (pt_cmpR (op_eqD hu64) (pe_call g_truths (hr.mono (by decide)) (by rfl) m_truths k_truths b_truths .nil passL (pa_cons pe_str pa_nil)) (pe_tup (pa_cons (pe_tup (pa_cons pe_str (pa_cons pe_str pa_nil))) (pa_cons (pe_tup (pa_cons pe_str (pa_cons pe_str pa_nil))) pa_nil))) (nomark _))) (pss_one (ps_ret pe_bl)) pss_nil) (pss_one (ps_ret (pe_and (pe_cmpR (op_eqD hu64) (pe_call g_worlds (hr.mono (by decide)) (by rfl) m_worlds k_worlds b_worlds .nil passL (pa_cons pe_str pa_nil)) (pe_tup pa_nil) (nomark _)) (pe_and (pe_cmpR (op_eqD hu64) (pe_call g_worlds (hr.mono (by decide)) (by rfl) m_worlds k_worlds b_worlds .nil passL (pa_cons pe_str pa_nil)) (pe_tup (pa_cons (pe_tup pa_nil) pa_nil)) (nomark _)) (pe_one (pe_cmpR op_isN (pe_call g_world_steps (hr.mono (by decide)) (by rfl) m_world_steps k_world_steps b_world_steps .nil passL (pa_cons pe_str (pa_cons (pe_tup pa_nil) pa_nil))) pe_non (nomark _)))))))))))))), ?_⟩
    obtain ⟨m, hm, hm0, hm1⟩ : ∃ m : Int, m = (if (if ((ns.map V.int).length : Int) < 3 then ((ns.map V.int).length : Int) else 3) > 1 then (if ((ns.map V.int).length : Int) < 3 then ((ns.map V.int).length : Int) else 3) else 1) ∧ 0 ≤ m ∧ m ≤ 3 := ⟨_, rfl, by split <;> (try split) <;> omega, by split <;> (try split) <;> omega⟩
    have hTabs : ∀ H', Ex H H' → LamX.Tabs [((He.cT K ("law", none)).2, "law" ++ ".<locals>." ++ "<lambda>")] H' := fun H' e p hp => by
      rw [List.mem_singleton.mp hp]
      exact LamX.TabS.nil (e _ _ hP)
    refine q_forR1 (n := m) (ea_cons (ev_cb (ea_cons ev_c (ea_cons (ev_cb (ea_cons ev_c (ea_cons (ev_len (ev_var rfl) hs) ea_nil)) (fun H1 e1 Q q => ⟨_, _, rfl, q H1 (Ex.refl _)⟩)) ea_nil)) (fun H1 e1 Q q => ⟨_, _, rfl, by rw [← hm]; exact q H1 (Ex.refl _)⟩)) ea_nil) (by omega) (fun i σ' H' => ∃ s1 s2, σ' = [some (.ref a), s1, s2] ∧ Ex H H') (fun H1 e1 => ⟨none, none, rfl, e1⟩) ?_ ?_
    · rintro i σ' H' hi ⟨s1, s2, rfl, e'⟩
      refine s_when (b := false) (et_is (et_not (et_B (b := true) (fun H1 e1 Q1 q1 => ?_))) rfl) (fun h => absurd h (by decide)) (fun _ H1 e1 => ⟨_, _, rfl, e'.trans e1⟩)
      refine x_call (H := H1) (P := fun v H' => ∃ d, v = .ref d ∧ H1 d = none ∧ DiceAt 0 d H') (vs := [.ref a, .int (i : Int)]) (ea_cons (ev_var rfl) (ea_cons (ev_var rfl) ea_nil)) (fun H2 e2 Q2 q2 E2 => ⟨a, ns, i, rfl, ex_l ((e'.trans e1).trans e2) hs, by omega, by omega, fun d H3 hd e3 h3 => q2 _ H3 e3 ⟨d, rfl, fresh_back e2 hd, h3⟩⟩) H1 (Ex.refl _) _ (fun v H2 e2 ⟨d, ev, hd, hdice⟩ => ?_)
      subst ev
      refine ⟨d, rfl, hdice, fun H3 e3 => q1 H3 fun b o hb => ?_⟩
      have hbd : b ≠ d := fun x => by subst x; rw [hb] at hd; cases hd
      exact e3.at (e2 _ _ hb) hbd
    rintro σ1 H1 ⟨s1, s2, rfl, e1⟩
    refine s_refused (hTabs H1 e1) (fun H2 E2 Q2 hE => ?_) (fun H2 T2 => ?_)
    · exact (ea_cons (x := .str "p(a).\n") ev_c ea_nil) H2 (Ex.refl _) _ (fun H3 e3 => ⟨lP, by rw [← tP]; rfl, .inl (bad_P fun d H4 e4 h4 => hE d H4 (e3.trans e4) h4)⟩)
    refine s_refused T2 (fun H3 E3 Q3 hE => ?_) (fun H3 T3 => ?_)
    · exact (ea_cons (x := .str "a :- b, c, d, e.\nf :- g, h, i, j.\nk.\n") ev_c ea_nil) H3 (Ex.refl _) _ (fun H4 e4 => ⟨rE.map lineT, by rw [← tE]; rfl, .inl (bad_E fun d H5 e5 h5 => hE d H5 (e4.trans e5) h5)⟩)
    refine q_forTX (P := fun v H' => ∃ p us, v = .ref p ∧ H' p = some (.tup us) ∧ ∀ u, u ∈ us → NoReas K u H') (EvX.imp (x_tup (PA := fun vs H' => vs.length ≤ 10 ∧ ∀ v, v ∈ vs → NoReas K v H') ?_ (fun vs H1 H2 e ⟨a, b⟩ => ⟨a, fun v hv => NoReas.mo _ _ _ e (b v hv)⟩) (fun vs H1 ⟨a, b⟩ => by omega)) (fun v H' ⟨p, vs, ev, hp, a⟩ => ⟨p, vs, ev, hp, a.2⟩)) ?_
    · have hm : Mo (NoReas K) := NoReas.mo
      refine x_consC (EvX.imp (x_ev ev_c) (fun v H' hv => by rw [hv]; exact ⟨none, ⟨"int", fun _ _ => .base (.int _), by decide +kernel⟩, rfl⟩)) hm ?_
      refine x_consC (EvX.imp (x_evL (el_lst ea_nil (few5 rfl))) (fun v H' ⟨p, h1, _, h2⟩ => ⟨none, ⟨"list", fun H7 e7 => by rw [h1]; exact .base (.lst (e7 _ _ h2)), by decide +kernel⟩, rfl⟩)) hm ?_
      refine x_consC (no_st (x_steps (xs_cons (s := .bl true) (xs_c fun _ => rfl) xs_nil) (by decide)) re_no.1) hm ?_
      refine x_consC (no_st (x_steps (xs_cons (s := .int (-1)) (EvX.imp (x_ev (ev_un ev_c ru_neg)) fun u H' hu => hu) xs_nil) (by decide)) re_no.2.1) hm ?_
      refine x_consC (no_st (x_steps (xs_cons (s := .str 97) (xs_c fun _ => nm_A) xs_nil) (by decide)) re_no.2.2.1) hm ?_
      refine x_consC (no_st (x_steps (xs_cons (s := .tup []) (xs_t ea_nil rfl (by decide)) xs_nil) (by decide)) re_no.2.2.2.1) hm ?_
      refine x_consC (no_st (x_steps (xs_cons (s := .tup [some 98]) (xs_t (ea_cons ev_c ea_nil) (by rw [nm_B]; rfl) (by decide)) xs_nil) (by decide)) re_no.2.2.2.2.1) hm ?_
      refine x_consC (no_st (x_steps (xs_cons (s := .tup [some 97, none]) (xs_t (ea_cons ev_c (ea_cons ev_c ea_nil)) (by rw [nm_A]; rfl) (by decide)) xs_nil) (by decide)) re_no.2.2.2.2.2.1) hm ?_
      refine x_consC (no_st (x_steps (xs_cons (s := .str 97) (xs_c fun _ => nm_A) (xs_cons (s := .str 98) (xs_c fun _ => nm_B) xs_nil)) (by decide)) re_no.2.2.2.2.2.2.1) hm ?_
      exact x_consC (no_st (x_steps (xs_cons (s := .int 1) (xs_c fun _ => rfl) xs_nil) (by decide)) re_no.2.2.2.2.2.2.2) hm x_nilC
    rintro v6 H6 e6 ⟨p, us, rfl, hp, hus⟩
    refine q_forT (K := K) (xs := us) ev_c (st_of hp) (fun i σ' H' => ∃ s1 s2, σ' = [some (.ref a), s1, s2] ∧ Ex H6 H') (fun H7 e7 => ⟨_, _, rfl, e7⟩) (fun i σ' H' _ ⟨_, _, _, e⟩ => st_of (e _ _ hp)) ?_ ?_
    · rintro i x σ' H' hx ⟨s1, s2, rfl, e'⟩
      obtain ⟨o, hv, hrow⟩ := NoReas.mo _ _ _ e' (hus x (List.mem_of_getElem? hx))
      have htn : toldB rA o = none := by
        have := reas_told rA o
        rw [hrow] at this
        cases h : toldB rA o with
        | none => rfl
        | some z => rw [h] at this; cases this
      refine s_when (b := false) (et_is (et_or (a := false) (b := false) (et_B (ev_call (vs := [.str "a.\n", x]) (ea_cons ev_c (ea_cons (ev_var rfl) ea_nil)) (fun H7 e7 Q7 q7 E7 => ⟨rA.map lineT, rA, x, o, by rw [← tA]; try rfl, prog_ok gA, hv.ex e7, fun H8 e8 => by rw [hrow]; exact q7 H8 e8⟩))) (fun _ => et_test (ev_opX (z := .bl false) (Pa := fun v _ => v = .non) (Pb := fun v _ => v = .non) (x_call (vs := [.str "a.\n", x]) (ea_cons ev_c (ea_cons (ev_var rfl) ea_nil)) (fun H7 e7 Q7 q7 E7 => ⟨rA.map lineT, rA, x, o, by rw [← tA]; try rfl, prog_ok gA, hv.ex e7, fun _ H8 e8 => q7 _ H8 e8 rfl, fun T F h => absurd h (by rw [htn]; simp)⟩)) (fun _ _ _ _ h => h) (x_ev ev_c) ?_))) rfl) (fun h => absurd h (by decide)) (fun _ H7 e7 => ⟨_, _, rfl, e'.trans e7⟩)
      rintro x y H8 e8 rfl rfl Q k
      exact ⟨rfl, k⟩
    rintro σ7 H7 ⟨s1, s2, rfl, e67⟩
    refine q_when (b := false) (et_is (et_not (et_and (a := true) (b := true) (et_is (et_not (et_B (b := false) (ev_ofX (x_2N (EvX.imp (x_evL (el_lst (ea_cons ev_c ea_nil) (few5 rfl))) (fun v H' h => h)) ?_)))) rfl) (fun _ => et_and (a := true) (b := true) (et_is (et_not (et_B (b := false) (ev_ofX (x_2N (x_evU (xs := [.int 1]) (eu_tup (ea_cons ev_c ea_nil) (few5 rfl))) ?_)))) rfl) (fun _ => et_and (a := true) (b := true) (et_B (ev_ofX (x_2N (x_evU (xs := []) (eu_tup ea_nil (few5 rfl))) ?_))) (fun _ => et_B (ev_ofX (x_2N (x_steps (K := K) xs_nil (by decide)) ?_))))))) rfl) (fun h => absurd h (by decide)) (fun _ H8 e8 => ?_)
    · rintro v H1 e1 ⟨p, h1, _, h2⟩ Q q E
      refine ⟨rA.map lineT, rA, v, none, by rw [← tA]; try rfl, prog_ok gA, ⟨"list", fun H7 e7 => by rw [h1]; exact .base (.lst (e7 _ _ h2)), by decide +kernel⟩, fun H2 e2 => q _ H2 e2 rfl⟩
    · rintro v H1 e1 ⟨p, h1, h2⟩ Q q E
      exact ⟨rA.map lineT, rA, v, some [none], by rw [← tA]; try rfl, prog_ok gA, ⟨p, h1, h2, by decide, fun c hc => by cases hc⟩, fun H2 e2 => q _ H2 e2 (by rw [wr_A.1])⟩
    · rintro v H1 e1 ⟨p, h1, h2⟩ Q q E
      exact ⟨r0.map lineT, r0, v, some [], by rw [← t0]; try rfl, prog_ok g0, ⟨p, h1, h2, by decide, fun c hc => by cases hc⟩, fun H2 e2 => q _ H2 e2 (by rw [wr_A.2.1])⟩
    · rintro v H1 e1 hv Q q E
      exact ⟨r0.map lineT, r0, v, some [], by rw [← t0]; try rfl, prog_ok g0, hv, fun H2 e2 => q _ H2 e2 (by rw [re_C.2.2])⟩
    refine q_when (b := false) (et_is (et_not (et_and (a := true) (b := true) (et_B (ev_ofX (x_2N (x_steps (K := K) (ss := [.tup [some 97, some 98]]) (xs_cons (xs_t (ea_cons ev_c (ea_cons ev_c ea_nil)) (by rw [nm_A, nm_B]; rfl) (by decide)) xs_nil) (by decide)) ?_))) (fun _ => et_is (et_not (et_B (b := false) (ev_ofX (x_2N (x_steps (K := K) (ss := [.tup [some 97]]) (xs_cons (xs_t (ea_cons ev_c ea_nil) (by rw [nm_A]; rfl) (by decide)) xs_nil) (by decide)) ?_)))) rfl))) rfl) (fun h => absurd h (by decide)) (fun _ H9 e9 => ?_)
    · rintro v H1 e1 hv Q q E
      exact ⟨rC.map lineT, rC, v, _, by rw [← tC']; try rfl, prog_ok gCC, hv, fun H2 e2 => q _ H2 e2 (by rw [re_C.1])⟩
    · rintro v H1 e1 hv Q q E
      exact ⟨rC.map lineT, rC, v, _, by rw [← tC']; try rfl, prog_ok gCC, hv, fun H2 e2 => q _ H2 e2 (by rw [re_C.2.1])⟩
    have lD : Lo (namesOf rD) := (prog_ok gD).2.2.2.2.2
    refine q_when (b := false) (et_is (et_not (et_test (ev_eqD (K := K) (d := dTr rD) (n := 2) (x_1N (fun H1 e1 Q1 q1 E1 => ⟨rD.map lineT, by rw [← tD]; try rfl, .inr ⟨rD, prog_ok gD, fun p ys H2 hp e2 h2 hys => q1 _ H2 e2 (dpTr h2 hys)⟩⟩)) (EvX.imp (x_tup (x_cons (P := fun v H' => ∃ p, v = .ref p ∧ H' p = some (.tup [.str "a", .str "open"])) (x_evU (eu_tup (ea_cons ev_c (ea_cons ev_c ea_nil)) (few5 rfl))) (fun v H1 H2 e ⟨p, h1, h2⟩ => ⟨p, h1, e _ _ h2⟩) (x_one (x_evU (xs := [.str "b", .str "open"]) (eu_tup (ea_cons ev_c (ea_cons ev_c ea_nil)) (few5 rfl))))) (fun vs H1 H2 e ⟨v, r, h1, ⟨q, h2, h3⟩, v2, h4, q2, h5, h6⟩ => ⟨v, r, h1, ⟨q, h2, e _ _ h3⟩, v2, h4, q2, h5, e _ _ h6⟩) (fun vs H1 ⟨v, r, h1, _, v2, h4, _⟩ => by rw [h1, h4]; exact few5 rfl)) (fun v H' ⟨p, vs, ev, hp, v1, r, h1, ⟨q, h2, h3⟩, v2, h4, q2, h5, h6⟩ => by
      subst h4; subst h1; subst h2; subst h5; subst ev
      rw [tr_D]
      exact .tup (st_of hp) (.cons (.tup (st_of h3) (.cons (.str _) (.cons (.str _) .nil))) (.cons (.tup (st_of h6) (.cons (.str _) (.cons (.str _) .nil))) .nil)))) (okTr lD) (by decide)))) rfl) (fun h => absurd h (by decide)) (fun _ H10 e10 => ?_)
    have l0 : Lo [] := fun c hc => by cases hc
    refine s_ret (v := .bl true) (ev_is (ev_andV (a := true) (b := true) (ev_eqD (K := K) (d := dWs []) (n := 2) (x_1N (fun H1 e1 Q1 q1 E1 => ⟨rN.map lineT, by rw [← tN]; try rfl, .inr ⟨rN, prog_ok gN, fun p ys H2 hp e2 h2 hys => q1 _ H2 e2 (by rw [ws_N] at hys; exact dpWs h2 hys)⟩⟩)) (EvX.imp (x_evU (xs := []) (eu_tup ea_nil (few5 rfl))) (fun v H' ⟨p, h1, h2⟩ => by
      subst h1
      exact dpWs h2 AllV.nil)) (okWs fun s hs => by cases hs) (by decide)) (fun _ => ev_andV (a := true) (b := true) (ev_eqD (K := K) (d := dWs [[]]) (n := 2) (x_1N (fun H1 e1 Q1 q1 E1 => ⟨rC.map lineT, by rw [← tC']; try rfl, .inr ⟨rC, prog_ok gCC, fun p ys H2 hp e2 h2 hys => q1 _ H2 e2 (by rw [ws_C] at hys; exact dpWs h2 hys)⟩⟩)) (EvX.imp (x_tup (PA := fun vs H' => ∃ v, vs = [v] ∧ ∃ q, v = .ref q ∧ H' q = some (.tup [])) (x_one (x_evU (eu_tup ea_nil (few5 rfl)))) (fun vs H1 H2 e ⟨v, h1, q, h2, h3⟩ => ⟨v, h1, q, h2, e _ _ h3⟩) (fun vs H1 ⟨v, h1, _⟩ => by rw [h1]; exact few5 rfl)) (fun v H' ⟨p, vs, ev, hp, u, hu, q, hq, hqq⟩ => by
      subst hu; subst hq; subst ev
      exact dpWs hp (AllV.cons ⟨q, rfl, hqq⟩ AllV.nil))) (okWs fun s hs => by rw [List.mem_singleton.mp hs]; exact l0) (by decide)) (fun _ => ev_opX (z := .bl true) (Pa := fun v _ => v = .non) (Pb := fun v _ => v = .non) (x_2N (x_evU (xs := []) (eu_tup ea_nil (few5 rfl))) ?_) (fun _ _ _ _ h => h) (x_ev ev_c) ?_)) ) rfl) (fun H11 e11 => q H11)
    · rintro v H1 e1 ⟨p, h1, h2⟩ Q q E
      subst h1
      exact ⟨rA.map lineT, rA, p, [], by rw [← tA]; try rfl, prog_ok gA, h2, by decide, l0, fun _ H2 e2 => q _ H2 e2 rfl, fun h => absurd h (by rw [wr_A.2.2]; decide)⟩
    · rintro x y H1 e1 rfl rfl Q k
      exact ⟨rfl, k⟩

end
end Tx
end
section
set_option Elab.async false
set_option linter.all false
set_option maxRecDepth 100000
set_option maxHeartbeats 0
namespace Tx
open PySem PySem.Spec PyProof.Rows L2
theorem law_at {w : World} {mg : Str → Option Value} {fa0 : Addr} {h : Heap} {K : PySem.W.Frag} (KX : K.In h) (G : h.Ns mainGlobals mg) (hfa : mg ("law" : Str) = some (.ref fa0)) (c : SaysY h K) :
    LamX.LawAtS PySem.Challenge.rw_whytables_k12_whole_truths w K (L2.CX0) 12 63 "script" mg fa0 h := by
  have Z : Zx K mg := ⟨⟨h, KX, G⟩, c.says⟩
  obtain ⟨fd, F0⟩ := Z.fun_ 61
  have F : Fun K "law" "law" s_law (He.fAd K ("law", none)) fd := Wk.fun_of F0
  have e := hfa.symm.trans (Z.glo 54 (x := "law"))
  cases e
  have b := FunD.bindsA (ps := ["script"]) F0 fun _ _ _ _ _ _ us hl => match us, hl with | [_], _ => rfl
  refine ⟨fd, [He.cT K ("law", none)], sp_law K, fun p hp => ?_, fun p hp => ?_, fun p hp => ?_, fun s u => b s [u] rfl, fun H a ns hl _ hT hS => ⟨a, ns, rfl, hS, hl, hT _ List.mem_cons_self, fun _ => rfl⟩, fun base hb Gb TB => ok_law Z c.exy F (TB _ List.mem_cons_self)⟩
  · rw [List.mem_singleton.mp hp]; exact c.empty
  · rw [List.mem_singleton.mp hp]; exact c.out
  · rw [List.mem_singleton.mp hp]; exact PySem.W.codeHd_of_K KX c.hd
end Tx
open PySem PySem.W PySem.Calls PyProof.Rows
theorem PySem.Challenge.cw_whytables_k12_whole_truths_holds : PySem.Challenge.rw_whytables_k12_whole_truths.Holds := by
  w_on; o_law
  refine HandSHeadRun.head_any (r := OpenLaw.row PySem.Challenge.rw_whytables_k12_whole_truths) (q := view (OpenLaw.row PySem.Challenge.rw_whytables_k12_whole_truths).prog [82]) (H := Tx.hkY) (ob := Tx.obY) (M := 20000) (loose := Tx.lo) (d := HandSHeadRun.topDef (OpenLaw.row PySem.Challenge.rw_whytables_k12_whole_truths).prog 82) (kwd := []) Tx.obY_eq
    (by kernel_rfl) (fun s => by kernel_rfl) Tx.runY (by kernel_rfl) (by kernel_rfl) (by kernel_rfl) (by rfl) (by first | assumption | decide +kernel) (by decide +kernel) ⟨rfl, rfl, rfl, rfl, rfl, by decide +kernel⟩ ?hw ?hc
  case hw => w_witness2
  case hc =>
    refine LamX.walk_ofTsE (l := PySem.Challenge.rw_whytables_k12_whole_truths) (n := 63) (k := 12) (x := "script") (CX := fun _ => L2.CX0) rfl (by decide) (by kernel_rfl) ⟨rfl, by decide, by decide⟩ ?F (fun _ _ _ _ _ z => z)
    intro w mg fa0 h Y G hmg0
    obtain ⟨K, KX, c⟩ := Y
    have hmg : mg ("law" : PySem.Str) = some (.ref fa0) := by
      have e : (HandSHeadRun.topDef (OpenLaw.row PySem.Challenge.rw_whytables_k12_whole_truths).prog 82).name = ("law" : PySem.Str) := by kernel_rfl
      rw [← e]
      exact hmg0
    exact ⟨K, KX, Tx.law_at KX G hmg c⟩
end
