import PyProof.Rows.All
import Wide.All
import OpenK.AllK
import Wide.FinOn
import PyProof.EqAt
import PyProof.EqKinds
import PyProof.TupleCall
import KE.KExcSuper
import HandS.ForExc
import KE.KStateDown
import HandS.ForMost
import HandS.IsInst
import HandS.SetKeys
import HandS.More
import HandS.Conv
import HandS.Evl
import HandS.Defaults
import HandS.HeadHook1
import HandS.HeadHook2
import PySem.Challenge.RW_whytables_k13_whole_cases
import HandS.Head0
import HandS.Head1
import HandS.Head2
import HandS.HeadHook4
import HandS.ExcField
import HandS.Sort
import HandS.Strs
import KE.LtSeq
import KE.LtData
import KE.KSortAsk
import HandS.SetTxt0
import HandS.SetFor
import HandS.Set
import HandS.Walk
import HandS.ExcInit
import HandS.Codes
import HandS.TupAny
import HandS.Deep
import HandS.Lambda
import HandS.HeadWalk
import HandS.EndTab
section
set_option Elab.async false
set_option linter.all false
set_option maxRecDepth 100000
set_option maxHeartbeats 4000000
namespace PySem
abbrev vB : List Value := [.type "ValueError", .type "Exception", .type "BaseException", .type "object"]
namespace BadArgumentX
open PySem.W PySem.Calls PyProof.Rows PySem.HandSPX
/-! the text of __init__ of BadArgument: super().__init__(name), then self.name = name -/
def iA (p1 p2 : Pos) : Arguments := { posonlyargs := [], args := [{ arg := "self", annotation := none, pos := p1 }, { arg := "name", annotation := none, pos := p2 }], vararg := none, kwonlyargs := [], kw_defaults := [], kwarg := none, defaults := [] }
def iB : List Stmt := [.Expr (.Call (.Attribute (.Call (.Name "super" ⟨7, 8, 7, 13⟩) [] [] ⟨7, 8, 7, 15⟩) "__init__" ⟨7, 8, 7, 24⟩) [.Name "name" ⟨7, 25, 7, 29⟩] [] ⟨7, 8, 7, 30⟩) ⟨7, 8, 7, 30⟩, .Assign [.Attribute (.Name "self" ⟨8, 8, 8, 12⟩) "name" ⟨8, 8, 8, 17⟩] (.Name "name" ⟨8, 20, 8, 24⟩) ⟨8, 8, 8, 24⟩]
def iS : Scope := { kind := .function, names := [(PySem.Str.ofString "self", .local), (PySem.Str.ofString "name", .local), (PySem.Str.ofString "__class__", .free), (PySem.Str.ofString "super", .globalImplicit)], isGenerator := false, isCoroutine := false, more := [] }
/-- what the written part says of the class BadArgument at C, of its __init__ at fI, of the cell cc and the code cda of this -/
structure Txt (prog : Program) (K : Frag) (C fI cc cda : Addr) : Prop where
  cls : ∃ nm q N bs bm sn sub ab col dd k0 k1 k2 k3 k5, K.lookup C = some (excClassObj nm q C N bs bm true sn sub ab col dd k0 k1 k2 k3 k5 "ValueError.__new__") ∧ refsVE bm = true
  sa : findIn K (.ref C) "__setattr__" = some (some (.builtin "object.__setattr__"))
  ga : findIn K (.ref C) "__getattribute__" = some (some (.builtin "BaseException.__getattribute__"))
  gg : findIn K (.ref C) "__getattr__" = some none
  noN : findIn K (.ref C) "name" = some none
  iC : findIn K (.ref C) "__init__" = some (some (.ref fI))
  tC : typeIn K (.ref fI) = some (.type "function")
  kC : keepIn K (.ref C) = true
  exC : subIn K (.ref C) (.type "BaseException") = some true
  veC : subIn K (.ref C) (.type "ValueError") = some true
  tyC : typeIn K (.ref C) = some (.type "type")
  hdC : hasDictIn K C = true
  te : exmOne K (.ref C) (.ref C) = some true
  su : ks_superIn K C C "__init__" = some (some (.builtin "ValueError.__init__"))
  op : nsIn K cStatics "thirdparty.any" = some none
  ns : nsIn K mainGlobals "super" = some none
  mr : mroIn K C (.ref C) = some true
  cell : ∃ cl cld csl, K.lookup cc = some ⟨cl, cld, .cell (some (.ref C)), csl⟩
  code : ∃ ccl cdd ccs vs file tf, K.lookup cda = some ⟨ccl, cdd, .fields vs, ccs⟩ ∧ vs[2]? = some (.str file tf) ∧ ((prog.main.file : Str) == file) = true
  top : (prog.main.scope.names.lookup ("super" : Str)).isSome = false
  fn : ∃ (oc : Value) (od : Option Addr) (doc pm : Value) (an : Option Addr) (ct : Value) (osl : Array (Option Value)) (p1 p2 : Pos),
    K.lookup fI = some ⟨oc, od, .func (ksFn "__init__" "BadArgument.__init__" (iA p1 p2) iB iS .none .none doc pm an (.ref cda) ct cc), osl⟩ ∧ codeIn K (.ref cda) "BadArgument.__init__" = true
theorem one_size (v : Value) : [v].length ≤ sizeLine := by
  rw [sizeLine_eq]
  exact (by decide : 1 ≤ 16777216)
/-- what __init__ leaves of a fresh exception at x -/
structure InitEnd (h h' : Heap) (x C dx t1 : Addr) (v : Value) : Prop where
  keep : ∀ b o, b ≠ x → h.get? b = some o → h'.get? b = some o
  obj : h'.get? x = some { cls := .ref C, dict := some dx, data := .fields #[.ref t1, .none, .none, .none, .bool false, .none] }
  dbig : h.objs.size ≤ dx
  dne : dx ≠ x
  ns : h'.Ns1 dx (fun y => if y = "name" then some v else none)
structure OwnMade (h h' : Heap) (e C d : Addr) (v : Value) : Prop where
  keep : ∀ b o, h.get? b = some o → h'.get? b = some o
  new : h.objs.size ≤ e
  obj : ∃ oe vs, h'.get? e = some oe ∧ oe.cls = .ref C ∧ oe.dict = some d ∧ oe.data = .fields vs ∧ vs[1]? = some .none
  dbig : h.objs.size ≤ d
  dne : d ≠ e
  ns : h'.Ns1 d (fun y => if y = "name" then some v else none)
section
variable {prog : Program} {w : World} {A : Around} {E : Value → Shared → Prop} {R : Result → Shared → Prop} {s : Shared} {K : Frag} {mg : Str → Option Value} {C fI cc cda : Addr}
/-- super().__init__(v) called on the wrapper at u -/
theorem wrapper_call {h : Heap} {g : Array GenState} {d : Drawn} {tk : Nat} {os : OsState} {u x t0 : Addr} {v : Value} {Q : Value → Shared → Prop} {nm q : Str} {N : Addr} {bs bm : List Value} {sn : List Str} {sub : List Value} {ab : Bool} {col : Option Bool} {dd : Option Addr} {k0 k1 k2 k3 k5 : Option Value}
    (hC : h.get? C = some (excClassObj nm q C N bs bm true sn sub ab col dd k0 k1 k2 k3 k5 "ValueError.__new__")) (hu : h.get? u = some (kxs_mw "ValueError.__init__" x)) (he : h.get? x = some (excO C t0))
    (hq : ∀ h' t1, (∀ b o, b ≠ x → h.get? b = some o → h'.get? b = some o) → h'.get? x = some (excO C t1) → Q .none ⟨h', g, d, tk, os⟩) :
    wpAny (model prog w) A (call (.ref u) [v]) Q E ⟨h, g, d, tk, os⟩ := by
  refine wpAny_call (codeAny_of_tree ?_)
  show wpAny _ A.in1 (callAny (.ref u) ⟨[v], []⟩) _ _ _
  simp only [callAny]
  refine wpAny_bind (wpAny_load hu ?_)
  simp only [kxs_mw, show (Value.type "method-wrapper" == Value.type "method" || Value.type "method-wrapper" == Value.type "builtin_function_or_method" || Value.type "method-wrapper" == Value.type "method-wrapper") = true by decide, if_true]
  refine KFB.if_so (by decide) ?_
  refine wpAny_bind (check_bound_init F.excBase_ValueError.toExcCallFacts hC he rfl ?_)
  refine wpAny_bind (wpAny_pure (wpAny_pure ?_))
  refine ⟨plainId_quiet F.excBase_ValueError.init.plain _, codeAny_builtin F.excBase_ValueError.initEntry ?_⟩
  exact exc_init_tree (cls := .ref C) (t0 := t0) (dv := none) (c2 := .none) (c3 := .none) (b4 := .bool false) he (one_size v) fun h' k e' t' => hq h' _ k e'
theorem my_init (T : Txt prog K C fI cc cda) {x t0 : Addr} {v : Value} (X : K.In s.heap) (hG : s.heap.Ns mainGlobals mg) (hB : ∃ mb, s.heap.Ns builtinsNs mb ∧ ∀ y : Str, y ≠ "__name__" → mb y = bootBuiltins y) (hlim : s.heap.NoLimit)
    (hx : s.heap.get? x = some (excO C t0)) (hnx : K.lookup x = none) (hroom : A.depth < recursionLimit)
    (hq : ∀ h' tk dx t1, InitEnd s.heap h' x C dx t1 v → R (.ok (.ret .none)) { s with heap := h', toks := tk }) :
    codeAny (model prog w) A (.call (.ref fI) ⟨[.ref x, v], []⟩) R s := by
  obtain ⟨oc, od, doc, pm, an, ct, osl, p1, p2, ho, hcd⟩ := T.fn
  obtain ⟨nm, q, N, bs, bm, sn, sub, ab, col, dd, k0, k1, k2, k3, k5, hC, hbm⟩ := T.cls
  obtain ⟨cl, cld, csl, hcell⟩ := T.cell
  obtain ⟨ccl, cdd, ccs, vs, file, tf, hcode, hvs, hfile⟩ := T.code
  obtain ⟨mb, hb, hbb⟩ := hB
  have hcl : clsIn K C = some { name := nm, bases := bs, mro := .ref C :: bm, ns := N, qualname := q, hasDict := true, slotNames := sn, subclasses := sub, abstract := ab, collection := col, hasDel := false } := by unfold clsIn; rw [hC] <;> rfl
  refine ks_codeAny_call_defAt (fd := ksFn "__init__" "BadArgument.__init__" (iA p1 p2) iB iS .none .none doc pm an (.ref cda) ct cc) (body := iB) (binds := [("self", .ref x), ("name", v)]) hroom (X _ _ ho) rfl hlim (codeRec_of X hcd) rfl
    (BindsTo.of_eq (by first | rfl | with_unfolding_all rfl)) (show ∀ y ∈ iS.names, y.2 ≠ .cell by decide) (by intro y hy; simp only [List.mem_cons, List.not_mem_nil, or_false] at hy; rcases hy with rfl | rfl <;> rfl) (fun h₁ hns hk₁ => ?_) rfl rfl rfl
  have X₁ : K.In h₁ := X.keeps hk₁
  have hx₁ := hk₁ _ _ hx
  have hC₁ := X₁ _ _ hC
  have hnC : x ≠ C := fun z => by
    rw [z, hC] at hnx
    cases hnx
  have hxL : s.heap.objs.size ≠ x := Nat.ne_of_gt (Heap.lt_size hx)
  have nself : (["self"] : List Str).length = 1 := rfl
  have vself : (([(("self" : Str), Value.ref x), (("name" : Str), v)] : List (Str × Value)).reverse).lookup ("self" : Str) = some (.ref x) := by first | rfl | with_unfolding_all rfl | kernel_rfl
  have vf : (([(("self" : Str), Value.ref x), (("name" : Str), v)] : List (Str × Value)).reverse).lookup ("name" : Str) = some v := by first | rfl | with_unfolding_all rfl | kernel_rfl
  show _root_.PySem.wpAt _ _ _ (execs iB _) _ _ _
  -- super().__init__(name)
  refine ks_wpAt_execs_cons (ks_wpAt_Expr_any (ks_wpAt_MethodCall (pl := ?pl) ?_ ?e1))
  case pl => exact (do return (← importBound (.Call (.Name "super" ⟨7, 8, 7, 13⟩) [] [] ⟨7, 8, 7, 15⟩) (ksEnv "BadArgument.__init__" iS s.heap.objs.size fI (.ref cda) cc)).getD true)
  case e1 => rfl
  refine ks_wpAt_super_base (env := ksEnv "BadArgument.__init__" iS s.heap.objs.size fI (.ref cda) cc) (ar := { arg := "self", annotation := none, pos := p1 }) rfl rfl (by decide) rfl (X₁ _ _ ho) rfl rfl rfl (X₁ _ _ hcode) rfl hvs hfile T.top ?_
  refine ks_loadName_global rfl rfl (loadGlobal_builtin (env := ksEnv "BadArgument.__init__" iS s.heap.objs.size fI (.ref cda) cc) (hG.keeps hk₁) (mg_none_of X hG T.ns) (hb.keeps hk₁) ((hbb _ (by decide +kernel)).trans (by decide +kernel)) ⟨rfl, ?_⟩)
  refine wpAny_loadName_free rfl rfl rfl ⟨_, X₁ _ _ hcell, rfl⟩ ?_
  refine wpAny_loadName_local rfl rfl hns vself ?_
  refine ks_wpAny_isType_cls hC₁ rfl ⟨rfl, ?_⟩
  refine ks_wpAny_call_super hC₁ rfl hx₁ rfl (fun c e => by cases e) (looks_mroIn X₁ T.mr) (fun h₂ e₂ k₂ => ?_)
  have X₂ : K.In h₂ := X₁.keeps k₂
  have hx₂ := k₂ _ _ hx₁
  have hsuper : alongIn K "__init__" (((Value.ref C :: bm).dropWhile (· != .ref C)).drop 1) = some (some (.builtin "ValueError.__init__")) := by
    have z := T.su
    unfold ks_superIn at z
    rw [hcl] at z
    exact z
  have hI : Looks (model prog w) h₂ (isInstance (.ref x) (.type "ValueError")) true := (InstAt.type (od := none) ⟨hx₂, rfl, rfl, trivial⟩).andThen (looks_subIn X₂ T.veC)
  refine kxs_getMethod kxs_ValueError e₂ (looks_opaque X₂ T.op) (l₀ := .ref C :: bm) (fun A' Q' E' s' k' q' => wpAny_bind ((looks_clsIn X₂ hcl) A' _ E' s' k' (wpAny_pure q'))) rfl X₂ hsuper hI hnC (by decide) ?_
  have hu : (h₂.push (kxs_mw "ValueError.__init__" x)).get? h₂.objs.size = some (kxs_mw "ValueError.__init__" x) := Heap.get?_push_at rfl rfl
  have k₃ : ∀ b o, h₂.get? b = some o → (h₂.push (kxs_mw "ValueError.__init__" x)).get? b = some o := fun b o e => Heap.get?_push_of_some _ e
  have hns₃ := (hns.keeps k₂).keeps k₃
  show wpAny _ _ (callWith ⟨7, 8, 7, 30⟩ (.ref h₂.objs.size) [] (backTo ⟨7, 8, 7, 30⟩ (starEach [.Name "name" ⟨7, 25, 7, 29⟩] (ksEnv "BadArgument.__init__" iS s.heap.objs.size fI (.ref cda) cc))) []) _ _ _
  have hst : starEach [.Name "name" ⟨7, 25, 7, 29⟩] (ksEnv "BadArgument.__init__" iS s.heap.objs.size fI (.ref cda) cc) = (false, eval (.Name "name" ⟨7, 25, 7, 29⟩) (ksEnv "BadArgument.__init__" iS s.heap.objs.size fI (.ref cda) cc)) :: starEach [] (ksEnv "BadArgument.__init__" iS s.heap.objs.size fI (.ref cda) cc) := by rfl
  have hpl : (backTo ⟨7, 8, 7, 30⟩ (starEach [] (ksEnv "BadArgument.__init__" iS s.heap.objs.size fI (.ref cda) cc))).any (·.1) = false := by rfl
  rw [hst]
  refine kxs_callWith (i := "ValueError.__init__") (x := x) (by show (false || (backTo ⟨7, 8, 7, 30⟩ (starEach [] (ksEnv "BadArgument.__init__" iS s.heap.objs.size fI (.ref cda) cc))).any (·.1)) = false; rw [hpl]; rfl) (evalArgs_plain ?_)
  refine spliced_cons (wpAny_Name (wpAny_loadName_local rfl rfl hns₃ vf (spliced_nil ?_)) (by decide))
  refine ⟨hu, ?_⟩
  refine wrapper_call (k₃ _ _ (k₂ _ _ hC₁)) hu (k₃ _ _ hx₂) (fun h₄ t1 k₄ hx₄ => ?_)
  -- self.name = name
  have X₄ : K.In h₄ := fun a o e => k₄ a o (fun z => by rw [z, hnx] at e; cases e) (k₃ _ _ (X₂ a o e))
  have hns₄ : h₄.Ns s.heap.objs.size (fun y => ([(("self" : Str), Value.ref x), (("name" : Str), v)] : List (Str × Value)).reverse.lookup y) := by
    obtain ⟨o, es, ep, e, r⟩ := hns₃
    exact ⟨o, es, ep, k₄ _ _ hxL e, r⟩
  refine wpAt_of_wpAny ?_
  refine wpAny_execs_cons (plainObj_wpAny_Assign_Attribute ?_)
  refine wpAny_Name (wpAny_loadName_local rfl rfl hns₄ vf ?_) (by decide)
  refine wpAny_Name (wpAny_loadName_local rfl rfl hns₄ vself ?_) (by decide)
  refine set_plain X₄ (ox := excO C t1) (od := none) ⟨hx₄, rfl, rfl, trivial⟩ T.sa ?_
  refine exc_osa X₄ hx₄ hcl (show refsVE (.ref C :: bm) = true from hbm) rfl T.noN (fun h₅ tk₅ dx k₅ dn dne hx₅ hn₅ => ?_)
  show wpAny _ _ (execs [] _) _ _ _
  have old : ∀ b o, b ≠ x → s.heap.get? b = some o → h₄.get? b = some o := fun b o hb e => k₄ b o hb (k₃ _ _ (k₂ _ _ (hk₁ b o e)))
  have big : s.heap.objs.size ≤ h₄.objs.size := by
    obtain ⟨o, es, ep, e, r⟩ := hns₄
    exact Nat.le_of_lt (Heap.lt_size e)
  exact wpAny_execs_nil (hq h₅ tk₅ dx t1 ⟨fun b o hb e => k₅ b o hb (old b o hb e), hx₅, Nat.le_trans big dn, dne, hn₅⟩)
theorem my_made (T : Txt prog K C fI cc cda) {v : Value} (X : K.In s.heap) (hG : s.heap.Ns mainGlobals mg) (hB : ∃ mb, s.heap.Ns builtinsNs mb ∧ ∀ y : Str, y ≠ "__name__" → mb y = bootBuiltins y) (hlim : s.heap.NoLimit) (hroom : A.depth + 1 < recursionLimit)
    (hq : ∀ h' tk e d, OwnMade s.heap h' e C d v → R (.ok (.ret (.ref e))) { s with heap := h', toks := tk }) :
    codeAny (model prog w) A (.call (.ref C) ⟨[v], []⟩) R s := by
  obtain ⟨nm, q, N, bs, bm, sn, sub, ab, col, dd, k0, k1, k2, k3, k5, hC, hbm⟩ := T.cls
  obtain ⟨hp, g, dr, tk, os⟩ := s
  have k : ∀ b o, hp.get? b = some o → ((hp.push (kdv_tup [v])).push (excO C hp.objs.size)).get? b = some o := fun b o e => Heap.get?_push_of_some _ (Heap.get?_push_of_some _ e)
  have hget : ((hp.push (kdv_tup [v])).push (excO C hp.objs.size)).get? (hp.objs.size + 1) = some (excO C hp.objs.size) := by heap_get
  have hnx : K.lookup (hp.objs.size + 1) = none := by
    cases e : K.lookup (hp.objs.size + 1) with
    | none => rfl
    | some o =>
      have z : hp.get? (hp.objs.size + 1) = some o := X _ _ e
      exact absurd (Nat.lt_of_succ_lt (Heap.lt_size z)) (Nat.lt_irrefl _)
  obtain ⟨mb, hb, hbb⟩ := hB
  refine call_own F.excBase_ValueError (fun X => refsVE_contains X bm hbm) (X _ _ hC) (looks_findIn X T.iC) (fun self => bind_fn X self T.tC) (one_size v) ?_
  refine my_init (s := ⟨(hp.push (kdv_tup [v])).push (excO C hp.objs.size), g, dr, tk, os⟩) T (X.keeps k) (hG.keeps k) ⟨mb, hb.keeps k, hbb⟩ (hlim.keeps k) hget hnx ?_ fun h' tk' dx t1 ⟨k', hx, dn, dne, hns⟩ => ?_
  · show A.depth + 1 < recursionLimit
    exact hroom
  · have old : ∀ b o, hp.get? b = some o → h'.get? b = some o := fun b o e => k' b o (Nat.ne_of_lt (Nat.lt_succ_of_lt (Heap.lt_size e))) (k b o e)
    have z : hp.objs.size + 1 + 1 ≤ dx := by
      first
        | (simpa only [Heap.size_push] using dn)
        | exact dn
        | (have q := dn; rw [Heap.size_push, Heap.size_push] at q; exact q)
    exact ⟨rfl, hq h' tk' (hp.objs.size + 1) dx ⟨old, Nat.le_succ _, ⟨_, _, hx, rfl, rfl, rfl, rfl⟩, Nat.le_trans (Nat.le_trans (Nat.le_succ _) (Nat.le_succ _)) z, dne, hns⟩⟩
end
end BadArgumentX
end PySem
namespace L2
open PySem PySem.Spec PyProof.Rows
theorem relO_BadArgument {v : V} {v' : Value} (r : RelV v v') (f : Str) : RelO (List.lookup f [(("name" : Str), v)]) (if f = "name" then some v' else none) := by
  by_cases hw : f = "name"
  · subst hw
    rw [if_pos rfl]
    have q : List.lookup ("name" : Str) [(("name" : Str), v)] = some v := by simp [List.lookup]
    rw [q]
    exact r
  · rw [if_neg hw]
    have qw : (f == ("name" : Str)) = false := by simpa using hw
    have q2 : List.lookup f [(("name" : Str), v)] = none := by simp [List.lookup, qw]
    rw [q2]
    trivial
section
variable {X : Cx} {C fI cc cda : Addr}
/-- BadArgument(e) -/
def tMkBadArgument (C : Addr) (ta : TA) : St → Hp → XK → Prop := fun σ H Q => ta σ H fun vs H1 => ∃ v, vs = [v] ∧ ∀ d, H1 d = none → Q (.ref C) (some d) (upd H1 d (.xd [(("name" : Str), v)]))
theorem pmk_BadArgument {a : Expr} {ta : TA} {p pos : Pos} {k : Nat} (T : PySem.BadArgumentX.Txt X.prog X.K C fI cc cda) (gC : X.mg "BadArgument" = some (.ref C)) (hr : Room k X.A) (ha : PA X [a] ta) (hg : Gl X "BadArgument" := by rfl)
    (he : starEach (a :: []) X.env = (false, eval a X.env) :: starEach [] X.env := by rfl) (hpl : (backTo pos (starEach [] X.env)).any (·.1) = false := by rfl) :
    PMk X (.Call (.Name "BadArgument" p) [a] [] pos) (tMkBadArgument C ta) := by
  intro pins s σ H Q I h
  refine wpAny_Call_Name_kw (ld_glob I hg gC ?_)
  refine PySem.W.callWith_K (h₀ := X.base) I.ok.mod.kin T.kC (thn (ha.run pos pins s σ H _ I h) fun us s1 hh => ?_) he hpl
  obtain ⟨vs, H1, I1, r1, v, ev, q1⟩ := hh
  subst ev
  refine ⟨I1.kIn, ?_⟩
  cases r1 with
  | cons rv rn =>
    rename_i v' us'
    cases rn
    show wpAny _ _ (call (.ref C) [v']) _ _ _
    have hlim := I1.nolimit
    have hG := I1.ok.mod.glob.keeps I1.bk
    have hB : ∃ mb, s1.heap.Ns builtinsNs mb ∧ ∀ y : Str, y ≠ "__name__" → mb y = bootBuiltins y := let ⟨mb, h1, h2⟩ := I1.ok.mod.blt; ⟨mb, h1.keeps I1.bk, h2⟩
    obtain ⟨hp, g, dr, tk, os⟩ := s1
    refine wpAny_call (PySem.BadArgumentX.my_made T I1.kIn hG hB hlim (by have := hr.dp; omega) fun h' tk' e d M => ?_)
    show MkP X pins σ Q (.ref e) ⟨h', g, dr, tk', os⟩
    obtain ⟨oe, fv, hoe, hc, hd, hdat, h1⟩ := M.obj
    have hns := M.ns
    obtain ⟨G', g1, g2⟩ := restrict h' fun b => decide (b ≠ e)
    have gk : ∀ b, b ≠ e → G'.get? b = h'.get? b := fun b hb => g1 b (decide_eq_true hb)
    have ge : G'.get? e = none := g2 e (by simp)
    have old : ∀ b o, hp.get? b = some o → G'.get? b = some o := fun b o q => (gk b (Nat.ne_of_lt (Nat.lt_of_lt_of_le (Heap.lt_size q) M.new))).trans (M.keep b o q)
    have ob : ObjOk X.prog X.w (upd H1 d (.xd [(("name" : Str), v)])) G' d (.xd [(("name" : Str), v)]) :=
      ⟨_, hns.at (fun o q => (gk d M.dne).trans q), fun f => relO_BadArgument rv f⟩
    have J : Inv X pins σ (upd H1 d (.xd [(("name" : Str), v)])) ⟨G', g, dr, tk', os⟩ := I1.laid (t' := tk') old M.dbig ob
    refine ⟨e, oe, fv, ⟨G', g, dr, tk', os⟩, _, .ref C, some d, rfl, J, fun b o q => ?_, ge, hoe, ⟨hc, hd⟩, hdat, h1, ?_, rfl, I1.bare, raises_own T.exC T.tyC, q1 d (I1.hok.fresh M.dbig)⟩
    · by_cases hb : b = e
      · have q' : G'.get? b = some o := q
        rw [hb, ge] at q'; cases q'
      · exact (gk b hb).symm.trans q
    · rw [upd_ne (Ne.symm M.dne)]
      exact I1.hok.fresh M.new
/-- raise BadArgument(e) -/
def tRaiseBadArgument (C : Addr) (W : WX) (ta : TA) : TS := fun _ σ H => tMkBadArgument C ta σ H fun cls d H' => W cls d σ H'
theorem ps_raiseBadArgument {a : Expr} {ta : TA} {W : WX} {p pos pos2 : Pos} {k : Nat} (hc : X.calm = true) (T : PySem.BadArgumentX.Txt X.prog X.K C fI cc cda) (gC : X.mg "BadArgument" = some (.ref C)) (hr : Room k X.A) (tk : Takes X W) (ha : PA X [a] ta) (hg : Gl X "BadArgument" := by rfl)
    (he : starEach (a :: []) X.env = (false, eval a X.env) :: starEach [] X.env := by rfl) (hpl : (backTo pos (starEach [] X.env)).any (·.1) = false := by rfl) :
    PS X (.Raise (some (.Call (.Name "BadArgument" p) [a] [] pos)) none pos2) (tRaiseBadArgument C W ta) := ps_raise hc tk (pmk_BadArgument T gC hr ha hg he hpl)
/-- e.name, e the exception that the suite holds -/
def tByBadArgument (C : Addr) (a : Addr) (cls : Value) (d : Option Addr) (te : TE) : TE := fun σ H Q => te σ H fun x H1 => x = .ref a ∧ cls = .ref C ∧ ∃ (dd : Addr) (v : V), d = some dd ∧ H1 dd = some (.xd [(("name" : Str), v)]) ∧ Q v H1
theorem pe_byBadArgument {a : Addr} {oe : Obj} {cls : Value} {d : Option Addr} {pn : List (Addr × Obj)} {e : Expr} {te : TE} {pos : Pos} (T : PySem.BadArgumentX.Txt X.prog X.K C fI cc cda) (hz : Zc cls d oe) (hf : ∃ vs, oe.data = .fields vs) (he : PE (X.suite a ((a, oe) :: pn)) e te)
    (hb : attributeBase e "name" X.env (eval e X.env) = eval e X.env := by rfl) :
    PE (X.suite a ((a, oe) :: pn)) (.Attribute e "name" pos) (tByBadArgument C a cls d te) := by
  refine ⟨fun pins s σ H Q I h => ?_⟩
  refine attr_of hb (thn (he.run pins s σ H _ I h) fun u s1 hh => ?_)
  obtain ⟨x, H1, I1, rx, ex, ec, dd, v, ed, ea, q⟩ := hh
  subst ex
  obtain rfl : u = Value.ref a := rx
  subst ec
  subst ed
  obtain ⟨ha, _⟩ := I1.pin (a, oe) (List.mem_append_left _ List.mem_cons_self)
  obtain ⟨vs, hd⟩ := hf
  have hx : ObjOk X.prog X.w H1 s1.heap dd (.xd [(("name" : Str), v)]) := I1.hok dd _ ea
  obtain ⟨mA, hns, hr⟩ := hx
  obtain ⟨od, ho, hl⟩ := lookIn_ns hns
  have l : List.lookup ("name" : Str) [(("name" : Str), v)] = some v := by simp [List.lookup]
  obtain ⟨u, hu, ru⟩ := RelO.some_of (v := v) (o := mA "name") (by rw [← l]; exact hr "name")
  have J : PySem.W.InstAt s1.heap a oe C (some od) := ⟨ha, hz.1, by unfold PySem.W.notCls; rw [hd] <;> rfl, by rw [hz.2]; exact ho⟩
  exact HandSPX.exc_get I1.kIn J T.ga T.gg T.exC (PySem.W.findObj_own T.hdC T.noN rfl (by rw [hl, hu])) (handed_of ru) ⟨v, H1, I1.tok _, ru, q⟩
end
end L2
end
section
set_option Elab.async false
set_option linter.all false
set_option maxRecDepth 100000
set_option maxHeartbeats 4000000
namespace Tx
open PySem PySem.Spec PyProof.Rows L2
def top (i : Nat) : Stmt := PySem.Challenge.pw_whytables_k13_whole_cases.main.body.getD i (.Pass ⟨0, 0, 0, 0⟩)
abbrev prog : Program := PySem.Challenge.pw_whytables_k13_whole_cases
abbrev s_is_tuple : Stmt := top 5
abbrev s_is_text : Stmt := top 6
abbrev s_demand : Stmt := top 7
abbrev s_is_variable : Stmt := top 14
abbrev s_put_in : Stmt := top 15
abbrev s_variables_of : Stmt := top 16
abbrev s_depth_of : Stmt := top 17
abbrev s_word_at : Stmt := top 18
abbrev s_Reading___init__ : Stmt := inClass (top 19) 0
abbrev s_Reading_is_at : Stmt := inClass (top 19) 1
abbrev s_Reading_put_word : Stmt := inClass (top 19) 2
abbrev s_Reading_open_name : Stmt := inClass (top 19) 3
abbrev s_Reading_close_name : Stmt := inClass (top 19) 4
abbrev s_go_on : Stmt := top 20
abbrev s_read_term : Stmt := top 21
abbrev s_Literal___init__ : Stmt := inClass (top 29) 0
abbrev s_Clause___init__ : Stmt := inClass (top 30) 0
abbrev s_atoms_of : Stmt := top 31
abbrev s_changed_clause : Stmt := top 32
abbrev s_all_variables : Stmt := top 33
abbrev s_clause_from : Stmt := top 34
abbrev s_is_atom : Stmt := top 35
abbrev s_read_literal : Stmt := top 36
abbrev s_read_clause : Stmt := top 37
abbrev s_read_program : Stmt := top 38
abbrev s_demand_program : Stmt := top 39
abbrev s_rows_of : Stmt := top 42
abbrev s_names_of : Stmt := top 43
abbrev s_demand_names : Stmt := top 44
abbrev s_built_on : Stmt := top 45
abbrev s_subsets : Stmt := top 46
abbrev s_worlds_of : Stmt := top 47
abbrev s_worlds : Stmt := top 48
abbrev s_is_world : Stmt := top 49
abbrev s_high_of : Stmt := top 50
abbrev s_Case___init__ : Stmt := inClass (top 55) 0
abbrev s_Case_is_shut : Stmt := inClass (top 55) 1
abbrev s_Case_put : Stmt := inClass (top 55) 2
abbrev s_forced : Stmt := top 56
abbrev s_grown : Stmt := top 57
abbrev s_open_name : Stmt := top 58
abbrev s_demand_assumed : Stmt := top 59
abbrev s_case_tree : Stmt := top 60
abbrev s_cases : Stmt := top 61
abbrev s_is_case_row : Stmt := top 62
abbrev s_are_cases : Stmt := top 63
abbrev s_world_with : Stmt := top 64
abbrev s__law_dice : Stmt := top 66
abbrev s__law_roll : Stmt := top 67
abbrev s__law_pick : Stmt := top 68
abbrev s__law_wt_named : Stmt := top 69
abbrev s__law_wt_named_text : Stmt := top 70
abbrev s__law_wt_named_all : Stmt := top 71
abbrev s__law_grow : Stmt := top 72
abbrev s__law_judged : Stmt := top 73
abbrev s__law_spoilt : Stmt := top 74
abbrev s__law_one : Stmt := top 75
abbrev s__law_refused : Stmt := top 76
abbrev s_law : Stmt := top 77
def d_is_tuple : He.DefD := ⟨("is_tuple", none), "is_tuple", "is_tuple", defArgs s_is_tuple, defBody s_is_tuple, defScope s_is_tuple, [], []⟩
def d_is_text : He.DefD := ⟨("is_text", none), "is_text", "is_text", defArgs s_is_text, defBody s_is_text, defScope s_is_text, [], []⟩
def d_demand : He.DefD := ⟨("demand", none), "demand", "demand", defArgs s_demand, defBody s_demand, defScope s_demand, [], []⟩
def d_is_variable : He.DefD := ⟨("is_variable", none), "is_variable", "is_variable", defArgs s_is_variable, defBody s_is_variable, defScope s_is_variable, [], []⟩
def d_put_in : He.DefD := ⟨("put_in", none), "put_in", "put_in", defArgs s_put_in, defBody s_put_in, defScope s_put_in, [], []⟩
def d_variables_of : He.DefD := ⟨("variables_of", none), "variables_of", "variables_of", defArgs s_variables_of, defBody s_variables_of, defScope s_variables_of, [], []⟩
def d_depth_of : He.DefD := ⟨("depth_of", none), "depth_of", "depth_of", defArgs s_depth_of, defBody s_depth_of, defScope s_depth_of, [], []⟩
def d_word_at : He.DefD := ⟨("word_at", none), "word_at", "word_at", defArgs s_word_at, defBody s_word_at, defScope s_word_at, [], []⟩
def d_Reading___init__ : He.DefD := ⟨("Reading", some "__init__"), "__init__", "Reading.__init__", defArgs s_Reading___init__, defBody s_Reading___init__, defScope s_Reading___init__, [], []⟩
def d_Reading_is_at : He.DefD := ⟨("Reading", some "is_at"), "is_at", "Reading.is_at", defArgs s_Reading_is_at, defBody s_Reading_is_at, defScope s_Reading_is_at, [], []⟩
def d_Reading_put_word : He.DefD := ⟨("Reading", some "put_word"), "put_word", "Reading.put_word", defArgs s_Reading_put_word, defBody s_Reading_put_word, defScope s_Reading_put_word, [], []⟩
def d_Reading_open_name : He.DefD := ⟨("Reading", some "open_name"), "open_name", "Reading.open_name", defArgs s_Reading_open_name, defBody s_Reading_open_name, defScope s_Reading_open_name, [], []⟩
def d_Reading_close_name : He.DefD := ⟨("Reading", some "close_name"), "close_name", "Reading.close_name", defArgs s_Reading_close_name, defBody s_Reading_close_name, defScope s_Reading_close_name, [], []⟩
def d_go_on : He.DefD := ⟨("go_on", none), "go_on", "go_on", defArgs s_go_on, defBody s_go_on, defScope s_go_on, [], []⟩
def d_read_term : He.DefD := ⟨("read_term", none), "read_term", "read_term", defArgs s_read_term, defBody s_read_term, defScope s_read_term, [], []⟩
def d_Literal___init__ : He.DefD := ⟨("Literal", some "__init__"), "__init__", "Literal.__init__", defArgs s_Literal___init__, defBody s_Literal___init__, defScope s_Literal___init__, [], []⟩
def d_Clause___init__ : He.DefD := ⟨("Clause", some "__init__"), "__init__", "Clause.__init__", defArgs s_Clause___init__, defBody s_Clause___init__, defScope s_Clause___init__, [], []⟩
def d_atoms_of : He.DefD := ⟨("atoms_of", none), "atoms_of", "atoms_of", defArgs s_atoms_of, defBody s_atoms_of, defScope s_atoms_of, [], []⟩
def d_changed_clause : He.DefD := ⟨("changed_clause", none), "changed_clause", "changed_clause", defArgs s_changed_clause, defBody s_changed_clause, defScope s_changed_clause, [], []⟩
def d_all_variables : He.DefD := ⟨("all_variables", none), "all_variables", "all_variables", defArgs s_all_variables, defBody s_all_variables, defScope s_all_variables, [], []⟩
def d_clause_from : He.DefD := ⟨("clause_from", none), "clause_from", "clause_from", defArgs s_clause_from, defBody s_clause_from, defScope s_clause_from, [], []⟩
def d_is_atom : He.DefD := ⟨("is_atom", none), "is_atom", "is_atom", defArgs s_is_atom, defBody s_is_atom, defScope s_is_atom, [], []⟩
def d_read_literal : He.DefD := ⟨("read_literal", none), "read_literal", "read_literal", defArgs s_read_literal, defBody s_read_literal, defScope s_read_literal, [], []⟩
def d_read_clause : He.DefD := ⟨("read_clause", none), "read_clause", "read_clause", defArgs s_read_clause, defBody s_read_clause, defScope s_read_clause, [], []⟩
def d_read_program : He.DefD := ⟨("read_program", none), "read_program", "read_program", defArgs s_read_program, defBody s_read_program, defScope s_read_program, [], []⟩
def d_demand_program : He.DefD := ⟨("demand_program", none), "demand_program", "demand_program", defArgs s_demand_program, defBody s_demand_program, defScope s_demand_program, [], []⟩
def d_rows_of : He.DefD := ⟨("rows_of", none), "rows_of", "rows_of", defArgs s_rows_of, defBody s_rows_of, defScope s_rows_of, [], []⟩
def d_names_of : He.DefD := ⟨("names_of", none), "names_of", "names_of", defArgs s_names_of, defBody s_names_of, defScope s_names_of, [], []⟩
def d_demand_names : He.DefD := ⟨("demand_names", none), "demand_names", "demand_names", defArgs s_demand_names, defBody s_demand_names, defScope s_demand_names, [], []⟩
def d_built_on : He.DefD := ⟨("built_on", none), "built_on", "built_on", defArgs s_built_on, defBody s_built_on, defScope s_built_on, [], []⟩
def d_subsets : He.DefD := ⟨("subsets", none), "subsets", "subsets", defArgs s_subsets, defBody s_subsets, defScope s_subsets, [], []⟩
def d_worlds_of : He.DefD := ⟨("worlds_of", none), "worlds_of", "worlds_of", defArgs s_worlds_of, defBody s_worlds_of, defScope s_worlds_of, [], []⟩
def d_worlds : He.DefD := ⟨("worlds", none), "worlds", "worlds", defArgs s_worlds, defBody s_worlds, defScope s_worlds, [], []⟩
def d_is_world : He.DefD := ⟨("is_world", none), "is_world", "is_world", defArgs s_is_world, defBody s_is_world, defScope s_is_world, [], []⟩
def d_high_of : He.DefD := ⟨("high_of", none), "high_of", "high_of", defArgs s_high_of, defBody s_high_of, defScope s_high_of, [], []⟩
def d_Case___init__ : He.DefD := ⟨("Case", some "__init__"), "__init__", "Case.__init__", defArgs s_Case___init__, defBody s_Case___init__, defScope s_Case___init__, [], []⟩
def d_Case_is_shut : He.DefD := ⟨("Case", some "is_shut"), "is_shut", "Case.is_shut", defArgs s_Case_is_shut, defBody s_Case_is_shut, defScope s_Case_is_shut, [], []⟩
def d_Case_put : He.DefD := ⟨("Case", some "put"), "put", "Case.put", defArgs s_Case_put, defBody s_Case_put, defScope s_Case_put, [], []⟩
def d_forced : He.DefD := ⟨("forced", none), "forced", "forced", defArgs s_forced, defBody s_forced, defScope s_forced, [], []⟩
def d_grown : He.DefD := ⟨("grown", none), "grown", "grown", defArgs s_grown, defBody s_grown, defScope s_grown, [], []⟩
def d_open_name : He.DefD := ⟨("open_name", none), "open_name", "open_name", defArgs s_open_name, defBody s_open_name, defScope s_open_name, [], []⟩
def d_demand_assumed : He.DefD := ⟨("demand_assumed", none), "demand_assumed", "demand_assumed", defArgs s_demand_assumed, defBody s_demand_assumed, defScope s_demand_assumed, [], []⟩
def d_case_tree : He.DefD := ⟨("case_tree", none), "case_tree", "case_tree", defArgs s_case_tree, defBody s_case_tree, defScope s_case_tree, [], []⟩
def d_cases : He.DefD := ⟨("cases", none), "cases", "cases", defArgs s_cases, defBody s_cases, defScope s_cases, [], []⟩
def d_is_case_row : He.DefD := ⟨("is_case_row", none), "is_case_row", "is_case_row", defArgs s_is_case_row, defBody s_is_case_row, defScope s_is_case_row, [], []⟩
def d_are_cases : He.DefD := ⟨("are_cases", none), "are_cases", "are_cases", defArgs s_are_cases, defBody s_are_cases, defScope s_are_cases, [], []⟩
def d_world_with : He.DefD := ⟨("world_with", none), "world_with", "world_with", defArgs s_world_with, defBody s_world_with, defScope s_world_with, [], []⟩
def d__law_dice : He.DefD := ⟨("_law_dice", none), "_law_dice", "_law_dice", defArgs s__law_dice, defBody s__law_dice, defScope s__law_dice, [], []⟩
def d__law_roll : He.DefD := ⟨("_law_roll", none), "_law_roll", "_law_roll", defArgs s__law_roll, defBody s__law_roll, defScope s__law_roll, [], []⟩
def d__law_pick : He.DefD := ⟨("_law_pick", none), "_law_pick", "_law_pick", defArgs s__law_pick, defBody s__law_pick, defScope s__law_pick, [], []⟩
def d__law_wt_named : He.DefD := ⟨("_law_wt_named", none), "_law_wt_named", "_law_wt_named", defArgs s__law_wt_named, defBody s__law_wt_named, defScope s__law_wt_named, [], []⟩
def d__law_wt_named_text : He.DefD := ⟨("_law_wt_named_text", none), "_law_wt_named_text", "_law_wt_named_text", defArgs s__law_wt_named_text, defBody s__law_wt_named_text, defScope s__law_wt_named_text, [], []⟩
def d__law_wt_named_all : He.DefD := ⟨("_law_wt_named_all", none), "_law_wt_named_all", "_law_wt_named_all", defArgs s__law_wt_named_all, defBody s__law_wt_named_all, defScope s__law_wt_named_all, [], []⟩
def d__law_grow : He.DefD := ⟨("_law_grow", none), "_law_grow", "_law_grow", defArgs s__law_grow, defBody s__law_grow, defScope s__law_grow, [], []⟩
def d__law_judged : He.DefD := ⟨("_law_judged", none), "_law_judged", "_law_judged", defArgs s__law_judged, defBody s__law_judged, defScope s__law_judged, [], []⟩
def d__law_spoilt : He.DefD := ⟨("_law_spoilt", none), "_law_spoilt", "_law_spoilt", defArgs s__law_spoilt, defBody s__law_spoilt, defScope s__law_spoilt, [], []⟩
def d__law_one : He.DefD := ⟨("_law_one", none), "_law_one", "_law_one", defArgs s__law_one, defBody s__law_one, defScope s__law_one, [], []⟩
def d__law_refused : He.DefD := ⟨("_law_refused", none), "_law_refused", "_law_refused", defArgs s__law_refused, defBody s__law_refused, defScope s__law_refused, [], []⟩
def d_law : He.DefD := ⟨("law", none), "law", "law", defArgs s_law, defBody s_law, defScope s_law, [], []⟩
def fn0 : List He.DefD := [d_is_tuple, d_is_text, d_demand, d_is_variable, d_put_in, d_variables_of, d_depth_of, d_word_at, d_Reading___init__, d_Reading_is_at, d_Reading_put_word, d_Reading_open_name, d_Reading_close_name, d_go_on, d_read_term, d_Literal___init__, d_Clause___init__, d_atoms_of, d_changed_clause, d_all_variables, d_clause_from, d_is_atom, d_read_literal, d_read_clause, d_read_program, d_demand_program, d_rows_of, d_names_of, d_demand_names, d_built_on]
def fn1 : List He.DefD := [d_subsets, d_worlds_of, d_worlds, d_is_world, d_high_of, d_Case___init__, d_Case_is_shut, d_Case_put, d_forced, d_grown, d_open_name, d_demand_assumed, d_case_tree, d_cases, d_is_case_row, d_are_cases, d_world_with, d__law_dice, d__law_roll, d__law_pick, d__law_wt_named, d__law_wt_named_text, d__law_wt_named_all, d__law_grow, d__law_judged, d__law_spoilt, d__law_one, d__law_refused, d_law]
def fn : List He.DefD := fn0 ++ fn1
def fa0 : List He.Fa := [.glo "is_tuple", .glo "is_text", .glo "demand", .glo "is_variable", .glo "put_in", .glo "variables_of", .glo "depth_of", .glo "word_at", .glo "go_on", .glo "read_term", .glo "atoms_of", .glo "changed_clause", .glo "all_variables", .glo "clause_from", .glo "is_atom", .glo "read_literal", .glo "read_clause", .glo "read_program", .glo "demand_program", .glo "rows_of", .glo "names_of", .glo "demand_names", .glo "built_on", .glo "subsets", .glo "worlds_of", .glo "worlds", .glo "is_world", .glo "high_of", .glo "forced", .glo "grown", .glo "open_name", .glo "demand_assumed", .glo "case_tree", .glo "cases", .glo "is_case_row", .glo "are_cases", .glo "world_with", .glo "_law_dice", .glo "_law_roll", .glo "_law_pick"]
def fa1 : List He.Fa := [.glo "_law_wt_named", .glo "_law_wt_named_text", .glo "_law_wt_named_all", .glo "_law_grow", .glo "_law_judged", .glo "_law_spoilt", .glo "_law_one", .glo "_law_refused", .glo "law", .glo "Reading", .glo "Literal", .glo "Clause", .glo "Case", .glo "WhyError", .glo "BadArgument", .glo "BadText", .free "abs", .free "all", .free "any", .free "dict", .free "enumerate", .free "int", .free "isinstance", .free "len", .free "list", .free "max", .free "min", .free "range", .free "set", .free "sorted", .free "str", .free "tuple", .int "MOST_PARTS" 4, .int "MOST_NAME" 8, .str "SMALL" "abcdefghijklmnopqrstuvwxyz", .str "GREAT" "ABCDEFGHIJKLMNOPQRSTUVWXYZ", .str "DIGITS" "0123456789", .int "MOST_CLAUSES" 30, .int "MOST_BODY" 4, .int "MOST_DEEP" 4]
def fa2 : List He.Fa := [.int "MOST_TEXT" 4000, .int "MOST_LINE" 200, .str "NOT" "not ", .int "MOST_NAMES" 10, .int "MOST_NODES" 200, .str "SPLIT" "split", .str "SHUT" "shut", .cls "Reading", .mkr "Reading", .keep "Reading", .noat "Reading" "text", .noat "Reading" "numbers", .noat "Reading" "place", .noat "Reading" "signs", .noat "Reading" "spots", .noat "Reading" "counts", .meth "Reading" "is_at", .meth "Reading" "put_word", .meth "Reading" "open_name", .meth "Reading" "close_name", .cls "Literal", .mkr "Literal", .keep "Literal", .noat "Literal" "atom", .noat "Literal" "is_denied", .cls "Clause", .mkr "Clause", .keep "Clause", .noat "Clause" "head", .noat "Clause" "body", .cls "Case", .mkr "Case", .keep "Case", .noat "Case" "true", .noat "Case" "false", .meth "Case" "is_shut", .meth "Case" "put"]
def fa : List He.Fa := fa0 ++ fa1 ++ fa2
/-- the exceptions: what is looked at of the class x, its __init__, the cell and the code of this -/
def asX (g : Addr → Option Obj) : Nat → List Addr
  | 0 => [mainGlobals, cStatics]
  | n + 1 => He.growD g (asX g n)
def fdOf (K : PySem.W.Frag) (a : Addr) : Option FuncData := match K.lookup a with
  | some ⟨_, _, .func fd, _⟩ => some fd
  | _ => none
def cellOf (K : PySem.W.Frag) (x : Str) : Addr := match fdOf K (He.ma K (He.ga K x) "__init__") with
  | some fd => (match fd.closure with
    | (_, c) :: _ => c
    | _ => 0)
  | none => 0
def codeOf (K : PySem.W.Frag) (x : Str) : Addr := match fdOf K (He.ma K (He.ga K x) "__init__") with
  | some fd => (match fd.code with
    | .ref c => c
    | _ => 0)
  | none => 0
abbrev FdV : Type := Str × Str × Arguments × FuncBody × Scope × Addr × List Str × Value × Value × Addr
def fdV (K : PySem.W.Frag) (x : Str) : Option FdV := (fdOf K (He.ma K (He.ga K x) "__init__")).map fun fd => (fd.name, fd.qualname, fd.params, fd.body, fd.scope, fd.globals, fd.closure.map (·.1), fd.defaults, fd.kwdefaults, fd.builtins)
def fileB (vs : Array Value) : Bool := match (vs[2]? : Option Value) with
  | some (.str file _) => ((prog.main.file : Str) == file)
  | _ => false
def isRefB : Option FuncData → Bool
  | some fd => (match fd.code with
    | .ref _ => true
    | _ => false)
  | none => false
def slotsB : List (Option Value) → Bool
  | [_, _, _, _, some (.builtin n), _] => decide (n = "ValueError.__new__")
  | _ => false
def mroB (C : Addr) : List Value → Bool
  | .ref D :: bm => decide (D = C) && PySem.HandSPX.refsVE bm
  | _ => false
def clsB (C : Addr) : Option Obj → Bool
  | some ⟨.type t, _, .cls cd, sl⟩ => decide (t = "type") && (mroB C cd.mro && (slotsB sl.toList && (cd.hasDict && !cd.hasDel)))
  | _ => false
theorem clsB_ok {C : Addr} {oo : Option Obj} (h : clsB C oo = true) : ∃ nm q N bs bm sn sub ab col dd k0 k1 k2 k3 k5, oo = some (excClassObj nm q C N bs bm true sn sub ab col dd k0 k1 k2 k3 k5 "ValueError.__new__") ∧ PySem.HandSPX.refsVE bm = true := by
  unfold clsB at h
  split at h
  · rename_i t dd cd sl
    simp only [Bool.and_eq_true, decide_eq_true_eq, Bool.not_eq_true'] at h
    obtain ⟨rfl, h1, h2, h3, h4⟩ := h
    obtain ⟨nm, bs, mro, ns, qn, hd, sn, sub, ab, col, del⟩ := cd
    obtain ⟨l⟩ := sl
    simp only at h1 h2 h3 h4
    subst h3 h4
    unfold mroB at h1
    split at h1
    · simp only [Bool.and_eq_true, decide_eq_true_eq] at h1
      obtain ⟨rfl, h5⟩ := h1
      unfold slotsB at h2
      split at h2
      · have e := of_decide_eq_true h2
        subst e
        exact ⟨nm, qn, ns, bs, _, sn, sub, ab, col, dd, _, _, _, _, _, rfl, h5⟩
      · cases h2
    · cases h1
  · cases h
def exB (K : PySem.W.Frag) (x f : Str) : Bool :=
  clsB (He.ga K x) (K.lookup (He.ga K x)) &&
  decide (PySem.W.findIn K (.ref (He.ga K x)) "__setattr__" = some (some (.builtin "object.__setattr__"))) &&
  decide (PySem.W.findIn K (.ref (He.ga K x)) "__getattribute__" = some (some (.builtin "BaseException.__getattribute__"))) &&
  decide (PySem.W.findIn K (.ref (He.ga K x)) "__getattr__" = some none) &&
  decide (PySem.W.findIn K (.ref (He.ga K x)) f = some none) &&
  decide (PySem.W.findIn K (.ref (He.ga K x)) "__init__" = some (some (.ref (He.ma K (He.ga K x) "__init__")))) &&
  decide (PySem.W.typeIn K (.ref (He.ma K (He.ga K x) "__init__")) = some (.type "function")) &&
  PySem.W.keepIn K (.ref (He.ga K x)) &&
  decide (PySem.W.subIn K (.ref (He.ga K x)) (.type "BaseException") = some true) &&
  decide (PySem.W.subIn K (.ref (He.ga K x)) (.type "ValueError") = some true) &&
  decide (PySem.W.typeIn K (.ref (He.ga K x)) = some (.type "type")) &&
  PySem.W.hasDictIn K (He.ga K x) &&
  decide (PySem.W.exmOne K (.ref (He.ga K x)) (.ref (He.ga K x)) = some true) &&
  decide (PySem.W.ks_superIn K (He.ga K x) (He.ga K x) "__init__" = some (some (.builtin "ValueError.__init__"))) &&
  decide (PySem.W.nsIn K cStatics "thirdparty.any" = some none) &&
  decide (PySem.W.nsIn K mainGlobals "super" = some none) &&
  decide (PySem.W.mroIn K (He.ga K x) (.ref (He.ga K x)) = some true) &&
  (match K.lookup (cellOf K x) with
    | some ⟨_, _, .cell (some (.ref d)), _⟩ => decide (d = He.ga K x)
    | _ => false) &&
  (match K.lookup (codeOf K x) with
    | some ⟨_, _, .fields vs, _⟩ => fileB vs
    | _ => false) &&
  PySem.W.codeIn K (.ref (codeOf K x)) (x ++ ".__init__") && isRefB (fdOf K (He.ma K (He.ga K x) "__init__"))
abbrev AlX : Type := He.AlD × Bool × List (Option FdV)
def exs : List (Str × Str) := [("BadArgument", "name")]
def obsX (K : PySem.W.Frag) : AlX := (He.obsD fa fn K, exs.all fun p => exB K p.1 p.2, exs.map fun p => fdV K p.1)
def exV : List (Option FdV) := [some ("__init__", "BadArgument.__init__", PySem.BadArgumentX.iA ⟨6, 17, 6, 21⟩ ⟨6, 23, 6, 27⟩, .stmts PySem.BadArgumentX.iB, PySem.BadArgumentX.iS, mainGlobals, ["__class__"], .none, .none, builtinsNs)]
def valX : AlX := (He.valD fn, true, exV)
def SaysX (K : PySem.W.Frag) : Prop := obsX K = valX
def obsXG (g : Addr → Option Obj) : AlX := obsX (He.frG g (asX g 5))
def hkX : PySem.W.Hook where
  α := AlX
  obs := fun s => obsXG s.heap.get?
  val := fun _ => valX
  says := fun _ h => ∃ K : PySem.W.Frag, K.In h ∧ SaysX K
  of := fun _ _ e => ⟨_, He.frG_in, e⟩
  keeps := fun _ _ _ ⟨K, hK, c⟩ k => ⟨K, PySem.W.Frag.In.keeps hK k, c⟩
theorem obsXG_eq {g : Addr → Option Obj} {s : Shared} (h : ∀ a, g a = s.heap.get? a) : obsXG g = hkX.obs s := by
  have e : g = s.heap.get? := funext h
  rw [e] <;> rfl
end Tx
end
section
set_option Elab.async false
set_option linter.all false
set_option maxRecDepth 100000
set_option maxHeartbeats 4000000
namespace Tx
open PySem PySem.Spec PyProof.Rows L2
/-- what all defs' proofs lean on -/
structure Zx (K : PySem.W.Frag) (mg : Str → Option Value) : Prop where
  at_ : ∃ h : Heap, K.In h ∧ h.Ns mainGlobals mg
  says : SaysX K
section
variable {P : Program} {w : World} {K : PySem.W.Frag} {mg : Str → Option Value} {base : Heap}
theorem SaysX.d (c : SaysX K) : He.SaysD fa fn K := congrArg (fun z : AlX => z.1) c
theorem SaysX.e (c : SaysX K) : (exs.all fun p => exB K p.1 p.2) = true := congrArg (fun z : AlX => z.2.1) c
theorem SaysX.v (c : SaysX K) : exs.map (fun p => fdV K p.1) = exV := congrArg (fun z : AlX => z.2.2) c
theorem Zx.glo (Z : Zx K mg) (i : Nat) {x : Str} (h : fa[i]? = some (.glo x) := by rfl) : mg x = some (.ref (He.ga K x)) := let ⟨_, X, G⟩ := Z.at_; He.glo_ok X G (Z.says.d.fact i h)
theorem Zx.free (Z : Zx K mg) (i : Nat) {x : Str} (h : fa[i]? = some (.free x) := by rfl) : mg x = none := let ⟨_, X, G⟩ := Z.at_; He.free_ok X G (Z.says.d.fact i h)
theorem Zx.int (Z : Zx K mg) (i : Nat) {x : Str} {n : Int} (h : fa[i]? = some (.int x n) := by rfl) : ∃ t, mg x = some (.int n t) := let ⟨_, X, G⟩ := Z.at_; He.int_ok X G (Z.says.d.fact i h)
theorem Zx.str (Z : Zx K mg) (i : Nat) {x z : Str} (h : fa[i]? = some (.str x z) := by rfl) : ∃ t, mg x = some (.str z t) := let ⟨_, X, G⟩ := Z.at_; He.str_ok X G (Z.says.d.fact i h)
theorem Zx.cls (Z : Zx K mg) (i : Nat) {x : Str} (h : fa[i]? = some (.cls x) := by rfl) : Cls K (He.ga K x) := He.cls_ok (Z.says.d.fact i h)
theorem Zx.mkr (Z : Zx K mg) (i : Nat) {x : Str} (h : fa[i]? = some (.mkr x) := by rfl) : Mk K (He.ga K x) (He.ma K (He.ga K x) "__init__") := He.mkr_ok (Z.says.d.fact i h)
theorem Zx.noat (Z : Zx K mg) (i : Nat) {x f : Str} (h : fa[i]? = some (.noat x f) := by rfl) : NoAttr K (He.ga K x) f := He.noat_ok (Z.says.d.fact i h)
theorem Zx.meth (Z : Zx K mg) (i : Nat) {x m : Str} (h : fa[i]? = some (.meth x m) := by rfl) : Meth K (He.ga K x) m (He.ma K (He.ga K x) m) := He.meth_ok (Z.says.d.fact i h)
/-- a def of the text as the layer takes it -/
theorem fun_of {x qual : Str} {st : Stmt} {f : Addr} {fd : FuncData} (F : FunD K x qual (defArgs st) (defBody st) (defScope st) [] [] f fd) : Fun K x qual st f fd := by
  obtain ⟨⟨oc, od, dV, kV, doc, pm, an, cdv, ct, osl, e, l, c, d, k⟩, kp⟩ := F
  rcases d with ⟨_, rfl⟩ | ⟨q, _⟩
  · exact ⟨⟨oc, od, kV, doc, pm, an, cdv, ct, osl, e, l, c⟩, kp⟩
  · exact (q rfl).elim
theorem Zx.fun_ (Z : Zx K mg) (i : Nat) {d : He.DefD} (h : fn[i]? = some d := by rfl) : ∃ fd, FunD K d.name d.qual d.params d.body d.scope (d.dvs K) (d.kws K) (He.fAd K d.at_) fd := Z.says.d.def_ i h
theorem and2 {a b : Bool} (h : (a && b) = true) : a = true ∧ b = true := Bool.and_eq_true_iff.mp h
/-- the class BadArgument -/
theorem Zx.bad (Z : Zx K mg) : PySem.BadArgumentX.Txt prog K (He.ga K "BadArgument") (He.ma K (He.ga K "BadArgument") "__init__") (cellOf K "BadArgument") (codeOf K "BadArgument") := by
  have h0 : exB K "BadArgument" "name" = true := List.all_eq_true.mp Z.says.e ("BadArgument", "name") (by decide)
  have v0 : fdV K "BadArgument" = (some ("__init__", "BadArgument.__init__", PySem.BadArgumentX.iA ⟨6, 17, 6, 21⟩ ⟨6, 23, 6, 27⟩, .stmts PySem.BadArgumentX.iB, PySem.BadArgumentX.iS, mainGlobals, ["__class__"], .none, .none, builtinsNs) : Option FdV) := (List.cons.inj Z.says.v).1
  unfold exB at h0
  obtain ⟨h0, c22⟩ := and2 h0
  obtain ⟨h0, c21⟩ := and2 h0
  obtain ⟨h0, c20⟩ := and2 h0
  obtain ⟨h0, c19⟩ := and2 h0
  obtain ⟨h0, c17⟩ := and2 h0
  obtain ⟨h0, c16⟩ := and2 h0
  obtain ⟨h0, c15⟩ := and2 h0
  obtain ⟨h0, c14⟩ := and2 h0
  obtain ⟨h0, c13⟩ := and2 h0
  obtain ⟨h0, c12⟩ := and2 h0
  obtain ⟨h0, c11⟩ := and2 h0
  obtain ⟨h0, c10⟩ := and2 h0
  obtain ⟨h0, c9⟩ := and2 h0
  obtain ⟨h0, c8⟩ := and2 h0
  obtain ⟨h0, c7⟩ := and2 h0
  obtain ⟨h0, c6⟩ := and2 h0
  obtain ⟨h0, c5⟩ := and2 h0
  obtain ⟨h0, c4⟩ := and2 h0
  obtain ⟨h0, c3⟩ := and2 h0
  obtain ⟨c1, c2⟩ := and2 h0
  have hcell : ∃ cl cld csl, K.lookup (cellOf K "BadArgument") = some ⟨cl, cld, .cell (some (.ref (He.ga K "BadArgument"))), csl⟩ := by
    split at c19
    · rename_i e
      have q := of_decide_eq_true c19
      subst q
      exact ⟨_, _, _, e⟩
    · cases c19
  have hcode : ∃ ccl cdd ccs vs file tf, K.lookup (codeOf K "BadArgument") = some ⟨ccl, cdd, .fields vs, ccs⟩ ∧ vs[2]? = some (.str file tf) ∧ ((prog.main.file : Str) == file) = true := by
    split at c20
    · rename_i e
      unfold fileB at c20
      split at c20
      · rename_i q
        exact ⟨_, _, _, _, _, _, e, q, c20⟩
      · cases c20
    · cases c20
  have hfn : ∃ (oc : Value) (od : Option Addr) (doc pm : Value) (an : Option Addr) (ct : Value) (osl : Array (Option Value)) (p1 p2 : Pos),
      K.lookup (He.ma K (He.ga K "BadArgument") "__init__") = some ⟨oc, od, .func (PySem.W.ksFn "__init__" "BadArgument.__init__" (PySem.BadArgumentX.iA p1 p2) PySem.BadArgumentX.iB PySem.BadArgumentX.iS .none .none doc pm an (.ref (codeOf K "BadArgument")) ct (cellOf K "BadArgument")), osl⟩ ∧ PySem.W.codeIn K (.ref (codeOf K "BadArgument")) "BadArgument.__init__" = true := by
    have k0 := c21
    unfold fdV fdOf at v0
    cases e : K.lookup (He.ma K (He.ga K "BadArgument") "__init__") with
    | none =>
      rw [e] at v0
      cases v0
    | some o =>
      obtain ⟨oc, od, dt, osl⟩ := o
      rw [e] at v0
      cases dt with
      | func fd =>
        obtain ⟨n1, n2, n3, n4, n5, n6, n7, n8, n9, n10, n11, n12, n13, n14, n15⟩ := fd
        have v1 := Option.some.inj v0
        simp only [Prod.mk.injEq] at v1
        obtain ⟨rfl, rfl, rfl, rfl, rfl, rfl, e7, rfl, rfl, rfl⟩ := v1
        obtain ⟨c, rfl⟩ : ∃ c : Addr, n7 = [(("__class__" : Str), c)] := by
          have hl := congrArg List.length e7
          rw [List.length_map] at hl
          obtain ⟨p, rfl⟩ := List.length_eq_one_iff.mp hl
          have q : p.1 = ("__class__" : Str) := (List.cons.inj e7).1
          exact ⟨p.2, by rw [← q]⟩
        have ec : cellOf K "BadArgument" = c := by
          unfold cellOf fdOf
          rw [e]
        have hk : ∃ b, n13 = .ref b := by
          cases n13 with
          | ref b => exact ⟨b, rfl⟩
          | _ =>
            unfold fdOf at c22
            rw [e] at c22
            cases c22
        obtain ⟨b, rfl⟩ := hk
        have ed : codeOf K "BadArgument" = b := by
          unfold codeOf fdOf
          rw [e]
        rw [ec, ed]
        rw [ed] at k0
        exact ⟨oc, od, _, _, _, _, osl, _, _, rfl, k0⟩
      | _ => cases v0
  exact ⟨clsB_ok c1, of_decide_eq_true c2, of_decide_eq_true c3, of_decide_eq_true c4, of_decide_eq_true c5, of_decide_eq_true c6, of_decide_eq_true c7, c8, of_decide_eq_true c9, of_decide_eq_true c10, of_decide_eq_true c11, c12, of_decide_eq_true c13,
    of_decide_eq_true c14, of_decide_eq_true c15, of_decide_eq_true c16, of_decide_eq_true c17, hcell, hcode, by decide +kernel, hfn⟩
end
end Tx
end
section
set_option Elab.async false
set_option linter.all false
set_option maxRecDepth 100000
set_option maxHeartbeats 0
namespace Tx
open PySem PySem.Spec PyProof.Rows L2
def lo0 : List PySem.Str := ["__name__", "WhyError", "BadArgument", "BadText", "is_tuple", "is_text", "demand", "MOST_PARTS", "MOST_NAME", "SMALL", "GREAT", "DIGITS", "is_variable", "put_in", "variables_of", "depth_of", "word_at", "Reading", "go_on", "read_term", "MOST_CLAUSES", "MOST_BODY", "MOST_DEEP", "MOST_TEXT", "MOST_LINE", "NOT", "Literal", "Clause", "atoms_of", "changed_clause"]
def lo1 : List PySem.Str := ["all_variables", "clause_from", "is_atom", "read_literal", "read_clause", "read_program", "demand_program", "MOST_NAMES", "rows_of", "names_of", "demand_names", "built_on", "subsets", "worlds_of", "worlds", "is_world", "high_of", "MOST_NODES", "SPLIT", "SHUT", "Case", "forced", "grown", "open_name", "demand_assumed", "case_tree", "cases", "is_case_row", "are_cases", "world_with"]
def lo2 : List PySem.Str := ["_law_dice", "_law_roll", "_law_pick", "_law_wt_named", "_law_wt_named_text", "_law_wt_named_all", "_law_grow", "_law_judged", "_law_spoilt", "_law_one", "_law_refused"]
def lo : List PySem.Str := lo0 ++ lo1 ++ lo2
abbrev R : PySem.W.OpenRow := PySem.W.OpenLaw.row PySem.Challenge.rw_whytables_k13_whole_cases
end Tx
end
section
set_option Elab.async false
set_option linter.all false
set_option maxRecDepth 100000
set_option maxHeartbeats 0
namespace Tx
open PySem PySem.Spec PyProof.Rows L2
/-- of BadArgument: caught by its own name, its field is read -/
def exY (K : PySem.W.Frag) : Bool := decide (PySem.W.exmOne K (.ref (He.ga K "BadArgument")) (.ref (He.ga K "BadArgument")) = some true) && (xfB K (He.ga K "BadArgument") && decide (PySem.W.findIn K (.ref (He.ga K "BadArgument")) "name" = some none))
def tfY : List He.Defn := [("law", none)]
abbrev AlY : Type := AlX × Bool
def obsYG (g : Addr → Option Obj) : AlY := (obsX (He.frT g (asX g 5)), exY (He.frT g (asX g 5)) && He.tabsB g tfY (He.frT g (asX g 5)))
def valY : AlY := (valX, true)
structure SaysY (h : Heap) (K : PySem.W.Frag) : Prop where
  says : SaysX K
  exy : exY K = true
  hd : PySem.W.codeHdIn K (He.cT K ("law", none)).1 (He.cT K ("law", none)).2 = true
  out : K.lookup (He.cT K ("law", none)).2 = none
  empty : h.get? (He.cT K ("law", none)).2 = some { cls := .none, data := .fields #[] }
theorem saysY_of {h : Heap} (e : obsYG h.get? = valY) : SaysY h (He.frT h.get? (asX h.get? 5)) := by
  have e1 : obsX (He.frT h.get? (asX h.get? 5)) = valX := congrArg (fun z : AlY => z.1) e
  have e2 : (exY (He.frT h.get? (asX h.get? 5)) && He.tabsB h.get? tfY (He.frT h.get? (asX h.get? 5))) = true := congrArg (fun z : AlY => z.2) e
  obtain ⟨h1, h2⟩ := Bool.and_eq_true_iff.mp e2
  obtain ⟨h3, h4⟩ := Bool.and_eq_true_iff.mp (List.all_eq_true.mp h2 ("law", none) List.mem_cons_self)
  cases q : h.get? (He.cT (He.frT h.get? (asX h.get? 5)) ("law", none)).2 with
  | none => rw [q] at h4; cases h4
  | some o =>
    rw [q] at h4
    have h4' : He.emptyTab o = true := h4
    exact ⟨e1, h1, h3, He.frT_none q h4', by rw [q, He.emptyTab_eq h4']⟩
def hkY : PySem.W.Hook where
  α := AlY
  obs := fun s => obsYG s.heap.get?
  val := fun _ => valY
  says := fun _ h => ∃ K : PySem.W.Frag, K.In h ∧ SaysY h K
  of := fun _ _ e => ⟨_, He.frT_in, saysY_of e⟩
  keeps := fun _ _ _ ⟨K, hK, c⟩ k => ⟨K, PySem.W.Frag.In.keeps hK k, ⟨c.says, c.exy, c.hd, c.out, k _ _ c.empty⟩⟩
def obY (s : PySem.W.SharedT) : AlY := obsYG (HandSHeadRun.getT s)
theorem obY_eq (s : PySem.W.SharedT) : obY s = hkY.obs s.abs := by
  have e : HandSHeadRun.getT s = s.abs.heap.get? := funext (HandSHeadRun.getT_eq s)
  show obsYG (HandSHeadRun.getT s) = obsYG s.abs.heap.get?
  rw [e]
theorem runY (w : World) : HandSHeadRun.RunEq R (PySem.W.view R.prog [77]) hkY obY 20000 lo w := by
  intro os
  kernel_rfl
end Tx
end
section
set_option Elab.async false
set_option linter.all false
set_option maxRecDepth 100000
/-! sorted(xs) of rows of texts, the empty one first -/
namespace TXT
open PySem PySem.Spec PyProof.Rows L2 PySem.SeqAt PySem.W

def IsTx (h : Heap) (v : Value) (xs : List Str) : Prop := ∃ a o items n, v = .ref a ∧ h.get? a = some o ∧ o.cls = .type "tuple" ∧ o.data = .seq items n ∧ StrsAre items.toList xs
theorem IsTx.keep {h h' : Heap} {v : Value} {xs : List Str} (p : IsTx h v xs) (k : ∀ b o, h.get? b = some o → o.cls = .type "tuple" → h'.get? b = some o) : IsTx h' v xs := by
  obtain ⟨a, o, items, n, e, ho, hc, r⟩ := p
  exact ⟨a, o, items, n, e, k _ _ ho hc, hc, r⟩
def firstOf (h : Heap) (v : Value) : Option Value := match v with
  | .ref a => (match h.get? a with
    | some o => (match o.data with
      | .seq xs _ => xs[0]?
      | _ => none)
    | none => none)
  | _ => none

section
variable {M : Model} {A : Around} {E : Value → Shared → Prop} {s : Shared}
theorem mapM_to {α β : Type} {f : α → Sem β} {g : α → β} : ∀ (l : List α) {Q : List β → Shared → Prop}, (∀ v, v ∈ l → ∀ (Q' : β → Shared → Prop), Q' (g v) s → wpAny M A (f v) Q' E s) → Q (l.map g) s → wpAny M A (l.mapM f) Q E s
  | [], _, _, h => by rw [List.mapM_nil]; exact wpAny_pure h
  | x :: l, Q, hf, h => by
    rw [List.mapM_cons]
    exact wpAny_bind (hf x List.mem_cons_self _ (wpAny_bind (mapM_to l (g := g) (Q := fun bs s' => wpAny M A (pure (g x :: bs)) Q E s') (fun v hv => hf v (List.mem_cons_of_mem _ hv)) (wpAny_pure h))))

theorem kind_tx {v1 : Value} {vs : List Value} {Q : SortKind → Shared → Prop} (hp : ∀ v, v ∈ v1 :: vs → ∃ xs, IsTx s.heap v xs) (h0 : IsTx s.heap v1 []) (h : Q oneType' s) : wpAny M A (keyKind' (v1 :: vs).toArray) Q E s := by
  have hf : firstOf s.heap v1 = none := by
    obtain ⟨a, o, items, n, rfl, ho, hc, hd, hs⟩ := h0
    have e : items.toList = [] := by
      cases hi : items.toList with
      | nil => rfl
      | cons x r => rw [hi] at hs; cases hs
    show (match s.heap.get? a with
      | some o => (match o.data with
        | .seq xs _ => xs[0]?
        | _ => none)
      | none => none) = none
    rw [ho]
    dsimp only
    rw [hd]
    dsimp only
    rw [← Array.getElem?_toList, e]
    rfl
  rw [keyKind'_eq, List.mapM_toArray, map_eq_pure_bind]
  refine wpAny_bind (wpAny_bind (mapM_to (g := firstOf s.heap) _ (fun v hv Q' hq => ?_) (wpAny_pure ?_)))
  · obtain ⟨xs, a, o, items, n, rfl, ho, hc, hd, hs⟩ := hp v hv
    have e : firstOf s.heap (.ref a) = items[0]? := by
      show (match s.heap.get? a with
        | some o => (match o.data with
          | .seq xs _ => xs[0]?
          | _ => none)
        | none => none) = _
      rw [ho]
      dsimp only
      rw [hd]
    rw [e] at hq
    rw [kas_first_eq]
    refine wpAny_bind (wpAny_typeOf (T := "tuple") ⟨o, ho, hc⟩ ?_)
    rw [if_neg (by first | decide | simp)]
    exact wpAny_bind (listItems_at ho hd (wpAny_pure hq))
  · have e1 : ((List.map (firstOf s.heap) (v1 :: vs)).toArray.all fun x => x.isSome) = false := by
      rw [List.map_cons, hf]
      simp
    have e2 : (((List.map (firstOf s.heap) (v1 :: vs)).toArray[0]?).bind id).isSome = false := by
      rw [List.map_cons, hf]
      simp
    rw [e1, e2, if_neg Bool.false_ne_true, if_neg Bool.false_ne_true]
    rw [oneTypeOnly'_eq, List.mapM_toArray, map_eq_pure_bind]
    refine wpAny_bind (wpAny_bind (wpAny_bind (kas_mapM (r := Value.type "tuple") _ (fun v hv Q' hq => ?_) (wpAny_pure ?_))))
    · obtain ⟨xs, a, o, items, n, rfl, ho, hc, hd, hs⟩ := hp v hv
      exact wpAny_typeOf (T := "tuple") ⟨o, ho, hc⟩ hq
    · have e3 : ((List.map (fun _ => Value.type "tuple") (v1 :: vs)).toArray.all fun x => x == Value.type "tuple") = true := by
        simp only [List.all_toArray, List.all_map, List.all_eq_true]
        intro _ _
        rfl
      have e4 : (List.map (fun _ => Value.type "tuple") (v1 :: vs)).toArray[0]? = some (Value.type "tuple") := by simp
      rw [e4]
      simp only [e3, if_true]
      exact wpAny_pure (wpAny_pure h)
end

section
variable {P : Program} {w : World} {A : Around} {E : Value → Shared → Prop} {s : Shared}
theorem lt_tx {a b : Addr} {it1 it2 : Array Value} {xs ys : List Str} (h1 : s.heap.IsTuple a it1) (h2 : s.heap.IsTuple b it2) (s1 : StrsAre it1.toList xs) (s2 : StrsAre it2.toList ys) (hu : A.units + 1 < cLine) :
    ∃ c : Bool, wpAny (model P w) A (keyLt' oneType' (.ref a) (.ref b)) (fun r s' => s' = s ∧ r = c) (fun _ _ => False) s := by
  obtain ⟨⟨c1, d1, t1, l1⟩, o1, k1, n1, e1⟩ := h1
  obtain ⟨⟨c2, d2, t2, l2⟩, o2, k2, n2, e2⟩ := h2
  simp only at k1 e1 k2 e2
  subst k1; subst e1; subst k2; subst e2
  have at1 : ∀ j (h : j < it1.size), ∃ t, it1[j] = Value.str (xs.getD j Str.empty) t := fun j h => SS.strs_at s1 j _ (by rw [Array.getElem?_toList, Array.getElem?_eq_getElem h])
  have at2 : ∀ j (h : j < it2.size), ∃ t, it2[j] = Value.str (ys.getD j Str.empty) t := fun j h => SS.strs_at s2 j _ (by rw [Array.getElem?_toList, Array.getElem?_eq_getElem h])
  refine ⟨firstLt (fun j => xs.getD j Str.empty == ys.getD j Str.empty) (fun j => decide ((xs.getD j Str.empty).cps.toList < (ys.getD j Str.empty).cps.toList)) (decide (it1.size < it2.size)) (List.range (min it1.size it2.size)), ?_⟩
  rw [keyLt'_oneType, oneLt'_eq]
  simp only [if_true]
  refine wpAny_bind (wpAny_cRoomFor (by omega) ?_)
  refine wpAny_bind (wpAny_callSpecialIfBound?_slot (T := "tuple") ⟨_, o1, rfl⟩ PySem.F.slot_tuple_lt (call_meets PySem.F.slot_tuple_lt ⟨_, o1, rfl⟩ PySem.F.entry_tuple_lt (PySem.F.args_tuple_lt_2 _ _)
    (tuple_ltAt a b it1 it2 n1 n2 d1 d2 l1 l2 (fun j => xs.getD j Str.empty == ys.getD j Str.empty) (fun j => decide ((xs.getD j Str.empty).cps.toList < (ys.getD j Str.empty).cps.toList))) ⟨o1, o2, fun j j1 j2 => ?_, fun j j1 j2 hj => ?_, ?_⟩))
  · obtain ⟨t, e⟩ := at1 j j1
    obtain ⟨u, e'⟩ := at2 j j2
    rw [e, e']
    exact EqAt.str_str _ _ _ _
  · obtain ⟨t, e⟩ := at1 j j1
    obtain ⟨u, e'⟩ := at2 j j2
    rw [e, e']
    intro prog w' E' Q' hq
    exact PySem.P.lt_str hq
  · exact wpAny_truthy_bool ⟨rfl, rfl⟩

theorem tx_sortable {a : Addr} {v1 : Value} {vs : List Value} (hp : ∀ v, v ∈ v1 :: vs → ∃ xs, IsTx s.heap v xs) (h0 : IsTx s.heap v1 []) (ha : ∀ o, s.heap.get? a = some o → o.cls ≠ .type "tuple") (hu : A.units + 1 < cLine) :
    Srt.Sortable P w A s a (v1 :: vs) := by
  intro h' keep
  have kp : ∀ b o, s.heap.get? b = some o → o.cls = .type "tuple" → h'.get? b = some o := fun b o e c => keep b o (fun z => by subst z; exact ha o e c) e
  refine ⟨oneType', fun Q E hq => kind_tx (s := { s with heap := h' }) (fun v hv => ?_) (h0.keep kp) hq, fun p q m1 m2 => ?_⟩
  · obtain ⟨xs, z⟩ := hp v hv
    exact ⟨xs, z.keep kp⟩
  · obtain ⟨xs, z⟩ := hp _ m1
    obtain ⟨ys, y⟩ := hp _ m2
    obtain ⟨a1, o1, i1, n1, e1, g1, c1, d1, s1⟩ := z.keep kp
    obtain ⟨a2, o2, i2, n2, e2, g2, c2, d2, s2⟩ := y.keep kp
    rw [e1, e2]
    exact lt_tx (s := { s with heap := h' }) ⟨o1, g1, c1, n1, d1⟩ ⟨o2, g2, c2, n2, d2⟩ s1 s2 hu

theorem sorted_tx {l : Addr} {v1 : Value} {vs : List Value} {Q : Value → Shared → Prop} (hl : s.heap.IsList l (v1 :: vs).toArray) (hz : (v1 :: vs).length ≤ sizeLine) (hp : ∀ v, v ∈ v1 :: vs → ∃ xs, IsTx s.heap v xs) (h0 : IsTx s.heap v1 []) (hu : A.units + 64 < cLine)
    (h : ∀ (h' : Heap) (d : Addr) (out : List Value), out.Perm (v1 :: vs) → (∀ b o, s.heap.get? b = some o → h'.get? b = some o) → s.heap.objs.size ≤ d → (∃ n, h'.get? d = some (seqObj "list" out.toArray n)) → Q (.ref d) { s with heap := h' }) :
    wpAny (model P w) A (call (.builtin "sorted") [.ref l]) Q E s := by
  refine Srt.sorted_any hl hz (fun h2 h₁ a ha k => ?_) fun out ho => ?_
  · refine tx_sortable (s := { s with heap := h₁ }) (fun v hm => ?_) (h0.keep fun b o e _ => (k b o e).2) (fun o e => ?_) (by have e := Around.in1_units A; have e' := Around.in1_units A.in1; omega)
    · obtain ⟨xs, p⟩ := hp v hm
      exact ⟨xs, p.keep fun b o e _ => (k b o e).2⟩
    · have e' : some o = some (seqObj "list" (v1 :: vs).toArray 0) := e.symm.trans ha
      cases e'
      intro c
      exact absurd (Value.type.inj c) (by decide)
  · exact h _ _ out ho (fun b o e => sortedAll_old e) (Nat.le_succ _) (sortedAll_at s.heap (v1 :: vs) out.toArray)
end

section
variable {X : Cx}
/-- sorted(xs), xs a list of tuples of texts, the first of them (): the same in some order -/
def rSortTx (K : PySem.W.Frag) : List V → Hp → VK → Prop := fun vs H Q => ∃ (a : Addr) (xs : List V), vs = [V.ref a] ∧ SqL K H a xs ∧ (∀ x, x ∈ xs → ∃ (t : Addr) (ys : List Str), x = V.ref t ∧ H t = some (.tup (ys.map V.str))) ∧ (∃ (t : Addr) (r : List V), xs = V.ref t :: r ∧ H t = some (.tup [])) ∧
  ∀ ys p, ys.Perm xs → H p = none → Q (.ref p) (upd H p (.lst ys))
theorem cr_sortTx (hu : X.A.units + 64 < cLine) : CallR X (.builtin "sorted") (rSortTx X.K) := by
  intro pins s σ H vs us Q I r h
  obtain ⟨a, xs, rfl, hs, hx, ⟨t0, r0, rfl, ht0⟩, q⟩ := h
  obtain ⟨its, rv, hl, hz⟩ := I.list hs
  rw [Vals.ref1 r]
  obtain ⟨e1, e2⟩ := refs_back rv fun x m => by
    obtain ⟨t, _, e, _⟩ := hx x m
    exact ⟨t, e⟩
  have tx : ∀ t (ys : List Str), H t = some (.tup (ys.map V.str)) → IsTx s.heap (.ref t) ys := fun t ys e => by
    obtain ⟨_, its2, r2, o, ho, hc, n, hd⟩ := I.hok _ _ e
    exact ⟨t, o, its2.toArray, n, rfl, ho, hc, hd, by simpa using strsAre_of r2⟩
  cases rv with
  | @cons _ u0 _ us0 rr tt =>
    have eu : u0 = Value.ref t0 := rr
    subst eu
    refine sorted_tx hl.isList (by rw [List.length_cons, ← tt.length]; exact hz) (fun v hv => ?_) (tx t0 [] ht0) hu fun h' d out hp k hd hn => ?_
    · obtain ⟨t, rfl⟩ := e2 v hv
      have hm : V.ref t ∈ V.ref t0 :: r0 := by rw [e1]; exact List.mem_map.mpr ⟨_, hv, rfl⟩
      obtain ⟨t', ys, e, ht⟩ := hx _ hm
      cases e
      exact ⟨ys, tx t ys ht⟩
    · have h3 : ∀ u ∈ out, ∃ a, u = Value.ref a := fun u hu => e2 u (hp.mem_iff.mp hu)
      obtain ⟨n, hn⟩ := hn
      refine ⟨.ref d, upd H d (.lst (out.map backV)), I.laid (t' := s.toks) k hd ⟨?_, out, n, vals_back h3, hn⟩, rfl, q _ d ?_ (I.hok.fresh hd)⟩
      · rw [List.length_map, hp.length_eq, List.length_cons, ← tt.length]; exact hz
      · rw [e1]; exact hp.map backV
end
end TXT
end
section
set_option Elab.async false
set_option linter.all false
set_option maxRecDepth 100000
/-! sets of texts: made of a row, sorted -/
namespace TXS
open PySem PySem.Spec PyProof.Rows L2
open PySem.Froz (SD sObj tailTx addTx TxOk)

def txOf (e : Int × Value) : Str := match e.2 with | .str k _ => k | _ => Str.empty

theorem tail_parts (ep : Nat) (zs : Array (Int × Value)) (t : SetTable) (b : Bool) : (tailTx ep zs t b).1.toList.Perm zs.toList ∧ (Ris t.place.toList → Ris (tailTx ep zs t b).2.2.place.toList) ∧ (tailTx ep zs t b).2.2.led = t.led := by
  unfold tailTx
  split
  · exact ⟨relayAll_perm t zs _, fun _ => relayAll_ris t zs _, relayAll_led t zs _⟩
  · exact ⟨List.Perm.refl _, fun r => r, rfl⟩
theorem add_parts (h : Int) (v : Value) (D : SD) : (addTx h v D).1.toList.Perm ((h, v) :: D.1.toList) ∧ (Ris D.2.2.place.toList → Ris (addTx h v D).2.2.place.toList) ∧ (addTx h v D).2.2.led = D.2.2.led := by
  obtain ⟨p1, p2, p3⟩ := tail_parts D.2.1 (layNew D.2.2 D.1 h v).1 (if (layNew D.2.2 D.1 h v).2.1.plain = true then { (layNew D.2.2 D.1 h v).2.1 with plain := false } else (layNew D.2.2 D.1 h v).2.1) (layNew D.2.2 D.1 h v).2.2.1
  have q1 := layNew_perm D.2.2 D.1 h v
  rw [Array.toList_push] at q1
  refine ⟨p1.trans (q1.trans (List.perm_append_singleton _ _)), fun r => p2 ?_, p3.trans ?_⟩
  · have := layNew_ris D.2.2 D.1 h v r
    split <;> exact this
  · have := layNew_led D.2.2 D.1 h v
    split <;> exact this

/-- payload D holds the texts l, none twice, and can be walked -/
structure TxD (P : Program) (w : World) (D : SD) (l : List Str) : Prop where
  ok : TxOk P w D l
  vs : ∀ e, e ∈ D.1.toList → ∃ k t, e.2 = Value.str k t
  pm : (D.1.toList.map txOf).Perm l
  nd : l.Nodup
  ris : Ris D.2.2.place.toList
  led : w.params.followText "set-order" = true ∨ D.2.2.led = true

section
variable {P : Program} {w : World} {A : Around} {E : Value → Shared → Prop} {s : Shared}
theorem TxD.more {D : SD} {l : List Str} {k : Str} (u : Tok) (T : TxD P w D l) (hk : k ∉ l) : TxD P w (addTx (hashStr w k) (.str k u) D) (k :: l) := by
  obtain ⟨p1, p2, p3⟩ := add_parts (hashStr w k) (.str k u) D
  refine ⟨PySem.Froz.add_ok u T.ok, fun e he => ?_, (p1.map txOf).trans (List.Perm.cons k T.pm), List.nodup_cons.mpr ⟨hk, T.nd⟩, p2 T.ris, T.led.imp id (fun z => p3.trans z)⟩
  rcases List.mem_cons.mp (p1.mem_iff.mp he) with z | z
  · exact ⟨k, u, by rw [z]⟩
  · exact T.vs e z

theorem add_old {a : Addr} {D : SD} {l : List Str} {k : Str} {u : Tok} {Q : Bool → Shared → Prop} (ho : s.heap.get? a = some (sObj "set" D)) (F : TxOk P w D l) (hk : k ∈ l) (hb : l.length < scanBound)
    (h : Q false s) : wpAny (model P w) A (setAddHashed a (.str k u) (hashStr w k)) Q E s := by
  obtain ⟨zs, ep, t⟩ := D
  have f1 : (sObj "set" (zs, ep, t)).data = .set zs ep t := rfl
  have f2 : t.fits zs.size = true := F.fit
  have f3 : zs.size < scanBound := by
    have : zs.size = l.length := F.sz
    omega
  have f4 : ElemsOf (PySem.strKind P w) zs.toList := F.el
  have f5 : (PySem.strKind P w).is k (.str k u) = true := PySem.Froz.is_str k u
  unfold setAddHashed setAddHashedIn
  refine wpAny_holding (wpAny_bind (wpAny_setState_of ho f1 f2 ?_))
  dsimp only
  rw [byScan_of rfl f3 f4]
  simp only [↓reduceIte]
  unfold setAddByScan
  refine wpAny_bind (wpAny_bind (wpAny_rule (wpAny_bind (wpAny_setScan_of (knd := PySem.strKind P w) (k := k) f5 ho f1 f2 f4 ?_))))
  cases c : List.findIdx? (fun e => (PySem.strKind P w).is k e.2) zs.toList with
  | some j =>
    dsimp only
    exact wpAny_pure (wpAny_pure h)
  | none =>
    obtain ⟨e, he, q⟩ := (F.mem k).mp hk
    have := List.findIdx?_eq_none_iff.mp c e he
    rw [q] at this
    cases this

theorem fill {I : Addr} {fp wr : List Addr} {G : Array GenState → Array GenState → Prop} {n : Nat} {Pv : Nat → Value → Prop} {St : Nat → Shared → Prop} {R : Result → Shared → Prop}
    (W : WalksS P w A.in1 I fp wr G n Pv St) (S : Addr) (hS : S ∉ fp) (xs : List Str) (hn : n = xs.length) (hb : xs.length + 1 < scanBound) (hv : ∀ i v, Pv i v → ∃ k t, xs[i]? = some k ∧ v = .str k t) :
    ∀ (m i : Nat) (s : Shared) (D : SD) (l : List Str), n - i = m → i ≤ n → St i s → s.heap.get? S = some (sObj "set" D) → TxD P w D l → l.length ≤ i → (∀ k, k ∈ l ↔ k ∈ xs.take i) →
      (∀ s' D l, Moved (S :: wr) G s s' → s'.heap.get? S = some (sObj "set" D) → TxD P w D l → l.length ≤ n → (∀ k, k ∈ l ↔ k ∈ xs) → R (.ok (.ret .none)) s') →
      codeAny (model P w) A (.builtin "set.update.loop" ⟨[.ref S, .ref I], []⟩) R s := by
  have hw : S ∉ wr := fun h => hS (W.sub _ h)
  have hsub : ∀ b ∈ wr, b ∈ S :: wr := fun b hb => List.mem_cons_of_mem _ hb
  intro m
  induction m with
  | zero =>
    intro i s D l hm hi hst ho T hl hk hR
    have hin : i = n := by omega
    subst hin
    rw [List.take_of_length_le (by omega)] at hk
    refine codeAny_builtin PyProof.Rows.F.entry_set_update_loop ?_
    rw [Around.under_plainId PyProof.Rows.F.plain_set_update_loop _]
    show wpAny _ A.in1 (pyNext (.ref I) >>= _) _ _ s
    refine wpAny_bind (W.done s _ _ hst fun s' m' => ?_)
    show wpAny _ A.in1 (ret Value.none) _ _ s'
    exact wpAny_pure (hR s' D l (m'.mono hsub) (m'.heap S _ hw ho) T hl hk)
  | succ m ih =>
    intro i s D l hm hi hst ho T hl hk hR
    have hlt : i < n := by omega
    refine codeAny_builtin PyProof.Rows.F.entry_set_update_loop ?_
    rw [Around.under_plainId PyProof.Rows.F.plain_set_update_loop _]
    show wpAny _ A.in1 (pyNext (.ref I) >>= _) _ _ s
    refine wpAny_bind (W.item i s _ _ hlt hst fun v s' hP hst' m' => ?_)
    obtain ⟨z, t, hz, rfl⟩ := hv i v hP
    have ho' := m'.heap S _ hw ho
    have htake : ∀ k, k ∈ xs.take (i + 1) ↔ (k ∈ xs.take i ∨ k = z) := fun k => by
      rw [List.take_add_one, hz, List.mem_append]
      simp
    show wpAny _ A.in1 (holding [Value.str z t] (setAdd S (.str z t)) >>= _) _ _ s'
    refine wpAny_bind (wpAny_holding ?_)
    unfold setAdd
    refine wpAny_holding ?_
    refine wpAny_bind ((PySem.strKind P w).pyHash (k := z) (PySem.Froz.is_str _ _) ?_)
    by_cases c : z ∈ l
    · refine add_old (s := { s' with toks := s'.toks + 1 }) ho' T.ok c (by omega) ?_
      refine wpAny_pure ⟨plainId_quiet PyProof.Rows.F.plain_set_update_loop _, ih (i + 1) _ D l (by omega) hlt (W.frame _ s' _ _ hst' (Nat.le_succ _) fun b hb o e => e) ho' T (by omega) (fun k => ?_) fun s'' D2 l2 m2 a1 a2 a3 a4 => ?_⟩
      · rw [htake, ← hk]
        exact ⟨.inl, fun z' => z'.elim id fun e => e ▸ c⟩
      · exact hR s'' D2 l2 (Moved.trans W.gtrans ((m'.mono hsub).then_heap (Nat.le_succ _) fun b o hb e => e) m2) a1 a2 a3 a4
    · refine PySem.Froz.add_x (s := { s' with toks := s'.toks + 1 }) ho' T.ok c (by omega) ?_
      have hne : ∀ b, b ≠ S → ∀ o, s'.heap.get? b = some o → (s'.heap.update S (fun _ => sObj "set" (addTx (hashStr w z) (.str z t) D))).get? b = some o := fun b hb o e => PySem.Heap.get?_update_of_ne _ (Ne.symm hb) e
      refine wpAny_pure ⟨plainId_quiet PyProof.Rows.F.plain_set_update_loop _, ih (i + 1) _ _ (z :: l) (by omega) hlt (W.frame _ s' _ _ hst' (Nat.le_succ _) fun b hb o e => hne b (fun q => hS (q ▸ hb)) o e) (PySem.Froz.get_upd _ ho' rfl) (T.more t c) (by rw [List.length_cons]; omega) (fun k => ?_) fun s'' D2 l2 m2 a1 a2 a3 a4 => ?_⟩
      · rw [htake, List.mem_cons, hk]
        exact Or.comm
      · exact hR s'' D2 l2 (Moved.trans W.gtrans ((m'.mono hsub).then_heap (Nat.le_succ _) fun b o hb e => hne b (fun q => hb (by rw [q]; exact List.mem_cons_self)) o e) m2) a1 a2 a3 a4

abbrev set0 (w : World) : Obj := { cls := .type "set", dict := none, data := .set #[] 0 (.fresh 0 0 (!w.params.followText "set-order")) }
theorem txd0 : TxD P w (#[], 0, .fresh 0 0 (!w.params.followText "set-order")) [] :=
  ⟨PySem.Froz.TxOk.nil rfl, fun e he => by simp at he, List.Perm.refl _, List.nodup_nil, List.Pairwise.nil, by
    show _ ∨ (!w.params.followText "set-order") = true
    cases w.params.followText "set-order" <;> simp⟩

set_option maxHeartbeats 3200000 in
theorem set_row {T : String} (hT : T = "list" ∨ T = "tuple") {l : Addr} {items : Array Value} (xs : List Str) {Q : Value → Shared → Prop} (hh : A.handled = none)
    (hl : (T = "list" → s.heap.IsList l items) ∧ (T = "tuple" → s.heap.IsTuple l items)) (hi : StrsAre items.toList xs) (hb : xs.length + 1 < scanBound)
    (h : ∀ (h' : Heap) (tk : Nat) (D : SD) (ys : List Str), h'.get? s.heap.objs.size = some (sObj "set" D) → TxD P w D ys → ys.length ≤ xs.length → (∀ k, k ∈ ys ↔ k ∈ xs) →
      (∀ b o, s.heap.get? b = some o → h'.get? b = some o) → Q (.ref s.heap.objs.size) { s with heap := h', toks := tk }) :
    wpAny (model P w) A (call (.type "set") [.ref l]) Q E s := by
  have hsz : items.size = xs.length := by rw [← StrsAre.len_eq hi, Array.length_toList]
  obtain ⟨c, tl, hmro⟩ := PySem.F.called_set.mro
  have hmade := PySem.F.called_set.made
  have hsub := PySem.F.called_set.sub
  refine wpAny_call (codeAny_of_tree ?_)
  show wpAny _ _ (callAny (.type "set") _) _ _ _
  refine wpAny_pure ⟨Code.quiet_builtin _ (by decide +kernel), codeAny_builtin PySem.F.entry_type_call ?_⟩
  rw [Around.under_plain (weight_type_call_type "set" [.ref l] []) rfl]
  have h1 := PySem.F.called_set.notType
  have h2 := PySem.F.called_set.canCreate
  have hct := PySem.F.typeCall_set_1 (.ref l)
  repeat (any_goals (first | assumption | wp_step))
  refine codeAny_mono (code_set_led1 (.ref l) (E := E) (Q₁ := fun obj s₁ => obj = .ref s.heap.objs.size ∧ s₁ = { s with heap := s.heap.push (set0 w) }) ⟨rfl, rfl⟩) fun r s₁ hr => ?_
  cases r with
  | error e => exact hr
  | ok fl =>
    cases fl with
    | ret obj =>
      obtain ⟨rfl, rfl⟩ := hr
      have g1 : (s.heap.push (set0 w)).get? s.heap.objs.size = some (set0 w) := Heap.get?_push_size _ rfl
      have g2 : Shared.TypeIs { s with heap := s.heap.push (set0 w) } (.ref s.heap.objs.size) "set" := ⟨_, g1, rfl⟩
      have hli := PySem.F.called_set.init.lookup
      have hbi := PySem.F.called_set.init.bind (.ref s.heap.objs.size)
      repeat (any_goals (first | assumption | wp_step))
      refine codeAny_mono (codeAny_call_builtin (R := wants (fun r s₂ => r = .none ∧ ∃ h' tk D ys, s₂ = { s with heap := h', toks := tk } ∧ h'.get? s.heap.objs.size = some (sObj "set" D) ∧ TxD P w D ys ∧
          ys.length ≤ xs.length ∧ (∀ k, k ∈ ys ↔ k ∈ xs) ∧ (∀ b o, s.heap.get? b = some o → h'.get? b = some o)) E) PySem.F.called_set.init.plain PySem.F.entry_set_init (check_set_init_1 g2 ?_)) fun r₂ s₂ hr₂ => ?_
      · have hv : ∀ (i : Nat) (v : Value), items[i]? = some v → ∃ k t, xs[i]? = some k ∧ v = .str k t := fun i v hv => by
          have h3 : i < xs.length := by rw [← hsz]; exact (Array.getElem?_eq_some_iff.mp hv).1
          obtain ⟨t, e⟩ := SS.strs_at hi i v (by rw [Array.getElem?_toList]; exact hv)
          exact ⟨xs[i], t, List.getElem?_eq_getElem h3, by rw [e, List.getD_eq_getElem?_getD, List.getElem?_eq_getElem h3] <;> rfl⟩
        rcases hT with rfl | rfl
        · obtain ⟨⟨oc, od, odat, os⟩, hol, hc, nl, hd⟩ := hl.1 rfl
          simp only at hc hd
          subst hc; subst hd
          have g3 : (s.heap.push (set0 w)).get? l = some { cls := .type "list", dict := od, data := .seq items nl, slots := os } := Heap.get?_push_of_some _ hol
          have k1 := PySem.F.sub_list_set
          have k2 := PySem.F.sub_list_frozenset
          have k3 : (Value.type "list" == Value.type "dict") = false := by decide
          have g4 : (s.heap.push (set0 w)).IsList l items := ⟨_, g3, rfl, nl, rfl⟩
          unfold Builtin.«set.__init__» noKeywords Builtin.Frozenset.updateFrom
          generalize hPI : pyIter = PI
          wp_walk
          subst hPI
          refine wpAny_pyIter_list g4 ?_
          refine wpAny_bind (wpAny_runValue ?_)
          have h5 : l < s.heap.objs.size := Heap.lt_size hol
          have h6 : A.in1.in1.in1.handled = none := by simp [hh]
          have h7 : (s.heap.push (set0 w)).objs.size = s.heap.objs.size + 1 := Heap.size_push ..
          have h8 : l ≠ (s.heap.push (set0 w)).objs.size := by rw [h7]; exact Nat.ne_of_lt (Nat.lt_succ_of_lt h5)
          have h9 : s.heap.objs.size ∉ [(s.heap.push (set0 w)).objs.size, l] := by rw [h7]; simp only [List.mem_cons, List.not_mem_nil, or_false, not_or]; exact ⟨Nat.ne_of_lt (Nat.lt_succ_self _), Nat.ne_of_gt h5⟩
          have h10 : ∀ b, b < s.heap.objs.size → b ∉ [s.heap.objs.size, (s.heap.push (set0 w)).objs.size] := fun b hb => by rw [h7]; simp only [List.mem_cons, List.not_mem_nil, or_false, not_or]; exact ⟨Nat.ne_of_lt hb, Nat.ne_of_lt (Nat.lt_succ_of_lt hb)⟩
          refine fill ((Walks.list h6 _ l h8 items).toS) s.heap.objs.size h9 xs hsz hb hv (items.size - 0) 0 _ (#[], 0, .fresh 0 0 (!w.params.followText "set-order")) [] (by omega) (Nat.zero_le _)
            ⟨⟨_, Heap.get?_push_size _ rfl, rfl, rfl⟩, g4.push _⟩ (Heap.get?_push_of_some _ (show (s.heap.push (set0 w)).get? s.heap.objs.size = some (sObj "set" (#[], 0, .fresh 0 0 (!w.params.followText "set-order"))) from g1)) txd0 (Nat.le_refl _) (fun k => by simp) fun s' D ys m' a1 a2 a3 a4 => ?_
          obtain ⟨h', g', d', tk', os'⟩ := s'
          obtain rfl : g' = s.gens := m'.gens
          obtain rfl : d' = s.drawn := m'.drawn
          obtain rfl : os' = s.os := m'.os
          refine wpAny_pure ?_
          show wpAny _ _ (ret Value.none) _ _ _
          refine wpAny_pure ⟨rfl, h', tk', D, ys, rfl, a1, a2, by omega, a4, fun b o e => ?_⟩
          have hbl : b < s.heap.objs.size := Heap.lt_size e
          exact m'.heap b o (h10 b hbl) (Heap.get?_push_of_some _ (Heap.get?_push_of_some _ e))
        · obtain ⟨⟨oc, od, odat, os⟩, hol, hc, nl, hd⟩ := hl.2 rfl
          simp only at hc hd
          subst hc; subst hd
          have g3 : (s.heap.push (set0 w)).get? l = some { cls := .type "tuple", dict := od, data := .seq items nl, slots := os } := Heap.get?_push_of_some _ hol
          have k1 := PySem.F.sub_tuple_set
          have k2 := PySem.F.sub_tuple_frozenset
          have k3 : (Value.type "tuple" == Value.type "dict") = false := by decide
          have g4 : (s.heap.push (set0 w)).IsTuple l items := ⟨_, g3, rfl, nl, rfl⟩
          unfold Builtin.«set.__init__» noKeywords Builtin.Frozenset.updateFrom
          generalize hPI : pyIter = PI
          wp_walk
          subst hPI
          refine wpAny_pyIter_tuple g4 ?_
          refine wpAny_bind (wpAny_runValue ?_)
          have h5 : l < s.heap.objs.size := Heap.lt_size hol
          have h6 : A.in1.in1.in1.handled = none := by simp [hh]
          have h7 : (s.heap.push (set0 w)).objs.size = s.heap.objs.size + 1 := Heap.size_push ..
          have h8 : l ≠ (s.heap.push (set0 w)).objs.size := by rw [h7]; exact Nat.ne_of_lt (Nat.lt_succ_of_lt h5)
          have h9 : s.heap.objs.size ∉ [(s.heap.push (set0 w)).objs.size, l] := by rw [h7]; simp only [List.mem_cons, List.not_mem_nil, or_false, not_or]; exact ⟨Nat.ne_of_lt (Nat.lt_succ_self _), Nat.ne_of_gt h5⟩
          have h10 : ∀ b, b < s.heap.objs.size → b ∉ [s.heap.objs.size, (s.heap.push (set0 w)).objs.size] := fun b hb => by rw [h7]; simp only [List.mem_cons, List.not_mem_nil, or_false, not_or]; exact ⟨Nat.ne_of_lt hb, Nat.ne_of_lt (Nat.lt_succ_of_lt hb)⟩
          refine fill ((Walks.tuple h6 _ l h8 items).toS) s.heap.objs.size h9 xs hsz hb hv (items.size - 0) 0 _ (#[], 0, .fresh 0 0 (!w.params.followText "set-order")) [] (by omega) (Nat.zero_le _)
            ⟨⟨_, Heap.get?_push_size _ rfl, rfl, rfl⟩, g4.push _⟩ (Heap.get?_push_of_some _ (show (s.heap.push (set0 w)).get? s.heap.objs.size = some (sObj "set" (#[], 0, .fresh 0 0 (!w.params.followText "set-order"))) from g1)) txd0 (Nat.le_refl _) (fun k => by simp) fun s' D ys m' a1 a2 a3 a4 => ?_
          obtain ⟨h', g', d', tk', os'⟩ := s'
          obtain rfl : g' = s.gens := m'.gens
          obtain rfl : d' = s.drawn := m'.drawn
          obtain rfl : os' = s.os := m'.os
          refine wpAny_pure ?_
          show wpAny _ _ (ret Value.none) _ _ _
          refine wpAny_pure ⟨rfl, h', tk', D, ys, rfl, a1, a2, by omega, a4, fun b o e => ?_⟩
          have hbl : b < s.heap.objs.size := Heap.lt_size e
          exact m'.heap b o (h10 b hbl) (Heap.get?_push_of_some _ (Heap.get?_push_of_some _ e))
      · cases r₂ with
        | error e => exact hr₂
        | ok fl₂ =>
          cases fl₂ with
          | ret r =>
            obtain ⟨rfl, h', tk, D, ys, rfl, a1, a2, a3, a4, a5⟩ := hr₂
            repeat (any_goals (first | assumption | wp_step))
            exact h _ _ D ys a1 a2 a3 a4 a5
          | _ => exact hr₂.elim
    | _ => exact hr.elim

/-- the members, sorted -/
theorem sorted_txs {a : Addr} {D : SD} {l : List Str} {Q : Value → Shared → Prop} (ho : s.heap.get? a = some (sObj "set" D)) (T : TxD P w D l) (hh : A.handled = none) (h64 : l.length < 64)
    (hQ : ∀ s' p (out : Array Value) (c : Nat) (ys : List Str), (∀ b o, s.heap.get? b = some o → s'.heap.get? b = some o) → s'.gens = s.gens → s'.os = s.os → s.heap.objs.size ≤ p →
      s'.heap.get? p = some (seqObj "list" out c) → StrsAre out.toList ys → ys.Perm l → sortedS ys = true → Q (.ref p) s') :
    wpAny (model P w) A (call (.builtin "sorted") [.ref a]) Q E s := by
  obtain ⟨zs, ep, t⟩ := D
  have hsz : zs.size = l.length := T.ok.sz
  refine Calls.call_function_entry kind_sorted plain_sorted entry_sorted (args_sorted1 _) ?_
  unfold Builtin.«sorted»
  refine wpAny_bind (m := checkCount "sorted" 1 1 _) (wpAny_pure ?_)
  refine wpAny_bind (collect_set (A := A.in1) (es := zs) (ep := ep) (t := t) hh ⟨_, ho, rfl, rfl⟩ T.ok.fit (by have : scanBound = 4096 := rfl; omega) T.ris T.led fun s1 vs k1 hz g1 o1 pm => ?_)
  have hvl : vs.length = l.length := by rw [pm.length_eq, List.length_map, Array.length_toList]; exact hsz
  have hS : StrsAre vs (vs.map fun v => txOf (0, v)) := by
    have : ∀ v, v ∈ vs → ∃ k t, v = Value.str k t := fun v hv => by
      obtain ⟨e, he, q⟩ := List.mem_map.mp (pm.mem_iff.mp hv)
      obtain ⟨k, t, h1⟩ := T.vs e he
      exact ⟨k, t, by rw [← q]; exact h1⟩
    clear pm hvl
    induction vs with
    | nil => exact .nil
    | cons v vs ih =>
      obtain ⟨k, t, rfl⟩ := this v List.mem_cons_self
      exact .cons k t (ih fun u hu => this u (List.mem_cons_of_mem _ hu))
  have pl : (vs.map fun v => txOf (0, v)).Perm l := by
    have q := pm.map fun v => txOf (0, v)
    rw [List.map_map] at q
    exact q.trans T.pm
  refine wpAny_bind (wpAny_newList ?_ (by rw [hvl, sizeLine_eq]; omega))
  have hoL : (s1.heap.push (seqObj "list" vs.toArray 0)).get? s1.heap.objs.size = some (seqObj "list" vs.toArray 0) := Heap.get?_push_size _ rfl
  refine wpAny_bind (wpAny_holding (wpAny_call_entry slot_list_sort ⟨_, hoL, rfl⟩ entry_list_sort (list_sort_treeK (κ := PyProof.Rows.strKind) strKind_oneLt hoL hS.keysOf (fun v₁ v₂ rest e => keyKind_strs (by rw [← e]; exact hS)) (by rw [hvl]; exact h64) fun st' a1 a2 => ⟨_, rfl, ?_⟩) (args_list_sort _)))
  obtain ⟨ys, b1, b2, b3⟩ := sorted_out_str hS a1 a2
  obtain ⟨c, hc⟩ := sortedHeap_at (vs := vs) (out := (arrOf st').map (·.2)) hoL
  refine wpAny_pure ⟨_, rfl, hQ _ s1.heap.objs.size _ c ys (fun b u e => ?_) g1 o1 hz hc b1 (b2.trans pl) b3⟩
  have q := k1 b u e
  have hlt := Heap.lt_size q
  show (sortedHeap (s1.heap.push (seqObj "list" vs.toArray 0)) s1.heap.objs.size vs _).get? b = some u
  rw [sortedHeap_old (Nat.ne_of_lt hlt) (by rw [size_push']; exact Nat.lt_succ_of_lt hlt)]
  exact Heap.get?_push_of_some _ q
end

/-! ### as rules -/
/-- the set of the texts l at a -/
def SetX (P : Program) (w : World) (a : Addr) (l : List Str) : HO := .ext fun h => ∃ D, h.get? a = some (sObj "set" D) ∧ TxD P w D l
section
variable {X : Cx}
/-- set(xs), xs a list or a tuple of texts -/
def rSetX (K : PySem.W.Frag) (P : Program) (w : World) : List V → Hp → VK → Prop := fun vs H Q => ∃ (l : Addr) (xs : List Str), vs = [.ref l] ∧ (SqL K H l (xs.map V.str) ∨ SqT K H l (xs.map V.str)) ∧ xs.length < 64 ∧
  ∀ p ys, H p = none → ys.Nodup → (∀ k, k ∈ ys ↔ k ∈ xs) → ys.length ≤ xs.length → Q (.ref p) (upd H p (SetX P w p ys))
theorem cr_setX (hc : X.calm = true) : CallR X (.type "set") (rSetX X.K X.prog X.w) := by
  intro pins s σ H vs us Q I r h
  obtain ⟨l, xs, rfl, hq, h64, q⟩ := h
  rw [Vals.ref1 r]
  have hb : xs.length + 1 < scanBound := by have : scanBound = 4096 := rfl; omega
  have hn : H s.heap.objs.size = none := I.hok.fresh (Nat.le_refl _)
  have fin : ∀ (h' : Heap) (tk : Nat) (D : SD) (ys : List Str), h'.get? s.heap.objs.size = some (sObj "set" D) → TxD X.prog X.w D ys → ys.length ≤ xs.length → (∀ k, k ∈ ys ↔ k ∈ xs) →
      (∀ b o, s.heap.get? b = some o → h'.get? b = some o) → EP X pins σ Q (.ref s.heap.objs.size) { s with heap := h', toks := tk } := fun h' tk D ys a1 a2 a3 a4 a5 =>
    ⟨.ref s.heap.objs.size, upd H s.heap.objs.size (SetX X.prog X.w s.heap.objs.size ys), I.laid (t' := tk) a5 (Nat.le_refl _) ⟨⟨D, a1, a2⟩, ⟨_, a1⟩, fun h1 h2 ⟨D, b1, b2⟩ k => ⟨D, k _ b1, b2⟩⟩, rfl, q _ ys hn a2.nd a4 a3⟩
  rcases hq with hq | hq
  · obtain ⟨its, rv, pl, hz⟩ := I.list hq
    exact set_row (T := "list") (.inl rfl) xs (I.ok.hd hc) ⟨fun _ => pl.isList, fun e => absurd e (by decide)⟩ (by simpa using strsAre_of rv) hb fin
  · obtain ⟨its, rv, pl, hz⟩ := I.tuple hq
    exact set_row (T := "tuple") (.inr rfl) xs (I.ok.hd hc) ⟨fun e => absurd e (by decide), fun _ => pl⟩ (by simpa using strsAre_of rv) hb fin
/-- sorted(t), t a set of texts -/
def rSortX (P : Program) (w : World) : List V → Hp → VK → Prop := fun vs H Q => ∃ (a : Addr) (l : List Str), vs = [.ref a] ∧ H a = some (SetX P w a l) ∧ l.length < 64 ∧
  ∀ (ys : List Str) (p : Addr), ys.Perm l → sortedS ys = true → H p = none → Q (.ref p) (upd H p (.lst (ys.map V.str)))
theorem cr_sortX (hc : X.calm = true) : CallR X (.builtin "sorted") (rSortX X.prog X.w) := by
  intro pins s σ H vs us Q I r h
  obtain ⟨a, l, rfl, ha, h64, q⟩ := h
  rw [Vals.ref1 r]
  obtain ⟨D, ho, T⟩ : ∃ D, s.heap.get? a = some (sObj "set" D) ∧ TxD X.prog X.w D l := (I.hok a _ ha).1
  refine sorted_txs ho T (I.ok.hd hc) h64 fun s' p out c ys k g o hp hg hi pm hs => ?_
  have hlen : (ys.map V.str).length ≤ sizeLine := by rw [List.length_map, pm.length_eq, sizeLine_eq]; omega
  have hn : H p = none := I.hok.fresh hp
  have J : Inv X pins σ (upd H p (.lst (ys.map V.str))) { s with heap := s'.heap, gens := s'.gens, drawn := s'.drawn, toks := s'.toks } :=
    I.call (ch := []) (Un.laid k hp hn) (I.hok.laid k hp ⟨hlen, out.toList, c, vals_of_strs hi, hg⟩) (by rw [g]; exact I.bare) (fun _ z => nomatch z)
  have e : s' = { s with heap := s'.heap, gens := s'.gens, drawn := s'.drawn, toks := s'.toks } := by
    cases s'; cases s; cases o; rfl
  rw [e]
  exact ⟨.ref p, _, J, rfl, q ys p pm hs hn⟩
end
end TXS
end
section
set_option Elab.async false
set_option linter.all false
set_option maxRecDepth 100000
set_option maxHeartbeats 4000000
/-! what all defs' proofs share -/
namespace Wk
open PySem PySem.Spec PyProof.Rows L2 Evl
/-- a def of the text as the layer takes it -/
theorem fun_of {K : PySem.W.Frag} {x qual : Str} {st : Stmt} {f : Addr} {fd : FuncData} (F : FunD K x qual (defArgs st) (defBody st) (defScope st) [] [] f fd) : Fun K x qual st f fd := by
  obtain ⟨⟨oc, od, dV, kV, doc, pm, an, cdv, ct, osl, e, l, c, d, k⟩, kp⟩ := F
  rcases d with ⟨_, rfl⟩ | ⟨q, _⟩
  · exact ⟨⟨oc, od, kV, doc, pm, an, cdv, ct, osl, e, l, c⟩, kp⟩
  · exact (q rfl).elim
/-- a def of the module keeps its promise, and is called by its name -/
def OkD (P : Program) (w : World) (K : PySem.W.Frag) (mg : Str → Option Value) (base : Heap) (CX : CXT) (k : Nat) (x : Str) (ps : List Str) (sp : Sp) : Prop :=
  ∃ fd, FnOk P w K mg base CX k (He.ga K x) fd ps sp ∧ Binds K fd ps [] ∧ mg x = some (.ref (He.ga K x)) ∧ PySem.W.keepIn K (.ref (He.ga K x)) = true
/-- a method of a class -/
def OkM (P : Program) (w : World) (K : PySem.W.Frag) (mg : Str → Option Value) (base : Heap) (k : Nat) (C m : Str) (ps : List Str) (sp : Sp) : Prop :=
  ∃ fd, FnOk P w K mg base CX0 k (He.ma K (He.ga K C) m) fd ps sp ∧ Binds K fd ps [] ∧ Cls K (He.ga K C) ∧ Meth K (He.ga K C) m (He.ma K (He.ga K C) m)
/-- the making of an instance -/
def OkC (P : Program) (w : World) (K : PySem.W.Frag) (mg : Str → Option Value) (base : Heap) (k : Nat) (C : Str) (ps : List Str) (sp : Sp) : Prop :=
  ∃ fd, FnOk P w K mg base CX0 k (He.ma K (He.ga K C) "__init__") fd ps sp ∧ Binds K fd ps [] ∧ mg C = some (.ref (He.ga K C)) ∧ Mk K (He.ga K C) (He.ma K (He.ga K C) "__init__")
section
variable {X : Cx} {x m : Str} {p pos apos : Pos} {e o : Expr} {es : List Expr} {te ta : TE} {t : TA}
theorem pe_gi {n : Int} (h : ∃ t, X.mg x = some (.int n t)) (hg : Gl X x := by rfl) (hd : (x == ("__debug__" : Str)) = false := by decide) : PE X (.Name x pos) (tC (.int n)) :=
  let ⟨t, h⟩ := h; pe_glob hg h ⟨t, rfl⟩ hd
theorem pe_gs {z : Str} (h : ∃ t, X.mg x = some (.str z t)) (hg : Gl X x := by rfl) (hd : (x == ("__debug__" : Str)) = false := by decide) : PE X (.Name x pos) (tC (.str z)) :=
  let ⟨t, h⟩ := h; pe_glob hg h ⟨t, rfl⟩ hd
/-- an expression, a statement that is never come to -/
theorem pe_never : PE X e (fun _ _ _ => False) := ⟨fun _ _ _ _ _ _ h => h.elim⟩
end
/-! ### slots, small steps -/
theorem is_str {K : PySem.W.Frag} {H : Hp} {z : Str} {Q : VK} (q : Q (.bl true) H) : rIsi K [.str z, .ty "str"] H Q := ⟨_, _, _, _, _, rfl, .ty _, .base (.str _), kit_ty (by decide +kernel), q⟩
theorem is_ty {K : PySem.W.Frag} {H : Hp} {v : V} {m n : String} {b : Bool} {Q : VK} (ty : TyX K H v (.type m)) (h : kitB m n = some b) (q : Q (.bl b) H) : rIsi K [v, .ty n] H Q := ⟨_, _, _, _, _, rfl, .ty _, ty, kit_ty h, q⟩
theorem is_int {K : PySem.W.Frag} {H : Hp} {i : Int} {Q : VK} (q : Q (.bl true) H) : rIsi K [.int i, .ty "int"] H Q := ⟨_, _, _, _, _, rfl, .ty _, .base (.int _), kit_ty (by decide +kernel), q⟩
theorem is_int_tup {K : PySem.W.Frag} {H : Hp} {a : Addr} {xs : List V} {Q : VK} (h : H a = some (.tup xs)) (q : Q (.bl false) H) : rIsi K [.ref a, .ty "int"] H Q := ⟨_, _, _, _, _, rfl, .ty _, .base (.tup h), kit_ty (by decide +kernel), q⟩
end Wk
end
section
set_option Elab.async false
set_option linter.all false
set_option maxRecDepth 100000
set_option maxHeartbeats 4000000
/-! texts as lists of signs -/
namespace Wk
open PySem PySem.Spec PyProof.Rows L2 Evl
abbrev tx (l : List Nat) : Str := ⟨l.toArray⟩
theorem tx_toList (l : List Nat) : (tx l).cps.toList = l := rfl
theorem tx_len (l : List Nat) : (tx l).length = l.length := by show l.toArray.size = _; simp
theorem tx_of (z : Str) : tx z.cps.toList = z := by obtain ⟨a⟩ := z; rfl
theorem tx_inj {l m : List Nat} (h : tx l = tx m) : l = m := by
  have := congrArg (fun z : Str => z.cps.toList) h
  exact this
theorem tx_eq {l m : List Nat} : tx l = tx m ↔ l = m := ⟨tx_inj, fun h => by rw [h]⟩
theorem tx_app (l m : List Nat) : tx l ++ tx m = tx (l ++ m) := by
  show (⟨l.toArray ++ m.toArray⟩ : Str) = ⟨(l ++ m).toArray⟩
  simp
theorem tx_nil : ("" : Str) = tx [] := by decide
theorem cut_tx (l : List Nat) {a b : Nat} (hb : b ≤ l.length) (hab : a ≤ b) : cutS (tx l) (some (a : Int)) (some (b : Int)) = tx ((l.drop a).take (b - a)) := by
  show tx (((tx l).cps.toList.drop (HT.sIx (tx l).length 0 (some (a : Int)))).take (HT.sIx (tx l).length (tx l).length (some (b : Int)) - HT.sIx (tx l).length 0 (some (a : Int)))) = _
  rw [HT.sIx_nat, HT.sIx_nat, tx_len, Nat.min_eq_left hb, Nat.min_eq_left (Nat.le_trans hab hb)]
theorem cut_from (l : List Nat) (a : Nat) : cutS (tx l) (some (a : Int)) none = tx (l.drop a) := by
  show tx (((tx l).cps.toList.drop (HT.sIx (tx l).length 0 (some (a : Int)))).take (HT.sIx (tx l).length (tx l).length none - HT.sIx (tx l).length 0 (some (a : Int)))) = _
  rw [HT.sIx_nat, HT.sIx_none, tx_len]
  have e : (tx l).cps.toList = l := rfl
  rw [e]
  by_cases h : a ≤ l.length
  · rw [Nat.min_eq_left h, List.take_of_length_le (by rw [List.length_drop]; omega)]
  · rw [Nat.min_eq_right (by omega), List.drop_eq_nil_of_le (Nat.le_refl _), List.drop_eq_nil_of_le (show l.length ≤ a by omega)]
    simp
/-! the signs of words -/
def small : List Nat := (List.range 26).map (· + 97)
def great : List Nat := (List.range 26).map (· + 65)
def digs : List Nat := (List.range 10).map (· + 48)
def isAl (c : Nat) : Bool := decide (c ∈ small ++ great ++ digs)
theorem small_eq : ("abcdefghijklmnopqrstuvwxyz" : Str) = tx small := by decide +kernel
theorem great_eq : ("ABCDEFGHIJKLMNOPQRSTUVWXYZ" : Str) = tx great := by decide +kernel
theorem digs_eq : ("0123456789" : Str) = tx digs := by decide +kernel
/-- how many signs of a word stand ahead, at most n -/
def alen : Nat → List Nat → Nat
  | 0, _ => 0
  | _ + 1, [] => 0
  | n + 1, c :: r => if isAl c then alen n r + 1 else 0
theorem alen_le : ∀ (n : Nat) (l : List Nat), alen n l ≤ n ∧ alen n l ≤ l.length
  | 0, _ => ⟨Nat.le_refl _, Nat.zero_le _⟩
  | _ + 1, [] => ⟨Nat.zero_le _, Nat.le_refl _⟩
  | n + 1, c :: r => by
    have h := alen_le n r
    unfold alen
    split
    · simp only [List.length_cons]; omega
    · simp
/-- one more sign -/
theorem alen_step {n : Nat} {l : List Nat} {i : Nat} : i < alen n l ↔ i < n ∧ (∀ j, j ≤ i → ∃ c, l[j]? = some c ∧ isAl c = true) := by
  induction n generalizing l i with
  | zero => simp [alen]
  | succ n ih =>
    cases l with
    | nil =>
      simp only [alen, Nat.not_lt_zero, false_iff, not_and]
      intro _ h
      obtain ⟨c, hc, _⟩ := h 0 (Nat.zero_le _)
      simp at hc
    | cons a r =>
      unfold alen
      by_cases ha : isAl a = true
      · rw [if_pos ha]
        cases i with
        | zero =>
          simp only [Nat.zero_lt_succ, true_and, true_iff]
          intro j hj
          have : j = 0 := by omega
          subst this
          exact ⟨a, rfl, ha⟩
        | succ i =>
          rw [Nat.succ_lt_succ_iff, ih]
          constructor
          · rintro ⟨h1, h2⟩
            refine ⟨by omega, fun j hj => ?_⟩
            cases j with
            | zero => exact ⟨a, rfl, ha⟩
            | succ j => exact h2 j (by omega)
          · rintro ⟨h1, h2⟩
            exact ⟨by omega, fun j hj => h2 (j + 1) (by omega)⟩
      · rw [if_neg ha]
        simp only [Nat.not_lt_zero, false_iff, not_and]
        intro _ h
        obtain ⟨c, hc, h2⟩ := h 0 (Nat.zero_le _)
        have : a = c := Option.some.inj hc
        subst this
        exact ha h2
/-- the word at the beginning, none: [] -/
def goodW (w : List Nat) : Bool := match w with
  | [] => false
  | c :: r => decide (w.length ≤ 8) && (!decide (c ∈ digs) && !(r.any fun d => decide (d ∈ great)))
def wordOf (l : List Nat) : List Nat := let w := l.take (alen 9 l); if goodW w then w else []
def wd (l : List Nat) : List Nat := l.take (alen 9 l)
theorem wordOf_eq (l : List Nat) : wordOf l = if goodW (wd l) then wd l else [] := rfl
theorem goodW_eq (w : List Nat) : goodW w = ((w != [] && (decide (w.length ≤ 8) && !decide (w.headD 0 ∈ digs))) && !(w.drop 1).any fun d => decide (d ∈ great)) := by
  cases w with
  | nil => rfl
  | cons c r =>
    unfold goodW
    show _ = ((true && (decide ((c :: r).length ≤ 8) && !decide (c ∈ digs))) && !r.any fun d => decide (d ∈ great))
    rw [Bool.true_and, Bool.and_assoc]
theorem alen_next {m : List Nat} {i : Nat} (hi : i ≤ alen 9 m) : (decide (i < m.length) && (decide (i ≤ 8) && isAl (m.getD i 0))) = decide (i < alen 9 m) := by
  rw [Bool.eq_iff_iff]
  simp only [Bool.and_eq_true, decide_eq_true_eq]
  rw [alen_step]
  constructor
  · rintro ⟨h1, h2, h3⟩
    refine ⟨by omega, fun j hj => ?_⟩
    by_cases e : j = i
    · subst e
      refine ⟨m.getD j 0, ?_, h3⟩
      rw [List.getD_eq_getElem?_getD, List.getElem?_eq_getElem h1]
      rfl
    · exact ((alen_step (n := 9) (l := m) (i := j)).mp (by omega)).2 j (Nat.le_refl _)
  · rintro ⟨h1, h2⟩
    obtain ⟨c, hc, ha⟩ := h2 i (Nat.le_refl _)
    have hl := (List.getElem?_eq_some_iff.mp hc).1
    refine ⟨hl, by omega, ?_⟩
    rw [List.getD_eq_getElem?_getD, hc]
    exact ha
/-! ### readings that end in a value, for texts -/
section
variable {K : PySem.W.Frag} {σ : L2.St} {H : Hp} {ta tb te : TE}
theorem rv_addS {a b : Str} (h : a.length + b.length ≤ sizeLine) : RV (fun x y H Q => ∃ i j, x = V.str i ∧ y = V.str j ∧ i.length + j.length ≤ sizeLine ∧ Q (.str (i ++ j)) H) (.str a) (.str b) H (.str (a ++ b)) :=
  fun H1 _ _ q => ⟨a, b, rfl, rfl, h, q H1 (Ex.refl H1)⟩
theorem rv_inS {c : Nat} {z : Str} : RV (fun x y H Q => ∃ (c : Nat) (z : Str), x = V.str ⟨#[c]⟩ ∧ y = V.str z ∧ Q (.bl (decide (c ∈ z.cps.toList))) H) (.str ⟨#[c]⟩) (.str z) H (.bl (decide (c ∈ z.cps.toList))) :=
  fun H1 _ _ q => ⟨c, z, rfl, rfl, q H1 (Ex.refl H1)⟩
theorem rv_niS {c : Nat} {z : Str} : RV (fun x y H Q => ∃ (c : Nat) (z : Str), x = V.str ⟨#[c]⟩ ∧ y = V.str z ∧ Q (.bl (!decide (c ∈ z.cps.toList))) H) (.str ⟨#[c]⟩) (.str z) H (.bl (!decide (c ∈ z.cps.toList))) :=
  fun H1 _ _ q => ⟨c, z, rfl, rfl, q H1 (Ex.refl H1)⟩
theorem ev_lenS {z : Str} (h : Ev te σ H (.str z)) (hz : z.length ≤ sizeLine) : Ev (tCB (fun xs H Q => ∃ z, xs = [V.str z] ∧ z.length ≤ sizeLine ∧ Q (.int z.length) H) (tCons te tNil)) σ H (.int (z.length : Int)) :=
  fun H1 e Q q => h H1 e _ fun H2 e2 => ⟨z, rfl, hz, q H2 e2⟩
theorem ev_slS {tl th : TO} {z : Str} {lo hi : Option Int} (h : Ev te σ H (.str z)) (h1 : EvO tl σ H lo) (h2 : EvO th σ H hi) (hz : z.length ≤ sizeLine) : Ev (tSl rSlS te tl th) σ H (.str (cutS z lo hi)) :=
  fun H1 e Q q => h H1 e _ fun H2 e2 => h1 H2 (e.trans e2) _ fun H3 e3 => h2 H3 ((e.trans e2).trans e3) _ fun H4 e4 => ⟨z, rfl, hz, q H4 ((e2.trans e3).trans e4)⟩
theorem tx_sz {l : List Nat} {n : Nat} (h : l.length ≤ n) (hn : n ≤ 100000 := by decide) : (tx l).length ≤ sizeLine := by rw [tx_len]; exact sz_of (Nat.le_trans h hn)
theorem ev_ixS {l : List Nat} {i c : Nat} (ha : Ev ta σ H (.str (tx l))) (hb : Ev tb σ H (.int (i : Int))) (h : l[i]? = some c) (hl : l.length ≤ 100000) : Ev (tOp rIxS ta tb) σ H (.str (tx [c])) :=
  ev_op ha hb (rv_ixS (by rw [tx_len]; exact hl) (atI_nat h))
/-- c in SMALL + GREAT + DIGITS -/
theorem ev_al {c : Nat} (ha : Ev ta σ H (.str (tx [c]))) : Ev (tOp (fun x y H Q => ∃ (c : Nat) (z : Str), x = V.str ⟨#[c]⟩ ∧ y = V.str z ∧ Q (.bl (decide (c ∈ z.cps.toList))) H) ta
    (tOp (fun x y H Q => ∃ i j, x = V.str i ∧ y = V.str j ∧ i.length + j.length ≤ sizeLine ∧ Q (.str (i ++ j)) H)
      (tOp (fun x y H Q => ∃ i j, x = V.str i ∧ y = V.str j ∧ i.length + j.length ≤ sizeLine ∧ Q (.str (i ++ j)) H) (tC (.str "abcdefghijklmnopqrstuvwxyz")) (tC (.str "ABCDEFGHIJKLMNOPQRSTUVWXYZ"))) (tC (.str "0123456789")))) σ H (.bl (isAl c)) := by
  have e : isAl c = decide (c ∈ ((("abcdefghijklmnopqrstuvwxyz" : Str) ++ ("ABCDEFGHIJKLMNOPQRSTUVWXYZ" : Str)) ++ ("0123456789" : Str)).cps.toList) := by
    rw [small_eq, great_eq, digs_eq, tx_app, tx_app]
    rfl
  rw [e]
  exact ev_op ha (ev_op (ev_op ev_c ev_c (rv_addS (by decide))) ev_c (rv_addS (by decide))) rv_inS
end
end Wk
end
section
set_option Elab.async false
set_option linter.all false
set_option maxRecDepth 100000
set_option maxHeartbeats 4000000
/-! walks over what stands still, comprehensions, any and all -/
namespace Wk
open PySem PySem.Spec PyProof.Rows L2 Evl
/-- what is walked over: xs, as long as the heap only grows -/
def EvI (wi : TI) (σ : L2.St) (H : Hp) (xs : List V) : Prop := ∀ H1, Ex H H1 → ∀ R : It → Hp → Prop,
  (∀ J H2 (G : Hp → Prop) (Y : Nat → Hp → V → Hp → Prop), Ex H1 H2 → Walk J xs.length G Y → (∀ H3, Ex H2 H3 → G H3) → (∀ i H3 x H4, Y i H3 x H4 → H4 = H3 ∧ xs[i]? = some x) → R J H2) → wi σ H1 R
section
variable {K : PySem.W.Frag} {σ : L2.St} {H H0 : Hp} {wi : TI} {tl te ta tb : TE} {t : TT} {xs ys : List V} {D : Ends} {tu tz : TS}
theorem EvI.mono {H' : Hp} (e : Ex H H') (h : EvI wi σ H xs) : EvI wi σ H' xs := fun H1 a R q => h H1 (e.trans a) R q
theorem ei_L {a : Addr} (h : Ev tl σ H (.ref a)) (hx : SqL K H a xs) : EvI (iList K tl) σ H xs := fun H1 e R q => h H1 e _ fun H2 e2 =>
  ⟨a, rfl, ⟨xs, ex_l (e.trans e2) hx⟩, q _ H2 _ _ e2 walk_list (fun H3 e3 => ex_l ((e.trans e2).trans e3) hx) fun i H3 x H4 y => y⟩
theorem ei_NL (h : EvL tl σ H xs) : EvI (iList K tl) σ H xs := fun H1 e R q => h H1 e _ fun p H2 hp e2 hx =>
  ⟨p, rfl, ⟨xs, sq_of hx⟩, q _ H2 _ _ e2 walk_list (fun H3 e3 => ex_l e3 (sq_of hx)) fun i H3 x H4 y => y⟩
theorem ei_T {a : Addr} (h : Ev tl σ H (.ref a)) (hx : SqT K H a xs) : EvI (iTup K tl) σ H xs := fun H1 e R q => h H1 e _ fun H2 e2 =>
  ⟨a, rfl, ⟨xs, ex_t (e.trans e2) hx⟩, q _ H2 _ _ e2 walk_tup (fun H3 e3 => ex_t ((e.trans e2).trans e3) hx) fun i H3 x H4 y => y⟩
/-- the signs of a text as values -/
def chs (l : List Nat) : List V := l.map fun c => .str (tx [c])
theorem ei_S {l : List Nat} (h : Ev tl σ H (.str (tx l))) : EvI (iStr tl) σ H (chs l) := fun H1 e R q => h H1 e _ fun H2 e2 =>
  ⟨_, rfl, q _ H2 (fun _ => True) (fun i H v H' => H' = H ∧ ∃ c, (tx l).cps[i]? = some c ∧ v = .str ⟨#[c]⟩) e2 (by
    have h : (chs l).length = (tx l).cps.size := by unfold chs; rw [List.length_map]; simp
    rw [h]
    exact walk_str) (fun _ _ => trivial) fun i H3 x H4 ⟨y1, c, y2, y3⟩ => ⟨y1, by
      subst y3
      unfold chs
      rw [List.getElem?_map]
      have : l[i]? = some c := by
        have e : (tx l).cps = l.toArray := rfl
        rw [e] at y2
        simpa using y2
      rw [this]
      rfl⟩⟩
theorem ei_K {d : Addr} {o : Obj} {kvs : List (Key × V)} (h : Ev tl σ H (.ref d)) (hx : H d = some (.frz o (.dK kvs))) : EvI (iKeys tl) σ H (kvs.map fun p => kV p.1) := fun H1 e R q => h H1 e _ fun H2 e2 =>
  ⟨d, o, rfl, .inl ⟨kvs, e2 _ _ (e _ _ hx), q _ H2 (fun H => H d = some (.frz o (.dK kvs))) (fun i H x H' => H' = H ∧ ∃ k v, kvs[i]? = some (k, v) ∧ x = kV k) e2 (by rw [List.length_map]; exact walk_keys) (fun H3 e3 => e3 _ _ (e2 _ _ (e _ _ hx))) fun i H3 x H4 ⟨y1, k, v, y2, y3⟩ => ⟨y1, by
    subst y3
    rw [List.getElem?_map, y2]
    rfl⟩⟩⟩
theorem ei_R {n : Nat} (h : EvA ta2 σ H [.int (n : Int)]) (hn : n ≤ 100000) : EvI (iRng1 ta2) σ H ((List.range n).map fun (i : Nat) => V.int (i : Int)) := fun H1 e R q => h H1 e _ fun H2 e2 =>
  ⟨n, rfl, by omega, by omega, q _ H2 (fun _ => True) (fun i H v H' => i < n ∧ H' = H ∧ v = .int (i : Int)) e2 (by
    have : ((List.range n).map fun (i : Nat) => V.int (i : Int)).length = (n : Int).toNat := by simp
    rw [this]
    exact (walk_range (lo := 0)).mono (fun _ h => h) fun i H x H' hi _ y => ⟨by omega, y.1, by rw [y.2]; show V.int (0 + (i : Int)) = _; rw [Int.zero_add]⟩) (fun _ _ => trivial) fun i H3 x H4 y => by
      obtain ⟨y0, y1, y2⟩ := y
      refine ⟨y1, ?_⟩
      rw [List.getElem?_map, List.getElem?_range y0, y2]
      rfl⟩
/-- a comprehension: those that f keeps, each by v -/
theorem el_lc {α : Type} {as : List α} {inj : α → V} {j : Nat} {vs : List Nat} (f : α → Bool) (v : α → V) (hI : EvI wi σ H (as.map inj)) (hz : as.length ≤ 40000) (hw : ∀ x, wipe ((wipe σ vs).set j (some x)) vs = wipe σ vs)
    (ht : ∀ x, x ∈ as → ∀ H1, Ex H H1 → EvT t ((wipe σ vs).set j (some (inj x))) H1 (f x)) (he : ∀ x, x ∈ as → ∀ H1, Ex H H1 → f x = true → Ev te ((wipe σ vs).set j (some (inj x))) H1 (v x)) :
    EvL (tLc wi (gName j) t te vs) σ H ((as.filter f).map v) := fun H0 e Q q => hI H0 e _ fun J H1 G Y e1 W hG hY Dl hD =>
  lc_it W (fun i H' => H1 Dl = none ∧ Ex H1 H' ∧ H' Dl = some (.lst (((as.take i).filter f).map v))) ⟨hD, Ex.new hD, by rw [upd_same]; rfl⟩ (fun i H' _ p => hG _ p.2.1) (fun i x0 H' H'' hi p y => by
    obtain ⟨rfl, hx0⟩ := hY _ _ _ _ y
    obtain ⟨p1, p2, p3⟩ := p
    rw [List.getElem?_map] at hx0
    obtain ⟨x, hx, rfl⟩ := Option.map_eq_some_iff.mp hx0
    have hm : x ∈ as := List.mem_of_getElem? hx
    rw [List.length_map] at hi
    have hlt : ((as.take i).filter f).length ≤ i := Nat.le_trans (List.length_filter_le _ _) (by rw [List.length_take]; omega)
    have ht1 : as.take (i + 1) = as.take i ++ [x] := by rw [List.take_add_one, hx]; rfl
    refine ⟨hw _, ht x hm H1 (e.trans e1) H'' p2 _ fun H3 e3 => ?_⟩
    cases hf : f x with
    | true =>
      refine he x hm H1 (e.trans e1) hf H3 (p2.trans e3) _ fun H4 e4 => ⟨_, e4 Dl _ (e3 Dl _ p3), sz_lt (by rw [List.length_map]; omega), p1, Ex.mut ((p2.trans e3).trans e4) p1, ?_⟩
      rw [upd_same, ht1, List.filter_append, List.map_append, List.filter_cons, if_pos hf]
      rfl
    | false =>
      refine ⟨p1, p2.trans e3, ?_⟩
      rw [ht1, List.filter_append, List.map_append, List.filter_cons, if_neg (by rw [hf]; decide)]
      show H3 Dl = some (.lst (_ ++ []))
      rw [List.append_nil]
      exact e3 Dl _ p3) (fun H' p => by
    have e2 : as.take (as.map inj).length = as := by rw [List.length_map]; exact List.take_length
    have p3 := p.2.2
    rw [e2] at p3
    exact q Dl H' (fresh_back e1 p.1) (e1.trans p.2.1) p3)
theorem et_yes : EvT tYes σ H true := fun H1 _ _ q => q H1 (Ex.refl H1)
/-- the comprehension without a condition -/
theorem el_map {α : Type} {as : List α} {inj : α → V} {j : Nat} {vs : List Nat} (v : α → V) (hI : EvI wi σ H (as.map inj)) (hz : as.length ≤ 40000) (hw : ∀ x, wipe ((wipe σ vs).set j (some x)) vs = wipe σ vs)
    (he : ∀ x, x ∈ as → ∀ H1, Ex H H1 → Ev te ((wipe σ vs).set j (some (inj x))) H1 (v x)) : EvL (tLc wi (gName j) tYes te vs) σ H (as.map v) := by
  have h := el_lc (t := tYes) (te := te) (fun _ => true) v hI hz hw (fun _ _ _ _ => et_yes) (fun x hx H1 e _ => he x hx H1 e)
  rwa [List.filter_eq_self.mpr (fun _ _ => rfl)] at h
theorem ev_any {bs : List Bool} (h : EvL te σ H (bs.map V.bl)) : Ev (tCB (rAny K) (tCons te tNil)) σ H (.bl (bs.any id)) := fun H1 e Q q => h H1 e _ fun p H2 hp e2 hx => ⟨p, bs, rfl, sq_of hx, q H2 e2⟩
theorem ev_all {bs : List Bool} (h : EvL te σ H (bs.map V.bl)) : Ev (tCB (rAll K) (tCons te tNil)) σ H (.bl (bs.all id)) := fun H1 e Q q => h H1 e _ fun p H2 hp e2 hx => ⟨p, bs, rfl, sq_of hx, q H2 e2⟩
/-- all and any over a comprehension without a condition -/
theorem ev_allc {α : Type} {as : List α} {inj : α → V} {j : Nat} {vs : List Nat} (p : α → Bool) (hI : EvI wi σ H (as.map inj)) (hz : as.length ≤ 40000) (hw : ∀ x, wipe ((wipe σ vs).set j (some x)) vs = wipe σ vs)
    (he : ∀ x, x ∈ as → ∀ H1, Ex H H1 → Ev te ((wipe σ vs).set j (some (inj x))) H1 (.bl (p x))) : Ev (tCB (rAll K) (tCons (tLc wi (gName j) tYes te vs) tNil)) σ H (.bl (as.all p)) := by
  have h := el_map (te := te) (fun x => .bl (p x)) hI hz hw he
  have e : as.map (fun x => V.bl (p x)) = (as.map p).map V.bl := by rw [List.map_map]; rfl
  rw [e] at h
  have g := ev_all (K := K) h
  rwa [show (as.map p).all id = as.all p by rw [List.all_map]; rfl] at g
theorem ev_anyc {α : Type} {as : List α} {inj : α → V} {j : Nat} {vs : List Nat} (p : α → Bool) (hI : EvI wi σ H (as.map inj)) (hz : as.length ≤ 40000) (hw : ∀ x, wipe ((wipe σ vs).set j (some x)) vs = wipe σ vs)
    (he : ∀ x, x ∈ as → ∀ H1, Ex H H1 → Ev te ((wipe σ vs).set j (some (inj x))) H1 (.bl (p x))) : Ev (tCB (rAny K) (tCons (tLc wi (gName j) tYes te vs) tNil)) σ H (.bl (as.any p)) := by
  have h := el_map (te := te) (fun x => .bl (p x)) hI hz hw he
  have e : as.map (fun x => V.bl (p x)) = (as.map p).map V.bl := by rw [List.map_map]; rfl
  rw [e] at h
  have g := ev_any (K := K) h
  rwa [show (as.map p).any id = as.any p by rw [List.any_map]; rfl] at g
end
end Wk
end
section
set_option Elab.async false
set_option linter.all false
set_option maxRecDepth 100000
set_option maxHeartbeats 4000000
/-! instances, what stands still when something changes -/
namespace Wk
open PySem PySem.Spec PyProof.Rows L2 Evl
/-- tuples never change -/
def Tu (H H' : Hp) : Prop := ∀ p xs, H p = some (.tup xs) → H' p = some (.tup xs)
theorem Tu.refl (H : Hp) : Tu H H := fun _ _ h => h
theorem Tu.trans {H H1 H2 : Hp} (a : Tu H H1) (b : Tu H1 H2) : Tu H H2 := fun p xs h => b p xs (a p xs h)
theorem Tu.of {H H' : Hp} (e : Ex H H') : Tu H H' := fun p xs h => e p _ h
theorem Tu.ins {H : Hp} {a C dx C' dx' : Addr} {fs fs' : List (Str × V)} (h : H a = some (.ins C dx fs)) : Tu H (upd H a (.ins C' dx' fs')) := fun p xs hp => by
  have : p ≠ a := fun e => by subst e; rw [h] at hp; cases hp
  rw [upd_ne this]; exact hp
theorem Tu.lst {H : Hp} {a : Addr} {xs ys : List V} (h : H a = some (.lst xs)) : Tu H (upd H a (.lst ys)) := fun p zs hp => by
  have : p ≠ a := fun e => by subst e; rw [h] at hp; cases hp
  rw [upd_ne this]; exact hp
theorem ex_del (H : Hp) (a : Addr) : Ex (del H a) H := fun b o h => by
  by_cases e : b = a
  · subst e; rw [del_same] at h; cases h
  · rw [del_ne e] at h; exact h
theorem del_none {H : Hp} {a b : Addr} (h : H b = none) : del H a b = none := by
  by_cases e : b = a
  · subst e; exact del_same
  · rw [del_ne e]; exact h
/-- what grows but for a, with something else at a -/
theorem ex_upd_del {H H' : Hp} {a : Addr} {o : HO} (e : Ex (del H a) H') : Ex (del H a) (upd H' a o) := Ex.mut e del_same
theorem few {n : Nat} (h : Nat.ble (n + 1) 1000 = true) : n < 1000 := Nat.le_of_ble_eq_true h
theorem few5' {n : Nat} (h : Nat.ble n 100000 = true) : n ≤ sizeLine := sz_of (Nat.le_of_ble_eq_true h)
theorem few5 {n : Nat} (h : Nat.ble n 100000 = true) : n ≤ 100000 := Nat.le_of_ble_eq_true h
theorem nq_of {H : Hp} {a b : Addr} {o u : HO} (ha : H a = some o) (hb : H b = some u) (h : o ≠ u) : a ≠ b := fun e => by subst e; rw [ha] at hb; exact h (Option.some.inj hb)
theorem ne_new {H : Hp} {a b : Addr} {o : HO} (ha : H a = some o) (hb : H b = none) : a ≠ b := fun e => by subst e; rw [ha] at hb; cases hb
section
variable {K : PySem.W.Frag} {σ : L2.St} {H H0 : Hp} {tl te ta tb tv : TE} {tr : TA} {xs ys : List V} {D : Ends} {tu tz : TS} {v : V} {f : Str} {C dx x : Addr} {fs : List (Str × V)}
theorem ev_fld (h : Ev ta σ H (.ref x)) (hx : H x = some (.ins C dx fs)) (c : Cls K C) (n : NoAttr K C f) (l : fs.lookup f = some v) : Ev (tFld K ta f) σ H v := fun H1 e Q q =>
  h H1 e _ fun H2 e2 => ⟨x, C, dx, fs, v, rfl, e2 _ _ (e _ _ hx), c, n, l, q H2 e2⟩
theorem s_fld (h : Ev tv σ H v) (ho : Ev ta σ H (.ref x)) (hx : H x = some (.ins C dx fs)) (c : Cls K C) (n : NoAttr K C f) (hl : fs.length < 1000) (k : ∀ H1, Ex H H1 → D.nx σ (upd H1 x (.ins C dx (putF f v fs)))) : sFld K ta tv f D σ H :=
  h H (Ex.refl H) _ fun H1 e1 => ho H1 e1 _ fun H2 e2 => ⟨x, C, dx, fs, rfl, e2 _ _ (e1 _ _ hx), c, n, hl, k H2 (e1.trans e2)⟩
theorem q_fld (h : Ev tv σ H v) (ho : Ev ta σ H (.ref x)) (hx : H x = some (.ins C dx fs)) (c : Cls K C) (n : NoAttr K C f) (hl : fs.length < 1000) (k : ∀ H1, Ex H H1 → tz D σ (upd H1 x (.ins C dx (putF f v fs)))) : tSeq (sFld K ta tv f) tz D σ H :=
  s_fld (D := { D with nx := tz D }) h ho hx c n hl k
theorem s_fldL (h : EvL tv σ H xs) (ho : Ev ta σ H (.ref x)) (hx : H x = some (.ins C dx fs)) (c : Cls K C) (n : NoAttr K C f) (hl : fs.length < 1000) (k : ∀ p H1, H p = none → Ex H H1 → H1 p = some (.lst xs) → D.nx σ (upd H1 x (.ins C dx (putF f (.ref p) fs)))) : sFld K ta tv f D σ H :=
  h H (Ex.refl H) _ fun p H1 hp e1 h1 => ho H1 e1 _ fun H2 e2 => ⟨x, C, dx, fs, rfl, e2 _ _ (e1 _ _ hx), c, n, hl, k p H2 hp (e1.trans e2) (e2 _ _ h1)⟩
theorem q_fldL (h : EvL tv σ H xs) (ho : Ev ta σ H (.ref x)) (hx : H x = some (.ins C dx fs)) (c : Cls K C) (n : NoAttr K C f) (hl : fs.length < 1000) (k : ∀ p H1, H p = none → Ex H H1 → H1 p = some (.lst xs) → tz D σ (upd H1 x (.ins C dx (putF f (.ref p) fs)))) : tSeq (sFld K ta tv f) tz D σ H :=
  s_fldL (D := { D with nx := tz D }) h ho hx c n hl k
theorem s_faug {a b : Int} (ho : Ev ta σ H (.ref x)) (h : Ev tv σ H (.int b)) (hx : H x = some (.ins C dx fs)) (c : Cls K C) (n : NoAttr K C f) (l : fs.lookup f = some (.int a)) (hl : fs.length < 1000) (k : ∀ H1, Ex H H1 → D.nx σ (upd H1 x (.ins C dx (putF f (.int (a + b)) fs)))) : sFldAug K ta tv rAdd f D σ H :=
  ho H (Ex.refl H) _ fun H1 e1 => ⟨x, C, dx, fs, _, rfl, e1 _ _ hx, c, n, l, h H1 e1 _ fun H2 e2 => ⟨a, b, rfl, rfl, dx, fs, e2 _ _ (e1 _ _ hx), hl, k H2 (e1.trans e2)⟩⟩
theorem q_faug {a b : Int} (ho : Ev ta σ H (.ref x)) (h : Ev tv σ H (.int b)) (hx : H x = some (.ins C dx fs)) (c : Cls K C) (n : NoAttr K C f) (l : fs.lookup f = some (.int a)) (hl : fs.length < 1000) (k : ∀ H1, Ex H H1 → tz D σ (upd H1 x (.ins C dx (putF f (.int (a + b)) fs)))) : tSeq (sFldAug K ta tv rAdd f) tz D σ H :=
  s_faug (D := { D with nx := tz D }) ho h hx c n l hl k
/-- x = o.pop() -/
theorem q_pop {l : Addr} {i : Nat} {y : V} (hl : H l = some (.lst xs)) (ha : Ev ta σ H (.ref l)) (hy : xs[xs.length - 1]? = some y) (k : ∀ H1, Ex H H1 → tz D (σ.set i (some y)) (upd H1 l (.lst xs.dropLast))) : tSeq (tAsg (tBM0 K "list" rPop ta) (gName i)) tz D σ H :=
  ha H (Ex.refl H) _ fun H1 e1 => ⟨Or.inl ⟨rfl, xs, sq_of (e1 l _ hl)⟩, l, xs, y, rfl, rfl, e1 _ _ hl, hy, k H1 e1⟩
/-- (e, o.pop()) -/
theorem s_tupPop {l : Addr} {y : V} {Q : VK} (h : Ev te σ H v) (ha : Ev ta σ H (.ref l)) (hl : H l = some (.lst xs)) (hy : xs[xs.length - 1]? = some y) (k : ∀ p H1, Ex H H1 → upd H1 l (.lst xs.dropLast) p = none → Q (.ref p) (upd (upd H1 l (.lst xs.dropLast)) p (.tup [v, y]))) :
    tTup (tCons te (tCons (tBM0 K "list" rPop ta) tNil)) σ H Q := h H (Ex.refl H) _ fun H1 e1 => ha H1 e1 _ fun H2 e2 => ⟨Or.inl ⟨rfl, xs, sq_of ((e1.trans e2) l _ hl)⟩, l, xs, y, rfl, rfl, (e1.trans e2) _ _ hl, hy, few5' rfl, fun p hp => k p H2 (e1.trans e2) hp⟩
/-- o.pop() -/
theorem q_dropPop {l : Addr} {y : V} (hl : H l = some (.lst xs)) (ha : Ev ta σ H (.ref l)) (hy : xs[xs.length - 1]? = some y) (k : ∀ H1, Ex H H1 → tz D σ (upd H1 l (.lst xs.dropLast))) : tSeq (tDrop (tBM0 K "list" rPop ta)) tz D σ H :=
  ha H (Ex.refl H) _ fun H1 e1 => ⟨Or.inl ⟨rfl, xs, sq_of (e1 l _ hl)⟩, l, xs, y, rfl, rfl, e1 _ _ hl, hy, k H1 e1⟩
/-- x = {} -/
theorem q_dnew {i : Nat} (k : ∀ p H1, H p = none → Ex H H1 → H1 p = some (.dK []) → tz D (σ.set i (some (.ref p))) H1) : tSeq (tAsg tDNewK (gName i)) tz D σ H := fun p hp => k p _ hp (Ex.new hp) upd_same
/-- the call of a method that gives a value and only grows -/
theorem ev_meth {m : Str} {sp : Sp} {E : XK} {vs : List V} (ho : Ev ta σ H (.ref x)) (hx : H x = some (.ins C dx fs)) (hm : fs.lookup m = none) (h : EvA tr σ H vs) (hs : SpV sp (.ref x :: vs) H v) : Ev (tMeth C m sp [] E ta tr) σ H v := fun H1 e Q q =>
  ho H1 e _ fun H2 e2 => ⟨x, dx, fs, rfl, e2 _ _ (e _ _ hx), hm, h H2 (e.trans e2) _ fun H3 e3 => by
    rw [List.append_nil]
    exact hs H3 ((e.trans e2).trans e3) Q (fun H4 e4 => q H4 ((e2.trans e3).trans e4)) E⟩
end
end Wk
end
section
set_option Elab.async false
set_option linter.all false
set_option maxRecDepth 100000
set_option maxHeartbeats 4000000
/-! the reading of terms without variables: the state by itself -/
namespace Wk
open PySem PySem.Spec PyProof.Rows L2 Evl
abbrev Sg := List Nat × Nat
structure RS where
  pl : Nat
  sg : List Sg
  sp : List Nat
  ct : List Nat
structure RA where
  x : Addr
  dx : Addr
  a : Addr
  b : Addr
  c : Addr
  nm : Addr
def SgOk (H : Hp) (v : V) (z : Sg) : Prop := ∃ p, v = .ref p ∧ H p = some (.tup [.str (tx z.1), .int (z.2 : Int)])
def SgL (H : Hp) (vs : List V) (zs : List Sg) : Prop := vs.length = zs.length ∧ ∀ (i : Nat) v z, vs[i]? = some v → zs[i]? = some z → SgOk H v z
theorem SgOk.tu {H H' : Hp} {v : V} {z : Sg} (t : Tu H H') (h : SgOk H v z) : SgOk H' v z := let ⟨p, e, h⟩ := h; ⟨p, e, t p _ h⟩
theorem SgL.tu {H H' : Hp} {vs : List V} {zs : List Sg} (t : Tu H H') (h : SgL H vs zs) : SgL H' vs zs := ⟨h.1, fun i v z a b => (h.2 i v z a b).tu t⟩
theorem SgL.nil (H : Hp) : SgL H [] [] := ⟨rfl, fun i v z a _ => by simp at a⟩
theorem SgL.app {H : Hp} {vs : List V} {zs : List Sg} {v : V} {z : Sg} (h : SgL H vs zs) (o : SgOk H v z) : SgL H (vs ++ [v]) (zs ++ [z]) := by
  obtain ⟨h1, h2⟩ := h
  refine ⟨by simp [h1], fun i u y a b => ?_⟩
  by_cases hi : i < vs.length
  · rw [List.getElem?_append_left hi] at a
    rw [List.getElem?_append_left (by omega)] at b
    exact h2 i u y a b
  · rw [List.getElem?_append_right (by omega)] at a
    rw [List.getElem?_append_right (by omega)] at b
    have : i - vs.length = 0 := by
      have := (List.getElem?_eq_some_iff.mp a).1
      simp at this
      omega
    rw [this] at a
    rw [← h1, this] at b
    cases a; cases b
    exact o
theorem SgL.set {H : Hp} {vs : List V} {zs : List Sg} {v : V} {z : Sg} {k : Nat} (h : SgL H vs zs) (o : SgOk H v z) : SgL H (vs.set k v) (zs.set k z) := by
  obtain ⟨h1, h2⟩ := h
  refine ⟨by simp [h1], fun i u y a b => ?_⟩
  rw [List.getElem?_set] at a b
  by_cases hi : k = i
  · subst hi
    rw [if_pos rfl] at a b
    split at a
    · split at b
      · cases a; cases b; exact o
      · cases b
    · cases a
  · rw [if_neg hi] at a b
    exact h2 i u y a b
def nis (ns : List Nat) : List V := ns.map fun (n : Nat) => V.int (n : Int)
theorem nis_len (ns : List Nat) : (nis ns).length = ns.length := List.length_map ..
theorem nis_last {ns : List Nat} (h : ns ≠ []) : (nis ns)[(nis ns).length - 1]? = some (.int ((ns.getLastD 0 : Nat) : Int)) := by
  rw [nis_len]
  unfold nis
  rw [List.getElem?_map, ← List.getLast?_eq_getElem?, List.getLast?_eq_some_getLast h]
  show some (V.int _) = _
  congr 3
  rw [List.getLastD_eq_getLast?, List.getLast?_eq_some_getLast h]
  rfl
theorem nis_drop (ns : List Nat) : (nis ns).dropLast = nis ns.dropLast := by unfold nis; rw [List.map_dropLast]
def Own (B : Hp) (R : RA) : Prop := B R.x = none ∧ B R.a = none ∧ B R.b = none ∧ B R.c = none ∧ R.a ≠ R.b ∧ R.a ≠ R.c ∧ R.b ≠ R.c
def fsR (l : List Nat) (R : RA) (n : Nat) : List (Str × V) := [("text", .str (tx l)), ("numbers", .ref R.nm), ("place", .int (n : Int)), ("signs", .ref R.a), ("spots", .ref R.b), ("counts", .ref R.c)]
def fsR' (l : List Nat) (R : RA) (n : Int) : List (Str × V) := [("text", .str (tx l)), ("numbers", .ref R.nm), ("place", .int n), ("signs", .ref R.a), ("spots", .ref R.b), ("counts", .ref R.c)]
structure Rdg (K : PySem.W.Frag) (l : List Nat) (R : RA) (s : RS) (H : Hp) : Prop where
  ins : H R.x = some (.ins (He.ga K "Reading") R.dx (fsR l R s.pl))
  sgs : ∃ vs, H R.a = some (.lst vs) ∧ SgL H vs s.sg
  sps : H R.b = some (.lst (nis s.sp))
  cts : H R.c = some (.lst (nis s.ct))
section
variable {K : PySem.W.Frag} {l : List Nat} {R : RA} {s : RS} {H H' : Hp}
theorem Rdg.mono (h : Rdg K l R s H) (e : Ex H H') : Rdg K l R s H' := ⟨e _ _ h.ins, let ⟨vs, a, b⟩ := h.sgs; ⟨vs, e _ _ a, b.tu (.of e)⟩, e _ _ h.sps, e _ _ h.cts⟩
theorem Rdg.place (h : Rdg K l R s H) (n : Nat) : Rdg K l R { s with pl := n } (upd H R.x (.ins (He.ga K "Reading") R.dx (fsR l R n))) := by
  obtain ⟨h1, ⟨vs, h2, h3⟩, h4, h5⟩ := h
  refine ⟨upd_same, ⟨vs, ?_, h3.tu (.ins h1)⟩, ?_, ?_⟩
  · rw [upd_ne (nq_of h2 h1 (by intro h; cases h))]; exact h2
  · rw [upd_ne (nq_of h4 h1 (by intro h; cases h))]; exact h4
  · rw [upd_ne (nq_of h5 h1 (by intro h; cases h))]; exact h5
theorem Rdg.signs (h : Rdg K l R s H) {B : Hp} (o : Own B R) {vs : List V} {zs : List Sg} (g : SgL H vs zs) : Rdg K l R { s with sg := zs } (upd H R.a (.lst vs)) := by
  obtain ⟨h1, ⟨us, h2, h3⟩, h4, h5⟩ := h
  refine ⟨?_, ⟨vs, upd_same, g.tu (.lst h2)⟩, ?_, ?_⟩
  · rw [upd_ne (nq_of h1 h2 (by intro h; cases h))]; exact h1
  · rw [upd_ne (Ne.symm o.2.2.2.2.1)]; exact h4
  · rw [upd_ne (Ne.symm o.2.2.2.2.2.1)]; exact h5
theorem Rdg.spots (h : Rdg K l R s H) {B : Hp} (o : Own B R) (ns : List Nat) : Rdg K l R { s with sp := ns } (upd H R.b (.lst (nis ns))) := by
  obtain ⟨h1, ⟨us, h2, h3⟩, h4, h5⟩ := h
  refine ⟨?_, ⟨us, ?_, h3.tu (.lst h4)⟩, upd_same, ?_⟩
  · rw [upd_ne (nq_of h1 h4 (by intro h; cases h))]; exact h1
  · rw [upd_ne o.2.2.2.2.1]; exact h2
  · rw [upd_ne (Ne.symm o.2.2.2.2.2.2)]; exact h5
theorem Rdg.counts (h : Rdg K l R s H) {B : Hp} (o : Own B R) (ns : List Nat) : Rdg K l R { s with ct := ns } (upd H R.c (.lst (nis ns))) := by
  obtain ⟨h1, ⟨us, h2, h3⟩, h4, h5⟩ := h
  refine ⟨?_, ⟨us, ?_, h3.tu (.lst h5)⟩, ?_, upd_same⟩
  · rw [upd_ne (nq_of h1 h5 (by intro h; cases h))]; exact h1
  · rw [upd_ne o.2.2.2.2.2.1]; exact h2
  · rw [upd_ne o.2.2.2.2.2.2]; exact h4
end
/-! what the methods do -/
def NoG (l : List Nat) : Prop := ∀ c, c ∈ l → c ∉ great
def putW (l : List Nat) (s : RS) : RS := { s with pl := s.pl + (wordOf (l.drop s.pl)).length, sg := s.sg ++ [(wordOf (l.drop s.pl), 0)] }
def openN (s : RS) : RS := { s with pl := s.pl + 1, sp := s.sp ++ [s.sg.length - 1], ct := s.ct ++ [1] }
def closeN (s : RS) : RS := { pl := s.pl + 1, sg := s.sg.set (s.sp.getLastD 0) ((s.sg.getD (s.sp.getLastD 0) ([], 0)).1, s.ct.getLastD 0), sp := s.sp.dropLast, ct := s.ct.dropLast }
/-- a word is a beginning -/
theorem wordOf_sub (l : List Nat) : ∀ c, c ∈ wordOf l → c ∈ l := by
  intro c h
  rw [wordOf_eq] at h
  split at h
  · exact List.mem_of_mem_take h
  · cases h
end Wk
end
section
set_option Elab.async false
set_option linter.all false
set_option maxRecDepth 100000
set_option maxHeartbeats 4000000
/-! xs[i] op= e for a list -/
namespace Wk
open PySem PySem.Spec PyProof.Rows L2 Evl
section
variable {X : Cx}
theorem get_list : PGet X (rIxL X.K) := by
  intro pins s σ H x y v u Q I rx ry h
  obtain ⟨p, xs, i, z, rfl, rfl, hq, he, q⟩ := h
  cases rx
  obtain ⟨t, rfl⟩ := ry
  obtain ⟨its, r, pl, hz⟩ := I.list hq
  obtain ⟨j, h1, h2, h3, h4, h5⟩ := atI_get he
  obtain ⟨w, ew, rw'⟩ := r.get h2
  have hl := r.length
  have hn := line63
  have fin : EP X pins σ Q w s := ⟨z, H, I, rw', q⟩
  by_cases h0 : 0 ≤ i
  · have hj : i.toNat = j := by
      rw [seqIndex_of h0 h5] at h1
      exact Option.some.inj h1
    exact wpAny_getItem_list pl.isList h0 (by omega) (by rw [hj]; simpa using ew) fin
  · have hj : (i + (its.toArray.size : Int)).toNat = j := by
      rw [seqIndex_neg (by omega) h4] at h1
      rw [List.size_toArray, ← hl]
      exact Option.some.inj h1
    exact wpAny_getItem_list_neg (Q := EP X pins σ Q) pl.isList (by omega) (by rw [List.size_toArray] <;> omega) (by omega) (by rw [hj]; simpa using ew) fin
end
section
variable {K : PySem.W.Frag} {σ : L2.St} {H : Hp} {ta ti te : TE} {xs : List V} {D : Ends} {tz : TS}
theorem ixN_last {n : Nat} (h : 0 < n) : ixN n (-1) = some (n - 1) := by
  unfold ixN
  rw [if_neg (by decide), if_pos (by omega)]
  congr 1
  omega
theorem atI_last {α : Type} {xs : List α} {a : α} (h : xs[xs.length - 1]? = some a) : atI xs (-1) = some a := by
  have : 0 < xs.length := by
    have := (List.getElem?_eq_some_iff.mp h).1
    omega
  unfold atI
  rw [ixN_last this]
  exact h
theorem last_app {α : Type} (xs : List α) (a : α) : (xs ++ [a])[(xs ++ [a]).length - 1]? = some a := by
  rw [List.length_append, List.length_singleton, Nat.add_sub_cancel, List.getElem?_append_right (Nat.le_refl _), Nat.sub_self]
  rfl
/-- xs[-1] op= e -/
theorem s_augLast {l : Addr} {f : Int → Int → Int} {a b : Int} (ho : Ev ta σ H (.ref l)) (hi : Ev ti σ H (.int (-1))) (he : Ev te σ H (.int b)) (hl : H l = some (.lst (xs ++ [.int a]))) (k : ∀ H1, Ex H H1 → D.nx σ (upd H1 l (.lst (xs ++ [.int (f a b)])))) :
    tAugS ta ti te (rIxL K) (ipI f) rSetL D σ H := ho H (Ex.refl H) _ fun H1 e1 => hi H1 e1 _ fun H2 e2 =>
  ⟨l, xs ++ [.int a], -1, .int a, rfl, rfl, sq_of ((e1.trans e2) _ _ hl), atI_last (last_app _ _), he H2 (e1.trans e2) _ fun H3 e3 => ⟨a, b, rfl, rfl, l, xs ++ [.int a], -1, xs.length, rfl, rfl, ((e1.trans e2).trans e3) _ _ hl, by
    rw [List.length_append, List.length_singleton, ixN_last (by omega), Nat.add_sub_cancel], by
    rw [List.set_append_right _ _ (Nat.le_refl _), Nat.sub_self]
    exact k H3 ((e1.trans e2).trans e3)⟩⟩
theorem q_augLast {l : Addr} {f : Int → Int → Int} {a b : Int} (ho : Ev ta σ H (.ref l)) (hi : Ev ti σ H (.int (-1))) (he : Ev te σ H (.int b)) (hl : H l = some (.lst (xs ++ [.int a]))) (k : ∀ H1, Ex H H1 → tz D σ (upd H1 l (.lst (xs ++ [.int (f a b)])))) :
    tSeq (tAugS ta ti te (rIxL K) (ipI f) rSetL) tz D σ H := s_augLast (D := { D with nx := tz D }) ho hi he hl k
theorem ev_m1 : Ev (tUn (rU fun i => .int (-i)) (tC (.int 1))) σ H (.int (-1)) := ev_un ev_c ru_neg
/-- o.m(), for what it does -/
theorem s_mt0 {sp : Sp} {E : XK} {x C dx : Addr} {fs : List (Str × V)} {m : Str} (ho : Ev ta σ H (.ref x)) (hx : H x = some (.ins C dx fs)) (hm : fs.lookup m = none) (k : ∀ H1, Ex H H1 → sp [.ref x] H1 (fun _ H2 => D.nx σ H2) E) : tDrop (tMeth C m sp [] E ta tNil) D σ H :=
  ho H (Ex.refl H) _ fun H1 e1 => ⟨x, dx, fs, rfl, e1 _ _ hx, hm, k H1 e1⟩
theorem q_mt0 {sp : Sp} {E : XK} {x C dx : Addr} {fs : List (Str × V)} {m : Str} (ho : Ev ta σ H (.ref x)) (hx : H x = some (.ins C dx fs)) (hm : fs.lookup m = none) (k : ∀ H1, Ex H H1 → sp [.ref x] H1 (fun _ H2 => tz D σ H2) E) : tSeq (tDrop (tMeth C m sp [] E ta tNil)) tz D σ H :=
  s_mt0 (D := { D with nx := tz D }) ho hx hm k
end
/-! what go_on does -/
def closeAll (l : List Nat) : Nat → RS → RS
  | 0, s => s
  | n + 1, s => if s.sp ≠ [] ∧ l[s.pl]? = some 41 then closeAll l n (closeN s) else s
def commaN (s : RS) : RS := { s with pl := s.pl + 1, ct := s.ct.dropLast ++ [s.ct.getLastD 0 + 1] }
def goOn (l : List Nat) (s : RS) : RS × Option Bool :=
  if l[s.pl]? = some 40 then (openN s, some true) else
  if (closeAll l s.sp.length s).sp = [] then (closeAll l s.sp.length s, some false) else
  if l[(closeAll l s.sp.length s).pl]? ≠ some 44 ∨ (closeAll l s.sp.length s).ct.getLastD 0 = 4 then (closeAll l s.sp.length s, none) else (commaN (closeAll l s.sp.length s), some true)
def oV : Option Bool → V
  | none => .non
  | some b => .bl b
structure RInv (l : List Nat) (s : RS) : Prop where
  pl : s.pl ≤ l.length
  ct : s.ct.length = s.sp.length
  sp : ∀ k, k ∈ s.sp → k < s.sg.length
  sg : s.sg.length ≤ s.pl
  sl : s.sp.length ≤ s.pl
theorem lt_of_at {l : List Nat} {i c : Nat} (h : l[i]? = some c) : i < l.length := (List.getElem?_eq_some_iff.mp h).1
theorem getLastD_mem {ns : List Nat} (h : ns ≠ []) : ns.getLastD 0 ∈ ns := by
  rw [List.getLastD_eq_getLast?, List.getLast?_eq_some_getLast h]
  exact List.getLast_mem h
theorem RInv.open {l : List Nat} {s : RS} (h : RInv l s) (h0 : 0 < s.sg.length) {c : Nat} (hc : l[s.pl]? = some c) : RInv l (openN s) := by
  obtain ⟨a1, a2, a3, a4, a5⟩ := h
  refine ⟨lt_of_at hc, ?_, ?_, ?_, ?_⟩
  · simp [openN, a2]
  · intro k hk
    simp only [openN, List.mem_append, List.mem_singleton] at hk
    rcases hk with hk | hk
    · exact a3 k hk
    · show k < s.sg.length
      omega
  · show s.sg.length ≤ s.pl + 1
    omega
  · simp [openN]; exact a5
theorem RInv.close {l : List Nat} {s : RS} (h : RInv l s) (h0 : s.sp ≠ []) {c : Nat} (hc : l[s.pl]? = some c) : RInv l (closeN s) := by
  obtain ⟨a1, a2, a3, a4, a5⟩ := h
  refine ⟨lt_of_at hc, ?_, ?_, ?_, ?_⟩
  · simp [closeN, a2]
  · intro k hk
    have := a3 k (List.dropLast_subset _ hk)
    simpa [closeN] using this
  · simp [closeN]; omega
  · simp [closeN]; omega
theorem RInv.comma {l : List Nat} {s : RS} (h : RInv l s) (h0 : s.sp ≠ []) {c : Nat} (hc : l[s.pl]? = some c) : RInv l (commaN s) := by
  obtain ⟨a1, a2, a3, a4, a5⟩ := h
  have : 0 < s.sp.length := List.length_pos_iff.mpr h0
  refine ⟨lt_of_at hc, ?_, a3, ?_, ?_⟩
  · simp [commaN, a2]; omega
  · simp [commaN]; omega
  · simp [commaN]; omega
theorem closeN_sp (s : RS) : (closeN s).sp.length = s.sp.length - 1 := by simp [closeN]
theorem RInv.closeAll {l : List Nat} : ∀ (n : Nat) (s : RS), RInv l s → RInv l (closeAll l n s)
  | 0, _, h => h
  | n + 1, s, h => by
    unfold Wk.closeAll
    split
    · rename_i hc
      exact RInv.closeAll n _ (h.close hc.1 hc.2)
    · exact h
theorem closeAll_sg (l : List Nat) : ∀ (n : Nat) (s : RS), (closeAll l n s).sg.length = s.sg.length
  | 0, _ => rfl
  | n + 1, s => by
    unfold Wk.closeAll
    split
    · rw [closeAll_sg l n]; simp [closeN]
    · rfl
theorem closeAll_step (l : List Nat) (s : RS) (h : s.sp ≠ []) (hc : l[s.pl]? = some 41) : closeAll l s.sp.length s = closeAll l (closeN s).sp.length (closeN s) := by
  have : 0 < s.sp.length := List.length_pos_iff.mpr h
  obtain ⟨n, hn⟩ : ∃ n, s.sp.length = n + 1 := ⟨s.sp.length - 1, by omega⟩
  rw [hn, closeN_sp, hn]
  show Wk.closeAll l (n + 1) s = _
  unfold Wk.closeAll
  rw [if_pos ⟨h, hc⟩]
  cases n <;> rfl
theorem closeAll_stop (l : List Nat) (s : RS) (h : ¬ (s.sp ≠ [] ∧ l[s.pl]? = some 41)) : closeAll l s.sp.length s = s := by
  cases s.sp.length with
  | zero => rfl
  | succ n => unfold Wk.closeAll; rw [if_neg h]
theorem goOn_inv {l : List Nat} {s : RS} (h : RInv l s) (h0 : 0 < s.sg.length) : RInv l (goOn l s).1 := by
  unfold goOn
  split
  · rename_i hc; exact h.open h0 hc
  · split
    · exact h.closeAll _ _
    · split
      · exact h.closeAll _ _
      · rename_i h1 h2
        simp only [not_or, Decidable.not_not] at h2
        exact (h.closeAll _ _).comma h1 h2.1
end Wk
end
section
set_option Elab.async false
set_option linter.all false
set_option maxRecDepth 100000
set_option maxHeartbeats 4000000
/-! values told by what they are in the heap; calls for what they do -/
namespace Wk
open PySem PySem.Spec PyProof.Rows L2 Evl
def EvX (te : TE) (σ : L2.St) (H : Hp) (P : V → Hp → Prop) : Prop := ∀ H1, Ex H H1 → ∀ Q : VK, (∀ v H2, Ex H1 H2 → P v H2 → Q v H2) → te σ H1 Q
def EvAX (ta : TA) (σ : L2.St) (H : Hp) (P : List V → Hp → Prop) : Prop := ∀ H1, Ex H H1 → ∀ Q : List V → Hp → Prop, (∀ v H2, Ex H1 H2 → P v H2 → Q v H2) → ta σ H1 Q
def Mo {α : Type} (P : α → Hp → Prop) : Prop := ∀ v H H', Ex H H' → P v H → P v H'
section
variable {K : PySem.W.Frag} {σ : L2.St} {H : Hp} {ta ti te tu0 : TE} {tr : TA} {xs : List V} {D : Ends} {tu tz : TS} {P R : V → Hp → Prop} {PA QA : List V → Hp → Prop} {v : V} {t : TT}
theorem EvX.mono {H' : Hp} (e : Ex H H') (h : EvX te σ H P) : EvX te σ H' P := fun H1 a Q q => h H1 (e.trans a) Q q
theorem EvAX.mono {H' : Hp} (e : Ex H H') (h : EvAX tr σ H PA) : EvAX tr σ H' PA := fun H1 a Q q => h H1 (e.trans a) Q q
theorem EvX.imp (h : EvX te σ H P) (i : ∀ v H, P v H → R v H) : EvX te σ H R := fun H1 a Q q => h H1 a Q fun v H2 e p => q v H2 e (i v H2 p)
theorem x_ev (h : Ev te σ H v) : EvX te σ H (fun x _ => x = v) := fun H1 e Q q => h H1 e Q fun H2 e2 => q v H2 e2 rfl
theorem x_evU (h : EvU te σ H xs) : EvX te σ H (fun x H' => ∃ p, x = .ref p ∧ H' p = some (.tup xs)) := fun H1 e Q q => h H1 e Q fun p H2 hp e2 h2 => q _ H2 e2 ⟨p, rfl, h2⟩
theorem x_evL (h : EvL te σ H xs) : EvX te σ H (fun x H' => ∃ p, x = .ref p ∧ H p = none ∧ H' p = some (.lst xs)) := fun H1 e Q q => h H1 e Q fun p H2 hp e2 h2 => q _ H2 e2 ⟨p, rfl, fresh_back e hp, h2⟩
theorem x_nil : EvAX tNil σ H (fun vs _ => vs = []) := fun H1 _ Q q => q [] H1 (Ex.refl H1) rfl
theorem x_cons (h : EvX te σ H P) (m : Mo P) (hr : EvAX tr σ H PA) : EvAX (tCons te tr) σ H (fun vs H => ∃ v r, vs = v :: r ∧ P v H ∧ PA r H) := fun H1 e Q q =>
  h H1 e _ fun v H2 e2 p => hr H2 (e.trans e2) _ fun r H3 e3 pr => q _ H3 (e2.trans e3) ⟨v, r, rfl, m v H2 H3 e3 p, pr⟩
theorem x_ofA {vs : List V} (h : EvA tr σ H vs) : EvAX tr σ H (fun us _ => us = vs) := fun H1 e Q q => h H1 e Q fun H2 e2 => q vs H2 e2 rfl
theorem x_tup (h : EvAX tr σ H PA) (m : Mo PA) (hl : ∀ vs H, PA vs H → vs.length ≤ 100000) : EvX (tTup tr) σ H (fun v H => ∃ p vs, v = .ref p ∧ H p = some (.tup vs) ∧ PA vs H) := fun H1 e Q q =>
  h H1 e _ fun vs H2 e2 p => ⟨sz_of (hl vs H2 p), fun a ha => q _ _ (e2.trans (Ex.new ha)) ⟨a, vs, rfl, upd_same, m vs H2 _ (Ex.new ha) p⟩⟩
theorem x_call {sp : Sp} {E : XK} {vs : List V} (h : EvA tr σ H vs) (hs : ∀ H1, Ex H H1 → ∀ Q : VK, (∀ v H2, Ex H1 H2 → P v H2 → Q v H2) → ∀ E, sp vs H1 Q E) : EvX (tCall sp [] E tr) σ H P := fun H1 e Q q =>
  h H1 e _ fun H2 e2 => by
    rw [List.append_nil]
    exact hs H2 (e.trans e2) Q (fun v H3 e3 p => q v H3 (e2.trans e3) p) E
theorem x_callX {sp : Sp} {E : XK} (h : EvAX tr σ H PA) (hs : ∀ vs H1, Ex H H1 → PA vs H1 → ∀ Q : VK, (∀ v H2, Ex H1 H2 → P v H2 → Q v H2) → ∀ E, sp vs H1 Q E) : EvX (tCall sp [] E tr) σ H P := fun H1 e Q q =>
  h H1 e _ fun vs H2 e2 pa => by
    rw [List.append_nil]
    exact hs vs H2 (e.trans e2) pa Q (fun v H3 e3 p => q v H3 (e2.trans e3) p) E
theorem x_if {b : Bool} (h : EvT t σ H b) (h1 : b = true → EvX ta σ H P) (h2 : b = false → EvX te σ H P) : EvX (tIf t ta te) σ H P := fun H1 e Q q => h H1 e _ fun H2 e2 => by
  cases b with
  | true => exact h1 rfl H2 (e.trans e2) Q fun v H3 e3 p => q v H3 (e2.trans e3) p
  | false => exact h2 rfl H2 (e.trans e2) Q fun v H3 e3 p => q v H3 (e2.trans e3) p
theorem sx_asg {i : Nat} (h : EvX te σ H P) (k : ∀ v H1, Ex H H1 → P v H1 → D.nx (σ.set i (some v)) H1) : tAsg te (gName i) D σ H := h H (Ex.refl H) _ fun v H1 e p => k v H1 e p
theorem qx_asg {i : Nat} (h : EvX te σ H P) (k : ∀ v H1, Ex H H1 → P v H1 → tz D (σ.set i (some v)) H1) : tSeq (tAsg te (gName i)) tz D σ H := sx_asg (D := { D with nx := tz D }) h k
theorem sx_ret (h : EvX te σ H P) (k : ∀ v H1, Ex H H1 → P v H1 → D.rt v H1) : tRet te D σ H := h H (Ex.refl H) _ k
theorem sx_app {l : Addr} (hl : H l = some (.lst xs)) (ha : Ev ta σ H (.ref l)) (h : EvX te σ H P) (hz : xs.length < 100000) (k : ∀ v H1, Ex H H1 → P v H1 → D.nx σ (upd H1 l (.lst (xs ++ [v])))) :
    tDrop (tBM K "list" rAppend ta (tCons te tNil)) D σ H := ha H (Ex.refl H) _ fun H1 e1 =>
  ⟨Or.inl ⟨rfl, xs, sq_of (e1 l _ hl)⟩, h H1 e1 _ fun v H2 e2 p => ⟨l, xs, v, rfl, rfl, e2 l _ (e1 l _ hl), sz_lt hz, k v H2 (e1.trans e2) p⟩⟩
theorem qx_app {l : Addr} (hl : H l = some (.lst xs)) (ha : Ev ta σ H (.ref l)) (h : EvX te σ H P) (hz : xs.length < 100000) (k : ∀ v H1, Ex H H1 → P v H1 → tz D σ (upd H1 l (.lst (xs ++ [v])))) :
    tSeq (tDrop (tBM K "list" rAppend ta (tCons te tNil))) tz D σ H := sx_app (D := { D with nx := tz D }) hl ha h hz k
/-- calls for what they do -/
theorem s_asgC {sp : Sp} {E : XK} {vs : List V} {i : Nat} (h : EvA tr σ H vs) (k : ∀ H1, Ex H H1 → sp vs H1 (fun v H2 => D.nx (σ.set i (some v)) H2) E) : tAsg (tCall sp [] E tr) (gName i) D σ H := h H (Ex.refl H) _ fun H1 e1 => by
  rw [List.append_nil]
  exact k H1 e1
theorem q_asgC {sp : Sp} {E : XK} {vs : List V} {i : Nat} (h : EvA tr σ H vs) (k : ∀ H1, Ex H H1 → sp vs H1 (fun v H2 => tz D (σ.set i (some v)) H2) E) : tSeq (tAsg (tCall sp [] E tr) (gName i)) tz D σ H := s_asgC (D := { D with nx := tz D }) h k
theorem s_dropC {sp : Sp} {E : XK} {vs : List V} (h : EvA tr σ H vs) (k : ∀ H1, Ex H H1 → sp vs H1 (fun v H2 => D.nx σ H2) E) : tDrop (tCall sp [] E tr) D σ H := h H (Ex.refl H) _ fun H1 e1 => by
  rw [List.append_nil]
  exact k H1 e1
theorem q_dropC {sp : Sp} {E : XK} {vs : List V} (h : EvA tr σ H vs) (k : ∀ H1, Ex H H1 → sp vs H1 (fun v H2 => tz D σ H2) E) : tSeq (tDrop (tCall sp [] E tr)) tz D σ H := s_dropC (D := { D with nx := tz D }) h k
theorem q_make {sp : Sp} {E : XK} {vs : List V} {i : Nat} {C : Addr} (h : EvA tr σ H vs) (k : ∀ H1 x dx, Ex H H1 → H1 x = none → H1 dx = none → dx ≠ x → sp (.ref x :: vs) (upd (upd H1 dx (.own x)) x (.ins C dx [])) (fun v H2 => v = .non ∧ tz D (σ.set i (some (.ref x))) H2) E) :
    tSeq (tAsg (tMake C sp [] E tr) (gName i)) tz D σ H := h H (Ex.refl H) _ fun H1 e1 x dx hx hdx hn => by
  rw [List.append_nil]
  exact k H1 x dx e1 hx hdx hn
theorem q_ifNotB (h : te σ H (fun x H1 => ∃ c, x = .bl c ∧ (if c = true then tz D σ H1 else tu { D with nx := tz D } σ H1))) : tSeq (tIfS (tNot (tB te)) tu tNext) tz D σ H := by
  show te σ H (fun x H1 => ∃ c, x = .bl c ∧ (if (!c) = true then tu { D with nx := tz D } σ H1 else tz D σ H1))
  have e : (fun x H1 => ∃ c, x = V.bl c ∧ (if (!c) = true then tu { D with nx := tz D } σ H1 else tz D σ H1)) = (fun x H1 => ∃ c, x = V.bl c ∧ (if c = true then tz D σ H1 else tu { D with nx := tz D } σ H1)) := by
    funext x H1
    congr 1
    funext c
    cases c <;> rfl
  rw [e]
  exact h
theorem x_mt0 {sp : Sp} {E : XK} {x C dx : Addr} {fs : List (Str × V)} {m : Str} {Q : VK} (ho : Ev ta σ H (.ref x)) (hx : H x = some (.ins C dx fs)) (hm : fs.lookup m = none) (k : ∀ H1, Ex H H1 → sp [.ref x] H1 Q E) : tMeth C m sp [] E ta tNil σ H Q :=
  ho H (Ex.refl H) _ fun H1 e1 => ⟨x, dx, fs, rfl, e1 _ _ hx, hm, k H1 e1⟩
theorem et_tru {b : Bool} (h : Ev te σ H v) (ht : ∀ H', Ex H H' → TruV K v H' b) : EvT (fun σ H Q => te σ H fun x H' => ∃ k, TruV K x H' k ∧ Q k H') σ H b := fun H1 e Q q => h H1 e _ fun H2 e2 => ⟨b, ht H2 (e.trans e2), q H2 e2⟩
/-- tuple(xs) of a list, of a tuple -/
theorem eu_tuple {a : Addr} (h : Ev te σ H (.ref a)) (hx : SqL K H a xs) : EvU (tCB (fun xs H Q => ∃ p ys, xs = [.ref p] ∧ ((SqL K H p ys ∧ ∀ l, H l = none → Q (.ref l) (upd H l (.tup ys))) ∨ (SqT K H p ys ∧ Q (.ref p) H))) (tCons te tNil)) σ H xs := fun H1 e Q q =>
  h H1 e _ fun H2 e2 => ⟨a, xs, rfl, .inl ⟨ex_l (e.trans e2) hx, fun l hl => q l _ (fresh_back e2 hl) (e2.trans (Ex.new hl)) upd_same⟩⟩
theorem eu_tupleN (h : EvL te σ H xs) : EvU (tCB (fun xs H Q => ∃ p ys, xs = [.ref p] ∧ ((SqL K H p ys ∧ ∀ l, H l = none → Q (.ref l) (upd H l (.tup ys))) ∨ (SqT K H p ys ∧ Q (.ref p) H))) (tCons te tNil)) σ H xs := fun H1 e Q q =>
  h H1 e _ fun a H2 ha e2 h2 => ⟨a, xs, rfl, .inl ⟨sq_of h2, fun l hl => q l _ (fresh_back e2 hl) (e2.trans (Ex.new hl)) upd_same⟩⟩
end
/-! reading a term -/
def readLoop (l : List Nat) : Nat → RS → Option RS
  | 0, _ => none
  | n + 1, s => if wordOf (l.drop s.pl) = [] then none else
    match (goOn l (putW l s)).2 with
    | none => none
    | some false => some (goOn l (putW l s)).1
    | some true => readLoop l n (goOn l (putW l s)).1
def readT (l : List Nat) (start : Nat) : Option (List Sg × Nat) := (readLoop l (l.length - start + 1) ⟨start, [], [], []⟩).map fun s => (s.sg, s.pl)
/-- a term as a value: the tuple of its signs -/
def TermAt (zs : List Sg) (v : V) (H : Hp) : Prop := ∃ q vs, v = .ref q ∧ H q = some (.tup vs) ∧ SgL H vs zs
theorem TermAt.mo (zs : List Sg) : Mo (TermAt zs) := fun v H H' e ⟨q, vs, a, b, c⟩ => ⟨q, vs, a, e _ _ b, c.tu (.of e)⟩
def ReadV (o : Option (List Sg × Nat)) (v : V) (H : Hp) : Prop := match o with
  | none => v = .non
  | some (zs, e) => ∃ p t, v = .ref p ∧ H p = some (.tup [t, .int (e : Int)]) ∧ TermAt zs t H
theorem ReadV.mo (o : Option (List Sg × Nat)) : Mo (ReadV o) := fun v H H' e h => by
  cases o with
  | none => exact h
  | some z => exact let ⟨p, t, a, b, c⟩ := h; ⟨p, t, a, e _ _ b, TermAt.mo _ _ _ _ e c⟩
theorem goOn_sg (l : List Nat) (s : RS) : (goOn l s).1.sg.length = s.sg.length := by
  unfold goOn
  split
  · rfl
  · split
    · exact closeAll_sg _ _ _
    · split
      · exact closeAll_sg _ _ _
      · exact closeAll_sg _ _ _
theorem closeAll_pl (l : List Nat) : ∀ (n : Nat) (s : RS), s.pl ≤ (closeAll l n s).pl
  | 0, _ => Nat.le_refl _
  | n + 1, s => by
    unfold Wk.closeAll
    split
    · exact Nat.le_trans (Nat.le_succ _) (closeAll_pl l n (closeN s))
    · exact Nat.le_refl _
theorem goOn_pl (l : List Nat) (s : RS) : s.pl ≤ (goOn l s).1.pl := by
  unfold goOn
  split
  · exact Nat.le_succ _
  · split
    · exact closeAll_pl _ _ _
    · split
      · exact closeAll_pl _ _ _
      · exact Nat.le_trans (closeAll_pl _ _ _) (Nat.le_succ _)
theorem putW_inv {l : List Nat} {s : RS} (h : RInv l s) (hw : wordOf (l.drop s.pl) ≠ []) : RInv l (putW l s) ∧ 0 < (putW l s).sg.length ∧ s.pl < (putW l s).pl := by
  have h0 : 0 < (wordOf (l.drop s.pl)).length := List.length_pos_iff.mpr hw
  have hwl : (wordOf (l.drop s.pl)).length ≤ l.length - s.pl := by
    have := alen_le 9 (l.drop s.pl)
    rw [List.length_drop] at this
    rw [wordOf_eq]
    split
    · unfold wd; rw [List.length_take, List.length_drop]; omega
    · simp
  obtain ⟨a1, a2, a3, a4, a5⟩ := h
  refine ⟨⟨?_, a2, ?_, ?_, ?_⟩, ?_, ?_⟩
  · show s.pl + _ ≤ _; omega
  · intro k hk
    have := a3 k hk
    simp [putW]
    omega
  · simp [putW]; omega
  · show s.sp.length ≤ s.pl + _
    omega
  · simp [putW]
  · show s.pl < s.pl + _
    omega
end Wk
end
section
set_option Elab.async false
set_option linter.all false
set_option maxRecDepth 100000
set_option maxHeartbeats 4000000
/-! xs.extend(a tuple) -/
namespace Wk
open PySem PySem.Spec PyProof.Rows L2 Evl
theorem meets_extT (l : Addr) (mine : Array Value) (n : Nat) (b : Addr) (its : Array Value) (hlong : ¬ (!mine.isEmpty && Builtin.List.listTooLong (mine.size + its.size)) = true) (hs1 : mine.size ≤ sizeLine) (hs2 : (mine ++ its).size ≤ sizeLine + 1) :
    Meets (Builtin.«list.extend» ⟨[.ref l, .ref b], []⟩) (fun _ R s => s.heap.get? l = some { cls := .type "list", data := .seq mine n } ∧ IsTup s.heap b its ∧
      R (.ok (.ret Value.none)) { s with heap := s.heap.update l (Obj.mapSeq fun x => x ++ its) }) :=
  .of_wp fun prog w A R s h => by
    obtain ⟨hl, ⟨o, ho, hc, n2, hd⟩, hR⟩ := h
    show wpAny _ A.in1 (Builtin.List.listExtendWith (.ref l) (.ref b) .none) _ _ s
    unfold Builtin.List.listExtendWith
    refine wpAny_bind (wpAny_typeOf ⟨o, ho, hc⟩ ?_)
    have h1 : (Builtin.List.listSameRef (.ref l) (.ref b) || Value.type "tuple" == Value.type "list" || Value.type "tuple" == Value.type "tuple") = true := by simp
    simp only [h1, if_true]
    refine wpAny_bind ?_
    unfold Builtin.List.listItems
    refine wpAny_bind (wpAny_seqItems ho hd (wpAny_pure ?_))
    refine wpAny_bind ?_
    refine wpAny_bind (wpAny_seqItems hl rfl (wpAny_pure ?_))
    rw [if_neg hlong]
    show wpAny _ A.in1 (updateSeq l (· ++ its) >>= fun _ => ret _) _ _ s
    refine wpAny_bind (wpAny_updateSeq hl rfl ?_ hs1 hs2)
    exact wpAny_pure ⟨_, rfl, hR⟩
def rExtendT : V → List V → Hp → VK → Prop := fun x vs H Q => ∃ l b xs zs, x = .ref l ∧ vs = [.ref b] ∧ H l = some (.lst xs) ∧ SqT0 H b zs ∧ xs.length + zs.length ≤ sizeLine ∧ Q .non (upd H l (.lst (xs ++ zs)))
  where SqT0 (H : Hp) (b : Addr) (zs : List V) : Prop := H b = some (.tup zs)
variable {X : Cx}
theorem mt_extendT : MtM X "list.extend" rExtendT := by
  intro pins s σ H x vs v us Q I rx rv h
  obtain ⟨l, b, xs, zs, rfl, rfl, hH, hB, hz, q⟩ := h
  cases rx
  obtain ⟨u, rfl, ru⟩ := rv.one
  cases ru
  obtain ⟨z, its, n, r, hl, e⟩ := I.lstM hH
  obtain ⟨its2, r2, tp, z2⟩ := I.tuple (st_of hB)
  have hl2 := r2.length
  have hsz : its.toArray.size + its2.toArray.size ≤ sizeLine := by rw [List.size_toArray, List.size_toArray]; omega
  refine call_meets F.slot_list_extend ⟨_, e, rfl⟩ F.entry_list_extend (F.args_list_extend_2 _ _)
    (meets_extT l its.toArray n b its2.toArray (by rw [notLongL hsz, Bool.and_false]; exact Bool.false_ne_true) (by rw [List.size_toArray]; omega) (by rw [Array.size_append]; omega)) ⟨e, tp, ?_⟩
  refine ⟨.non, _, I.lset (its' := its ++ its2) hH e (by simp) (r.append r2) (by rw [List.length_append]; omega), rfl, q⟩
end Wk
end
section
set_option Elab.async false
set_option linter.all false
set_option maxRecDepth 100000
set_option maxHeartbeats 4000000
/-! rows of values, literals, clauses -/
namespace Wk
open PySem PySem.Spec PyProof.Rows L2 Evl
def AllV {α : Type} (P : α → V → Hp → Prop) (as : List α) (vs : List V) (H : Hp) : Prop := vs.length = as.length ∧ ∀ (i : Nat) v a, vs[i]? = some v → as[i]? = some a → P a v H
/-- all but lists stay -/
def Nl (H H' : Hp) : Prop := ∀ a o, H a = some o → (∀ xs, o ≠ .lst xs) → H' a = some o
def Mn {α : Type} (P : α → Hp → Prop) : Prop := ∀ v H H', Nl H H' → P v H → P v H'
theorem Nl.of {H H' : Hp} (e : Ex H H') : Nl H H' := fun a o h _ => e a o h
theorem Nl.trans {H H1 H2 : Hp} (a : Nl H H1) (b : Nl H1 H2) : Nl H H2 := fun x o h n => b x o (a x o h n) n
theorem Nl.lst {H : Hp} {a : Addr} {xs ys : List V} (h : H a = some (.lst xs)) : Nl H (upd H a (.lst ys)) := fun b o hb n => by
  have : b ≠ a := fun e => by subst e; rw [h] at hb; exact n xs (Option.some.inj hb).symm
  rw [upd_ne this]; exact hb
theorem Nl.tu {H H' : Hp} (n : Nl H H') : Tu H H' := fun p xs h => n p _ h (fun ys e => by cases e)
theorem Mn.mo {α : Type} {P : α → Hp → Prop} (m : Mn P) : Mo P := fun v H H' e => m v H H' (.of e)
section
variable {α : Type} {P : α → V → Hp → Prop} {as : List α} {vs : List V} {H H' : Hp} {v : V} {a : α}
theorem AllV.mo (m : ∀ a, Mo (P a)) : Mo (AllV P as) := fun vs H H' e h => ⟨h.1, fun i v a x y => m a v H H' e (h.2 i v a x y)⟩
theorem AllV.mn (m : ∀ a, Mn (P a)) : Mn (AllV P as) := fun vs H H' e h => ⟨h.1, fun i v a x y => m a v H H' e (h.2 i v a x y)⟩
theorem AllV.nil : AllV P [] [] H := ⟨rfl, fun i v a h _ => by simp at h⟩
theorem AllV.app (h : AllV P as vs H) (o : P a v H) : AllV P (as ++ [a]) (vs ++ [v]) H := by
  obtain ⟨h1, h2⟩ := h
  refine ⟨by simp [h1], fun i u y p q => ?_⟩
  by_cases hi : i < vs.length
  · rw [List.getElem?_append_left hi] at p
    rw [List.getElem?_append_left (by omega)] at q
    exact h2 i u y p q
  · rw [List.getElem?_append_right (by omega)] at p
    rw [List.getElem?_append_right (by omega)] at q
    have : i - vs.length = 0 := by
      have := (List.getElem?_eq_some_iff.mp p).1
      simp at this
      omega
    rw [this] at p
    rw [← h1, this] at q
    cases p; cases q
    exact o
theorem AllV.fst (h : AllV P as vs H) : (vs.zip as).map Prod.fst = vs := List.map_fst_zip (Nat.le_of_eq h.1)
theorem AllV.snd (h : AllV P as vs H) : (vs.zip as).map Prod.snd = as := List.map_snd_zip (Nat.le_of_eq h.1.symm)
theorem AllV.mem (h : AllV P as vs H) : ∀ z, z ∈ vs.zip as → P z.2 z.1 H := fun z hz => by
  obtain ⟨i, hi⟩ := List.getElem?_of_mem hz
  rw [List.getElem?_zip_eq_some] at hi
  exact h.2 i _ _ hi.1 hi.2
theorem AllV.zlen (h : AllV P as vs H) : (vs.zip as).length = as.length := by rw [List.length_zip, h.1, Nat.min_self]
theorem zip_fm {β : Type} (f : α → Bool) (g : α → β) : ∀ (vs : List V) (as : List α), vs.length = as.length → ((vs.zip as).filter fun z => f z.2).map (fun z => g z.2) = (as.filter f).map g := by
  intro vs as h
  have e : ((vs.zip as).filter fun z => f z.2).map (fun z => g z.2) = (((vs.zip as).map Prod.snd).filter f).map g := by
    rw [List.filter_map, List.map_map]
    rfl
  rw [e, List.map_snd_zip (Nat.le_of_eq h.symm)]
theorem AllV.get {i : Nat} (h : AllV P as vs H) (hi : as[i]? = some a) : ∃ v, vs[i]? = some v ∧ P a v H := by
  have h0 := (List.getElem?_eq_some_iff.mp hi).1
  have h1 : i < vs.length := by rw [h.1]; exact h0
  exact ⟨vs[i], List.getElem?_eq_getElem h1, h.2 i _ _ (List.getElem?_eq_getElem h1) hi⟩
theorem AllV.at {i : Nat} (h : AllV P as vs H) (hi : vs[i]? = some v) : ∃ a, as[i]? = some a ∧ P a v H := by
  have h0 := (List.getElem?_eq_some_iff.mp hi).1
  have h1 : i < as.length := by rw [← h.1]; exact h0
  exact ⟨as[i], List.getElem?_eq_getElem h1, h.2 i _ _ hi (List.getElem?_eq_getElem h1)⟩
end
abbrev Lt := List Sg × Bool
abbrev Cl := List Sg × List Lt
theorem TermAt.mn (zs : List Sg) : Mn (TermAt zs) := fun v H H' n ⟨q, vs, a, b, c⟩ => ⟨q, vs, a, n.tu _ _ b, c.tu n.tu⟩
def LitAt (K : PySem.W.Frag) (z : Lt) (v : V) (H : Hp) : Prop := ∃ p dx t, v = .ref p ∧ H p = some (.ins (He.ga K "Literal") dx [("atom", t), ("is_denied", .bl z.2)]) ∧ TermAt z.1 t H
theorem LitAt.mn (K : PySem.W.Frag) (z : Lt) : Mn (LitAt K z) := fun v H H' n ⟨p, dx, t, a, b, c⟩ => ⟨p, dx, t, a, n _ _ b (fun xs e => by cases e), TermAt.mn _ _ _ _ n c⟩
def ClAt (K : PySem.W.Frag) (z : Cl) (v : V) (H : Hp) : Prop := ∃ p dx t b vs, v = .ref p ∧ H p = some (.ins (He.ga K "Clause") dx [("head", t), ("body", .ref b)]) ∧ TermAt z.1 t H ∧ H b = some (.lst vs) ∧ AllV (LitAt K) z.2 vs H
theorem ClAt.mo (K : PySem.W.Frag) (z : Cl) : Mo (ClAt K z) := fun v H H' e ⟨p, dx, t, b, vs, h1, h2, h3, h4, h5⟩ => ⟨p, dx, t, b, vs, h1, e _ _ h2, TermAt.mo _ _ _ _ e h3, e _ _ h4, AllV.mo (fun a => (LitAt.mn K a).mo) _ _ _ e h5⟩
/-- a clause whose row is none of B's -/
def ClAtB (K : PySem.W.Frag) (B : Hp) (z : Cl) (v : V) (H : Hp) : Prop := ∃ p dx t b vs, v = .ref p ∧ H p = some (.ins (He.ga K "Clause") dx [("head", t), ("body", .ref b)]) ∧ TermAt z.1 t H ∧ H b = some (.lst vs) ∧ AllV (LitAt K) z.2 vs H ∧ B b = none
theorem ClAtB.at {K : PySem.W.Frag} {B H : Hp} {z : Cl} {v : V} (h : ClAtB K B z v H) : ClAt K z v H := let ⟨p, dx, t, b, vs, h1, h2, h3, h4, h5, _⟩ := h; ⟨p, dx, t, b, vs, h1, h2, h3, h4, h5⟩
theorem ClAtB.back {K : PySem.W.Frag} {B B' H : Hp} {z : Cl} {v : V} (e : Ex B B') (h : ClAtB K B' z v H) : ClAtB K B z v H := let ⟨p, dx, t, b, vs, h1, h2, h3, h4, h5, h6⟩ := h; ⟨p, dx, t, b, vs, h1, h2, h3, h4, h5, fresh_back e h6⟩
theorem ClAtB.mo (K : PySem.W.Frag) (B : Hp) (z : Cl) : Mo (ClAtB K B z) := fun v H H' e ⟨p, dx, t, b, vs, h1, h2, h3, h4, h5, h6⟩ => ⟨p, dx, t, b, vs, h1, e _ _ h2, TermAt.mo _ _ _ _ e h3, e _ _ h4, AllV.mo (fun a => (LitAt.mn K a).mo) _ _ _ e h5, h6⟩
theorem nl_del {H : Hp} {a : Addr} {xs : List V} (h : H a = some (.lst xs)) : Nl H (del H a) := fun b o hb n => by
  have : b ≠ a := fun e => by subst e; rw [h] at hb; exact n xs (Option.some.inj hb).symm
  rw [del_ne this]; exact hb
theorem ClAtB.del {K : PySem.W.Frag} {B H : Hp} {z : Cl} {v : V} {f : Addr} {xs : List V} {o : HO} (h : ClAtB K B z v H) (hf : H f = some (.lst xs)) (hB : B f = some o) : ClAt K z v (del H f) := by
  obtain ⟨p, dx, t, b, vs, h1, h2, h3, h4, h5, h6⟩ := h
  have n := nl_del hf
  have hb : b ≠ f := fun e => by subst e; rw [hB] at h6; cases h6
  exact ⟨p, dx, t, b, vs, h1, n _ _ h2 (fun xs e => by cases e), TermAt.mn _ _ _ _ n h3, by rw [del_ne hb]; exact h4, AllV.mn (LitAt.mn K) _ _ _ n h5⟩
theorem del_upd {H : Hp} {a : Addr} {o : HO} : del (upd H a o) a = del H a := by
  funext b
  by_cases e : b = a
  · subst e; rw [del_same, del_same]
  · rw [del_ne e, del_ne e, upd_ne e]
theorem ex_deldel {H H' : Hp} {a : Addr} (e : Ex H H') : Ex (del H a) (del H' a) := fun b o h => by
  by_cases x : b = a
  · subst x; rw [del_same] at h; cases h
  · rw [del_ne x] at h ⊢; exact e b o h
section
variable {K : PySem.W.Frag} {σ : L2.St} {H : Hp} {wi : TI} {ta ti te : TE} {tr : TA} {xs : List V} {D : Ends} {tu tz : TS} {P : V → Hp → Prop} {PA : List V → Hp → Prop} {v : V}
theorem x_make {sp : Sp} {E : XK} {C : Addr} (h : EvAX tr σ H PA) (k : ∀ vs H1 x dx, Ex H H1 → PA vs H1 → H1 x = none → H1 dx = none → dx ≠ x → ∀ Q : VK, (∀ H2, Ex H1 H2 → P (.ref x) H2 → Q .non H2) → ∀ E, sp (.ref x :: vs) (upd (upd H1 dx (.own x)) x (.ins C dx [])) Q E) :
    EvX (tMake C sp [] E tr) σ H P := fun H1 e Q q => h H1 e _ fun vs H2 e2 pa x dx hx hdx hn => by
  rw [List.append_nil]
  exact k vs H2 x dx (e.trans e2) pa hx hdx hn _ (fun H3 e3 p => ⟨rfl, q _ H3 (e2.trans e3) p⟩) E
/-- a comprehension whose elements are told by what they are -/
theorem x_lc {j : Nat} {vs : List Nat} (P : Nat → V → Hp → Prop) (hm : ∀ i, Mn (P i)) (hI : EvI wi σ H xs) (hz : xs.length ≤ 40000) (hw : ∀ x, wipe ((wipe σ vs).set j (some x)) vs = wipe σ vs)
    (he : ∀ i x, xs[i]? = some x → ∀ H1, Ex H H1 → EvX te ((wipe σ vs).set j (some x)) H1 (P i)) :
    EvX (tLc wi (gName j) tYes te vs) σ H (fun v H' => ∃ p ys, v = .ref p ∧ H p = none ∧ H' p = some (.lst ys) ∧ ys.length = xs.length ∧ ∀ (i : Nat) y, ys[i]? = some y → P i y H') := fun H0 e Q q => hI H0 e _ fun J H1 G Y e1 W hG hY Dl hD =>
  lc_it W (fun i H' => H1 Dl = none ∧ Ex H1 H' ∧ ∃ ys, H' Dl = some (.lst ys) ∧ ys.length = i ∧ ∀ (k : Nat) y, ys[k]? = some y → P k y H') ⟨hD, Ex.new hD, [], upd_same, rfl, fun k y h => by simp at h⟩ (fun i H' _ p => hG _ p.2.1) (fun i x H' H'' hi p y => by
    obtain ⟨rfl, hx⟩ := hY _ _ _ _ y
    obtain ⟨p1, p2, ys, p3, p4, p5⟩ := p
    refine ⟨hw _, et_yes (σ := (wipe σ vs).set j (some x)) H'' (Ex.refl _) _ fun H3 e3 => ?_⟩
    show te _ H3 _
    refine he i x hx H1 (e.trans e1) H3 (p2.trans e3) _ fun u H4 e4 pu => ⟨ys, e4 Dl _ (e3 Dl _ p3), sz_lt (by omega), p1, Ex.mut ((p2.trans e3).trans e4) p1, ys ++ [u], upd_same, by simp [p4], fun k z hk => ?_⟩
    have n4 : Nl H4 (upd H4 Dl (.lst (ys ++ [u]))) := .lst (e4 Dl _ (e3 Dl _ p3))
    by_cases hlt : k < ys.length
    · rw [List.getElem?_append_left hlt] at hk
      exact hm k z _ _ ((Nl.of (e3.trans e4)).trans n4) (p5 k z hk)
    · rw [List.getElem?_append_right (by omega)] at hk
      have h0 : k - ys.length = 0 := by
        have := (List.getElem?_eq_some_iff.mp hk).1
        simp at this
        omega
      have hki : k = i := by omega
      rw [h0] at hk
      cases hk
      rw [hki]
      exact hm i u _ _ n4 pu) (fun H' ⟨p1, p2, ys, p3, p4, p5⟩ => q _ H' (e1.trans p2) ⟨Dl, ys, rfl, fresh_back (e.trans e1) p1, p3, p4, p5⟩)
end
section
variable {K : PySem.W.Frag} {σ : L2.St} {H : Hp} {wi : TI} {ta ti te tl : TE} {tr : TA} {xs : List V} {D : Ends} {tu tz : TS} {P : V → Hp → Prop} {PA : List V → Hp → Prop} {v : V} {g : TG}
/-- one argument -/
theorem x_one (h : EvX te σ H P) : EvAX (tCons te tNil) σ H (fun vs H => ∃ v, vs = [v] ∧ P v H) := fun H1 e Q q => h H1 e _ fun v H2 e2 p => q [v] H2 e2 ⟨v, rfl, p⟩
/-- a for over a list that is made -/
theorem s_forX {PL : Addr → List V → Hp → Prop} (h : EvX tl σ H (fun v H' => ∃ p ts, v = .ref p ∧ H p = none ∧ H' p = some (.lst ts) ∧ PL p ts H'))
    (k : ∀ p ts H1, H p = none → Ex H H1 → H1 p = some (.lst ts) → PL p ts H1 → ∃ Pv : Nat → L2.St → Hp → Prop, Pv 0 σ H1 ∧ (∀ i σ' H', i ≤ ts.length → Pv i σ' H' → SqL K H' p ts) ∧
      (∀ (i : Nat) x σ' H', ts[i]? = some x → Pv i σ' H' → g x σ' H' fun σ2 H2 => tu { D with nx := Pv (i + 1), ct := Pv (i + 1), bk := D.nx } σ2 H2) ∧ (∀ σ' H', Pv ts.length σ' H' → D.nx σ' H')) : tFor (iList K tl) g tu D σ H :=
  h H (Ex.refl H) _ fun v H1 e ⟨p, ts, ev, hp, h1, pl⟩ => by
    subst ev
    obtain ⟨Pv, k0, k1, k2, k3⟩ := k p ts H1 hp e h1 pl
    exact ⟨p, rfl, ⟨ts, sq_of h1⟩, for_list Pv k0 k1 k2 k3⟩
theorem q_forX {PL : Addr → List V → Hp → Prop} (h : EvX tl σ H (fun v H' => ∃ p ts, v = .ref p ∧ H p = none ∧ H' p = some (.lst ts) ∧ PL p ts H'))
    (k : ∀ p ts H1, H p = none → Ex H H1 → H1 p = some (.lst ts) → PL p ts H1 → ∃ Pv : Nat → L2.St → Hp → Prop, Pv 0 σ H1 ∧ (∀ i σ' H', i ≤ ts.length → Pv i σ' H' → SqL K H' p ts) ∧
      (∀ (i : Nat) x σ' H', ts[i]? = some x → Pv i σ' H' → g x σ' H' fun σ2 H2 => tu { D with nx := Pv (i + 1), ct := Pv (i + 1), bk := tz D } σ2 H2) ∧ (∀ σ' H', Pv ts.length σ' H' → tz D σ' H')) : tSeq (tFor (iList K tl) g tu) tz D σ H :=
  s_forX (D := { D with nx := tz D }) h k
/-- a for over enumerate([]) -/
theorem q_forEnum0 (h : EvX te σ H (fun v H' => ∃ p, v = .ref p ∧ H' p = some (.lst []))) (k : ∀ H1, Ex H H1 → tz D σ H1) : tSeq (tFor (iEnum K (tCons te tNil)) g tu) tz D σ H :=
  h H (Ex.refl H) _ fun v H1 e ⟨p, ev, h1⟩ => by
    subst ev
    exact ⟨p, [], rfl, sq_of h1, for_it (D := { D with nx := tz D }) (walk_enum (K := K) (a := p) (xs := [])) (fun _ σ' H' => σ' = σ ∧ H' = H1) ⟨rfl, rfl⟩ (fun i σ' H' _ ⟨_, e2⟩ => by rw [e2]; exact sq_of h1) (fun i x σ' H' H'' hi _ _ => absurd hi (Nat.not_lt_zero _)) (fun σ' H' ⟨e1, e2⟩ => by rw [e1, e2]; exact k H1 e)⟩
/-- for i, x in enumerate(a row that is made) -/
theorem q_forEnumL {i j : Nat} (h : EvL te σ H xs) (Pv : Addr → Nat → L2.St → Hp → Prop) (h0 : ∀ p H1, H p = none → Ex H H1 → H1 p = some (.lst xs) → Pv p 0 σ H1) (hl : ∀ p k σ' H', Pv p k σ' H' → H' p = some (.lst xs))
    (hs : ∀ p (k : Nat) x σ' H' H'', xs[k]? = some x → Pv p k σ' H' → Ex H' H'' → tu { D with nx := Pv p (k + 1), ct := Pv p (k + 1), bk := tz D } ((σ'.set i (some (.int (k : Int)))).set j (some x)) H'') (hd : ∀ p σ' H', Pv p xs.length σ' H' → tz D σ' H') :
    tSeq (tFor (iEnum K (tCons te tNil)) (gTup K 2 (gCons (gName i) (gCons (gName j) gNil))) tu) tz D σ H := h H (Ex.refl H) _ fun p H1 hp e h1 =>
  ⟨p, xs, rfl, sq_of h1, for_it (D := { D with nx := tz D }) (walk_enum (K := K) (a := p) (xs := xs)) (Pv p) (h0 p H1 hp e h1) (fun k σ' H' _ q => sq_of (hl p k σ' H' q)) (fun k x σ' H' H'' hk q ⟨T, a, b, ev, hT, eH, ha, hb⟩ => by
    subst ev
    subst eH
    cases ha
    exact ⟨T, _, rfl, st_of upd_same, rfl, _, _, rfl, _, _, rfl, rfl, hs p k b σ' H' _ hb q (Ex.new hT)⟩) (hd p)⟩
/-- xs.extend(a tuple) -/
theorem s_extT {l q : Addr} {zs : List V} (hl : H l = some (.lst xs)) (ha : Ev ta σ H (.ref l)) (h : Ev te σ H (.ref q)) (hq : H q = some (.tup zs)) (hz : xs.length + zs.length ≤ 100000) (k : ∀ H1, Ex H H1 → D.nx σ (upd H1 l (.lst (xs ++ zs)))) :
    tDrop (tBM K "list" rExtendT ta (tCons te tNil)) D σ H := ha H (Ex.refl H) _ fun H1 e1 =>
  ⟨Or.inl ⟨rfl, xs, sq_of (e1 l _ hl)⟩, h H1 e1 _ fun H2 e2 => ⟨l, q, xs, zs, rfl, rfl, (e1.trans e2) l _ hl, (e1.trans e2) q _ hq, sz_of hz, k H2 (e1.trans e2)⟩⟩
end
theorem SgL.cat {H : Hp} {vs ws : List V} {zs as : List Sg} (h : SgL H vs zs) (g : SgL H ws as) : SgL H (vs ++ ws) (zs ++ as) := by
  obtain ⟨h1, h2⟩ := h
  obtain ⟨g1, g2⟩ := g
  refine ⟨by simp [h1, g1], fun i v z a b => ?_⟩
  by_cases hi : i < vs.length
  · rw [List.getElem?_append_left hi] at a
    rw [List.getElem?_append_left (by omega)] at b
    exact h2 i v z a b
  · rw [List.getElem?_append_right (by omega)] at a
    rw [List.getElem?_append_right (by omega), ← h1] at b
    exact g2 _ v z a b
/-! how deep a term is -/
def izs (ns : List Int) : List V := ns.map V.int
theorem izs_len (ns : List Int) : (izs ns).length = ns.length := List.length_map ..
theorem izs_last {ns : List Int} (h : ns ≠ []) : (izs ns)[(izs ns).length - 1]? = some (.int (ns.getLastD 0)) := by
  rw [izs_len]
  unfold izs
  rw [List.getElem?_map, ← List.getLast?_eq_getElem?, List.getLast?_eq_some_getLast h, List.getLastD_eq_getLast?, List.getLast?_eq_some_getLast h]
  rfl
theorem izs_drop (ns : List Int) : (izs ns).dropLast = izs ns.dropLast := by unfold izs; rw [List.map_dropLast]
theorem izs_snoc {ns : List Int} (h : ns ≠ []) : izs ns = izs ns.dropLast ++ [.int (ns.getLastD 0)] := by
  conv => lhs; rw [← List.dropLast_concat_getLast h]
  unfold izs
  rw [List.map_append, List.getLastD_eq_getLast?, List.getLast?_eq_some_getLast h]
  rfl
theorem izs_ne {ns : List Int} (h : decide (((izs ns).length : Int) > 0) = true) : ns ≠ [] := fun e => by
  subst e
  exact absurd h (by decide)
def dClose : Nat → List Int → List Int
  | 0, st => st
  | n + 1, st => if st ≠ [] ∧ st.getLastD 0 = 0 then (if st.dropLast = [] then dClose n [] else dClose n (st.dropLast.dropLast ++ [st.dropLast.getLastD 0 - 1])) else st
def dStep (s : Int × List Int) (z : Sg) : Int × List Int := (if (s.2.length : Int) + 1 > s.1 then (s.2.length : Int) + 1 else s.1, dClose (s.2.length + 1) (s.2 ++ [(z.2 : Int)]))
def depthOf (zs : List Sg) : Int := (zs.foldl dStep (0, [])).1
theorem dClose_nil (n : Nat) : dClose n [] = [] := by
  cases n with
  | zero => rfl
  | succ n => unfold dClose; rw [if_neg (fun h => h.1 rfl)]
theorem dClose_step (st : List Int) (h : st ≠ [] ∧ st.getLastD 0 = 0) : dClose st.length st = if st.dropLast = [] then dClose ([] : List Int).length [] else dClose (st.dropLast.dropLast ++ [st.dropLast.getLastD 0 - 1]).length (st.dropLast.dropLast ++ [st.dropLast.getLastD 0 - 1]) := by
  have h0 := List.length_pos_iff.mpr h.1
  obtain ⟨n, hn⟩ : ∃ n, st.length = n + 1 := ⟨st.length - 1, by omega⟩
  rw [hn]
  conv => lhs; unfold dClose
  rw [if_pos h]
  by_cases hd : st.dropLast = []
  · rw [if_pos hd, if_pos hd, dClose_nil, dClose_nil]
  · rw [if_neg hd, if_neg hd]
    have h1 := List.length_pos_iff.mpr hd
    have h2 : st.dropLast.length = n := by simp; omega
    have h3 : (st.dropLast.dropLast ++ [st.dropLast.getLastD 0 - 1]).length = n := by
      rw [List.length_append, List.length_singleton, List.length_dropLast]
      omega
    rw [h3]
theorem dClose_stop (st : List Int) (h : ¬ (st ≠ [] ∧ st.getLastD 0 = 0)) : dClose st.length st = st := by
  cases st.length with
  | zero => rfl
  | succ n => unfold dClose; rw [if_neg h]
theorem any_false {α : Type} (as : List α) : (as.any fun _ => false) = false := by simp
end Wk
end
section
set_option Elab.async false
set_option linter.all false
set_option maxRecDepth 100000
set_option maxHeartbeats 4000000
/-! literals and clauses of a line, by themselves -/
namespace Wk
open PySem PySem.Spec PyProof.Rows L2 Evl
theorem cut_take (l : List Nat) (a n : Nat) : cutS (tx l) (some (a : Int)) (some ((a : Int) + (n : Int))) = tx ((l.drop a).take n) := by
  show tx (((tx l).cps.toList.drop (HT.sIx (tx l).length 0 (some (a : Int)))).take (HT.sIx (tx l).length (tx l).length (some ((a : Int) + (n : Int))) - HT.sIx (tx l).length 0 (some (a : Int)))) = _
  rw [← Int.natCast_add, HT.sIx_nat, HT.sIx_nat, tx_len]
  have e : (tx l).cps.toList = l := rfl
  rw [e]
  by_cases h : a ≤ l.length
  · rw [Nat.min_eq_left h]
    by_cases h2 : a + n ≤ l.length
    · rw [Nat.min_eq_left h2, Nat.add_sub_cancel_left]
    · rw [Nat.min_eq_right (by omega), List.take_of_length_le (by rw [List.length_drop]; omega), List.take_of_length_le (by rw [List.length_drop]; omega)]
  · rw [Nat.min_eq_right (by omega), Nat.min_eq_right (by omega), List.drop_eq_nil_of_le (Nat.le_refl _), List.drop_eq_nil_of_le (show l.length ≤ a by omega)]
    simp
def notW : List Nat := [110, 111, 116, 32]
theorem not_eq : ("not " : Str) = tx notW := by decide +kernel
def isNot (l : List Nat) (s : Nat) : Bool := decide ((l.drop s).take 4 = notW)
def readLit (l : List Nat) (s : Nat) : Option (Lt × Nat) := match readT l (s + if isNot l s then 4 else 0) with
  | none => none
  | some (zs, e) => if depthOf zs > 4 then none else some ((zs, isNot l s), e)
def bodyLoop (l : List Nat) : Nat → List Nat → Nat → List Lt → Option (List Lt)
  | 0, _, _, _ => none
  | n + 1, ah, pl, bs => if l.drop pl = [46] then some bs else if (l.drop pl).take ah.length ≠ ah ∨ bs.length = 4 then none else
    match readLit l (pl + ah.length) with
    | none => none
    | some (b, e) => bodyLoop l n [44, 32] e (bs ++ [b])
def readCl (l : List Nat) : Option Cl := match readLit l 0 with
  | none => none
  | some ((hd, dn), pl) => if dn = true ∨ l.length > 200 then none else (bodyLoop l (l.length + 1) [32, 58, 45, 32] pl []).map fun bs => (hd, bs)
theorem readLoop_inv {l : List Nat} : ∀ (n : Nat) (s s' : RS), RInv l s → readLoop l n s = some s' → RInv l s' ∧ 0 < s'.sg.length ∧ s.pl < s'.pl
  | 0, _, _, _, h => by cases h
  | n + 1, s, s', hi, h => by
    unfold readLoop at h
    split at h
    · cases h
    · rename_i hw
      obtain ⟨i1, i2, i3⟩ := putW_inv hi hw
      have i4 := goOn_inv i1 i2
      have i5 := goOn_pl l (putW l s)
      have i6 := goOn_sg l (putW l s)
      split at h
      · cases h
      · cases h
        exact ⟨i4, by omega, by omega⟩
      · obtain ⟨j1, j2, j3⟩ := readLoop_inv n _ _ i4 h
        exact ⟨j1, j2, by omega⟩
theorem readT_sz {l : List Nat} {s e : Nat} {zs : List Sg} (hs : s ≤ l.length) (h : readT l s = some (zs, e)) : 0 < zs.length ∧ zs.length ≤ l.length ∧ s < e ∧ e ≤ l.length := by
  unfold readT at h
  obtain ⟨s', h1, h2⟩ := Option.map_eq_some_iff.mp h
  cases h2
  obtain ⟨j1, j2, j3⟩ := readLoop_inv (l.length - s + 1) ⟨s, [], [], []⟩ s' ⟨hs, rfl, fun _ h => (by cases h), Nat.zero_le _, Nat.zero_le _⟩ h1
  exact ⟨j2, Nat.le_trans j1.sg j1.pl, j3, j1.pl⟩
theorem isNot_le {l : List Nat} {s : Nat} (hs : s ≤ l.length) : s + (if isNot l s then 4 else 0) ≤ l.length := by
  split
  · rename_i h
    have h1 := congrArg List.length (of_decide_eq_true h)
    rw [List.length_take, List.length_drop] at h1
    have : notW.length = 4 := rfl
    omega
  · omega
theorem readLit_sz {l : List Nat} {s e : Nat} {b : Lt} (hs : s ≤ l.length) (h : readLit l s = some (b, e)) : 0 < b.1.length ∧ b.1.length ≤ l.length ∧ s < e ∧ e ≤ l.length := by
  unfold readLit at h
  split at h
  · cases h
  · rename_i zs e' ht
    split at h
    · cases h
    · cases h
      have := readT_sz (isNot_le hs) ht
      exact ⟨this.1, this.2.1, by omega, this.2.2.2⟩
def LitR (K : PySem.W.Frag) (b : Lt) (e : Nat) (v : V) (H : Hp) : Prop := ∃ p lv, v = .ref p ∧ H p = some (.tup [lv, .int (e : Int)]) ∧ LitAt K b lv H
def ReadL (K : PySem.W.Frag) (o : Option (Lt × Nat)) (v : V) (H : Hp) : Prop := match o with
  | none => v = .non
  | some (b, e) => LitR K b e v H
def ReadC (K : PySem.W.Frag) (B : Hp) (o : Option Cl) (v : V) (H : Hp) : Prop := match o with
  | none => v = .non
  | some z => ClAtB K B z v H
theorem LitR.mn (K : PySem.W.Frag) (b : Lt) (e : Nat) : Mn (LitR K b e) := fun v H H' n ⟨p, lv, h1, h2, h3⟩ => ⟨p, lv, h1, n.tu _ _ h2, LitAt.mn _ _ _ _ _ n h3⟩
/-! programs -/
def progT (ls : List (List Nat)) : List Nat := (ls.map (· ++ [10])).flatten
theorem split_prog (ls : List (List Nat)) (h : ∀ l, l ∈ ls → 10 ∉ l) : TL.spl [10] 0 [] (progT ls) = ls ++ [[]] := by
  induction ls with
  | nil => rfl
  | cons l ls ih =>
    have e : progT (l :: ls) = l ++ ([10] ++ progT ls) := by
      show (l ++ [10]) ++ progT ls = _
      rw [List.append_assoc]
    rw [e, TL.spl_part1 (h l List.mem_cons_self), ih (fun m hm => h m (List.mem_cons_of_mem _ hm))]
    rfl
theorem split_txt (ls : List (List Nat)) (h : ∀ l, l ∈ ls → 10 ∉ l) : Txt.split (tx (progT ls)) "\n" = ls.map tx ++ [tx []] := by
  have e : ("\n" : Str) = tx [10] := by decide +kernel
  rw [e]
  have := SX.split_S (a := progT ls) (b := [10]) (by decide) (by decide)
  rw [split_prog ls h, List.map_append] at this
  exact this
theorem cut_last (xs : List V) (x : V) : cutV (xs ++ [x]) none (some (-1)) = xs := by
  have e1 : HT.sIx (xs ++ [x]).length 0 none = 0 := rfl
  have e2 : HT.sIx (xs ++ [x]).length (xs ++ [x]).length (some (-1)) = xs.length := by
    rw [List.length_append, List.length_singleton]
    unfold HT.sIx
    simp
    omega
  unfold cutV
  rw [e1, e2, List.drop_zero, Nat.sub_zero, List.take_left]
/-- raised -/
def BadE (K : PySem.W.Frag) (nm : Str) (H : Hp) (E : XK) : Prop := ∀ d H', Ex H H' → H' d = some (.xd [("name", .str nm)]) → E (.ref (He.ga K "BadArgument")) (some d) H'
theorem BadE.mono {K : PySem.W.Frag} {nm : Str} {H H' : Hp} {E : XK} (e : Ex H H') (h : BadE K nm H E) : BadE K nm H' E := fun d H2 e2 h2 => h d H2 (e.trans e2) h2
end Wk
end
section
set_option Elab.async false
set_option linter.all false
set_option maxRecDepth 100000
set_option maxHeartbeats 4000000
/-! programs of names of one sign -/
namespace Wk
open PySem PySem.Spec PyProof.Rows L2 Evl
abbrev Rw := Nat × List Nat × List Nat
def t1 (c : Nat) : List Sg := [([c], 0)]
def clOf (r : Rw) : Cl := (t1 r.1, r.2.1.map (fun c => (t1 c, false)) ++ r.2.2.map (fun c => (t1 c, true)))
def nmV (c : Nat) : V := .str (tx [c])
def nmL (cs : List Nat) : List V := cs.map nmV
theorem nmL_len (cs : List Nat) : (nmL cs).length = cs.length := List.length_map ..
theorem nmV_inj {a b : Nat} (h : nmV a = nmV b) : a = b := by
  have := tx_inj (V.str.inj h)
  exact (List.cons.inj this).1
def RowAtB (B : Hp) (r : Rw) (v : V) (H : Hp) : Prop := ∃ p w d, v = .ref p ∧ H p = some (.tup [nmV r.1, .ref w, .ref d]) ∧ H w = some (.lst (nmL r.2.1)) ∧ H d = some (.lst (nmL r.2.2)) ∧ B w = none ∧ B d = none
def RowAt (r : Rw) (v : V) (H : Hp) : Prop := ∃ p w d, v = .ref p ∧ H p = some (.tup [nmV r.1, .ref w, .ref d]) ∧ H w = some (.lst (nmL r.2.1)) ∧ H d = some (.lst (nmL r.2.2))
theorem RowAt.mo (r : Rw) : Mo (RowAt r) := fun v H H' e ⟨p, w, d, h1, h2, h3, h4⟩ => ⟨p, w, d, h1, e _ _ h2, e _ _ h3, e _ _ h4⟩
theorem RowAtB.del {B H : Hp} {r : Rw} {v : V} {f : Addr} {xs : List V} {o : HO} (h : RowAtB B r v H) (hf : H f = some (.lst xs)) (hB : B f = some o) : RowAt r v (del H f) := by
  obtain ⟨p, w, d, h1, h2, h3, h4, h5, h6⟩ := h
  have hw : w ≠ f := fun e => by subst e; rw [hB] at h5; cases h5
  have hd : d ≠ f := fun e => by subst e; rw [hB] at h6; cases h6
  exact ⟨p, w, d, h1, (nl_del hf).tu _ _ h2, by rw [del_ne hw]; exact h3, by rw [del_ne hd]; exact h4⟩
def RowsAt (rs : List Rw) (a : Addr) (H : Hp) : Prop := ∃ vs, H a = some (.lst vs) ∧ AllV RowAt rs vs H
theorem RowsAt.ex {rs : List Rw} {a : Addr} {H H' : Hp} (e : Ex H H') (h : RowsAt rs a H) : RowsAt rs a H' := let ⟨vs, h1, h2⟩ := h; ⟨vs, e _ _ h1, AllV.mo RowAt.mo _ _ _ e h2⟩
/-! dicts that are sets of names -/
def dk (ns : List Nat) : List (Key × V) := ns.map fun c => (Sum.inr (tx [c]), V.bl true)
def addN (ns : List Nat) (c : Nat) : List Nat := if c ∈ ns then ns else ns ++ [c]
theorem key_inj {a b : Nat} : ((Sum.inr (tx [a]) : Key) = Sum.inr (tx [b])) ↔ a = b := by
  constructor
  · intro h
    have := tx_inj (Sum.inr.inj h)
    exact (List.cons.inj this).1
  · intro h; rw [h]
theorem val_dk (ns : List Nat) (c : Nat) : (valV (dk ns) (Sum.inr (tx [c]))).isSome = decide (c ∈ ns) := by
  rw [← valV_any]
  induction ns with
  | nil => rfl
  | cons a ns ih =>
    show (decide ((Sum.inr (tx [a]) : Key) = Sum.inr (tx [c])) || (dk ns).any _) = _
    rw [ih]
    by_cases h : a = c
    · subst h; simp
    · have : ¬ ((Sum.inr (tx [a]) : Key) = Sum.inr (tx [c])) := fun e => h (key_inj.mp e)
      rw [decide_eq_false this, Bool.false_or, decide_eq_decide, List.mem_cons]
      constructor
      · intro x; exact .inr x
      · rintro (x | x)
        · exact absurd x.symm h
        · exact x
theorem put_dk (ns : List Nat) (c : Nat) : putK (dk ns) (Sum.inr (tx [c])) (.bl true) = dk (addN ns c) := by
  unfold putK addN
  rw [valV_any, val_dk]
  by_cases h : c ∈ ns
  · rw [if_pos (decide_eq_true h), if_pos h]
    unfold dk
    rw [List.map_map]
    apply List.map_congr_left
    intro a ha
    show (if (Sum.inr (tx [a]) : Key) = Sum.inr (tx [c]) then ((Sum.inr (tx [a]) : Key), V.bl true) else (Sum.inr (tx [a]), V.bl true)) = _
    split <;> rfl
  · rw [if_neg (by rw [decide_eq_false h]; decide), if_neg h]
    unfold dk
    rw [List.map_append]
    rfl
theorem dk_len (ns : List Nat) : (dk ns).length = ns.length := List.length_map ..
theorem addN_mem {ns : List Nat} {c a : Nat} : a ∈ addN ns c ↔ a ∈ ns ∨ a = c := by
  unfold addN
  split
  · rename_i h
    constructor
    · intro x; exact .inl x
    · rintro (x | x)
      · exact x
      · rw [x]; exact h
  · rw [List.mem_append, List.mem_singleton]
theorem addN_nodup {ns : List Nat} {c : Nat} (h : ns.Nodup) : (addN ns c).Nodup := by
  unfold addN
  split
  · exact h
  · rename_i hc
    rw [List.nodup_append]
    exact ⟨h, by simp, fun a ha b hb => by rw [List.mem_singleton.mp hb]; intro e; exact hc (e ▸ ha)⟩
theorem addN_len (ns : List Nat) (c : Nat) : (addN ns c).length ≤ ns.length + 1 := by
  unfold addN
  split
  · omega
  · simp
section
variable {K : PySem.W.Frag} {σ : L2.St} {H : Hp} {ta td te ty tv : TE} {tr : TA} {xs ys : List V} {D : Ends} {tu tz : TS} {ns : List Nat} {c : Nat} {d : Addr}
theorem ev_din (h : Ev ty σ H (nmV c)) (ho : Ev td σ H (.ref d)) (hd : H d = some (.dK (dk ns))) : Ev (tDIn ty td) σ H (.bl (decide (c ∈ ns))) := fun H1 e Q q =>
  h H1 e _ fun H2 e2 => ho H2 (e.trans e2) _ fun H3 e3 => ⟨d, _, rfl, DGet.k (k := Sum.inr (tx [c])) (e3 _ _ (e2 _ _ (e _ _ hd))), by rw [val_dk]; exact q H3 (e2.trans e3)⟩
theorem ev_dnotin (h : Ev ty σ H (nmV c)) (ho : Ev td σ H (.ref d)) (hd : H d = some (.dK (dk ns))) : Ev (tDNotIn ty td) σ H (.bl (!decide (c ∈ ns))) := fun H1 e Q q =>
  h H1 e _ fun H2 e2 => ho H2 (e.trans e2) _ fun H3 e3 => ⟨d, _, rfl, DGet.k (k := Sum.inr (tx [c])) (e3 _ _ (e2 _ _ (e _ _ hd))), by rw [val_dk]; exact q H3 (e2.trans e3)⟩
theorem s_dput (hv : Ev tv σ H (.bl true)) (ho : Ev td σ H (.ref d)) (h : Ev ty σ H (nmV c)) (hd : H d = some (.dK (dk ns))) (hl : ns.length < 100000) (k : ∀ H1, Ex H H1 → D.nx σ (upd H1 d (.dK (dk (addN ns c))))) : sDPut td ty tv D σ H :=
  hv H (Ex.refl H) _ fun H1 e1 => ho H1 e1 _ fun H2 e2 => h H2 (e1.trans e2) _ fun H3 e3 => ⟨d, _, rfl, DPut.k (k := Sum.inr (tx [c])) (v := .bl true) (((e1.trans e2).trans e3) _ _ hd) (by rw [dk_len]; exact sz_lt hl), by rw [put_dk]; exact k H3 ((e1.trans e2).trans e3)⟩
theorem q_dput (hv : Ev tv σ H (.bl true)) (ho : Ev td σ H (.ref d)) (h : Ev ty σ H (nmV c)) (hd : H d = some (.dK (dk ns))) (hl : ns.length < 100000) (k : ∀ H1, Ex H H1 → tz D σ (upd H1 d (.dK (dk (addN ns c))))) : tSeq (sDPut td ty tv) tz D σ H :=
  s_dput (D := { D with nx := tz D }) hv ho h hd hl k
/-- new list + list -/
theorem el_cat {q : Addr} (h : EvL ta σ H xs) (hb : Ev te σ H (.ref q)) (hq : H q = some (.lst ys)) (hz : xs.length + ys.length ≤ 100000) : EvL (tOp rCat ta te) σ H (xs ++ ys) := fun H1 e Q k =>
  h H1 e _ fun p H2 hp e2 h2 => hb H2 (e.trans e2) _ fun H3 e3 => ⟨p, q, xs, ys, rfl, rfl, e3 _ _ h2, ((e.trans e2).trans e3) _ _ hq, sz_of hz, fun o ho => k o _ (fresh_back (e2.trans e3) ho) ((e2.trans e3).trans (Ex.new ho)) upd_same⟩
theorem el_catN (h : EvL ta σ H xs) (hb : EvL te σ H ys) (hz : xs.length + ys.length ≤ 100000) : EvL (tOp rCat ta te) σ H (xs ++ ys) := fun H1 e Q k =>
  h H1 e _ fun p H2 hp e2 h2 => hb H2 (e.trans e2) _ fun q H3 hq e3 h3 => ⟨p, q, xs, ys, rfl, rfl, e3 _ _ h2, h3, sz_of hz, fun o ho => k o _ (fresh_back (e2.trans e3) ho) ((e2.trans e3).trans (Ex.new ho)) upd_same⟩
end
/-! rising names -/
theorem sortedS_cs : ∀ cs : List Nat, sortedS (cs.map fun c => tx [c]) = true → cs.Pairwise (· ≤ ·) := by
  have step : ∀ (cs : List Nat) (p : Nat), risingS (tx [p]) (cs.map fun c => tx [c]) = true → (p :: cs).Pairwise (· ≤ ·) := by
    intro cs
    induction cs with
    | nil => intro p _; exact List.pairwise_singleton ..
    | cons c cs ih =>
      intro p h
      have h' : (!ltCps [c] [p] && risingS (tx [c]) (cs.map fun c => tx [c])) = true := h
      obtain ⟨h1, h2⟩ := Bool.and_eq_true_iff.mp h'
      have h3 := ih c h2
      have hpc : p ≤ c := by
        have e : ltCps [c] [p] = decide (c < p) := by
          simp [ltCps]
        rw [e] at h1
        simpa using h1
      refine List.pairwise_cons.mpr ⟨fun a ha => ?_, h3⟩
      rcases List.mem_cons.mp ha with x | x
      · omega
      · have := (List.pairwise_cons.mp h3).1 a x
        omega
  intro cs h
  cases cs with
  | nil => exact List.Pairwise.nil
  | cons c cs => exact step cs c h
theorem sorted_unique : ∀ (as bs : List Nat), as.Perm bs → as.Pairwise (· ≤ ·) → bs.Pairwise (· ≤ ·) → as = bs
  | [], bs, h, _, _ => (List.Perm.nil_eq h)
  | a :: as, bs, h, ha, hb => by
    cases bs with
    | nil => exact absurd h.length_eq (by simp)
    | cons b bs =>
      have h1 := List.pairwise_cons.mp ha
      have h2 := List.pairwise_cons.mp hb
      have hab : a = b := by
        have x1 : a ∈ b :: bs := h.mem_iff.mp List.mem_cons_self
        have x2 : b ∈ a :: as := h.mem_iff.mpr List.mem_cons_self
        rcases List.mem_cons.mp x1 with e | e
        · exact e
        · rcases List.mem_cons.mp x2 with e2 | e2
          · exact e2.symm
          · have := h2.1 a e
            have := h1.1 b e2
            omega
      subst hab
      rw [sorted_unique as bs h.cons_inv h1.2 h2.2]
def addAll (ns : List Nat) (cs : List Nat) : List Nat := cs.foldl addN ns
def rowNs (r : Rw) : List Nat := r.1 :: (r.2.1 ++ r.2.2)
def keysOf (rs : List Rw) : List Nat := rs.foldl (fun ns r => addAll ns (rowNs r)) []
def sortN (ns : List Nat) : List Nat := ns.mergeSort (fun a b => decide (a ≤ b))
def namesOf (rs : List Rw) : List Nat := sortN (keysOf rs)
theorem sortN_perm (ns : List Nat) : (sortN ns).Perm ns := List.mergeSort_perm ns _
theorem sortN_sorted (ns : List Nat) : (sortN ns).Pairwise (· ≤ ·) := by
  have := List.pairwise_mergeSort (le := fun a b : Nat => decide (a ≤ b)) (by intro a b c h1 h2; simp at *; omega) (by intro a b; simp; omega) ns
  exact this.imp (by intro a b h; simpa using h)
theorem map_perm_tx {ys : List Str} {ns : List Nat} (h : ys.Perm (ns.map fun c => tx [c])) (hs : sortedS ys = true) : ys = (sortN ns).map fun c => tx [c] := by
  obtain ⟨cs, h1, h2⟩ : ∃ cs : List Nat, ys = cs.map (fun c => tx [c]) ∧ cs.Perm ns := by
    have inj : ∀ a b : Nat, tx [a] = tx [b] → a = b := fun a b e => (List.cons.inj (tx_inj e)).1
    let g : Str → Nat := fun s => s.cps.toList.headD 0
    have hg : ∀ c : Nat, g (tx [c]) = c := fun c => rfl
    refine ⟨ys.map g, ?_, ?_⟩
    · rw [List.map_map]
      have : ∀ y, y ∈ ys → ((fun c => tx [c]) ∘ g) y = y := by
        intro y hy
        obtain ⟨c, _, hc⟩ := List.mem_map.mp (h.mem_iff.mp hy)
        rw [← hc]
        rfl
      rw [List.map_congr_left this, List.map_id']
    · have := h.map g
      rw [List.map_map] at this
      have e : ns.map (g ∘ fun c => tx [c]) = ns := by
        have : (g ∘ fun c => tx [c]) = id := by funext c; rfl
        rw [this, List.map_id]
      rwa [e] at this
  subst h1
  rw [sorted_unique cs (sortN ns) (h2.trans (sortN_perm ns).symm) (sortedS_cs cs hs) (sortN_sorted ns)]
theorem clOf_wanted (r : Rw) : ((clOf r).2.filter fun z => !z.2).map (fun z => nmV ((z.1.headD ([], 0)).1.headD 0)) = nmL r.2.1 := by
  unfold clOf
  dsimp only
  rw [List.filter_append, List.filter_map, List.filter_map]
  have e1 : (List.filter ((fun z : Lt => !z.2) ∘ fun c => (t1 c, false)) r.2.1) = r.2.1 := List.filter_eq_self.mpr (fun _ _ => rfl)
  have e2 : (List.filter ((fun z : Lt => !z.2) ∘ fun c => (t1 c, true)) r.2.2) = [] := List.filter_eq_nil_iff.mpr (fun _ _ => by simp)
  rw [e1, e2, List.map_nil, List.append_nil, List.map_map]
  rfl
theorem clOf_denied (r : Rw) : ((clOf r).2.filter fun z => z.2).map (fun z => nmV ((z.1.headD ([], 0)).1.headD 0)) = nmL r.2.2 := by
  unfold clOf
  dsimp only
  rw [List.filter_append, List.filter_map, List.filter_map]
  have e1 : (List.filter ((fun z : Lt => z.2) ∘ fun c => (t1 c, true)) r.2.2) = r.2.2 := List.filter_eq_self.mpr (fun _ _ => rfl)
  have e2 : (List.filter ((fun z : Lt => z.2) ∘ fun c => (t1 c, false)) r.2.1) = [] := List.filter_eq_nil_iff.mpr (fun _ _ => by simp)
  rw [e1, e2, List.map_nil, List.nil_append, List.map_map]
  rfl
theorem el_sortedD {σ : L2.St} {H : Hp} {td : TE} {ns : List Nat} {d : Addr} (h : Ev td σ H (.ref d)) (hd : H d = some (.dK (dk ns))) (h64 : ns.length < 64) : EvL (tCB (fun xs H Q => ∃ (a : Addr) (kvs : List (Key × V)) (ks : List Str), xs = [.ref a] ∧ Rd H a (.dK kvs) ∧ kvs.map (·.1) = ks.map Sum.inr ∧ ks.length < 64 ∧
    ∀ ys p, ys.Perm ks → sortedS ys = true → H p = none → Q (.ref p) (upd H p (.lst (ys.map V.str)))) (tCons td tNil)) σ H (nmL (sortN ns)) := fun H1 e Q q => h H1 e _ fun H2 e2 =>
  ⟨d, dk ns, ns.map fun c => tx [c], rfl, .inl (e2 _ _ (e _ _ hd)), by unfold dk; rw [List.map_map, List.map_map]; rfl, by rw [List.length_map]; exact h64, fun ys p hp hs hn => by
    rw [map_perm_tx hp hs]
    refine q p _ (fresh_back e2 hn) (e2.trans (Ex.new hn)) ?_
    rw [upd_same]
    unfold nmL
    rw [List.map_map]
    rfl⟩
theorem addAll_len (cs : List Nat) : ∀ ns : List Nat, (addAll ns cs).length ≤ ns.length + cs.length := by
  induction cs with
  | nil => intro ns; exact Nat.le_refl _
  | cons c cs ih =>
    intro ns
    have := ih (addN ns c)
    have := addN_len ns c
    show (addAll (addN ns c) cs).length ≤ _
    rw [List.length_cons]
    omega
theorem addAll_take {ns cs : List Nat} {j c : Nat} (h : cs[j]? = some c) : addAll ns (cs.take (j + 1)) = addN (addAll ns (cs.take j)) c := by
  rw [List.take_add_one, h]
  show addAll ns (cs.take j ++ [c]) = _
  unfold addAll
  rw [List.foldl_append]
  rfl
theorem keysOf_take {rs : List Rw} {i : Nat} {r : Rw} (h : rs[i]? = some r) : keysOf (rs.take (i + 1)) = addAll (keysOf (rs.take i)) (rowNs r) := by
  rw [List.take_add_one, h]
  show keysOf (rs.take i ++ [r]) = _
  unfold keysOf
  rw [List.foldl_append]
  rfl
theorem clOf_one (r : Rw) : (((clOf r).1 :: (clOf r).2.map Prod.fst).all fun t => decide (t.length = 1)) = true := by
  rw [List.all_eq_true]
  intro t ht
  simp only [clOf, List.mem_cons, List.map_append, List.map_map, List.mem_append, List.mem_map] at ht
  rcases ht with h | ⟨c, _, h⟩ | ⟨c, _, h⟩
  · rw [h]; rfl
  · rw [← h]; rfl
  · rw [← h]; rfl
end Wk
end
section
set_option Elab.async false
set_option linter.all false
set_option maxRecDepth 100000
set_option maxHeartbeats 4000000
/-! what comes of clauses: the least set, by passes -/
namespace Wk
open PySem PySem.Spec PyProof.Rows L2 Evl
theorem inV_nm (c : Nat) (ks : List Nat) : inV (nmV c) (nmL ks) = decide (c ∈ ks) := by
  unfold inV nmL
  rw [List.any_map]
  induction ks with
  | nil => rfl
  | cons k ks ih =>
    rw [List.any_cons, ih]
    have e : ((fun y => eqV y (nmV c)) ∘ nmV) k = decide (k = c) := by
      show (decide (tx [k] = tx [c])) = _
      rw [decide_eq_decide]
      constructor
      · intro h; exact (List.cons.inj (tx_inj h)).1
      · intro h; rw [h]
    rw [e]
    by_cases h : k = c
    · subst h; simp
    · rw [decide_eq_false h, Bool.false_or, decide_eq_decide, List.mem_cons]
      constructor
      · intro x; exact .inr x
      · rintro (x | x)
        · exact absurd x.symm h
        · exact x
theorem flat_nm (ks : List Nat) : (nmL ks).all flatV = true := by
  unfold nmL
  rw [List.all_map]
  exact List.all_eq_true.mpr (fun _ _ => rfl)
section
variable {K : PySem.W.Frag} {σ : L2.St} {H : Hp} {ta tb : TE} {c : Nat} {ks : List Nat} {a : Addr}
theorem ev_inT (h : Ev ta σ H (nmV c)) (hb : Ev tb σ H (.ref a)) (hx : SqT K H a (nmL ks)) : Ev (tOp (rIn K false) ta tb) σ H (.bl (decide (c ∈ ks))) := by
  rw [← inV_nm]
  exact ev_op h hb (rv_isT hx rfl (flat_nm ks))
theorem ev_inL (h : Ev ta σ H (nmV c)) (hb : Ev tb σ H (.ref a)) (hx : SqL K H a (nmL ks)) : Ev (tOp (rIn K false) ta tb) σ H (.bl (decide (c ∈ ks))) := by
  rw [← inV_nm]
  exact ev_op h hb (rv_isL hx rfl (flat_nm ks))
theorem ev_niL (h : Ev ta σ H (nmV c)) (hb : Ev tb σ H (.ref a)) (hx : SqL K H a (nmL ks)) : Ev (tOp (rIn K true) ta tb) σ H (.bl (!decide (c ∈ ks))) := by
  rw [← inV_nm]
  exact ev_op h hb (rv_niL hx rfl (flat_nm ks))
theorem ev_niT (h : Ev ta σ H (nmV c)) (hb : Ev tb σ H (.ref a)) (hx : SqT K H a (nmL ks)) : Ev (tOp (rIn K true) ta tb) σ H (.bl (!decide (c ∈ ks))) := by
  rw [← inV_nm]
  exact ev_op h hb (rv_niT hx rfl (flat_nm ks))
end
/-! the passes -/
def pStep (ok : Rw → Bool) (s : List Nat × Bool) (r : Rw) : List Nat × Bool := if (ok r && (decide (r.1 ∉ s.1) && r.2.1.all fun c => decide (c ∈ s.1))) = true then (s.1 ++ [r.1], true) else s
def pass (ok : Rw → Bool) (rs : List Rw) (f : List Nat) : List Nat × Bool := rs.foldl (pStep ok) (f, false)
def fixN (ok : Rw → Bool) (rs : List Rw) : Nat → List Nat → List Nat
  | 0, f => f
  | n + 1, f => if (pass ok rs f).2 = true then fixN ok rs n (pass ok rs f).1 else f
def fixOf (ok : Rw → Bool) (rs : List Rw) : List Nat := fixN ok rs (rs.length + 2) []
/-- rows whose head is not there -/
def unm (rs : List Rw) (f : List Nat) : Nat := (rs.filter fun r => decide (r.1 ∉ f)).length
theorem unm_le (rs : List Rw) (f : List Nat) : unm rs f ≤ rs.length := List.length_filter_le _ _
theorem unm_mono {f g : List Nat} (h : ∀ c, c ∈ f → c ∈ g) : ∀ rs : List Rw, unm rs g ≤ unm rs f
  | [] => Nat.le_refl _
  | r :: rs => by
    have ih := unm_mono h rs
    unfold unm at *
    rw [List.filter_cons, List.filter_cons]
    by_cases hf : r.1 ∈ f
    · rw [if_neg (by simp [h _ hf]), if_neg (by simp [hf])]
      exact ih
    · by_cases hg : r.1 ∈ g
      · rw [if_neg (by simp [hg]), if_pos (by simp [hf])]
        simp only [List.length_cons]
        omega
      · rw [if_pos (by simp [hg]), if_pos (by simp [hf])]
        simp only [List.length_cons]
        omega
theorem unm_lt {f g : List Nat} (h : ∀ c, c ∈ f → c ∈ g) {r : Rw} (hf : r.1 ∉ f) (hg : r.1 ∈ g) : ∀ rs : List Rw, r ∈ rs → unm rs g < unm rs f
  | [], hr => by cases hr
  | q :: rs, hr => by
    have mono := unm_mono h rs
    unfold unm at *
    rw [List.filter_cons, List.filter_cons]
    rcases List.mem_cons.mp hr with e | hr2
    · subst e
      rw [if_neg (by simp [hg]), if_pos (by simp [hf])]
      simp only [List.length_cons]
      omega
    · have ih := unm_lt h hf hg rs hr2
      unfold unm at ih
      by_cases hf' : q.1 ∈ f
      · rw [if_neg (by simp [h _ hf']), if_neg (by simp [hf'])]
        exact ih
      · by_cases hg' : q.1 ∈ g
        · rw [if_neg (by simp [hg']), if_pos (by simp [hf'])]
          simp only [List.length_cons]
          omega
        · rw [if_pos (by simp [hg']), if_pos (by simp [hf'])]
          simp only [List.length_cons]
          omega
/-- what the passes keep -/
theorem pass_inv (ok : Rw → Bool) (f : List Nat) : ∀ (rs all : List Rw) (s : List Nat × Bool), (∀ r, r ∈ rs → r ∈ all) → (∀ c, c ∈ f → c ∈ s.1) → (s.2 = true → unm all s.1 < unm all f) → (s.2 = false → s.1 = f) →
    (∀ c, c ∈ f → c ∈ (rs.foldl (pStep ok) s).1) ∧ ((rs.foldl (pStep ok) s).2 = true → unm all (rs.foldl (pStep ok) s).1 < unm all f) ∧ ((rs.foldl (pStep ok) s).2 = false → (rs.foldl (pStep ok) s).1 = f)
  | [], _, s, _, h1, h2, h3 => ⟨h1, h2, h3⟩
  | r :: rs, all, s, h0, h1, h2, h3 => by
    show (∀ c, c ∈ f → c ∈ (rs.foldl (pStep ok) (pStep ok s r)).1) ∧ _
    by_cases hc : (ok r && (decide (r.1 ∉ s.1) && r.2.1.all fun c => decide (c ∈ s.1))) = true
    · have e : pStep ok s r = (s.1 ++ [r.1], true) := if_pos hc
      rw [List.foldl_cons, e]
      refine pass_inv ok f rs all _ (fun q hq => h0 q (List.mem_cons_of_mem _ hq)) (fun c hcf => List.mem_append_left _ (h1 c hcf)) (fun _ => ?_) (fun h => by cases h)
      have hn : r.1 ∉ s.1 := by
        have := Bool.and_eq_true_iff.mp (Bool.and_eq_true_iff.mp hc).2
        exact of_decide_eq_true this.1
      have hlt : unm all (s.1 ++ [r.1]) < unm all s.1 := unm_lt (fun c h => List.mem_append_left _ h) hn (by simp) all (h0 r List.mem_cons_self)
      have hle : unm all s.1 ≤ unm all f := unm_mono h1 all
      exact Nat.lt_of_lt_of_le hlt hle
    · have e : pStep ok s r = s := if_neg hc
      rw [List.foldl_cons, e]
      exact pass_inv ok f rs all s (fun q hq => h0 q (List.mem_cons_of_mem _ hq)) h1 h2 h3
theorem pass_new {ok : Rw → Bool} {rs : List Rw} {f : List Nat} (h : (pass ok rs f).2 = true) : unm rs (pass ok rs f).1 < unm rs f := (pass_inv ok f rs rs (f, false) (fun _ h => h) (fun _ h => h) (fun h => by cases h) (fun _ => rfl)).2.1 h
theorem pass_old {ok : Rw → Bool} {rs : List Rw} {f : List Nat} (h : (pass ok rs f).2 = false) : (pass ok rs f).1 = f := (pass_inv ok f rs rs (f, false) (fun _ h => h) (fun _ h => h) (fun h => by cases h) (fun _ => rfl)).2.2 h
theorem pass_take {ok : Rw → Bool} {rs : List Rw} {f : List Nat} {i : Nat} {r : Rw} (h : rs[i]? = some r) : (rs.take (i + 1)).foldl (pStep ok) (f, false) = pStep ok ((rs.take i).foldl (pStep ok) (f, false)) r := by
  rw [List.take_add_one, h]
  show (rs.take i ++ [r]).foldl _ _ = _
  rw [List.foldl_append]
  rfl
theorem pStep_len (ok : Rw → Bool) (s : List Nat × Bool) (r : Rw) : (pStep ok s r).1.length ≤ s.1.length + 1 := by
  unfold pStep
  split
  · simp
  · omega
theorem pStep_nodup {ok : Rw → Bool} {s : List Nat × Bool} {r : Rw} (h : s.1.Nodup) : (pStep ok s r).1.Nodup := by
  unfold pStep
  split
  · rename_i hc
    have hn : r.1 ∉ s.1 := by
      have := Bool.and_eq_true_iff.mp (Bool.and_eq_true_iff.mp hc).2
      exact of_decide_eq_true this.1
    rw [List.nodup_append]
    exact ⟨h, by simp, fun a ha b hb => by rw [List.mem_singleton.mp hb]; intro e; exact hn (e ▸ ha)⟩
  · exact h
theorem pStep_yes {ok : Rw → Bool} {s : List Nat × Bool} {r : Rw} (h : (ok r && (decide (r.1 ∉ s.1) && r.2.1.all fun c => decide (c ∈ s.1))) = true) : pStep ok s r = (addN s.1 r.1, true) := by
  have hn : r.1 ∉ s.1 := by
    have := Bool.and_eq_true_iff.mp (Bool.and_eq_true_iff.mp h).2
    exact of_decide_eq_true this.1
  unfold pStep addN
  rw [if_pos h, if_neg hn]
theorem pStep_no {ok : Rw → Bool} {s : List Nat × Bool} {r : Rw} (h : (ok r && (decide (r.1 ∉ s.1) && r.2.1.all fun c => decide (c ∈ s.1))) = false) : pStep ok s r = s := by
  unfold pStep
  rw [if_neg (by rw [h]; decide)]
theorem pStep_cnt {ok : Rw → Bool} {s : List Nat × Bool} {r : Rw} {all : List Rw} (hr : r ∈ all) (h : s.1.length + unm all s.1 ≤ all.length) : (pStep ok s r).1.length + unm all (pStep ok s r).1 ≤ all.length := by
  unfold pStep
  split
  · rename_i hc
    have hn : r.1 ∉ s.1 := by
      have := Bool.and_eq_true_iff.mp (Bool.and_eq_true_iff.mp hc).2
      exact of_decide_eq_true this.1
    have hlt : unm all (s.1 ++ [r.1]) < unm all s.1 := unm_lt (fun c h => List.mem_append_left _ h) hn (by simp) all hr
    simp only [List.length_append, List.length_singleton]
    omega
  · exact h
def okB (ks : List Nat) (r : Rw) : Bool := !(r.2.2.any fun c => decide (c ∈ ks))
def okH (ts fs : List Nat) (r : Rw) : Bool := !((r.2.1.any fun c => decide (c ∈ fs)) || r.2.2.any fun c => decide (c ∈ ts))
end Wk
end
section
set_option Elab.async false
set_option linter.all false
set_option maxRecDepth 100000
set_option maxHeartbeats 4000000
/-! cases; walks over a dict -/
namespace Wk
open PySem PySem.Spec PyProof.Rows L2 Evl
def CaseAt (K : PySem.W.Frag) (ts fs : List Nat) (v : V) (H : Hp) : Prop := ∃ p dx t f, v = .ref p ∧ H p = some (.ins (He.ga K "Case") dx [("true", .ref t), ("false", .ref f)]) ∧ H t = some (.dK (dk ts)) ∧ H f = some (.dK (dk fs))
theorem CaseAt.mo (K : PySem.W.Frag) (ts fs : List Nat) : Mo (CaseAt K ts fs) := fun v H H' e ⟨p, dx, t, f, h1, h2, h3, h4⟩ => ⟨p, dx, t, f, h1, e _ _ h2, e _ _ h3, e _ _ h4⟩
theorem CaseAt.mn (K : PySem.W.Frag) (ts fs : List Nat) : Mn (CaseAt K ts fs) := fun v H H' n ⟨p, dx, t, f, h1, h2, h3, h4⟩ => ⟨p, dx, t, f, h1, n _ _ h2 (fun xs e => by cases e), n _ _ h3 (fun xs e => by cases e), n _ _ h4 (fun xs e => by cases e)⟩
section
variable {K : PySem.W.Frag} {σ : L2.St} {H : Hp} {ta td te ty tv : TE} {tr : TA} {D : Ends} {tu tz : TS} {d : Addr} {u : HO} {v : V}
theorem ev_lock (hd : H d = some u) (mu : Mut (some u)) (h : ∀ od, Ev te σ (upd H d (.frz od u)) v) : Ev (tLockE te) σ H v := fun H1 e Q q =>
  ⟨d, u, e _ _ hd, mu, fun od => h od _ (fun a o ha => by
    by_cases x : a = d
    · subst x; rw [upd_same] at ha ⊢; exact ha
    · rw [upd_ne x] at ha ⊢; exact e a o ha) _ fun H2 e2 => ⟨e2 _ _ upd_same, q _ (fun a o ha => by
    by_cases x : a = d
    · subst x; rw [upd_same]; rw [e _ _ hd] at ha; exact ha
    · rw [upd_ne x]; exact e2 a o (by rw [upd_ne x]; exact ha))⟩⟩
theorem dk_keys (ns : List Nat) : (dk ns).map (fun p => kV p.1) = ns.map nmV := by unfold dk; rw [List.map_map]; rfl
/-- names of a dict, while it is walked over -/
theorem ei_dk {o : Obj} {ns : List Nat} (h : Ev ta σ H (.ref d)) (hx : H d = some (.frz o (.dK (dk ns)))) : EvI (iKeys ta) σ H (ns.map nmV) := by
  rw [← dk_keys]
  exact ei_K h hx
/-- what is in a dict that may be walked over -/
theorem ev_dinF {ns : List Nat} {c : Nat} (h : Ev ty σ H (nmV c)) (ho : Ev td σ H (.ref d)) (hd : Rd H d (.dK (dk ns))) : Ev (tDIn ty td) σ H (.bl (decide (c ∈ ns))) := fun H1 e Q q =>
  h H1 e _ fun H2 e2 => ho H2 (e.trans e2) _ fun H3 e3 => ⟨d, _, rfl, .inl ⟨dk ns, Sum.inr (tx [c]), ex_rd (e.trans (e2.trans e3)) hd, rfl, rfl⟩, by rw [val_dk]; exact q H3 (e2.trans e3)⟩
/-- dict(d) -/
theorem x_dict {ns : List Nat} (h : Ev td σ H (.ref d)) (hd : H d = some (.dK (dk ns))) : EvX (tCB (fun xs H Q => ∃ (a : Addr) (kvs : List (Key × V)), xs = [.ref a] ∧ Rd H a (.dK kvs) ∧ ∀ p, H p = none → Q (.ref p) (upd H p (.dK kvs))) (tCons td tNil)) σ H (fun v H' => ∃ p, v = .ref p ∧ H p = none ∧ H' p = some (.dK (dk ns))) := fun H1 e Q q =>
  h H1 e _ fun H2 e2 => ⟨d, dk ns, rfl, .inl (e2 _ _ (e _ _ hd)), fun p hp => q _ _ (e2.trans (Ex.new hp)) ⟨p, rfl, fresh_back (e.trans e2) hp, upd_same⟩⟩
/-- x, y = e1, e2 -/
theorem q_parX {i j : Nat} {P : V → Hp → Prop} {R : Hp → V → Hp → Prop} (h1 : EvX ta σ H P) (h2 : ∀ H1, Ex H H1 → EvX te σ H1 (R H1)) (k : ∀ v1 v2 H1 H2, Ex H H1 → P v1 H1 → Ex H1 H2 → R H1 v2 H2 → tz D ((σ.set i (some v1)).set j (some v2)) H2) : tSeq (tPar i j (tCons ta (tCons te tNil))) tz D σ H :=
  h1 H (Ex.refl H) _ fun v1 H1 e1 p1 => h2 H1 e1 H1 (Ex.refl H1) _ fun v2 H2 e2 p2 => ⟨v1, v2, rfl, k v1 v2 H1 H2 e1 p1 e2 p2⟩
end
end Wk
end
section
set_option Elab.async false
set_option linter.all false
set_option maxRecDepth 100000
set_option maxHeartbeats 4000000
/-! cases that grow -/
namespace Wk
open PySem PySem.Spec PyProof.Rows L2 Evl
def okF (ts fs : List Nat) (r : Rw) : Bool := (r.2.1.all (fun c => decide (c ∈ ts)) && r.2.2.all (fun c => decide (c ∈ fs))) && !decide (r.1 ∈ ts)
def forcedT (rs : List Rw) (ts fs : List Nat) : List Nat := (rs.filter (okF ts fs)).map (·.1)
def forcedF (rs : List Rw) (ts fs : List Nat) : List Nat := (namesOf rs).filter fun c => !decide (c ∈ fixOf (okH ts fs) rs) && !decide (c ∈ fs)
def ForcedAt (xs ys : List Nat) (u : V) (H : Hp) : Prop := ∃ p t f, u = .ref p ∧ H p = some (.tup [.ref t, .ref f]) ∧ H t = some (.lst (nmL xs)) ∧ H f = some (.lst (nmL ys))
theorem forcedT_len (rs : List Rw) (ts fs : List Nat) : (forcedT rs ts fs).length ≤ rs.length := by unfold forcedT; rw [List.length_map]; exact List.length_filter_le _ _
theorem forcedT_take {rs : List Rw} {ts fs : List Nat} {i : Nat} {r : Rw} (h : rs[i]? = some r) : forcedT (rs.take (i + 1)) ts fs = forcedT (rs.take i) ts fs ++ (if okF ts fs r = true then [r.1] else []) := by
  unfold forcedT
  rw [List.take_add_one, h]
  show ((rs.take i ++ [r]).filter _).map _ = _
  rw [List.filter_append, List.map_append, List.filter_cons]
  split <;> rfl
def shutB (ts fs : List Nat) : Bool := ts.any fun c => decide (c ∈ fs)
/-- a case with all that it says -/
def growN (rs : List Rw) : Nat → List Nat → List Nat → List Nat × List Nat
  | 0, ts, fs => (ts, fs)
  | n + 1, ts, fs => if shutB ts fs = true then (ts, fs) else
    if forcedT rs ts fs = [] ∧ forcedF rs ts fs = [] then (ts, fs) else growN rs n (addAll ts (forcedT rs ts fs)) (addAll fs (forcedF rs ts fs))
/-- names that are not there -/
def miss (ns f : List Nat) : Nat := (ns.filter fun c => !decide (c ∈ f)).length
theorem miss_mono {f g : List Nat} (h : ∀ c, c ∈ f → c ∈ g) : ∀ ns : List Nat, miss ns g ≤ miss ns f
  | [] => Nat.le_refl _
  | a :: ns => by
    have ih := miss_mono h ns
    unfold miss at *
    rw [List.filter_cons, List.filter_cons]
    by_cases hf : a ∈ f
    · rw [if_neg (by simp [h _ hf]), if_neg (by simp [hf])]
      exact ih
    · by_cases hg : a ∈ g
      · rw [if_neg (by simp [hg]), if_pos (by simp [hf])]
        simp only [List.length_cons]
        omega
      · rw [if_pos (by simp [hg]), if_pos (by simp [hf])]
        simp only [List.length_cons]
        omega
theorem miss_lt {f g : List Nat} (h : ∀ c, c ∈ f → c ∈ g) {a : Nat} (hf : a ∉ f) (hg : a ∈ g) : ∀ ns : List Nat, a ∈ ns → miss ns g < miss ns f
  | [], hr => by cases hr
  | q :: ns, hr => by
    have mono := miss_mono h ns
    unfold miss at *
    rw [List.filter_cons, List.filter_cons]
    rcases List.mem_cons.mp hr with e | hr2
    · subst e
      rw [if_neg (by simp [hg]), if_pos (by simp [hf])]
      simp only [List.length_cons]
      omega
    · have ih := miss_lt h hf hg ns hr2
      unfold miss at ih
      by_cases hf' : q ∈ f
      · rw [if_neg (by simp [h _ hf']), if_neg (by simp [hf'])]
        exact ih
      · by_cases hg' : q ∈ g
        · rw [if_neg (by simp [hg']), if_pos (by simp [hf'])]
          simp only [List.length_cons]
          omega
        · rw [if_pos (by simp [hg']), if_pos (by simp [hf'])]
          simp only [List.length_cons]
          omega
theorem addAll_mem {cs : List Nat} : ∀ {f : List Nat} {a : Nat}, a ∈ addAll f cs ↔ a ∈ f ∨ a ∈ cs := by
  induction cs with
  | nil => intro f a; simp [addAll]
  | cons c cs ih =>
    intro f a
    show a ∈ addAll (addN f c) cs ↔ _
    rw [ih, addN_mem, List.mem_cons]
    constructor
    · rintro ((h | h) | h)
      · exact .inl h
      · exact .inr (.inl h)
      · exact .inr (.inr h)
    · rintro (h | h | h)
      · exact .inl (.inl h)
      · exact .inl (.inr h)
      · exact .inr h
theorem addN_cnt {ns f : List Nat} {c : Nat} (hc : c ∈ ns) : (addN f c).length + miss ns (addN f c) ≤ f.length + miss ns f := by
  by_cases h : c ∈ f
  · unfold addN; rw [if_pos h]; exact Nat.le_refl _
  · have hlt := miss_lt (f := f) (g := addN f c) (fun a ha => addN_mem.mpr (.inl ha)) h (addN_mem.mpr (.inr rfl)) ns hc
    have := addN_len f c
    omega
theorem addAll_cnt {ns : List Nat} : ∀ {cs f : List Nat}, (∀ c, c ∈ cs → c ∈ ns) → (addAll f cs).length + miss ns (addAll f cs) ≤ f.length + miss ns f := by
  intro cs
  induction cs with
  | nil => intro f _; exact Nat.le_refl _
  | cons c cs ih =>
    intro f h
    have h1 := ih (f := addN f c) (fun a ha => h a (List.mem_cons_of_mem _ ha))
    have h2 := addN_cnt (f := f) (h c List.mem_cons_self)
    show (addAll (addN f c) cs).length + miss ns (addAll (addN f c) cs) ≤ _
    omega
theorem keysOf_mem {rs : List Rw} : ∀ {a : Nat}, a ∈ keysOf rs ↔ ∃ r, r ∈ rs ∧ a ∈ rowNs r := by
  have gen : ∀ (rs : List Rw) (f : List Nat) (a : Nat), a ∈ rs.foldl (fun ns r => addAll ns (rowNs r)) f ↔ a ∈ f ∨ ∃ r, r ∈ rs ∧ a ∈ rowNs r := by
    intro rs
    induction rs with
    | nil => intro f a; simp
    | cons r rs ih =>
      intro f a
      rw [List.foldl_cons, ih, addAll_mem]
      constructor
      · rintro ((h | h) | ⟨q, h1, h2⟩)
        · exact .inl h
        · exact .inr ⟨r, List.mem_cons_self, h⟩
        · exact .inr ⟨q, List.mem_cons_of_mem _ h1, h2⟩
      · rintro (h | ⟨q, h1, h2⟩)
        · exact .inl (.inl h)
        · rcases List.mem_cons.mp h1 with e | h1
          · subst e; exact .inl (.inr h2)
          · exact .inr ⟨q, h1, h2⟩
  intro a
  have := gen rs [] a
  simpa [keysOf] using this
theorem namesOf_mem {rs : List Rw} {a : Nat} : a ∈ namesOf rs ↔ ∃ r, r ∈ rs ∧ a ∈ rowNs r := by
  unfold namesOf
  rw [(sortN_perm _).mem_iff]
  exact keysOf_mem
theorem forcedT_names {rs : List Rw} {ts fs : List Nat} {c : Nat} (h : c ∈ forcedT rs ts fs) : c ∈ namesOf rs ∧ c ∉ ts := by
  unfold forcedT at h
  obtain ⟨r, hr, rfl⟩ := List.mem_map.mp h
  obtain ⟨h1, h2⟩ := List.mem_filter.mp hr
  refine ⟨namesOf_mem.mpr ⟨r, h1, List.mem_cons_self⟩, ?_⟩
  unfold okF at h2
  have := (Bool.and_eq_true_iff.mp h2).2
  simpa using this
theorem forcedF_names {rs : List Rw} {ts fs : List Nat} {c : Nat} (h : c ∈ forcedF rs ts fs) : c ∈ namesOf rs ∧ c ∉ fs := by
  unfold forcedF at h
  obtain ⟨h1, h2⟩ := List.mem_filter.mp h
  have := (Bool.and_eq_true_iff.mp h2).2
  exact ⟨h1, by simpa using this⟩
/-- with something forced, fewer names are open -/
theorem grow_lt {rs : List Rw} {ts fs : List Nat} (h : ¬ (forcedT rs ts fs = [] ∧ forcedF rs ts fs = [])) :
    miss (namesOf rs) (addAll ts (forcedT rs ts fs)) + miss (namesOf rs) (addAll fs (forcedF rs ts fs)) < miss (namesOf rs) ts + miss (namesOf rs) fs := by
  have m1 := miss_mono (f := ts) (g := addAll ts (forcedT rs ts fs)) (fun c hc => addAll_mem.mpr (.inl hc)) (namesOf rs)
  have m2 := miss_mono (f := fs) (g := addAll fs (forcedF rs ts fs)) (fun c hc => addAll_mem.mpr (.inl hc)) (namesOf rs)
  by_cases h1 : forcedT rs ts fs = []
  · have h2 : forcedF rs ts fs ≠ [] := fun e => h ⟨h1, e⟩
    obtain ⟨c, hc⟩ := List.exists_mem_of_ne_nil _ h2
    have := miss_lt (f := fs) (g := addAll fs (forcedF rs ts fs)) (fun c hc => addAll_mem.mpr (.inl hc)) (forcedF_names hc).2 (addAll_mem.mpr (.inr hc)) _ (forcedF_names hc).1
    omega
  · obtain ⟨c, hc⟩ := List.exists_mem_of_ne_nil _ h1
    have := miss_lt (f := ts) (g := addAll ts (forcedT rs ts fs)) (fun c hc => addAll_mem.mpr (.inl hc)) (forcedT_names hc).2 (addAll_mem.mpr (.inr hc)) _ (forcedT_names hc).1
    omega
def openOf (rs : List Rw) (ts fs : List Nat) : Option Nat := (namesOf rs).find? fun c => !decide (c ∈ ts) && !decide (c ∈ fs)
def nmO : Option Nat → V
  | none => .non
  | some c => nmV c
theorem find_first {ns : List Nat} {p : Nat → Bool} {i c : Nat} (hc : ns[i]? = some c) (hno : ∀ d, d ∈ ns.take i → p d = false) (hb : p c = true) : ns.find? p = some c := by
  induction ns generalizing i with
  | nil => simp at hc
  | cons a ns ih =>
    cases i with
    | zero =>
      cases hc
      rw [List.find?_cons, hb]
    | succ i =>
      have h1 : p a = false := hno a (by simp)
      rw [List.find?_cons, h1]
      exact ih hc (fun d hd => hno d (by rw [List.take_succ_cons]; exact List.mem_cons_of_mem _ hd))
def growOf (rs : List Rw) (ts fs : List Nat) : List Nat × List Nat := growN rs (miss (namesOf rs) ts + miss (namesOf rs) fs + 1) ts fs
section
variable {K : PySem.W.Frag} {σ : L2.St} {H : Hp} {ta td te : TE} {tr : TA} {D : Ends} {tu tz : TS} {P : V → Hp → Prop}
/-- x, y = e, a pair -/
theorem q_asgTupX {i j : Nat} {P2 : V → V → Hp → Prop} (h : EvX te σ H (fun u H' => ∃ p x y, u = .ref p ∧ H' p = some (.tup [x, y]) ∧ P2 x y H')) (k : ∀ x y H1, Ex H H1 → P2 x y H1 → tz D ((σ.set i (some x)).set j (some y)) H1) :
    tSeq (tAsg te (gTup K 2 (gCons (gName i) (gCons (gName j) gNil)))) tz D σ H := h H (Ex.refl H) _ fun u H1 e ⟨p, x, y, eu, hp, p2⟩ => by
  subst eu
  exact ⟨p, _, rfl, st_of hp, rfl, _, _, rfl, _, _, rfl, rfl, k x y H1 e p2⟩
theorem x_meth {m : Str} {sp : Sp} {E : XK} {vs : List V} {x C dx : Addr} {fs : List (Str × V)} (ho : Ev ta σ H (.ref x)) (hx : H x = some (.ins C dx fs)) (hm : fs.lookup m = none) (h : EvA tr σ H vs) (hs : ∀ H1, Ex H H1 → ∀ Q : VK, (∀ v H2, Ex H1 H2 → P v H2 → Q v H2) → ∀ E, sp (.ref x :: vs) H1 Q E) :
    EvX (tMeth C m sp [] E ta tr) σ H P := fun H1 e Q q =>
  ho H1 e _ fun H2 e2 => ⟨x, dx, fs, rfl, e2 _ _ (e _ _ hx), hm, h H2 (e.trans e2) _ fun H3 e3 => by
    rw [List.append_nil]
    exact hs H3 ((e.trans e2).trans e3) Q (fun v H4 e4 p => q v H4 ((e2.trans e3).trans e4) p) E⟩
end
theorem ev_lenT {K : PySem.W.Frag} {σ : L2.St} {H : Hp} {ta : TE} {p : Addr} {xs : List V} (ha : Ev ta σ H (.ref p)) (h : SqT K H p xs) : Ev (tCB (rLenS K) (tCons ta tNil)) σ H (.int (xs.length : Int)) := fun H1 e Q q =>
  ha H1 e _ fun H2 e2 => ⟨p, xs, rfl, .inr (ex_t (e.trans e2) h), q H2 e2⟩
theorem ev_chainI {σ : L2.St} {H : Hp} {ta tb tc : TE} {i j k : Int} (ha : Ev ta σ H (.int i)) (hb : Ev tb σ H (.int j)) (hc : Ev tc σ H (.int k)) : Ev (tChain (rI0 fun i j => .bl (decide (i ≤ j))) (rI0 fun i j => .bl (decide (i ≤ j))) ta tb tc) σ H (.bl (decide (i ≤ j) && decide (j ≤ k))) := fun H1 e Q q =>
  ha H1 e _ fun H2 e2 => hb H2 (e.trans e2) _ fun H3 e3 => ⟨i, j, rfl, rfl, decide (i ≤ j), rfl, by
    cases h : decide (i ≤ j) with
    | true =>
      rw [if_pos rfl]
      refine hc H3 (e.trans (e2.trans e3)) _ fun H4 e4 => ⟨j, k, rfl, rfl, ?_⟩
      rw [h, Bool.true_and] at q
      exact q H4 (e2.trans (e3.trans e4))
    | false =>
      rw [if_neg (by decide)]
      rw [h, Bool.false_and] at q
      exact q H3 (e2.trans e3)⟩
theorem x_catL {σ : L2.St} {H : Hp} {ta tb : TE} {xs : List V} {PL : List V → Hp → Prop} (h : EvL ta σ H xs) (hb : EvX tb σ H (fun v H' => ∃ q ys, v = .ref q ∧ H' q = some (.lst ys) ∧ PL ys H')) (hm : ∀ ys H H', Ex H H' → PL ys H → PL ys H') (hz : ∀ ys H, PL ys H → xs.length + ys.length ≤ 100000) :
    EvX (tOp rCat ta tb) σ H (fun v H' => ∃ p ys, v = .ref p ∧ H' p = some (.lst (xs ++ ys)) ∧ PL ys H') := fun H1 e Q k =>
  h H1 e _ fun p H2 hp e2 h2 => hb H2 (e.trans e2) _ fun v H3 e3 ⟨q, ys, ev, hq, pl⟩ => by
    subst ev
    exact ⟨p, q, xs, ys, rfl, rfl, e3 _ _ h2, hq, sz_of (hz ys H3 pl), fun o ho => k _ _ ((e2.trans e3).trans (Ex.new ho)) ⟨o, ys, rfl, upd_same, hm ys _ _ (Ex.new ho) pl⟩⟩
end Wk
end
section
set_option Elab.async false
set_option linter.all false
set_option maxRecDepth 100000
set_option maxHeartbeats 4000000
/-! trees of cases -/
namespace Wk
open PySem PySem.Spec PyProof.Rows L2 Evl
def uo (rs : List Rw) (ts fs : List Nat) : Nat := miss (namesOf rs) (ts ++ fs)
theorem growN_sub (rs : List Rw) : ∀ (n : Nat) (ts fs : List Nat), (∀ c, c ∈ ts → c ∈ (growN rs n ts fs).1) ∧ (∀ c, c ∈ fs → c ∈ (growN rs n ts fs).2)
  | 0, ts, fs => ⟨fun _ h => h, fun _ h => h⟩
  | n + 1, ts, fs => by
    unfold growN
    split
    · exact ⟨fun _ h => h, fun _ h => h⟩
    · split
      · exact ⟨fun _ h => h, fun _ h => h⟩
      · have ih := growN_sub rs n (addAll ts (forcedT rs ts fs)) (addAll fs (forcedF rs ts fs))
        exact ⟨fun c h => ih.1 c (addAll_mem.mpr (.inl h)), fun c h => ih.2 c (addAll_mem.mpr (.inl h))⟩
theorem growN_cnt (rs : List Rw) : ∀ (n : Nat) (ts fs : List Nat), (growN rs n ts fs).1.length + miss (namesOf rs) (growN rs n ts fs).1 ≤ ts.length + miss (namesOf rs) ts ∧ (growN rs n ts fs).2.length + miss (namesOf rs) (growN rs n ts fs).2 ≤ fs.length + miss (namesOf rs) fs
  | 0, ts, fs => ⟨Nat.le_refl _, Nat.le_refl _⟩
  | n + 1, ts, fs => by
    unfold growN
    split
    · exact ⟨Nat.le_refl _, Nat.le_refl _⟩
    · split
      · exact ⟨Nat.le_refl _, Nat.le_refl _⟩
      · have ih := growN_cnt rs n (addAll ts (forcedT rs ts fs)) (addAll fs (forcedF rs ts fs))
        have c1 := addAll_cnt (ns := namesOf rs) (f := ts) (cs := forcedT rs ts fs) (fun c hc => (forcedT_names hc).1)
        have c2 := addAll_cnt (ns := namesOf rs) (f := fs) (cs := forcedF rs ts fs) (fun c hc => (forcedF_names hc).1)
        exact ⟨Nat.le_trans ih.1 c1, Nat.le_trans ih.2 c2⟩
theorem uo_grow (rs : List Rw) (ts fs : List Nat) : uo rs (growOf rs ts fs).1 (growOf rs ts fs).2 ≤ uo rs ts fs := by
  refine miss_mono (fun c hc => ?_) _
  have := growN_sub rs (miss (namesOf rs) ts + miss (namesOf rs) fs + 1) ts fs
  rcases List.mem_append.mp hc with h | h
  · exact List.mem_append_left _ (this.1 c h)
  · exact List.mem_append_right _ (this.2 c h)
theorem openOf_some {rs : List Rw} {ts fs : List Nat} {c : Nat} (h : openOf rs ts fs = some c) : c ∈ namesOf rs ∧ c ∉ ts ∧ c ∉ fs := by
  unfold openOf at h
  have h1 := List.mem_of_find?_eq_some h
  have h2 := List.find?_some h
  simp at h2
  exact ⟨h1, h2.1, h2.2⟩
theorem uo_true {rs : List Rw} {ts fs : List Nat} {c : Nat} (h : openOf rs ts fs = some c) : uo rs (addN ts c) fs < uo rs ts fs := by
  obtain ⟨h1, h2, h3⟩ := openOf_some h
  refine miss_lt (fun a ha => ?_) (a := c) (by simp [h2, h3]) (List.mem_append_left _ (addN_mem.mpr (.inr rfl))) _ h1
  rcases List.mem_append.mp ha with x | x
  · exact List.mem_append_left _ (addN_mem.mpr (.inl x))
  · exact List.mem_append_right _ x
theorem uo_false {rs : List Rw} {ts fs : List Nat} {c : Nat} (h : openOf rs ts fs = some c) : uo rs ts (addN fs c) < uo rs ts fs := by
  obtain ⟨h1, h2, h3⟩ := openOf_some h
  refine miss_lt (fun a ha => ?_) (a := c) (by simp [h2, h3]) (List.mem_append_right _ (addN_mem.mpr (.inr rfl))) _ h1
  rcases List.mem_append.mp ha with x | x
  · exact List.mem_append_left _ x
  · exact List.mem_append_right _ (addN_mem.mpr (.inl x))
abbrev Nd := Option Nat
def treeF (rs : List Rw) : Nat → List Nat → List Nat → Option (List Nd)
  | 0, _, _ => none
  | n + 1, ts, fs => if shutB (growOf rs ts fs).1 (growOf rs ts fs).2 = true then some [none] else
    match openOf rs (growOf rs ts fs).1 (growOf rs ts fs).2 with
    | none => none
    | some c => match treeF rs n (addN (growOf rs ts fs).1 c) (growOf rs ts fs).2 with
      | none => none
      | some a => match treeF rs n (growOf rs ts fs).1 (addN (growOf rs ts fs).2 c) with
        | none => none
        | some b => some (some c :: (a ++ b))
def treeOf (rs : List Rw) (ts fs : List Nat) : Option (List Nd) := treeF rs (uo rs ts fs + 1) ts fs
theorem treeF_fuel (rs : List Rw) : ∀ (n m : Nat) (ts fs : List Nat), uo rs ts fs + 1 ≤ n → uo rs ts fs + 1 ≤ m → treeF rs n ts fs = treeF rs m ts fs
  | 0, _, _, _, h, _ => absurd h (by omega)
  | _ + 1, 0, _, _, _, h => absurd h (by omega)
  | n + 1, m + 1, ts, fs, h1, h2 => by
    unfold treeF
    have hg := uo_grow rs ts fs
    split
    · rfl
    · cases ho : openOf rs (growOf rs ts fs).1 (growOf rs ts fs).2 with
      | none => rfl
      | some c =>
        have u1 := uo_true ho
        have u2 := uo_false ho
        dsimp only
        rw [treeF_fuel rs n m (addN (growOf rs ts fs).1 c) (growOf rs ts fs).2 (by omega) (by omega), treeF_fuel rs n m (growOf rs ts fs).1 (addN (growOf rs ts fs).2 c) (by omega) (by omega)]
theorem treeOf_eq (rs : List Rw) (ts fs : List Nat) : treeOf rs ts fs = if shutB (growOf rs ts fs).1 (growOf rs ts fs).2 = true then some [none] else
    match openOf rs (growOf rs ts fs).1 (growOf rs ts fs).2 with
    | none => none
    | some c => match treeOf rs (addN (growOf rs ts fs).1 c) (growOf rs ts fs).2 with
      | none => none
      | some a => match treeOf rs (growOf rs ts fs).1 (addN (growOf rs ts fs).2 c) with
        | none => none
        | some b => some (some c :: (a ++ b)) := by
  have hg := uo_grow rs ts fs
  conv => lhs; unfold treeOf treeF
  split
  · rfl
  · cases ho : openOf rs (growOf rs ts fs).1 (growOf rs ts fs).2 with
    | none => rfl
    | some c =>
      have u1 := uo_true ho
      have u2 := uo_false ho
      dsimp only
      rw [treeF_fuel rs (uo rs ts fs) (uo rs (addN (growOf rs ts fs).1 c) (growOf rs ts fs).2 + 1) (addN (growOf rs ts fs).1 c) (growOf rs ts fs).2 (by omega) (by omega), treeF_fuel rs (uo rs ts fs) (uo rs (growOf rs ts fs).1 (addN (growOf rs ts fs).2 c) + 1) (growOf rs ts fs).1 (addN (growOf rs ts fs).2 c) (by omega) (by omega)]
      rfl
/-- what waits, the next one first -/
def treeAll (rs : List Rw) : List (List Nat × List Nat) → Option (List Nd)
  | [] => some []
  | c :: r => match treeOf rs c.1 c.2 with
    | none => none
    | some a => match treeAll rs r with
      | none => none
      | some b => some (a ++ b)
def load (rs : List Rw) : List (List Nat × List Nat) → Nat
  | [] => 0
  | c :: r => (2 ^ (uo rs c.1 c.2 + 1) - 1) + load rs r
def nodeL : Nd → List V
  | none => [.str "shut"]
  | some c => [.str "split", nmV c]
def NodeAt (o : Nd) (v : V) (H : Hp) : Prop := ∃ p, v = .ref p ∧ H p = some (.tup (nodeL o))
theorem NodeAt.mn (o : Nd) : Mn (NodeAt o) := fun v H H' n ⟨p, h1, h2⟩ => ⟨p, h1, n.tu _ _ h2⟩
theorem CaseAt.mn2 (K : PySem.W.Frag) (c : List Nat × List Nat) : Mn (CaseAt K c.1 c.2) := CaseAt.mn K c.1 c.2
section
variable {K : PySem.W.Frag} {σ : L2.St} {H : Hp} {ta te to : TE} {tr : TA} {D : Ends} {tu tz : TS} {xs : List V}
/-- x = f(e, o.pop()) -/
theorem q_callPop {sp : Sp} {E : XK} {i : Nat} {l : Addr} {x y : V} (ha : Ev ta σ H x) (ho : Ev to σ H (.ref l)) (hl : H l = some (.lst xs)) (hy : xs[xs.length - 1]? = some y) (k : ∀ H1, Ex H H1 → sp [x, y] (upd H1 l (.lst xs.dropLast)) (fun v H2 => tz D (σ.set i (some v)) H2) E) :
    tSeq (tAsg (tCall sp [] E (tCons ta (tCons (tBM0 K "list" rPop to) tNil))) (gName i)) tz D σ H := ha H (Ex.refl H) _ fun H1 e1 => ho H1 e1 _ fun H2 e2 =>
  ⟨Or.inl ⟨rfl, xs, sq_of ((e1.trans e2) l _ hl)⟩, l, xs, y, rfl, rfl, (e1.trans e2) _ _ hl, hy, by
    show sp [x, y] _ _ _
    exact k H2 (e1.trans e2)⟩
theorem x_lst {PA : List V → Hp → Prop} (h : EvAX tr σ H PA) (m : Mo PA) (hl : ∀ vs H, PA vs H → vs.length ≤ 100000) : EvX (tLst tr) σ H (fun v H => ∃ p vs, v = .ref p ∧ H p = some (.lst vs) ∧ PA vs H) := fun H1 e Q q =>
  h H1 e _ fun vs H2 e2 p => ⟨sz_of (hl vs H2 p), fun a ha => q _ _ (e2.trans (Ex.new ha)) ⟨a, vs, rfl, upd_same, m vs H2 _ (Ex.new ha) p⟩⟩
theorem s_extX {l : Addr} {PL : List V → Hp → Prop} (hl : H l = some (.lst xs)) (ha : Ev ta σ H (.ref l)) (h : EvX te σ H (fun v H' => ∃ q zs, v = .ref q ∧ H' q = some (.lst zs) ∧ PL zs H')) (hz : ∀ zs H, PL zs H → xs.length + zs.length ≤ 100000) (k : ∀ zs H1, Ex H H1 → PL zs H1 → D.nx σ (upd H1 l (.lst (xs ++ zs)))) :
    tDrop (tBM K "list" rExtend ta (tCons te tNil)) D σ H := ha H (Ex.refl H) _ fun H1 e1 =>
  ⟨Or.inl ⟨rfl, xs, sq_of (e1 l _ hl)⟩, h H1 e1 _ fun v H2 e2 ⟨q, zs, ev, hq, pl⟩ => by
    subst ev
    exact ⟨l, q, xs, zs, rfl, rfl, (e1.trans e2) l _ hl, hq, sz_of (hz zs H2 pl), k zs H2 (e1.trans e2) pl⟩⟩
end
theorem AllV.snoc {α : Type} {P : α → V → Hp → Prop} {as : List α} {a : α} {vs : List V} {H : Hp} (h : AllV P (as ++ [a]) vs H) : ∃ vs0 v, vs = vs0 ++ [v] ∧ AllV P as vs0 H ∧ P a v H := by
  have hl := h.1
  rw [List.length_append, List.length_singleton] at hl
  have hne : vs ≠ [] := fun e => by rw [e] at hl; simp at hl
  refine ⟨vs.dropLast, vs.getLast hne, (List.dropLast_concat_getLast hne).symm, ⟨by rw [List.length_dropLast]; omega, fun i v b hv hb => ?_⟩, ?_⟩
  · have hi : i < as.length := (List.getElem?_eq_some_iff.mp hb).1
    refine h.2 i v b ?_ (by rw [List.getElem?_append_left hi]; exact hb)
    rw [← List.dropLast_concat_getLast hne, List.getElem?_append_left (by rw [List.length_dropLast]; omega)]
    exact hv
  · refine h.2 as.length _ a ?_ (by rw [List.getElem?_append_right (Nat.le_refl _), Nat.sub_self]; rfl)
    rw [List.getLast_eq_getElem, List.getElem?_eq_getElem (by omega)]
    congr 1
    congr 1
    omega
theorem load_pos (rs : List Rw) (c : List Nat × List Nat) (r : List (List Nat × List Nat)) : load rs r < load rs (c :: r) := by
  show load rs r < (2 ^ (uo rs c.1 c.2 + 1) - 1) + load rs r
  have : 2 ≤ 2 ^ (uo rs c.1 c.2 + 1) := by
    rw [Nat.pow_succ]
    have := Nat.one_le_two_pow (n := uo rs c.1 c.2)
    omega
  omega
theorem load_split (rs : List Rw) (c A B : List Nat × List Nat) (r : List (List Nat × List Nat)) (hA : uo rs A.1 A.2 < uo rs c.1 c.2) (hB : uo rs B.1 B.2 < uo rs c.1 c.2) : load rs (A :: B :: r) + 1 ≤ load rs (c :: r) := by
  show (2 ^ (uo rs A.1 A.2 + 1) - 1) + ((2 ^ (uo rs B.1 B.2 + 1) - 1) + load rs r) + 1 ≤ (2 ^ (uo rs c.1 c.2 + 1) - 1) + load rs r
  have h1 : 2 ^ (uo rs A.1 A.2 + 1) ≤ 2 ^ uo rs c.1 c.2 := Nat.pow_le_pow_right (by omega) hA
  have h2 : 2 ^ (uo rs B.1 B.2 + 1) ≤ 2 ^ uo rs c.1 c.2 := Nat.pow_le_pow_right (by omega) hB
  have h3 : 2 ^ (uo rs c.1 c.2 + 1) = 2 * 2 ^ uo rs c.1 c.2 := by rw [Nat.pow_succ]; omega
  have h4 := Nat.one_le_two_pow (n := uo rs c.1 c.2)
  have h5 := Nat.one_le_two_pow (n := uo rs A.1 A.2 + 1)
  have h6 := Nat.one_le_two_pow (n := uo rs B.1 B.2 + 1)
  omega
theorem treeAll_eq (rs : List Rw) (c : List Nat × List Nat) (r : List (List Nat × List Nat)) : treeAll rs (c :: r) = match treeOf rs c.1 c.2 with
    | none => none
    | some a => match treeAll rs r with
      | none => none
      | some b => some (a ++ b) := rfl
theorem treeAll_some {rs : List Rw} {c : List Nat × List Nat} {r : List (List Nat × List Nat)} {a : List Nd} (F : List Nd) (h : treeOf rs c.1 c.2 = some a) : (treeAll rs (c :: r)).map (F ++ ·) = (treeAll rs r).map ((F ++ a) ++ ·) := by
  rw [treeAll_eq, h]
  cases treeAll rs r with
  | none => rfl
  | some b => simp
theorem treeAll_none {rs : List Rw} {c : List Nat × List Nat} {r : List (List Nat × List Nat)} (F : List Nd) (h : treeOf rs c.1 c.2 = none) : (treeAll rs (c :: r)).map (F ++ ·) = none := by
  rw [treeAll_eq, h]
  rfl
theorem treeAll_split {rs : List Rw} {c A B : List Nat × List Nat} {r : List (List Nat × List Nat)} {x : Nd} (F : List Nd) (h : treeOf rs c.1 c.2 = match treeOf rs A.1 A.2 with
    | none => none
    | some a => match treeOf rs B.1 B.2 with
      | none => none
      | some b => some (x :: (a ++ b))) : (treeAll rs (c :: r)).map (F ++ ·) = (treeAll rs (A :: B :: r)).map ((F ++ [x]) ++ ·) := by
  rw [treeAll_eq, h, treeAll_eq rs A, treeAll_eq rs B]
  cases treeOf rs A.1 A.2 with
  | none => rfl
  | some a =>
    cases treeOf rs B.1 B.2 with
    | none => rfl
    | some b =>
      cases treeAll rs r with
      | none => rfl
      | some d => simp
theorem load_len (rs : List Rw) : ∀ r : List (List Nat × List Nat), r.length ≤ load rs r
  | [] => Nat.le_refl _
  | c :: r => by
    have := load_len rs r
    have := load_pos rs c r
    rw [List.length_cons]
    omega
end Wk
end
section
set_option Elab.async false
set_option linter.all false
set_option maxRecDepth 100000
set_option maxHeartbeats 4000000
/-! the law's dice -/
namespace Wk
open PySem PySem.Spec PyProof.Rows L2 Evl
/-- dice that were rolled at most k times -/
def DiceAt (k : Nat) (d : Addr) (H : Hp) : Prop := ∃ (b m : Int) (c : Nat), 0 ≤ b ∧ 0 ≤ m ∧ m < 2147480009 ∧ c ≤ k ∧ H d = some (.lst [.int b, .int m, .int (c : Int)])
theorem DiceAt.ex {k : Nat} {d : Addr} {H H' : Hp} (e : Ex H H') (h : DiceAt k d H) : DiceAt k d H' := let ⟨b, m, c, h1, h2, h3, h4, h5⟩ := h; ⟨b, m, c, h1, h2, h3, h4, e _ _ h5⟩
section
variable {K : PySem.W.Frag} {σ : L2.St} {H : Hp} {ta te to : TE}
theorem ev_int1 {i : Int} (h : Ev te σ H (.int i)) : Ev (tCB (fun xs H Q => (∃ i, xs = [.int i] ∧ Q (.int i) H) ∨ ∃ k, xs = [.bl k] ∧ Q (.int (if k then 1 else 0)) H) (tCons te tNil)) σ H (.int i) := fun H1 e Q q => h H1 e _ fun H2 e2 => .inl ⟨i, rfl, q H2 e2⟩
end
end Wk
end
section
set_option Elab.async false
set_option linter.all false
set_option maxRecDepth 100000
set_option maxHeartbeats 4000000
/-! what rolls: all stays but the dice -/
namespace Wk
open PySem PySem.Spec PyProof.Rows L2 Evl
def Ed (d : Addr) (H H' : Hp) : Prop := Ex (del H d) H'
theorem Ed.of {d : Addr} {H H' : Hp} (e : Ex H H') : Ed d H H' := (ex_del H d).trans e
theorem Ed.refl (d : Addr) (H : Hp) : Ed d H H := ex_del H d
theorem Ed.trans {d : Addr} {H H1 H2 : Hp} (a : Ed d H H1) (b : Ed d H1 H2) : Ed d H H2 := fun x o h => by
  have hx : x ≠ d := fun e => by subst e; rw [del_same] at h; cases h
  exact b x o (by rw [del_ne hx]; exact a x o h)
theorem Ed.at {d a : Addr} {H H' : Hp} {o : HO} (e : Ed d H H') (h : H a = some o) (hn : a ≠ d) : H' a = some o := e a o (by rw [del_ne hn]; exact h)
/-- a value made by at most c rolls -/
def ED (te : TE) (σ : L2.St) (d : Addr) (H : Hp) (c : Nat) (P : V → Hp → Prop) : Prop := ∀ k H1, Ed d H H1 → DiceAt k d H1 → k + c ≤ 90000 → ∀ Q : VK, (∀ v H2, Ed d H1 H2 → DiceAt (k + c) d H2 → P v H2 → Q v H2) → te σ H1 Q
theorem DiceAt.mono {k l : Nat} {d : Addr} {H : Hp} (h : DiceAt k d H) (hl : k ≤ l) : DiceAt l d H := let ⟨b, m, c, h1, h2, h3, h4, h5⟩ := h; ⟨b, m, c, h1, h2, h3, Nat.le_trans h4 hl, h5⟩
/-- kept by rolls -/
def Md {α : Type} (d : Addr) (P : α → Hp → Prop) : Prop := ∀ v H H', Ed d H H' → P v H → P v H'
section
variable {K : PySem.W.Frag} {σ : L2.St} {H : Hp} {ta te tl : TE} {tr : TA} {D : Ends} {tu tz : TS} {d : Addr} {P : V → Hp → Prop}
theorem ED.mono {H' : Hp} {c : Nat} (e : Ed d H H') (h : ED te σ d H c P) : ED te σ d H' c P := fun k H1 a x y Q q => h k H1 (e.trans a) x y Q q


end
end Wk
end
section
set_option Elab.async false
set_option linter.all false
set_option maxRecDepth 100000
set_option maxHeartbeats 4000000
/-! rows of names as data; trees judged -/
namespace Wk
open PySem PySem.Spec PyProof.Rows L2 Evl
def Lo (ns : List Nat) : Prop := ∀ c, c ∈ ns → c < 1000
def datN (ns : List Nat) : List PyData := ns.map fun c => PyData.str (tx [c])
def datS (xs : List Str) : List PyData := xs.map PyData.str
theorem datN_S (ns : List Nat) : datN ns = datS (ns.map fun c => tx [c]) := by unfold datN datS; rw [List.map_map]; rfl
theorem nmL_S (ns : List Nat) : nmL ns = (ns.map fun c => tx [c]).map V.str := by unfold nmL; rw [List.map_map]; rfl
theorem dpS {K : PySem.W.Frag} {H : Hp} : ∀ xs : List Str, DpAll K H (xs.map V.str) (datS xs)
  | [] => .nil
  | x :: xs => .cons (.str x) (dpS xs)
theorem dpN {K : PySem.W.Frag} {H : Hp} (ns : List Nat) : DpAll K H (nmL ns) (datN ns) := by rw [datN_S, nmL_S]; exact dpS _
def okS (xs : List Str) : Bool := xs.all PyData.strOk
theorem depthS : ∀ xs : List Str, PyData.depthAll (datS xs) = 0
  | [] => by simp [datS, PyData.depthAll]
  | x :: xs => by
    have ih := depthS xs
    unfold datS at ih ⊢
    rw [List.map_cons, PyData.depthAll, ih, PyData.depth]
    rfl
theorem layS : ∀ xs : List Str, PyData.canLayAll0 (datS xs) = okS xs
  | [] => by simp [datS, PyData.canLayAll0, okS]
  | x :: xs => by
    have ih := layS xs
    unfold datS at ih ⊢
    unfold okS at ih ⊢
    rw [List.map_cons, PyData.canLayAll0, ih, PyData.canLay0, List.all_cons]
theorem shS_l {xs : List Str} (h : okS xs = true) : SeqAt.shaped (.list (datS xs)) = true := by
  unfold SeqAt.shaped
  rw [PyData.canLay0, layS, h, PyData.depth, depthS]
  rfl
theorem shS_t {xs : List Str} (h : okS xs = true) : SeqAt.shaped (.tuple (datS xs)) = true := by
  unfold SeqAt.shaped
  rw [PyData.canLay0, layS, h, PyData.depth, depthS]
  rfl
theorem okS_nm {ns : List Nat} (h : Lo ns) : okS (ns.map fun c => tx [c]) = true := by
  unfold okS
  rw [List.all_map, List.all_eq_true]
  intro c hc
  have := h c hc
  show (tx [c]).cps.all (· < 0x110000) = true
  simp
  omega
theorem eqvS : ∀ xs ys : List Str, PyData.eqvAll (datS xs) (datS ys) = decide (xs = ys)
  | [], [] => by simp [datS, PyData.eqvAll]
  | [], y :: ys => by simp [datS, PyData.eqvAll]
  | x :: xs, [] => by simp [datS, PyData.eqvAll]
  | x :: xs, y :: ys => by
    have ih := eqvS xs ys
    unfold datS at ih ⊢
    rw [List.map_cons, List.map_cons, PyData.eqvAll, PyData.eqv, ih]
    by_cases h : x = y
    · subst h; simp
    · simp [h]
theorem sing_inj : ∀ {as bs : List Nat}, (as.map fun c => tx [c]) = (bs.map fun c => tx [c]) → as = bs
  | [], [], _ => rfl
  | [], b :: bs, h => by simp at h
  | a :: as, [], h => by simp at h
  | a :: as, b :: bs, h => by
    rw [List.map_cons, List.map_cons] at h
    obtain ⟨h1, h2⟩ := List.cons.inj h
    have := (List.cons.inj (tx_inj h1)).1
    rw [this, sing_inj h2]
theorem eqvN (as bs : List Nat) : PyData.eqvAll (datN as) (datN bs) = decide (as = bs) := by
  rw [datN_S, datN_S, eqvS, decide_eq_decide]
  exact ⟨sing_inj, fun h => by rw [h]⟩
section
variable {K : PySem.W.Frag} {σ : L2.St} {H : Hp} {ta tb : TE} {as bs : List Nat}
/-- two new lists of names, alike or not -/
theorem ev_eqNL (ha : EvL ta σ H (nmL as)) (hb : EvL tb σ H (nmL bs)) (la : Lo as) (lb : Lo bs) : Ev (tOp (rEqD K) ta tb) σ H (.bl (decide (as = bs))) := fun H1 e Q q =>
  ha H1 e _ fun p H2 hp e2 h2 => hb H2 (e.trans e2) _ fun o H3 ho e3 h3 => ⟨.list (datN as), .list (datN bs), .lst (sq_of (e3 _ _ h2)) (dpN as), .lst (sq_of h3) (dpN bs), by rw [datN_S]; exact shS_l (okS_nm la), by rw [datN_S]; exact shS_l (okS_nm lb), by
    rw [PyData.eqv, eqvN]
    exact q H3 (e2.trans e3)⟩
/-- a tuple of texts against a new one -/
theorem ev_eqTS {xs ys : List Str} {a : Addr} (ha : Ev ta σ H (.ref a)) (h : H a = some (.tup (xs.map V.str))) (hb : EvU tb σ H (ys.map V.str)) (la : okS xs = true) (lb : okS ys = true) : Ev (tOp (rEqD K) ta tb) σ H (.bl (decide (xs = ys))) := fun H1 e Q q =>
  ha H1 e _ fun H2 e2 => hb H2 (e.trans e2) _ fun o H3 ho e3 h3 => ⟨.tuple (datS xs), .tuple (datS ys), .tup (st_of ((e.trans (e2.trans e3)) _ _ h)) (dpS xs), .tup (st_of h3) (dpS ys), shS_t la, shS_t lb, by
    rw [PyData.eqv, eqvS]
    exact q H3 (e2.trans e3)⟩
theorem ev_neTS {xs ys : List Str} {a : Addr} (ha : Ev ta σ H (.ref a)) (h : H a = some (.tup (xs.map V.str))) (hb : EvU tb σ H (ys.map V.str)) (la : okS xs = true) (lb : okS ys = true) : Ev (tOp (rNeD K) ta tb) σ H (.bl (!decide (xs = ys))) := fun H1 e Q q =>
  ha H1 e _ fun H2 e2 => hb H2 (e.trans e2) _ fun o H3 ho e3 h3 => ⟨.tuple (datS xs), .tuple (datS ys), .tup (st_of ((e.trans (e2.trans e3)) _ _ h)) (dpS xs), .tup (st_of h3) (dpS ys), shS_t la, shS_t lb, by
    rw [PyData.eqv, eqvS]
    exact q H3 (e2.trans e3)⟩
end
/-! rows of names -/
def TupN (ns : List Nat) (v : V) (H : Hp) : Prop := ∃ p, v = .ref p ∧ H p = some (.tup (nmL ns))
theorem TupN.mn (ns : List Nat) : Mn (TupN ns) := fun v H H' n ⟨p, h1, h2⟩ => ⟨p, h1, n.tu _ _ h2⟩
theorem snoc_ind {P : List Nat → Prop} (h0 : P []) (h1 : ∀ ns c, P ns → P (ns ++ [c])) : ∀ ns, P ns := by
  intro ns
  rw [← List.reverse_reverse ns]
  induction ns.reverse with
  | nil => exact h0
  | cons c r ih => rw [List.reverse_cons]; exact h1 _ _ ih
/-- all choices of names, each rising as they are -/
def subN : List Nat → List (List Nat) := fun ns => ns.foldl (fun f c => f ++ f.map (· ++ [c])) [[]]
theorem subN_snoc (ns : List Nat) (c : Nat) : subN (ns ++ [c]) = subN ns ++ (subN ns).map (· ++ [c]) := by unfold subN; rw [List.foldl_append]; rfl
theorem subN_len : ∀ ns : List Nat, (subN ns).length = 2 ^ ns.length := by
  refine snoc_ind rfl fun ns c ih => ?_
  rw [subN_snoc, List.length_append, List.length_map, ih, List.length_append]
  show _ = 2 ^ (ns.length + 1)
  rw [Nat.pow_succ]
  omega
theorem subN_mem : ∀ ns : List Nat, ∀ s, s ∈ subN ns ↔ s.Sublist ns := by
  refine snoc_ind (fun s => ?_) fun ns c ih s => ?_
  · show s ∈ [[]] ↔ _
    simp
  · rw [subN_snoc, List.mem_append, List.mem_map]
    constructor
    · rintro (h | ⟨t, h, rfl⟩)
      · exact ((ih s).mp h).trans (List.sublist_append_left _ _)
      · exact ((ih t).mp h).append (List.Sublist.refl [c])
    · intro h
      obtain ⟨a, b, rfl, ha, hb⟩ := List.sublist_append_iff.mp h
      rcases List.sublist_cons_iff.mp hb with h2 | ⟨r, h2, h3⟩
      · left; rw [List.sublist_nil.mp h2, List.append_nil]; exact (ih a).mpr ha
      · right; exact ⟨a, (ih a).mpr ha, by rw [h2, List.sublist_nil.mp h3]⟩
section
variable {α β : Type} {P : α → V → Hp → Prop} {as bs : List α} {a : α} {vs ws : List V} {v : V} {H : Hp}
theorem AllV.cons (o : P a v H) (h : AllV P as vs H) : AllV P (a :: as) (v :: vs) H := ⟨by rw [List.length_cons, List.length_cons, h.1], fun i x b hx hb => by
  cases i with
  | zero => cases hx; cases hb; exact o
  | succ i => exact h.2 i x b hx hb⟩
theorem AllV.uncons (h : AllV P (a :: as) (v :: vs) H) : P a v H ∧ AllV P as vs H := ⟨h.2 0 v a rfl rfl, by have := h.1; simpa using this, fun i x b hx hb => h.2 (i + 1) x b hx hb⟩
theorem AllV.ne {h : AllV P as (v :: vs) H} : ∃ a bs, as = a :: bs := by
  cases as with
  | nil => exact absurd h.1 (by simp)
  | cons a bs => exact ⟨a, bs, rfl⟩
theorem AllV.perm {ys : List V} (p : ys.Perm vs) : ∀ {as : List α}, AllV P as vs H → ∃ bs, bs.Perm as ∧ AllV P bs ys H := by
  induction p with
  | nil => exact fun {as} h => ⟨as, List.Perm.refl _, h⟩
  | @cons x l m p ih =>
    intro as h
    obtain ⟨a, as', rfl⟩ := AllV.ne (h := h)
    obtain ⟨h1, h2⟩ := h.uncons
    obtain ⟨bs, q1, q2⟩ := ih h2
    exact ⟨a :: bs, List.Perm.cons a q1, q2.cons h1⟩
  | @swap x y l =>
    intro as h
    obtain ⟨a, as', rfl⟩ := AllV.ne (h := h)
    obtain ⟨h1, h2⟩ := h.uncons
    obtain ⟨b, bs, rfl⟩ := AllV.ne (h := h2)
    obtain ⟨h3, h4⟩ := h2.uncons
    exact ⟨b :: a :: bs, List.Perm.swap a b bs, (h4.cons h1).cons h3⟩
  | @trans l m n p1 p2 ih1 ih2 =>
    intro as h
    obtain ⟨bs, q1, q2⟩ := ih2 h
    obtain ⟨cs, q3, q4⟩ := ih1 q2
    exact ⟨cs, q3.trans q1, q4⟩
theorem AllV.cat {us : List V} (h : AllV P as vs H) (g : AllV P bs us H) : AllV P (as ++ bs) (vs ++ us) H := by
  refine ⟨by rw [List.length_append, List.length_append, h.1, g.1], fun i x b hx hb => ?_⟩
  rcases Nat.lt_or_ge i as.length with c | c
  · rw [List.getElem?_append_left (by rw [h.1]; exact c)] at hx
    rw [List.getElem?_append_left c] at hb
    exact h.2 i x b hx hb
  · rw [List.getElem?_append_right (by rw [h.1]; exact c)] at hx
    rw [List.getElem?_append_right c] at hb
    rw [h.1] at hx
    exact g.2 _ x b hx hb
theorem AllV.ofMap {f : β → α} {bs : List β} (hl : ws.length = bs.length) (h : ∀ (i : Nat) w b, ws[i]? = some w → bs[i]? = some b → P (f b) w H) : AllV P (bs.map f) ws H := ⟨by rw [List.length_map, hl], fun i w a hw ha => by
  rw [List.getElem?_map] at ha
  obtain ⟨b, hb, rfl⟩ := Option.map_eq_some_iff.mp ha
  exact h i w b hw hb⟩
end
abbrev rLstS (K : PySem.W.Frag) : List V → Hp → VK → Prop := fun xs H Q => ∃ p ys, xs = [.ref p] ∧ (SqL K H p ys ∨ SqT K H p ys) ∧ ∀ l, H l = none → Q (.ref l) (upd H l (.lst ys))
section
variable {K : PySem.W.Frag} {σ : L2.St} {H : Hp} {tl ta tb te : TE} {t : TT} {vs : List Nat} {P R : V → Hp → Prop} {xs ys : List V}
theorem x_lcX {g : TG} (h : EvX tl σ H P) (k : ∀ v H1, Ex H H1 → P v H1 → EvX (tLc (iList K (tC v)) g t te vs) σ H1 R) : EvX (tLc (iList K tl) g t te vs) σ H R := fun H1 e Q q =>
  h H1 e _ fun v H2 e2 p => k v H2 (e.trans e2) p H2 (Ex.refl _) Q fun v H3 e3 r => q v H3 (e2.trans e3) r
/-- list(t) -/
theorem el_listT {p : Addr} (h : Ev te σ H (.ref p)) (hp : H p = some (.tup xs)) : EvL (tCB (rLstS K) (tCons te tNil)) σ H xs := fun H1 e Q q => h H1 e _ fun H2 e2 => ⟨p, xs, rfl, .inr (st_of ((e.trans e2) _ _ hp)), fun l hl => q l _ (fresh_back e2 hl) (e2.trans (Ex.new hl)) upd_same⟩
/-- t + u, u new and not empty -/
theorem x_catT {a : Addr} (ha : Ev ta σ H (.ref a)) (h : H a = some (.tup xs)) (hb : EvU tb σ H ys) (hy : ys ≠ []) (hz : xs.length + ys.length ≤ 100000) : EvX (tOp (rCatA K) ta tb) σ H (fun v H' => ∃ p, v = .ref p ∧ H' p = some (.tup (xs ++ ys))) := fun H1 e Q q =>
  ha H1 e _ fun H2 e2 => hb H2 (e.trans e2) _ fun o H3 ho e3 h3 => ⟨a, o, xs, ys, rfl, rfl, st_of ((e.trans (e2.trans e3)) _ _ h), st_of h3, sz_of hz, fun hx => by
    subst hx
    exact q _ H3 (e2.trans e3) ⟨o, rfl, h3⟩, fun _ hy' => absurd hy' hy, fun _ _ p hp => q _ _ ((e2.trans e3).trans (Ex.new hp)) ⟨p, rfl, upd_same⟩⟩
end
section
variable {K : PySem.W.Frag} {σ : L2.St} {H : Hp} {ta tb te : TE} {xs : List V}
theorem x_catR {q : Addr} {PL : List V → Hp → Prop} (ha : Ev ta σ H (.ref q)) (hq : H q = some (.lst xs)) (hb : EvX tb σ H (fun v H' => ∃ p ys, v = .ref p ∧ H' p = some (.lst ys) ∧ PL ys H')) (hm : ∀ ys H H', Ex H H' → PL ys H → PL ys H') (hz : ∀ ys H, PL ys H → xs.length + ys.length ≤ 100000) :
    EvX (tOp rCat ta tb) σ H (fun v H' => ∃ p ys, v = .ref p ∧ H' p = some (.lst (xs ++ ys)) ∧ PL ys H') := fun H1 e Q k =>
  ha H1 e _ fun H2 e2 => hb H2 (e.trans e2) _ fun v H3 e3 ⟨p, ys, ev, hp, pl⟩ => ⟨q, p, xs, ys, rfl, ev, ((e.trans e2).trans e3) _ _ hq, hp, sz_of (hz ys H3 pl), fun o ho => k _ _ ((e2.trans e3).trans (Ex.new ho)) ⟨o, ys, rfl, upd_same, hm ys _ _ (Ex.new ho) pl⟩⟩
/-- sorted rows of names, in some order -/
theorem x_sortTx {p : Addr} {ys : List V} {ss : List (List Nat)} (h : Ev te σ H (.ref p)) (hp : H p = some (.lst ys)) (hs : AllV TupN ss ys H) (h0 : ∃ y r, ys = y :: r ∧ TupN [] y H) :
    EvX (tCB (TXT.rSortTx K) (tCons te tNil)) σ H (fun v H' => ∃ q zs ts, v = .ref q ∧ H q = none ∧ H' q = some (.lst zs) ∧ ts.Perm ss ∧ AllV TupN ts zs H') := fun H1 e Q k =>
  h H1 e _ fun H2 e2 => by
    have e12 := e.trans e2
    have hs2 := AllV.mo (fun a => (TupN.mn a).mo) _ _ _ e12 hs
    obtain ⟨y, r, rfl, t, ht1, ht2⟩ := h0
    refine ⟨p, _, rfl, sq_of (e12 _ _ hp), fun x hx => ?_, ⟨t, r, by rw [ht1], e12 _ _ ht2⟩, fun zs q pm hq => ?_⟩
    · obtain ⟨i, hi⟩ := List.mem_iff_getElem?.mp hx
      obtain ⟨s, _, q, h1, h2⟩ := AllV.at hs2 hi
      exact ⟨q, s.map fun c => tx [c], h1, by rw [← nmL_S]; exact h2⟩
    · obtain ⟨bs, h1, h2⟩ := AllV.perm pm hs2
      exact k _ _ (e2.trans (Ex.new hq)) ⟨q, zs, bs, rfl, fresh_back e12 hq, upd_same, h1, AllV.mo (fun a => (TupN.mn a).mo) _ _ _ (Ex.new hq) h2⟩
end
theorem AllV.ofPairs {α : Type} {P : α → V → Hp → Prop} {H : Hp} : ∀ l : List (V × α), (∀ z, z ∈ l → P z.2 z.1 H) → AllV P (l.map Prod.snd) (l.map Prod.fst) H
  | [], _ => AllV.nil
  | z :: l, h => AllV.cons (h z List.mem_cons_self) (AllV.ofPairs l fun y hy => h y (List.mem_cons_of_mem _ hy))
theorem pass_heads {ok : Rw → Bool} : ∀ (rs : List Rw) (s : List Nat × Bool) (c : Nat), c ∈ (rs.foldl (pStep ok) s).1 → c ∈ s.1 ∨ ∃ r, r ∈ rs ∧ c = r.1
  | [], s, c, h => .inl h
  | r :: rs, s, c, h => by
    rcases pass_heads rs (pStep ok s r) c h with h | ⟨q, h1, h2⟩
    · unfold pStep at h
      split at h
      · rcases List.mem_append.mp h with h | h
        · exact .inl h
        · exact .inr ⟨r, List.mem_cons_self, by simpa using h⟩
      · exact .inl h
    · exact .inr ⟨q, List.mem_cons_of_mem _ h1, h2⟩
theorem fixN_heads {ok : Rw → Bool} {rs : List Rw} : ∀ (n : Nat) (f : List Nat) (c : Nat), c ∈ fixN ok rs n f → c ∈ f ∨ ∃ r, r ∈ rs ∧ c = r.1
  | 0, f, c, h => .inl h
  | n + 1, f, c, h => by
    unfold fixN at h
    split at h
    · rcases fixN_heads n _ c h with h | h
      · exact pass_heads rs (f, false) c h
      · exact .inr h
    · exact .inl h
theorem fixOf_names {ok : Rw → Bool} {rs : List Rw} {c : Nat} (h : c ∈ fixOf ok rs) : c ∈ namesOf rs := by
  rcases fixN_heads _ _ _ h with h | ⟨r, h1, h2⟩
  · cases h
  · exact namesOf_mem.mpr ⟨r, h1, by rw [h2]; exact List.mem_cons_self⟩
def isW (rs : List Rw) (s : List Nat) : Bool := decide (sortN (fixOf (okB s) rs) = s)
def wsOf (rs : List Rw) : List (List Nat) := (subN (namesOf rs)).filter (isW rs)
theorem Lo.sort {ns : List Nat} (h : Lo ns) : Lo (sortN ns) := fun c hc => h c ((sortN_perm ns).mem_iff.mp hc)
theorem Lo.fix {rs : List Rw} {ok : Rw → Bool} (h : Lo (namesOf rs)) : Lo (sortN (fixOf ok rs)) := Lo.sort fun c hc => h c (fixOf_names hc)
end Wk
end
section
set_option Elab.async false
set_option linter.all false
set_option maxRecDepth 100000
set_option maxHeartbeats 4000000
/-! rising rows of names; dicts made of pairs -/
namespace Wk
open PySem PySem.Spec PyProof.Rows L2 Evl
/-- strictly rising -/
def risB (ns : List Nat) : Bool := decide (ns.Pairwise (· < ·))
theorem ris_nodup {ns : List Nat} (h : ns.Pairwise (· < ·)) : ns.Nodup := h.imp fun h => Nat.ne_of_lt h
theorem lt_of_le_nd : ∀ {ns : List Nat}, ns.Pairwise (· ≤ ·) → ns.Nodup → ns.Pairwise (· < ·)
  | [], _, _ => List.Pairwise.nil
  | x :: l, h, d => by
    obtain ⟨h1, h2⟩ := List.pairwise_cons.mp h
    obtain ⟨d1, d2⟩ := List.nodup_cons.mp d
    refine List.pairwise_cons.mpr ⟨fun y hy => ?_, lt_of_le_nd h2 d2⟩
    have := h1 y hy
    rcases Nat.lt_or_eq_of_le this with c | c
    · exact c
    · exact absurd (c ▸ hy) d1
/-- the texts of a set of names, in a row of names -/
theorem back_nm : ∀ (l : List Str) (ns : List Nat), (∀ k, k ∈ l → k ∈ ns.map fun c => tx [c]) → ∃ m : List Nat, l = m.map fun c => tx [c]
  | [], _, _ => ⟨[], rfl⟩
  | k :: l, ns, h => by
    obtain ⟨c, hc, e⟩ := List.mem_map.mp (h k List.mem_cons_self)
    obtain ⟨m, hm⟩ := back_nm l ns fun k hk => h k (List.mem_cons_of_mem _ hk)
    exact ⟨c :: m, by rw [hm, ← e]; rfl⟩
theorem sing_mem {c : Nat} {ns : List Nat} : tx [c] ∈ (ns.map fun c => tx [c]) ↔ c ∈ ns := by
  rw [List.mem_map]
  constructor
  · rintro ⟨d, hd, e⟩
    have := (List.cons.inj (tx_inj e)).1
    rw [← this]; exact hd
  · intro h; exact ⟨c, h, rfl⟩
theorem nodup_back {m : List Nat} (h : (m.map fun c => tx [c]).Nodup) : m.Nodup := by
  unfold List.Nodup at h ⊢
  rw [List.pairwise_map] at h
  exact h.imp fun h e => h (by rw [e])
/-- the members of a set of names, sorted -/
theorem set_sorted {l ys : List Str} {ns : List Nat} (hn : l.Nodup) (hm : ∀ k, k ∈ l ↔ k ∈ ns.map fun c => tx [c]) (pm : ys.Perm l) (hs : sortedS ys = true) :
    ∃ m : List Nat, ys = m.map (fun c => tx [c]) ∧ m.Pairwise (· < ·) ∧ ∀ c, c ∈ m ↔ c ∈ ns := by
  obtain ⟨m, rfl⟩ := back_nm l ns fun k hk => (hm k).mp hk
  have h1 := map_perm_tx pm hs
  refine ⟨sortN m, h1, lt_of_le_nd (sortN_sorted m) ((sortN_perm m).nodup_iff.mpr (nodup_back hn)), fun c => ?_⟩
  rw [(sortN_perm m).mem_iff, ← sing_mem, hm, sing_mem]
theorem ris_unique {a b : List Nat} (ha : a.Pairwise (· < ·)) (hb : b.Pairwise (· < ·)) (h : ∀ c, c ∈ a ↔ c ∈ b) : a = b :=
  sorted_unique a b ((List.perm_ext_iff_of_nodup (ris_nodup ha) (ris_nodup hb)).mpr h) (ha.imp fun h => Nat.le_of_lt h) (hb.imp fun h => Nat.le_of_lt h)
theorem ris_eq {m ns : List Nat} (h1 : m.Pairwise (· < ·)) (h2 : ∀ c, c ∈ m ↔ c ∈ ns) : decide (ns = m) = risB ns := by
  unfold risB
  rw [decide_eq_decide]
  constructor
  · intro e; rw [e]; exact h1
  · intro h; exact ris_unique h h1 fun c => (h2 c).symm
theorem addAll_nodup : ∀ (ns f : List Nat), ns.Nodup → (∀ c, c ∈ ns → c ∉ f) → addAll f ns = f ++ ns
  | [], f, _, _ => by simp [addAll]
  | c :: ns, f, h, hf => by
    obtain ⟨h1, h2⟩ := List.nodup_cons.mp h
    have e : addAll f (c :: ns) = addAll (addN f c) ns := rfl
    have e2 : addN f c = f ++ [c] := by unfold addN; rw [if_neg (hf c List.mem_cons_self)]
    rw [e, e2, addAll_nodup ns _ h2 fun d hd => ?_]
    · simp
    · rw [List.mem_append, List.mem_singleton]
      rintro (x | x)
      · exact hf d (List.mem_cons_of_mem _ hd) x
      · exact h1 (x ▸ hd)
theorem mergeK_dk : ∀ (ns f : List Nat), mergeK (dk f) (dk ns) = dk (addAll f ns)
  | [], f => rfl
  | c :: ns, f => by
    show mergeK (putK (dk f) (Sum.inr (tx [c])) (.bl true)) (dk ns) = _
    rw [put_dk, mergeK_dk ns]
    rfl
theorem pairs_back {K : PySem.W.Frag} {H : Hp} : ∀ (ns : List Nat) (ys : List V), ys.length = ns.length → (∀ (i : Nat) y, ys[i]? = some y → ∃ c q, ns[i]? = some c ∧ y = V.ref q ∧ H q = some (.tup [nmV c, .bl true])) →
    ∃ ps : List Addr, ys = ps.map V.ref ∧ Paired (fun p kv => SqT K H p [kV kv.1, kv.2]) ps (dk ns)
  | [], ys, hl, _ => by
    cases ys with
    | nil => exact ⟨[], rfl, .nil⟩
    | cons y ys => simp at hl
  | c :: ns, ys, hl, h => by
    cases ys with
    | nil => simp at hl
    | cons y ys =>
      obtain ⟨c', q, h1, rfl, h2⟩ := h 0 y rfl
      cases h1
      obtain ⟨ps, e1, e2⟩ := pairs_back ns ys (by simpa using hl) fun i y hy => h (i + 1) y hy
      exact ⟨q :: ps, by rw [e1]; rfl, .cons (st_of h2) e2⟩
theorem addAll_nd : ∀ (ns f : List Nat), f.Nodup → (addAll f ns).Nodup
  | [], f, h => h
  | c :: ns, f, h => addAll_nd ns (addN f c) (addN_nodup h)
/-- the names of a row, rising, each once -/
def riseOf (ns : List Nat) : List Nat := sortN (addAll [] ns)
theorem riseOf_ris (ns : List Nat) : (riseOf ns).Pairwise (· < ·) := lt_of_le_nd (sortN_sorted _) ((sortN_perm _).nodup_iff.mpr (addAll_nd ns [] List.nodup_nil))
theorem riseOf_mem {ns : List Nat} {c : Nat} : c ∈ riseOf ns ↔ c ∈ ns := by
  unfold riseOf
  rw [(sortN_perm _).mem_iff, addAll_mem]
  simp
theorem riseOf_eq (ns : List Nat) : decide (ns = riseOf ns) = risB ns := ris_eq (riseOf_ris ns) fun _ => riseOf_mem
theorem keysOf_nd (rs : List Rw) : (keysOf rs).Nodup := by
  have : ∀ (rs : List Rw) (f : List Nat), f.Nodup → (rs.foldl (fun ns r => addAll ns (rowNs r)) f).Nodup := by
    intro rs
    induction rs with
    | nil => intro f h; exact h
    | cons r rs ih => intro f h; exact ih _ (addAll_nd _ _ h)
  exact this rs [] List.nodup_nil
theorem namesOf_ris (rs : List Rw) : (namesOf rs).Pairwise (· < ·) := lt_of_le_nd (sortN_sorted _) ((sortN_perm _).nodup_iff.mpr (keysOf_nd rs))
section
variable {K : PySem.W.Frag} {σ : L2.St} {H : Hp} {ta tb te : TE} {P : Program} {w : World}
/-- sorted(set(t)), names of a tuple or a list -/
theorem el_setA {p : Addr} {ns : List Nat} (h : Ev te σ H (.ref p)) (hp : H p = some (.tup (nmL ns)) ∨ H p = some (.lst (nmL ns))) (hn : ns.length < 64) : EvL (tCB (TXS.rSortX P w) (tCons (tCB (TXS.rSetX K P w) (tCons te tNil)) tNil)) σ H (nmL (riseOf ns)) := fun H1 e Q q =>
  h H1 e _ fun H2 e2 => ⟨p, ns.map fun c => tx [c], rfl, by
    rw [← nmL_S]
    rcases hp with hp | hp
    · exact .inr (st_of ((e.trans e2) _ _ hp))
    · exact .inl (sq_of ((e.trans e2) _ _ hp)), by rw [List.length_map]; exact hn, fun o ys ho hd hm hl => ⟨o, ys, rfl, upd_same, by rw [List.length_map] at hl; omega, fun zs r pm hs hr => by
    obtain ⟨m, e1, e2', e3⟩ := set_sorted hd hm pm hs
    have em : m = riseOf ns := ris_unique e2' (riseOf_ris ns) fun c => by rw [e3, riseOf_mem]
    refine q r _ (fresh_back (e2.trans (Ex.new ho)) hr) ((e2.trans (Ex.new ho)).trans (Ex.new hr)) ?_
    rw [upd_same, e1, ← nmL_S, em]⟩⟩
/-- dict([(c, True) for c in t]) -/
theorem x_dictP {ns : List Nat} (h : EvX te σ H (fun v H' => ∃ a ys, v = .ref a ∧ H' a = some (.lst ys) ∧ ys.length = ns.length ∧ ∀ (i : Nat) y, ys[i]? = some y → ∃ c q, ns[i]? = some c ∧ y = V.ref q ∧ H' q = some (.tup [nmV c, .bl true]))) (hn : ns.Nodup) :
    EvX (tCB (fun xs H Q => ∃ (a : Addr) (ps : List Addr) (kvs : List (Key × V)), xs = [.ref a] ∧ SqL K H a (ps.map V.ref) ∧ Paired (fun p kv => SqT K H p [kV kv.1, kv.2]) ps kvs ∧ ∀ p, H p = none → Q (.ref p) (upd H p (.dK (mergeK [] kvs)))) (tCons te tNil)) σ H (fun v H' => ∃ p, v = .ref p ∧ H p = none ∧ H' p = some (.dK (dk ns))) := fun H1 e Q q =>
  h H1 e _ fun v H2 e2 ⟨a, ys, ev, ha, hl, hy⟩ => by
    obtain ⟨ps, e1, e3⟩ := pairs_back (K := K) ns ys hl hy
    refine ⟨a, ps, dk ns, by rw [ev], sq_of (by rw [← e1]; exact ha), e3, fun p hp => q _ _ (e2.trans (Ex.new hp)) ⟨p, rfl, fresh_back (e.trans e2) hp, ?_⟩⟩
    have e4 : mergeK [] (dk ns) = dk ns := by
      rw [show ([] : List (Key × V)) = dk [] from rfl, mergeK_dk, addAll_nodup ns [] hn (fun _ _ h => by cases h)]
      rfl
    rw [upd_same, e4]
end
end Wk
end
section
set_option Elab.async false
set_option linter.all false
set_option maxRecDepth 100000
set_option maxHeartbeats 4000000
/-! nodes as rows of texts; trees judged -/
namespace Wk
open PySem PySem.Spec PyProof.Rows L2 Evl
def NodeS (xs : List Str) (v : V) (H : Hp) : Prop := ∃ p, v = .ref p ∧ H p = some (.tup (xs.map V.str))
theorem NodeS.mn (xs : List Str) : Mn (NodeS xs) := fun v H H' n ⟨p, h1, h2⟩ => ⟨p, h1, n.tu _ _ h2⟩
def nodeS : Nd → List Str
  | none => [("shut" : Str)]
  | some c => [("split" : Str), tx [c]]
abbrev shutS : List Str := [("shut" : Str)]
theorem NodeAt.s {o : Nd} {v : V} {H : Hp} (h : NodeAt o v H) : NodeS (nodeS o) v H := by
  cases o <;> exact h
theorem NodeS.at {o : Nd} {v : V} {H : Hp} (h : NodeS (nodeS o) v H) : NodeAt o v H := by
  cases o <;> exact h
def splB (rs : List Rw) (xs : List Str) : Bool := match xs with
  | [x, y] => decide (x = ("split" : Str)) && decide (y ∈ (namesOf rs).map fun c => tx [c])
  | _ => false
def ndB (rs : List Rw) (xs : List Str) : Bool := splB rs xs || decide (xs = shutS)
def rowB (rs : List Rw) (nodes : List (List Str)) : Bool := (decide (1 ≤ nodes.length) && decide (nodes.length ≤ 200)) && nodes.all (ndB rs)
def ndOf (xs : List Str) : Nd := match xs with
  | [_, y] => some (y.cps.toList.headD 0)
  | _ => none
theorem ndB_back {rs : List Rw} {xs : List Str} (h : ndB rs xs = true) : xs = nodeS (ndOf xs) ∧ ∀ c, ndOf xs = some c → c ∈ namesOf rs := by
  unfold ndB at h
  rw [Bool.or_eq_true] at h
  rcases h with h | h
  · match xs, h with
    | [x, y], h =>
      unfold splB at h
      rw [Bool.and_eq_true] at h
      have hx := of_decide_eq_true h.1
      have hy := of_decide_eq_true h.2
      obtain ⟨c, hc, rfl⟩ := List.mem_map.mp hy
      have e : ndOf [x, tx [c]] = some c := rfl
      rw [e]
      refine ⟨by rw [hx]; rfl, fun d hd => ?_⟩
      cases hd
      exact hc
    | [], h => simp [splB] at h
    | [_], h => simp [splB] at h
    | _ :: _ :: _ :: _, h => simp [splB] at h
  · have := of_decide_eq_true h
    rw [this]
    exact ⟨rfl, fun c hc => by cases hc⟩
theorem ndB_of {rs : List Rw} {o : Nd} (h : ∀ c, o = some c → c ∈ namesOf rs) : ndB rs (nodeS o) = true := by
  cases o with
  | none => unfold ndB; rw [Bool.or_eq_true]; right; exact decide_eq_true (rfl : nodeS none = shutS)
  | some c =>
    unfold ndB
    rw [Bool.or_eq_true]
    left
    show (decide (("split" : Str) = "split") && decide (tx [c] ∈ (namesOf rs).map fun c => tx [c])) = true
    rw [Bool.and_eq_true]
    exact ⟨decide_eq_true (rfl : ("split" : Str) = "split"), decide_eq_true (sing_mem.mpr (h c rfl))⟩
theorem ndOf_S (o : Nd) : ndOf (nodeS o) = o := by cases o <;> rfl
theorem nodeS_shut {o : Nd} : nodeS o = shutS ↔ o = none := by
  cases o with
  | none => exact ⟨fun _ => rfl, fun _ => rfl⟩
  | some c => exact ⟨fun h => absurd (congrArg List.length h) (by simp [nodeS]), fun h => by cases h⟩
/-- a tree gone along: what waits, the next one first -/
def judge (rs : List Rw) : List (List Nat × List Nat) → List Nd → Bool
  | [], [] => true
  | _ :: _, [] => false
  | [], _ :: _ => false
  | c :: W, none :: r => shutB (growOf rs c.1 c.2).1 (growOf rs c.1 c.2).2 && judge rs W r
  | c :: W, some n :: r => judge rs ((addN (growOf rs c.1 c.2).1 n, (growOf rs c.1 c.2).2) :: ((growOf rs c.1 c.2).1, addN (growOf rs c.1 c.2).2 n) :: W) r
def areB (rs : List Rw) (ts fs : List Nat) (nodes : List (List Str)) : Bool := rowB rs nodes && judge rs [(ts, fs)] (nodes.map ndOf)
theorem inV_S (y : Str) (ks : List Nat) : inV (V.str y) (nmL ks) = decide (y ∈ ks.map fun c => tx [c]) := by
  unfold inV nmL
  rw [List.any_map]
  induction ks with
  | nil => rfl
  | cons k ks ih =>
    rw [List.any_cons, ih, List.map_cons]
    have e : ((fun z => eqV z (V.str y)) ∘ nmV) k = decide (tx [k] = y) := rfl
    rw [e]
    by_cases h : tx [k] = y
    · subst h; simp
    · have h2 : ¬ y = tx [k] := fun e => h e.symm
      simp [h, h2]
section
variable {K : PySem.W.Frag} {σ : L2.St} {H : Hp} {ta tb te : TE} {tr : TA} {y : Str} {ks : List Nat} {a : Addr}
theorem ev_inLS (h : Ev ta σ H (.str y)) (hb : Ev tb σ H (.ref a)) (hx : SqL K H a (nmL ks)) : Ev (tOp (rIn K false) ta tb) σ H (.bl (decide (y ∈ ks.map fun c => tx [c]))) := by
  rw [← inV_S]
  exact ev_op h hb (rv_isL hx rfl (flat_nm ks))
end
theorem SzCs_small {rs : List Rw} {ts fs : List Nat} (h1 : ts.length ≤ 10) (h2 : fs.length ≤ 10) (h3 : (namesOf rs).length ≤ 10) : ts.length + miss (namesOf rs) ts ≤ 1000 ∧ fs.length + miss (namesOf rs) fs ≤ 1000 := by
  have a : miss (namesOf rs) ts ≤ 10 := Nat.le_trans (List.length_filter_le _ _) h3
  have b : miss (namesOf rs) fs ≤ 10 := Nat.le_trans (List.length_filter_le _ _) h3
  omega
end Wk
end
section
set_option Elab.async false
set_option linter.all false
set_option maxRecDepth 100000
set_option maxHeartbeats 4000000
/-! cases told by lists -/
namespace Wk
open PySem PySem.Spec PyProof.Rows L2 Evl
def Eqm (a b : List Nat) : Prop := ∀ c, c ∈ a ↔ c ∈ b
theorem Eqm.refl (a : List Nat) : Eqm a a := fun _ => Iff.rfl
theorem Eqm.dec {a b : List Nat} (h : Eqm a b) (c : Nat) : decide (c ∈ a) = decide (c ∈ b) := by rw [decide_eq_decide]; exact h c
theorem shut_eqm {t f t0 f0 : List Nat} (h1 : Eqm t t0) (h2 : Eqm f f0) : shutB t f = shutB t0 f0 := by
  unfold shutB
  rw [Bool.eq_iff_iff, List.any_eq_true, List.any_eq_true]
  constructor
  · rintro ⟨c, hc, h⟩; exact ⟨c, (h1 c).mp hc, by rw [← h2.dec]; exact h⟩
  · rintro ⟨c, hc, h⟩; exact ⟨c, (h1 c).mpr hc, by rw [h2.dec]; exact h⟩
theorem all_eqm {a b : List Nat} (h : Eqm a b) : (fun c => decide (c ∈ a)) = fun c => decide (c ∈ b) := funext fun c => h.dec c
theorem okF_eqm {t f t0 f0 : List Nat} (h1 : Eqm t t0) (h2 : Eqm f f0) : okF t f = okF t0 f0 := by
  funext r
  unfold okF
  rw [all_eqm h1, all_eqm h2, h1.dec]
theorem okH_eqm {t f t0 f0 : List Nat} (h1 : Eqm t t0) (h2 : Eqm f f0) : okH t f = okH t0 f0 := by
  funext r
  unfold okH
  rw [all_eqm h1, all_eqm h2]
theorem okB_eqm {t t0 : List Nat} (h1 : Eqm t t0) : okB t = okB t0 := by
  funext r
  unfold okB
  rw [all_eqm h1]
theorem forcedT_eqm {rs : List Rw} {t f t0 f0 : List Nat} (h1 : Eqm t t0) (h2 : Eqm f f0) : forcedT rs t f = forcedT rs t0 f0 := by unfold forcedT; rw [okF_eqm h1 h2]
theorem forcedF_eqm {rs : List Rw} {t f t0 f0 : List Nat} (h1 : Eqm t t0) (h2 : Eqm f f0) : forcedF rs t f = forcedF rs t0 f0 := by
  unfold forcedF
  rw [okH_eqm h1 h2]
  congr 1
  funext c
  rw [h2.dec]
theorem Eqm.app {t t0 m : List Nat} (h : Eqm t t0) : Eqm (t ++ m) (addAll t0 m) := fun c => by rw [List.mem_append, addAll_mem, h c]
theorem Eqm.addN {t t0 : List Nat} {n : Nat} (h : Eqm t t0) : Eqm (t ++ [n]) (addN t0 n) := fun c => by rw [List.mem_append, addN_mem, List.mem_singleton, h c]
/-- n passes -/
def itN (ok : Rw → Bool) (rs : List Rw) : Nat → List Nat
  | 0 => []
  | n + 1 => (pass ok rs (itN ok rs n)).1
def itF (ok : Rw → Bool) (rs : List Rw) : Nat → List Nat → List Nat
  | 0, f => f
  | n + 1, f => itF ok rs n (pass ok rs f).1
theorem itF_succ (ok : Rw → Bool) (rs : List Rw) : ∀ n f, itF ok rs (n + 1) f = (pass ok rs (itF ok rs n f)).1
  | 0, f => rfl
  | n + 1, f => itF_succ ok rs n (pass ok rs f).1
theorem itN_F (ok : Rw → Bool) (rs : List Rw) : ∀ n, itN ok rs n = itF ok rs n []
  | 0 => rfl
  | n + 1 => by rw [itF_succ, ← itN_F ok rs n]; rfl
theorem itF_stable {ok : Rw → Bool} {rs : List Rw} {f : List Nat} (h : (pass ok rs f).1 = f) : ∀ n, itF ok rs n f = f
  | 0 => rfl
  | n + 1 => by show itF ok rs n (pass ok rs f).1 = f; rw [h]; exact itF_stable h n
theorem itF_fix {ok : Rw → Bool} {rs : List Rw} : ∀ (n m : Nat) (f : List Nat), unm rs f ≤ n → unm rs f < m → itF ok rs n f = fixN ok rs m f
  | n, 0, f, _, h => absurd h (Nat.not_lt_zero _)
  | 0, m + 1, f, h, _ => by
    show f = if (pass ok rs f).2 = true then fixN ok rs m (pass ok rs f).1 else f
    split
    · rename_i hp
      have := pass_new hp
      omega
    · rfl
  | n + 1, m + 1, f, h1, h2 => by
    show itF ok rs n (pass ok rs f).1 = if (pass ok rs f).2 = true then fixN ok rs m (pass ok rs f).1 else f
    split
    · rename_i hp
      have := pass_new hp
      exact itF_fix n m _ (by omega) (by omega)
    · rename_i hp
      have e := pass_old (show (pass ok rs f).2 = false from by simpa using hp)
      rw [e]
      exact itF_stable e n
theorem itN_fix (ok : Rw → Bool) (rs : List Rw) : itN ok rs (rs.length + 1) = fixOf ok rs := by
  rw [itN_F]
  have := unm_le rs []
  exact itF_fix _ _ _ (by omega) (by omega)
theorem pStep_fst (ok : Rw → Bool) (s : List Nat × Bool) (r : Rw) : (pStep ok s r).1 = if (ok r && (decide (r.1 ∉ s.1) && r.2.1.all fun c => decide (c ∈ s.1))) = true then s.1 ++ [r.1] else s.1 := by
  unfold pStep
  split <;> rfl
theorem fold_cnt {ok : Rw → Bool} {all : List Rw} : ∀ (rs : List Rw) (s : List Nat × Bool), (∀ r, r ∈ rs → r ∈ all) → s.1.length + unm all s.1 ≤ all.length → (rs.foldl (pStep ok) s).1.length + unm all (rs.foldl (pStep ok) s).1 ≤ all.length
  | [], s, _, h => h
  | r :: rs, s, hm, h => fold_cnt rs _ (fun q hq => hm q (List.mem_cons_of_mem _ hq)) (pStep_cnt (hm r List.mem_cons_self) h)
theorem itN_cnt (ok : Rw → Bool) (rs : List Rw) : ∀ n, (itN ok rs n).length + unm rs (itN ok rs n) ≤ rs.length
  | 0 => by have := unm_le rs []; show 0 + _ ≤ _; show 0 + unm rs [] ≤ _; omega
  | n + 1 => fold_cnt rs (itN ok rs n, false) (fun _ h => h) (itN_cnt ok rs n)
end Wk
end
section
set_option Elab.async false
set_option linter.all false
set_option maxRecDepth 100000
set_option maxHeartbeats 4000000
/-! the plain law: worlds and trees of cases -/
namespace Wk
open PySem PySem.Spec PyProof.Rows L2 Evl
def addsB (ok : Rw → Bool) (f : List Nat) (r : Rw) : Bool := ok r && (decide (r.1 ∉ f) && r.2.1.all fun c => decide (c ∈ f))
theorem pStep_eq (ok : Rw → Bool) (s : List Nat × Bool) (r : Rw) : pStep ok s r = if addsB ok s.1 r = true then (s.1 ++ [r.1], true) else s := rfl
theorem fold_true {ok : Rw → Bool} : ∀ (rs : List Rw) (s : List Nat × Bool), s.2 = true → (rs.foldl (pStep ok) s).2 = true
  | [], s, h => h
  | r :: rs, s, h => fold_true rs _ (by rw [pStep_eq]; split; rfl; exact h)
theorem fold_still {ok : Rw → Bool} : ∀ (rs : List Rw) (f : List Nat), (rs.foldl (pStep ok) (f, false)).2 = false → ∀ r, r ∈ rs → addsB ok f r = false
  | [], f, _, r, hr => by cases hr
  | q :: rs, f, h, r, hr => by
    have h' : (rs.foldl (pStep ok) (pStep ok (f, false) q)).2 = false := h
    have hq : addsB ok f q = false := by
      cases c : addsB ok f q with
      | false => rfl
      | true =>
        have e : pStep ok (f, false) q = (f ++ [q.1], true) := by rw [pStep_eq]; exact if_pos c
        rw [e, fold_true rs _ rfl] at h'
        cases h'
    have e : pStep ok (f, false) q = (f, false) := by rw [pStep_eq]; exact if_neg (by rw [hq]; decide)
    rw [e] at h'
    rcases List.mem_cons.mp hr with x | x
    · rw [x]; exact hq
    · exact fold_still rs f h' r x
theorem fixN_still {ok : Rw → Bool} {rs : List Rw} : ∀ (n : Nat) (f : List Nat), unm rs f < n → (pass ok rs (fixN ok rs n f)).2 = false
  | 0, f, h => absurd h (Nat.not_lt_zero _)
  | n + 1, f, h => by
    unfold fixN
    split
    · rename_i hp
      have := pass_new hp
      exact fixN_still n _ (by omega)
    · rename_i hp
      simpa using hp
theorem fix_closed {ok : Rw → Bool} {rs : List Rw} {r : Rw} (hr : r ∈ rs) (ho : ok r = true) (hw : ∀ c, c ∈ r.2.1 → c ∈ fixOf ok rs) : r.1 ∈ fixOf ok rs := by
  have h := fold_still rs _ (fixN_still (ok := ok) (rs := rs) (rs.length + 2) [] (by have := unm_le rs []; omega)) r hr
  have h2 : addsB ok (fixOf ok rs) r = false := h
  unfold addsB at h2
  rw [ho, Bool.true_and, List.all_eq_true.mpr (fun c hc => decide_eq_true (hw c hc)), Bool.and_true] at h2
  exact Decidable.not_not.mp (of_decide_eq_false h2)
theorem fold_least {ok : Rw → Bool} {S : Nat → Prop} : ∀ (rs : List Rw) (s : List Nat × Bool), (∀ r, r ∈ rs → ok r = true → (∀ c, c ∈ r.2.1 → S c) → S r.1) → (∀ c, c ∈ s.1 → S c) → ∀ c, c ∈ (rs.foldl (pStep ok) s).1 → S c
  | [], s, _, h, c, hc => h c hc
  | r :: rs, s, hS, h, c, hc => by
    refine fold_least rs (pStep ok s r) (fun q hq => hS q (List.mem_cons_of_mem _ hq)) (fun d hd => ?_) c hc
    rw [pStep_eq] at hd
    split at hd
    · rename_i ha
      unfold addsB at ha
      rw [Bool.and_eq_true, Bool.and_eq_true] at ha
      rcases List.mem_append.mp hd with x | x
      · exact h d x
      · rw [List.mem_singleton.mp x]
        exact hS r List.mem_cons_self ha.1 fun e he => h e (of_decide_eq_true (List.all_eq_true.mp ha.2.2 e he))
    · exact h d hd
theorem fix_least {ok : Rw → Bool} {rs : List Rw} {S : Nat → Prop} (hS : ∀ r, r ∈ rs → ok r = true → (∀ c, c ∈ r.2.1 → S c) → S r.1) : ∀ c, c ∈ fixOf ok rs → S c := by
  have : ∀ (n : Nat) (f : List Nat), (∀ c, c ∈ f → S c) → ∀ c, c ∈ fixN ok rs n f → S c := by
    intro n
    induction n with
    | zero => intro f h c hc; exact h c hc
    | succ n ih =>
      intro f h c hc
      unfold fixN at hc
      split at hc
      · exact ih _ (fun d hd => fold_least rs (f, false) hS h d hd) c hc
      · exact h c hc
  exact this _ [] (fun c hc => by cases hc)
theorem fold_nodup {ok : Rw → Bool} : ∀ (rs : List Rw) (s : List Nat × Bool), s.1.Nodup → (rs.foldl (pStep ok) s).1.Nodup
  | [], s, h => h
  | r :: rs, s, h => fold_nodup rs _ (pStep_nodup h)
theorem fix_nodup (ok : Rw → Bool) (rs : List Rw) : (fixOf ok rs).Nodup := by
  have : ∀ (n : Nat) (f : List Nat), f.Nodup → (fixN ok rs n f).Nodup := by
    intro n
    induction n with
    | zero => intro f h; exact h
    | succ n ih =>
      intro f h
      unfold fixN
      split
      · exact ih _ (fold_nodup rs (f, false) h)
      · exact h
  exact this _ [] List.nodup_nil
theorem fix_ris (ok : Rw → Bool) (rs : List Rw) : (sortN (fixOf ok rs)).Pairwise (· < ·) := lt_of_le_nd (sortN_sorted _) ((sortN_perm _).nodup_iff.mpr (fix_nodup ok rs))
/-! worlds -/
theorem isW_mem {rs : List Rw} {s : List Nat} (h : isW rs s = true) (c : Nat) : c ∈ s ↔ c ∈ fixOf (okB s) rs := by
  have := of_decide_eq_true h
  rw [← (sortN_perm (fixOf (okB s) rs)).mem_iff, this]
def Fit (t f s : List Nat) : Prop := (∀ c, c ∈ t → c ∈ s) ∧ ∀ c, c ∈ f → c ∉ s
theorem okB_iff {s : List Nat} {r : Rw} : okB s r = true ↔ ∀ c, c ∈ r.2.2 → c ∉ s := by
  unfold okB
  rw [Bool.not_eq_true', List.any_eq_false]
  exact ⟨fun h c hc hs => h c hc (decide_eq_true hs), fun h c hc hs => h c hc (of_decide_eq_true hs)⟩
theorem okH_iff {t f : List Nat} {r : Rw} : okH t f r = true ↔ (∀ c, c ∈ r.2.1 → c ∉ f) ∧ ∀ c, c ∈ r.2.2 → c ∉ t := by
  unfold okH
  rw [Bool.not_eq_true', Bool.or_eq_false_iff, List.any_eq_false, List.any_eq_false]
  exact ⟨fun h => ⟨fun c hc hs => h.1 c hc (decide_eq_true hs), fun c hc hs => h.2 c hc (decide_eq_true hs)⟩, fun h => ⟨fun c hc hs => h.1 c hc (of_decide_eq_true hs), fun c hc hs => h.2 c hc (of_decide_eq_true hs)⟩⟩
theorem okF_iff {t f : List Nat} {r : Rw} : okF t f r = true ↔ ((∀ c, c ∈ r.2.1 → c ∈ t) ∧ ∀ c, c ∈ r.2.2 → c ∈ f) ∧ r.1 ∉ t := by
  unfold okF
  rw [Bool.and_eq_true, Bool.and_eq_true, List.all_eq_true, List.all_eq_true, Bool.not_eq_true', decide_eq_false_iff_not]
  exact ⟨fun h => ⟨⟨fun c hc => of_decide_eq_true (h.1.1 c hc), fun c hc => of_decide_eq_true (h.1.2 c hc)⟩, h.2⟩, fun h => ⟨⟨fun c hc => decide_eq_true (h.1.1 c hc), fun c hc => decide_eq_true (h.1.2 c hc)⟩, h.2⟩⟩
theorem world_step {rs : List Rw} {s : List Nat} (h : isW rs s = true) {r : Rw} (hr : r ∈ rs) (h1 : ∀ c, c ∈ r.2.1 → c ∈ s) (h2 : ∀ c, c ∈ r.2.2 → c ∉ s) : r.1 ∈ s :=
  (isW_mem h _).mpr (fix_closed hr (okB_iff.mpr h2) fun c hc => (isW_mem h c).mp (h1 c hc))
theorem forcedT_fit {rs : List Rw} {s t f : List Nat} (h : isW rs s = true) (hf : Fit t f s) : ∀ c, c ∈ forcedT rs t f → c ∈ s := fun c hc => by
  obtain ⟨r, hr, rfl⟩ := List.mem_map.mp hc
  obtain ⟨hr1, hr2⟩ := List.mem_filter.mp hr
  obtain ⟨⟨a, b⟩, _⟩ := okF_iff.mp hr2
  exact world_step h hr1 (fun c hc => hf.1 c (a c hc)) fun c hc => hf.2 c (b c hc)
theorem high_fit {rs : List Rw} {s t f : List Nat} (h : isW rs s = true) (hf : Fit t f s) : ∀ c, c ∈ s → c ∈ fixOf (okH t f) rs := fun c hc => by
  have : ∀ c, c ∈ fixOf (okB s) rs → c ∈ s ∧ c ∈ fixOf (okH t f) rs := fix_least fun r hr ho hw => by
    have h1 := world_step h hr (fun c hc => (hw c hc).1) (okB_iff.mp ho)
    refine ⟨h1, fix_closed hr (okH_iff.mpr ⟨fun c hc x => hf.2 c x (hw c hc).1, fun c hc x => okB_iff.mp ho c hc (hf.1 c x)⟩) fun c hc => (hw c hc).2⟩
  exact (this c ((isW_mem h c).mp hc)).2
theorem forcedF_fit {rs : List Rw} {s t f : List Nat} (h : isW rs s = true) (hf : Fit t f s) : ∀ c, c ∈ forcedF rs t f → c ∉ s := fun c hc hs => by
  obtain ⟨_, h2⟩ := List.mem_filter.mp hc
  rw [Bool.and_eq_true, Bool.not_eq_true', decide_eq_false_iff_not] at h2
  exact h2.1 (high_fit h hf c hs)
theorem grow_fit {rs : List Rw} {s : List Nat} (h : isW rs s = true) : ∀ (n : Nat) (t f : List Nat), Fit t f s → Fit (growN rs n t f).1 (growN rs n t f).2 s
  | 0, t, f, hf => hf
  | n + 1, t, f, hf => by
    unfold growN
    split
    · exact hf
    · split
      · exact hf
      · refine grow_fit h n _ _ ⟨fun c hc => ?_, fun c hc => ?_⟩
        · rcases addAll_mem.mp hc with x | x
          · exact hf.1 c x
          · exact forcedT_fit h hf c x
        · rcases addAll_mem.mp hc with x | x
          · exact hf.2 c x
          · exact forcedF_fit h hf c x
theorem shut_nofit {s t f : List Nat} (h : shutB t f = true) : ¬ Fit t f s := fun hf => by
  obtain ⟨c, hc, hd⟩ := List.any_eq_true.mp h
  exact hf.2 c (of_decide_eq_true hd) (hf.1 c hc)
/-- what is judged a tree: no world -/
theorem judge_sound {rs : List Rw} {s : List Nat} (h : isW rs s = true) : ∀ (nds : List Nd) (W : List (List Nat × List Nat)), judge rs W nds = true → ∀ c, c ∈ W → ¬ Fit c.1 c.2 s
  | [], [], _, c, hc => by cases hc
  | [], _ :: _, hj, _, _ => by cases hj
  | _ :: _, [], hj, _, _ => by cases hj
  | none :: r, d :: W, hj, c, hc => by
    have hj' : (shutB (growOf rs d.1 d.2).1 (growOf rs d.1 d.2).2 && judge rs W r) = true := hj
    rw [Bool.and_eq_true] at hj'
    rcases List.mem_cons.mp hc with x | x
    · rw [x]
      exact fun hf => shut_nofit hj'.1 (grow_fit h _ _ _ hf)
    · exact judge_sound h r W hj'.2 c x
  | some n :: r, d :: W, hj, c, hc => by
    have hj' : judge rs ((addN (growOf rs d.1 d.2).1 n, (growOf rs d.1 d.2).2) :: ((growOf rs d.1 d.2).1, addN (growOf rs d.1 d.2).2 n) :: W) r = true := hj
    have ih := judge_sound h r _ hj'
    rcases List.mem_cons.mp hc with x | x
    · rw [x]
      intro hf
      have hg : Fit (growOf rs d.1 d.2).1 (growOf rs d.1 d.2).2 s := grow_fit h _ _ _ hf
      by_cases hn : n ∈ s
      · refine ih _ List.mem_cons_self ⟨fun c hc => ?_, hg.2⟩
        rcases addN_mem.mp hc with y | y
        · exact hg.1 c y
        · rw [y]; exact hn
      · refine ih _ (List.mem_cons_of_mem _ List.mem_cons_self) ⟨hg.1, fun c hc => ?_⟩
        rcases addN_mem.mp hc with y | y
        · exact hg.2 c y
        · rw [y]; exact hn
    · exact ih c (List.mem_cons_of_mem _ (List.mem_cons_of_mem _ x))
/-- a tree that is found is judged one -/
theorem treeF_judge {rs : List Rw} : ∀ (n : Nat) (t f : List Nat) (nds : List Nd), treeF rs n t f = some nds → ∀ W r, judge rs ((t, f) :: W) (nds ++ r) = judge rs W r
  | 0, t, f, nds, h, _, _ => by cases h
  | n + 1, t, f, nds, h, W, r => by
    unfold treeF at h
    split at h
    · rename_i hs
      cases h
      show (shutB (growOf rs t f).1 (growOf rs t f).2 && judge rs W r) = _
      rw [hs, Bool.true_and]
    · split at h
      · cases h
      · rename_i c ho
        split at h
        · cases h
        · rename_i a ha
          split at h
          · cases h
          · rename_i b hb
            cases h
            show judge rs ((addN (growOf rs t f).1 c, (growOf rs t f).2) :: ((growOf rs t f).1, addN (growOf rs t f).2 c) :: W) ((a ++ b) ++ r) = _
            rw [List.append_assoc, treeF_judge n _ _ a ha, treeF_judge n _ _ b hb]
theorem treeF_more {rs : List Rw} : ∀ (n : Nat) (t f : List Nat) (nds : List Nd), treeF rs n t f = some nds → nds.length ≤ 2 ^ (uo rs t f + 1) - 1 ∧ nds ≠ [] ∧ ∀ c, some c ∈ nds → c ∈ namesOf rs
  | 0, t, f, nds, h => by cases h
  | n + 1, t, f, nds, h => by
    have hg := uo_grow rs t f
    have hp : 2 ≤ 2 ^ (uo rs t f + 1) := by
      rw [Nat.pow_succ]
      have := Nat.one_le_two_pow (n := uo rs t f)
      omega
    unfold treeF at h
    split at h
    · cases h
      refine ⟨by show 1 ≤ _; omega, by simp, fun c hc => by simp at hc⟩
    · split at h
      · cases h
      · rename_i c ho
        have u1 := uo_true ho
        have u2 := uo_false ho
        have oc := openOf_some ho
        split at h
        · cases h
        · rename_i a ha
          split at h
          · cases h
          · rename_i b hb
            cases h
            obtain ⟨a1, _, a3⟩ := treeF_more n _ _ a ha
            obtain ⟨b1, _, b3⟩ := treeF_more n _ _ b hb
            have p1 : 2 ^ (uo rs (addN (growOf rs t f).1 c) (growOf rs t f).2 + 1) ≤ 2 ^ uo rs t f := Nat.pow_le_pow_right (by omega) (by omega)
            have p2 : 2 ^ (uo rs (growOf rs t f).1 (addN (growOf rs t f).2 c) + 1) ≤ 2 ^ uo rs t f := Nat.pow_le_pow_right (by omega) (by omega)
            have p3 : 2 ^ (uo rs t f + 1) = 2 * 2 ^ uo rs t f := by rw [Nat.pow_succ]; omega
            have p4 := Nat.one_le_two_pow (n := uo rs (addN (growOf rs t f).1 c) (growOf rs t f).2 + 1)
            have p5 := Nat.one_le_two_pow (n := uo rs (growOf rs t f).1 (addN (growOf rs t f).2 c) + 1)
            refine ⟨by rw [List.length_cons, List.length_append]; omega, by simp, fun d hd => ?_⟩
            rcases List.mem_cons.mp hd with x | x
            · cases x; exact oc.1
            · rcases List.mem_append.mp x with x | x
              · exact a3 d x
              · exact b3 d x
theorem growN_end {rs : List Rw} : ∀ (n : Nat) (t f : List Nat), miss (namesOf rs) t + miss (namesOf rs) f < n → shutB (growN rs n t f).1 (growN rs n t f).2 = true ∨ (forcedT rs (growN rs n t f).1 (growN rs n t f).2 = [] ∧ forcedF rs (growN rs n t f).1 (growN rs n t f).2 = [])
  | 0, t, f, h => absurd h (Nat.not_lt_zero _)
  | n + 1, t, f, h => by
    unfold growN
    split
    · rename_i hs; exact .inl hs
    · split
      · rename_i hf; exact .inr hf
      · rename_i hf
        have := grow_lt hf
        exact growN_end n _ _ (by omega)
theorem growN_names {rs : List Rw} : ∀ (n : Nat) (t f : List Nat), (∀ c, c ∈ t → c ∈ namesOf rs) → ∀ c, c ∈ (growN rs n t f).1 → c ∈ namesOf rs
  | 0, t, f, h, c, hc => h c hc
  | n + 1, t, f, h, c, hc => by
    unfold growN at hc
    split at hc
    · exact h c hc
    · split at hc
      · exact h c hc
      · refine growN_names n _ _ (fun d hd => ?_) c hc
        rcases addAll_mem.mp hd with x | x
        · exact h d x
        · exact (forcedT_names x).1
theorem rows_names {rs : List Rw} {r : Rw} (hr : r ∈ rs) : r.1 ∈ namesOf rs ∧ (∀ c, c ∈ r.2.1 → c ∈ namesOf rs) ∧ ∀ c, c ∈ r.2.2 → c ∈ namesOf rs :=
  ⟨namesOf_mem.mpr ⟨r, hr, List.mem_cons_self⟩, fun c hc => namesOf_mem.mpr ⟨r, hr, List.mem_cons_of_mem _ (List.mem_append_left _ hc)⟩, fun c hc => namesOf_mem.mpr ⟨r, hr, List.mem_cons_of_mem _ (List.mem_append_right _ hc)⟩⟩
/-- a case in which all is told, and nothing twice, is a world -/
theorem told_world {rs : List Rw} {t f : List Nat} (hn : ∀ c, c ∈ t → c ∈ namesOf rs) (hs : shutB t f = false) (hT : forcedT rs t f = []) (hF : forcedF rs t f = []) (ho : openOf rs t f = none) :
    (namesOf rs).filter (fun c => decide (c ∈ t)) ∈ wsOf rs ∧ Fit t f ((namesOf rs).filter fun c => decide (c ∈ t)) := by
  have hm : Eqm ((namesOf rs).filter fun c => decide (c ∈ t)) t := fun c => by
    rw [List.mem_filter, decide_eq_true_eq]
    exact ⟨fun h => h.2, fun h => ⟨hn c h, h⟩⟩
  have hall : ∀ c, c ∈ namesOf rs → c ∈ t ∨ c ∈ f := fun c hc => by
    have := List.find?_eq_none.mp ho c hc
    by_cases h1 : c ∈ t
    · exact .inl h1
    · by_cases h2 : c ∈ f
      · exact .inr h2
      · exact absurd (by simp [h1, h2]) this
  have hno : ∀ c, c ∈ t → c ∉ f := fun c h1 h2 => by
    have : shutB t f = true := List.any_eq_true.mpr ⟨c, h1, decide_eq_true h2⟩
    rw [hs] at this
    cases this
  have low : ∀ c, c ∈ fixOf (okB t) rs → c ∈ t := fix_least fun r hr ho hw => by
    apply Decidable.byContradiction
    intro hnt
    have hden : ∀ c, c ∈ r.2.2 → c ∈ f := fun c hc => (hall c ((rows_names hr).2.2 c hc)).resolve_left (okB_iff.mp ho c hc)
    have : r.1 ∈ forcedT rs t f := List.mem_map.mpr ⟨r, List.mem_filter.mpr ⟨hr, okF_iff.mpr ⟨⟨hw, hden⟩, hnt⟩⟩, rfl⟩
    rw [hT] at this
    cases this
  have high : ∀ c, c ∈ t → c ∈ fixOf (okB t) rs := fun c hc => by
    have h1 : c ∈ fixOf (okH t f) rs := by
      apply Decidable.byContradiction
      intro hnf
      have : c ∈ forcedF rs t f := List.mem_filter.mpr ⟨hn c hc, by simp [hnf, hno c hc]⟩
      rw [hF] at this
      cases this
    exact fix_least (S := fun c => c ∈ fixOf (okB t) rs) (fun r hr ho hw => fix_closed hr (okB_iff.mpr (okH_iff.mp ho).2) hw) c h1
  refine ⟨List.mem_filter.mpr ⟨(subN_mem _ _).mpr List.filter_sublist, ?_⟩, fun c hc => (hm c).mpr hc, fun c hc h => hno c ((hm c).mp h) hc⟩
  unfold isW
  refine decide_eq_true (ris_unique (fix_ris _ _) ((namesOf_ris rs).sublist List.filter_sublist) fun c => ?_)
  rw [(sortN_perm _).mem_iff, okB_eqm hm, hm c]
  exact ⟨low c, high c⟩
theorem Fit.sub {t f t' f' s : List Nat} (h : Fit t' f' s) (h1 : ∀ c, c ∈ t → c ∈ t') (h2 : ∀ c, c ∈ f → c ∈ f') : Fit t f s := ⟨fun c hc => h.1 c (h1 c hc), fun c hc => h.2 c (h2 c hc)⟩
/-- without a tree, a world -/
theorem treeF_none {rs : List Rw} : ∀ (n : Nat) (t f : List Nat), uo rs t f < n → (∀ c, c ∈ t → c ∈ namesOf rs) → treeF rs n t f = none → ∃ s, s ∈ wsOf rs ∧ Fit t f s
  | 0, t, f, h, _, _ => absurd h (Nat.not_lt_zero _)
  | n + 1, t, f, h, hn, ht => by
    have hg := uo_grow rs t f
    have hsub : (∀ c, c ∈ t → c ∈ (growOf rs t f).1) ∧ ∀ c, c ∈ f → c ∈ (growOf rs t f).2 := growN_sub rs _ t f
    have hgn : ∀ c, c ∈ (growOf rs t f).1 → c ∈ namesOf rs := growN_names _ t f hn
    have hend := growN_end (rs := rs) (miss (namesOf rs) t + miss (namesOf rs) f + 1) t f (by omega)
    have hG : growOf rs t f = growN rs (miss (namesOf rs) t + miss (namesOf rs) f + 1) t f := rfl
    rw [← hG] at hend
    unfold treeF at ht
    split at ht
    · cases ht
    · rename_i hs
      have hs' : shutB (growOf rs t f).1 (growOf rs t f).2 = false := by simpa using hs
      split at ht
      · rename_i ho
        rcases hend with x | ⟨x, y⟩
        · exact absurd x hs
        · obtain ⟨w1, w2⟩ := told_world hgn hs' x y ho
          exact ⟨_, w1, w2.sub hsub.1 hsub.2⟩
      · rename_i c ho
        have u1 := uo_true ho
        have u2 := uo_false ho
        have oc := openOf_some ho
        split at ht
        · rename_i ha
          obtain ⟨s, s1, s2⟩ := treeF_none n _ _ (by omega) (fun d hd => by
            rcases addN_mem.mp hd with x | x
            · exact hgn d x
            · rw [x]; exact oc.1) ha
          exact ⟨s, s1, s2.sub (fun d hd => addN_mem.mpr (.inl (hsub.1 d hd))) hsub.2⟩
        · split at ht
          · rename_i hb
            obtain ⟨s, s1, s2⟩ := treeF_none n _ _ (by omega) hgn hb
            exact ⟨s, s1, s2.sub hsub.1 (fun d hd => addN_mem.mpr (.inl (hsub.2 d hd)))⟩
          · cases ht
theorem wsOf_isW {rs : List Rw} {s : List Nat} (h : s ∈ wsOf rs) : isW rs s = true := (List.mem_filter.mp h).2
theorem wsOf_sub {rs : List Rw} {s : List Nat} (h : s ∈ wsOf rs) : s.Sublist (namesOf rs) := (subN_mem _ _).mp (List.mem_filter.mp h).1
theorem treeOf_none {rs : List Rw} {t f : List Nat} (hn : ∀ c, c ∈ t → c ∈ namesOf rs) (h : treeOf rs t f = none) : ∃ s, s ∈ wsOf rs ∧ Fit t f s := treeF_none _ t f (Nat.lt_succ_self _) hn h
theorem treeOf_some {rs : List Rw} {t f : List Nat} {nds : List Nd} (h : treeOf rs t f = some nds) : judge rs [(t, f)] nds = true ∧ nds.length ≤ 2 ^ (uo rs t f + 1) - 1 ∧ nds ≠ [] ∧ ∀ c, some c ∈ nds → c ∈ namesOf rs := by
  have := treeF_judge _ t f nds h [] []
  rw [List.append_nil] at this
  exact ⟨this, treeF_more _ t f nds h⟩
end Wk
end
section
set_option Elab.async false
set_option linter.all false
set_option maxRecDepth 100000
set_option maxHeartbeats 4000000
namespace Tx
open PySem PySem.Spec PyProof.Rows L2 Evl Wk
section
variable {w : World} {K : PySem.W.Frag} {mg : Str → Option Value} {base : Heap}

def sp_is_text (K : PySem.W.Frag) : Sp := fun vs H Q _ => ∃ v m, vs = [v, .int m] ∧ ((∃ z, v = .str z ∧ z.length ≤ sizeLine ∧ Q (.bl (decide ((z.length : Int) ≤ m))) H) ∨ (∃ t, TyX K H v (.type t) ∧ kitB t "str" = some false ∧ Q (.bl false) H))
theorem sc_is_text : FnScope ["value", "most"] ["value", "most"] (defScope s_is_text) := ⟨rfl, rfl, rfl, by decide +kernel, rfl, by decide +kernel, by decide +kernel⟩
theorem ok_is_text (Z : Zx K mg) : OkD prog w K mg base CX0 1 "is_text" ["value", "most"] (sp_is_text K) := by
  obtain ⟨fd, F0⟩ := Z.fun_ 1
  have F : Fun K "is_text" "is_text" s_is_text (He.ga K "is_text") fd := Wk.fun_of F0
  have n_isinstance := Z.free 62 (x := "isinstance")
  have n_len := Z.free 63 (x := "len")
  have n_str := Z.free 70 (x := "str")
  refine ⟨fd, ?_, F.binds (ps := ["value", "most"]) fun _ _ _ _ _ _ us hl => match us, hl with | [_, _], _ => rfl, Z.glo 1, F.kp⟩
  refine F.ok sc_is_text (fun vs H Q E h => ?_) (fun cdv A outer s H vs Q E hr h => ?_)
  · obtain ⟨v, m, rfl, h⟩ := h
    rfl
  · obtain ⟨v, m, rfl, h⟩ := h
    refine ⟨_, (pss_one (ps_ret (pe_and (pe_callB call_isi (by rfl) n_isinstance (by decide +kernel) (pa_cons (pv 0) (pa_cons (pe_bltn (v := .ty "str") (by rfl) n_str (by decide +kernel) rfl) pa_nil))) (pe_one (pe_cmpR op_le (pe_callB call_len_str (by rfl) n_len (by decide +kernel) (pa_cons (pv 0) pa_nil)) (pv 1) (nomark _)))))), ?_⟩
    rcases h with ⟨z, rfl, hz, q⟩ | ⟨t, ht, hb, q⟩
    · refine ⟨_, rfl, _, _, _, _, _, rfl, .ty _, .base (.str _), kit_ty (by decide +kernel), true, rfl, ?_⟩
      exact ⟨_, rfl, z, rfl, hz, _, rfl, _, _, rfl, rfl, q⟩
    · refine ⟨_, rfl, _, _, _, _, _, rfl, .ty _, ht, kit_ty hb, false, rfl, ?_⟩
      exact q
def sp_is_variable (K : PySem.W.Frag) : Sp := fun vs H Q _ => ∃ v, vs = [v] ∧ ((∃ i, v = .int i ∧ Q (.bl true) H) ∨ (∃ a xs, v = .ref a ∧ H a = some (.tup xs) ∧ Q (.bl false) H))
theorem sc_is_variable : FnScope ["sign"] ["sign"] (defScope s_is_variable) := ⟨rfl, rfl, rfl, by decide +kernel, rfl, by decide +kernel, by decide +kernel⟩
theorem ok_is_variable (Z : Zx K mg) : OkD prog w K mg base CX0 1 "is_variable" ["sign"] (sp_is_variable K) := by
  obtain ⟨fd, F0⟩ := Z.fun_ 3
  have F : Fun K "is_variable" "is_variable" s_is_variable (He.ga K "is_variable") fd := Wk.fun_of F0
  have n_int := Z.free 61 (x := "int")
  have n_isinstance := Z.free 62 (x := "isinstance")
  refine ⟨fd, ?_, F.binds (ps := ["sign"]) fun _ _ _ _ _ _ us hl => match us, hl with | [_], _ => rfl, Z.glo 3, F.kp⟩
  refine F.ok sc_is_variable (fun vs H Q E h => ?_) (fun cdv A outer s H vs Q E hr h => ?_)
  · obtain ⟨v, rfl, h⟩ := h
    rfl
  · obtain ⟨v, rfl, h⟩ := h
    refine ⟨_, (pss_one (ps_ret (pe_callB call_isi (by rfl) n_isinstance (by decide +kernel) (pa_cons (pv 0) (pa_cons (pe_bltn (v := .ty "int") (by rfl) n_int (by decide +kernel) rfl) pa_nil))))), ?_⟩
    rcases h with ⟨i, rfl, q⟩ | ⟨a, xs, rfl, ha, q⟩
    · exact ⟨_, rfl, _, _, _, _, _, rfl, .ty _, .base (.int _), kit_ty (by decide +kernel), q⟩
    · exact ⟨_, rfl, _, _, _, _, _, rfl, .ty _, .base (.tup ha), kit_ty (by decide +kernel), q⟩

end
end Tx
end
section
set_option Elab.async false
set_option linter.all false
set_option maxRecDepth 100000
set_option maxHeartbeats 4000000
namespace Tx
open PySem PySem.Spec PyProof.Rows L2 Evl Wk
section
variable {w : World} {K : PySem.W.Frag} {mg : Str → Option Value} {base : Heap}

def sp_word_at : Sp := fun vs H Q _ => ∃ (l : List Nat) (s : Nat), vs = [.str (tx l), .int (s : Int)] ∧ l.length ≤ 5000 ∧ s ≤ l.length ∧ ∀ H', Ex H H' → Q (.str (tx (wordOf (l.drop s)))) H'
theorem sc_word_at : FnScope ["text", "start", "end", "word", "is_good", "sign"] ["text", "start"] (defScope s_word_at) := ⟨rfl, rfl, rfl, by decide +kernel, rfl, by decide +kernel, by decide +kernel⟩
theorem ok_word_at (Z : Zx K mg) : OkD prog w K mg base CX0 1 "word_at" ["text", "start"] (sp_word_at) := by
  obtain ⟨fd, F0⟩ := Z.fun_ 7
  have F : Fun K "word_at" "word_at" s_word_at (He.ga K "word_at") fd := Wk.fun_of F0
  have c_DIGITS := Z.str 76 (x := "DIGITS")
  have c_GREAT := Z.str 75 (x := "GREAT")
  have c_MOST_NAME := Z.int 73 (x := "MOST_NAME")
  have c_SMALL := Z.str 74 (x := "SMALL")
  have n_any := Z.free 58 (x := "any")
  have n_len := Z.free 63 (x := "len")
  refine ⟨fd, ?_, F.binds (ps := ["text", "start"]) fun _ _ _ _ _ _ us hl => match us, hl with | [_, _], _ => rfl, Z.glo 7, F.kp⟩
  refine F.ok sc_word_at (fun vs H Q E h => ?_) (fun cdv A outer s H vs Q E hr h => ?_)
  · obtain ⟨l, s, rfl, hl, hs, k⟩ := h
    rfl
  · obtain ⟨l, s, rfl, hl, hs, k⟩ := h
    refine ⟨_, (pss_cons (ps_set (i := 2) sc_word_at.nd rfl (by first | exact Or.inl rfl | exact Or.inr rfl) (pv 1)) (pss_cons (ps_while PassesOwn.never (pw_and (pt_cmpR op_lt (pv 2) (pe_callB call_len_str (by rfl) n_len (by decide +kernel) (pa_cons (pv 0) pa_nil)) (nomark _)) (pw_and (pt_cmpR op_le (pe_op op_sub (pv 2) (pv 1)) (pe_gi c_MOST_NAME) (nomark _)) (pw_and1 (pt_cmpR op_in_sign (pe_ix ix_str (pv 0) (pv 2) (fun _ _ => rfl)) (pe_op op_add_str (pe_op op_add_str (pe_gs c_SMALL) (pe_gs c_GREAT)) (pe_gs c_DIGITS)) rfl)))).pt (pss_one (ps_aug (i := 2) sc_word_at.nd rfl (by first | exact Or.inl rfl | exact Or.inr rfl) pe_int ip_add))) (pss_cons (ps_set (i := 3) sc_word_at.nd rfl (by first | exact Or.inl rfl | exact Or.inr rfl) (pe_slice sl_str (pv 0) (po_some (pv 1)) (po_some (pv 2)))) (pss_cons (ps_set (i := 4) sc_word_at.nd rfl (by first | exact Or.inl rfl | exact Or.inr rfl) (pe_and (pe_cmpR op_ne (pv 3) pe_str (nomark _)) (pe_and (pe_cmpR op_le (pe_callB call_len_str (by rfl) n_len (by decide +kernel) (pa_cons (pv 3) pa_nil)) (pe_gi c_MOST_NAME) (nomark _)) (pe_one (pe_cmpR op_notIn_sign (pe_ix ix_str (pv 3) pe_int (fun _ _ => rfl)) (pe_gs c_DIGITS) rfl))))) (pss_one (ps_ret (pe_ifExp (pw_and (pt_val (pv 4)) (pw_and1 (pt_not (pt_val (pe_callB (cr_any rfl) (by rfl) n_any (by decide +kernel) (pa_cons (pe_lc (own := [("sign", 5)]) rfl sc_word_at.nd (pi_str (pe_slice sl_str (pv 3) (po_some pe_int) po_none)) (blkOk_by (own := [("sign", 5)]) (N := ["text", "start", "end", "word", "is_good", "sign"]) (sc := defScope s_word_at) (by decide +kernel)) (fun _ _ _ _ _ => pg_name (i := 5) sc_word_at.nd rfl (Or.inl rfl)) (fun _ _ _ _ _ => pts_nil) (fun _ _ _ _ _ => (pe_cmpR op_in_sign (pv 5) (pe_gs c_GREAT) rfl))) pa_nil)))))).pt (pv 3) pe_str))))))), ?_⟩
    have hz : (tx l).length ≤ sizeLine := tx_sz hl
    refine q_asg (ev_var rfl) (fun H1 e1 => ?_)
    refine q_while (fun m σ H' => ∃ i : Nat, m = alen 9 (l.drop s) - i ∧ σ = [some (.str (tx l)), some (.int (s : Int)), some (.int ((s + i : Nat) : Int)), none, none, none] ∧ i ≤ alen 9 (l.drop s) ∧ Ex H1 H') (alen 9 (l.drop s)) ⟨0, rfl, rfl, Nat.zero_le _, Ex.refl _⟩ ?_
    rintro m σ H' ⟨i, rfl, rfl, hi, e2⟩
    have hd : (l.drop s).length = l.length - s := List.length_drop
    refine ⟨decide (i < alen 9 (l.drop s)), ?_, fun hb H2 e3 => ?_, fun hb H2 e3 => ?_⟩
    · refine et_is (et_and (et_test (ev_op (ev_var rfl) (ev_lenS (ev_var rfl) hz) rv_I0)) (fun hA => et_and (et_test (ev_op (ev_op (ev_var rfl) (ev_var rfl) rv_I0) ev_c rv_I0)) (fun _ => et_test (ev_al (ev_ixS (c := (l.drop s).getD i 0) (ev_var rfl) (ev_var rfl) ?_ (by omega)))))) ?_
      · have h1 : s + i < l.length := by
          have := of_decide_eq_true hA
          rw [tx_len] at this
          omega
        have h2 : i < (l.drop s).length := by omega
        rw [List.getD_eq_getElem?_getD, List.getElem?_eq_getElem h2, List.getElem_drop]
        exact List.getElem?_eq_getElem h1
      · rw [← alen_next hi, tx_len]
        have a1 : decide (((s + i : Nat) : Int) < ((l.length : Nat) : Int)) = decide (i < (l.drop s).length) := by
          rw [decide_eq_decide]; omega
        have a2 : decide (((s + i : Nat) : Int) - (s : Int) ≤ 8) = decide (i ≤ 8) := by
          rw [decide_eq_decide]; omega
        rw [a1, a2]
    · have hlt := of_decide_eq_true hb
      refine ⟨fun σ' H' => σ' = [some (.str (tx l)), some (.int (s : Int)), some (.int ((s + (i + 1) : Nat) : Int)), none, none, none] ∧ Ex H1 H', ?_, ?_⟩
      · rintro σ2 H3 ⟨rfl, e4⟩
        exact ⟨_, by omega, i + 1, rfl, rfl, by omega, e4⟩
      · exact s_aug rfl ev_c fun H4 e4 => ⟨rfl, (e2.trans e3).trans e4⟩
    · have hi2 : i = alen 9 (l.drop s) := by
        have := of_decide_eq_false hb
        omega
      subst hi2
      have hw1 := alen_le 9 (l.drop s)
      have hw2 : (wd (l.drop s)).length ≤ 9 := by unfold wd; rw [List.length_take]; omega
      have hcut : cutS (tx l) (some (s : Int)) (some ((s + alen 9 (l.drop s) : Nat) : Int)) = tx (wd (l.drop s)) := by
        rw [cut_tx l (by omega) (by omega)]
        unfold wd
        rw [show s + alen 9 (l.drop s) - s = alen 9 (l.drop s) by omega]
      refine q_asg (v := .str (tx (wd (l.drop s)))) (ev_is (ev_slS (ev_var rfl) (eo_some (ev_var rfl)) (eo_some (ev_var rfl)) hz) (congrArg V.str hcut)) (fun H3 e4 => ?_)
      generalize hwd : wd (l.drop s) = wd0 at *
      have hz2 : (tx wd0).length ≤ sizeLine := tx_sz (by omega : wd0.length ≤ 9)
      refine q_asg (v := .bl (wd0 != [] && (decide (wd0.length ≤ 8) && !decide (wd0.headD 0 ∈ digs)))) (ev_andV (ev_is (ev_op (ev_var rfl) ev_c (rv_ne (by rfl))) ?_) (fun h1 => ev_andV (ev_is (ev_op (ev_lenS (ev_var rfl) hz2) ev_c rv_I0) ?_) (fun _ => ev_is (ev_op (ev_ixS (i := 0) (c := wd0.headD 0) (ev_var rfl) ev_c ?_ (by omega)) ev_c rv_niS) ?_))) (fun H4 e5 => ?_)
      · rw [tx_nil]
        cases wd0 with
        | nil => rfl
        | cons c r =>
          have : ¬ (V.str (tx (c :: r)) = V.str (tx [])) := fun h => by
            have := tx_inj (V.str.inj h)
            cases this
          rw [decide_eq_false this]
          rfl
      · rw [tx_len]
        congr 1
        rw [decide_eq_decide]
        omega
      · cases wd0 with
        | nil => exact absurd h1 (by decide)
        | cons c r => rfl
      · rw [digs_eq]
      · cases hgood : wd0 != [] && (decide (wd0.length ≤ 8) && !decide (wd0.headD 0 ∈ digs)) with
        | false =>
          refine s_ret (v := .str (tx (wordOf (l.drop s)))) (ev_if (b := false) (et_is (et_and (a := false) (b := false) (et_B (ev_var rfl)) (fun h => absurd h (by decide))) rfl) (fun h => absurd h (by decide)) (fun _ => ev_is ev_c ?_)) (fun H5 e6 => k H5 (e1.trans (e2.trans (e3.trans (e4.trans (e5.trans e6))))))
          rw [wordOf_eq, hwd, goodW_eq, hgood, tx_nil]
          rfl
        | true =>
          refine s_ret (v := .str (tx (wordOf (l.drop s)))) (ev_if (b := !(wd0.drop 1).any fun d => decide (d ∈ great)) (et_is (et_and (a := true) (et_B (ev_var rfl)) (fun _ => et_not (et_B (ev_anyc (p := fun d => decide (d ∈ great)) (ei_S (l := wd0.drop 1) (ev_is (ev_slS (ev_var rfl) (eo_some ev_c) eo_none hz2) (congrArg V.str (cut_from wd0 1)))) (by rw [List.length_drop]; omega) (fun _ => rfl) (fun d hd H6 e7 => ev_is (ev_op (ev_var rfl) ev_c rv_inS) (by rw [great_eq])))))) (Bool.true_and _)) (fun h => ev_is (ev_var rfl) ?_) (fun h => ev_is ev_c ?_)) (fun H5 e6 => k H5 (e1.trans (e2.trans (e3.trans (e4.trans (e5.trans e6))))))
          · rw [wordOf_eq, hwd, goodW_eq, hgood, h]
            rfl
          · rw [wordOf_eq, hwd, goodW_eq, hgood, h, tx_nil]
            rfl

end
end Tx
end
section
set_option Elab.async false
set_option linter.all false
set_option maxRecDepth 100000
set_option maxHeartbeats 4000000
namespace Tx
open PySem PySem.Spec PyProof.Rows L2 Evl Wk
section
variable {w : World} {K : PySem.W.Frag} {mg : Str → Option Value} {base : Heap}

def sp_Reading_init (K : PySem.W.Frag) : Sp := fun vs H Q _ => ∃ (B : Hp) (x dx : Addr) (l : List Nat) (nm : Addr), vs = [.ref x, .str (tx l), .ref nm] ∧ B x = none ∧ Ex B H ∧ H x = some (.ins (He.ga K "Reading") dx []) ∧
  ∀ H' a b c, Ex B H' → Own B ⟨x, dx, a, b, c, nm⟩ → Rdg K l ⟨x, dx, a, b, c, nm⟩ ⟨0, [], [], []⟩ H' → Q .non H'
def sp_Reading_is_at (K : PySem.W.Frag) : Sp := fun vs H Q _ => ∃ (l : List Nat) (R : RA) (s : RS) (c : Nat), vs = [.ref R.x, .str (tx [c])] ∧ Rdg K l R s H ∧ l.length ≤ 5000 ∧ ∀ H', Ex H H' → Q (.bl (decide (l[s.pl]? = some c))) H'
def sp_Reading_put_word (K : PySem.W.Frag) : Sp := fun vs H Q _ => ∃ (B : Hp) (l : List Nat) (R : RA) (s : RS), vs = [.ref R.x] ∧ Own B R ∧ Rdg K l R s H ∧ Ex B H ∧ l.length ≤ 5000 ∧ s.pl ≤ l.length ∧ s.sg.length ≤ 5000 ∧ NoG l ∧
  (wordOf (l.drop s.pl) = [] → ∀ H', Ex B H' → Tu H H' → Rdg K l R s H' → Q (.bl false) H') ∧ (wordOf (l.drop s.pl) ≠ [] → ∀ H', Ex B H' → Tu H H' → Rdg K l R (putW l s) H' → Q (.bl true) H')
def sp_Reading_open_name (K : PySem.W.Frag) : Sp := fun vs H Q _ => ∃ (B : Hp) (l : List Nat) (R : RA) (s : RS), vs = [.ref R.x] ∧ Own B R ∧ Rdg K l R s H ∧ Ex B H ∧ 0 < s.sg.length ∧ s.sg.length ≤ 5000 ∧ s.sp.length ≤ 5000 ∧ s.ct.length ≤ 5000 ∧
  ∀ H', Ex B H' → Tu H H' → Rdg K l R (openN s) H' → Q .non H'
def sp_Reading_close_name (K : PySem.W.Frag) : Sp := fun vs H Q _ => ∃ (B : Hp) (l : List Nat) (R : RA) (s : RS), vs = [.ref R.x] ∧ Own B R ∧ Rdg K l R s H ∧ Ex B H ∧ s.sg.length ≤ 5000 ∧ s.sp ≠ [] ∧ s.ct ≠ [] ∧ s.sp.getLastD 0 < s.sg.length ∧
  ∀ H', Ex B H' → Tu H H' → Rdg K l R (closeN s) H' → Q .non H'
theorem sc_Reading___init__ : FnScope ["self", "text", "names"] ["self", "text", "names"] (defScope s_Reading___init__) := ⟨rfl, rfl, rfl, by decide +kernel, rfl, by decide +kernel, by decide +kernel⟩
theorem ok_Reading___init__ (Z : Zx K mg) : OkC prog w K mg base 1 "Reading" ["self", "text", "names"] (sp_Reading_init K) := by
  obtain ⟨fd, F0⟩ := Z.fun_ 8
  have F : Fun K "__init__" "Reading.__init__" s_Reading___init__ (He.ma K (He.ga K "Reading") "__init__") fd := Wk.fun_of F0
  have na_Reading_text := Z.noat 90 (x := "Reading") (f := "text")
  have na_Reading_numbers := Z.noat 91 (x := "Reading") (f := "numbers")
  have na_Reading_place := Z.noat 92 (x := "Reading") (f := "place")
  have na_Reading_signs := Z.noat 93 (x := "Reading") (f := "signs")
  have na_Reading_spots := Z.noat 94 (x := "Reading") (f := "spots")
  have na_Reading_counts := Z.noat 95 (x := "Reading") (f := "counts")
  have cl_Reading := Z.cls 87 (x := "Reading")
  refine ⟨fd, ?_, F.binds (ps := ["self", "text", "names"]) fun _ _ _ _ _ _ us hl => match us, hl with | [_, _, _], _ => rfl, Z.glo 49, Z.mkr 88⟩
  refine F.ok sc_Reading___init__ (fun vs H Q E h => ?_) (fun cdv A outer s H vs Q E hr h => ?_)
  · obtain ⟨B, x, dx, l, nm, rfl, hB, e, hx, k⟩ := h
    rfl
  · obtain ⟨B, x, dx, l, nm, rfl, hB, e, hx, k⟩ := h
    refine ⟨_, (pss_cons (ps_fld (pv 0) (pv 1) rfl) (pss_cons (ps_fld (pv 0) (pv 2) rfl) (pss_cons (ps_fld (pv 0) pe_int rfl) (pss_cons (ps_fld (pv 0) (pe_lst pa_nil) rfl) (pss_cons (ps_fld (pv 0) (pe_lst pa_nil) rfl) (pss_one (ps_fld (pv 0) (pe_lst pa_nil) rfl))))))), ?_⟩
    have hlen : ∀ fs : List (Str × V), fs.length ≤ 6 → fs.length < 1000 := fun _ h => by omega
    refine q_fld (v := .str (tx l)) (ev_var rfl) (ev_var rfl) hx cl_Reading na_Reading_text (few rfl) (fun H1 e1 => ?_)
    refine q_fld (v := .ref nm) (ev_var rfl) (ev_var rfl) upd_same cl_Reading na_Reading_numbers (few rfl) (fun H2 e2 => ?_)
    refine q_fld (v := .int 0) ev_c (ev_var rfl) upd_same cl_Reading na_Reading_place (few rfl) (fun H3 e3 => ?_)
    have E1 := Ex.mut (e.trans e1) hB (o := .ins (He.ga K "Reading") dx (putF "text" (.str (tx l)) []))
    have E2 := Ex.mut (E1.trans e2) hB (o := .ins (He.ga K "Reading") dx (putF "numbers" (.ref nm) (putF "text" (.str (tx l)) [])))
    have E3 := Ex.mut (E2.trans e3) hB (o := .ins (He.ga K "Reading") dx (putF "place" (.int 0) (putF "numbers" (.ref nm) (putF "text" (.str (tx l)) []))))
    refine q_fldL (xs := []) (el_lst ea_nil (by decide)) (ev_var rfl) upd_same cl_Reading na_Reading_signs (few rfl) (fun a H4 ha e4 ha1 => ?_)
    have x4 := e4 _ _ upd_same
    have E4 := Ex.mut (E3.trans e4) hB (o := .ins (He.ga K "Reading") dx (putF "signs" (.ref a) (putF "place" (.int 0) (putF "numbers" (.ref nm) (putF "text" (.str (tx l)) [])))))
    refine q_fldL (xs := []) (el_lst ea_nil (by decide)) (ev_var rfl) upd_same cl_Reading na_Reading_spots (few rfl) (fun b H5 hb e5 hb1 => ?_)
    have x5 := e5 _ _ upd_same
    have E5 := Ex.mut (E4.trans e5) hB (o := .ins (He.ga K "Reading") dx (putF "spots" (.ref b) (putF "signs" (.ref a) (putF "place" (.int 0) (putF "numbers" (.ref nm) (putF "text" (.str (tx l)) []))))))
    have a4 : upd H4 x (.ins (He.ga K "Reading") dx (putF "signs" (.ref a) (putF "place" (.int 0) (putF "numbers" (.ref nm) (putF "text" (.str (tx l)) []))))) a = some (.lst []) := by
      rw [upd_ne (nq_of ha1 x4 (by intro h; cases h))]; exact ha1
    have a5 := e5 _ _ a4
    refine s_fldL (xs := []) (el_lst ea_nil (by decide)) (ev_var rfl) upd_same cl_Reading na_Reading_counts (few rfl) (fun c H6 hc e6 hc1 => ?_)
    have x6 := e6 _ _ upd_same
    have b5 : upd H5 x (.ins (He.ga K "Reading") dx (putF "spots" (.ref b) (putF "signs" (.ref a) (putF "place" (.int 0) (putF "numbers" (.ref nm) (putF "text" (.str (tx l)) [])))))) b = some (.lst []) := by
      rw [upd_ne (nq_of hb1 x5 (by intro h; cases h))]; exact hb1
    have a51 : upd H5 x (.ins (He.ga K "Reading") dx (putF "spots" (.ref b) (putF "signs" (.ref a) (putF "place" (.int 0) (putF "numbers" (.ref nm) (putF "text" (.str (tx l)) [])))))) a = some (.lst []) := by
      rw [upd_ne (nq_of a5 x5 (by intro h; cases h))]; exact a5
    have hab : a ≠ b := ne_new a4 hb
    have hac : a ≠ c := ne_new a51 hc
    have hbc : b ≠ c := ne_new b5 hc
    refine k _ a b c (Ex.mut (E5.trans e6) hB) ⟨hB, fresh_back E3 ha, fresh_back E4 hb, fresh_back E5 hc, hab, hac, hbc⟩ ⟨upd_same, ⟨[], ?_, SgL.nil _⟩, ?_, ?_⟩
    · show upd H6 x _ a = _
      have := e6 _ _ a51
      rw [upd_ne (nq_of this x6 (by intro h; cases h))]; exact this
    · show upd H6 x _ b = _
      have := e6 _ _ b5
      rw [upd_ne (nq_of this x6 (by intro h; cases h))]; exact this
    · show upd H6 x _ c = _
      rw [upd_ne (nq_of hc1 x6 (by intro h; cases h))]; exact hc1
theorem sc_Reading_is_at : FnScope ["self", "sign"] ["self", "sign"] (defScope s_Reading_is_at) := ⟨rfl, rfl, rfl, by decide +kernel, rfl, by decide +kernel, by decide +kernel⟩
theorem ok_Reading_is_at (Z : Zx K mg) : OkM prog w K mg base 1 "Reading" "is_at" ["self", "sign"] (sp_Reading_is_at K) := by
  obtain ⟨fd, F0⟩ := Z.fun_ 9
  have F : Fun K "is_at" "Reading.is_at" s_Reading_is_at (He.ma K (He.ga K "Reading") "is_at") fd := Wk.fun_of F0
  have n_len := Z.free 63 (x := "len")
  have na_Reading_text := Z.noat 90 (x := "Reading") (f := "text")
  have na_Reading_place := Z.noat 92 (x := "Reading") (f := "place")
  have cl_Reading := Z.cls 87 (x := "Reading")
  refine ⟨fd, ?_, F.binds (ps := ["self", "sign"]) fun _ _ _ _ _ _ us hl => match us, hl with | [_, _], _ => rfl, Z.cls 87, Z.meth 96⟩
  refine F.ok sc_Reading_is_at (fun vs H Q E h => ?_) (fun cdv A outer s H vs Q E hr h => ?_)
  · obtain ⟨l, R, s, c, rfl, r, hl, k⟩ := h
    rfl
  · obtain ⟨l, R, s, c, rfl, r, hl, k⟩ := h
    refine ⟨_, (pss_one (ps_ret (pe_and (pe_cmpR op_lt (pe_fld (pv 0) (by rfl)) (pe_callB call_len_str (by rfl) n_len (by decide +kernel) (pa_cons (pe_fld (pv 0) (by rfl)) pa_nil)) (nomark _)) (pe_one (pe_cmpR op_eq (pe_ix ix_str (pe_fld (pv 0) (by rfl)) (pe_fld (pv 0) (by rfl)) (fun _ _ => rfl)) (pv 1) (nomark _)))))), ?_⟩
    have ft := fun (σ : L2.St) (ta : TE) (h : Ev ta σ H (.ref R.x)) => ev_fld (f := "text") h r.ins cl_Reading na_Reading_text (v := .str (tx l)) rfl
    have fp := fun (σ : L2.St) (ta : TE) (h : Ev ta σ H (.ref R.x)) => ev_fld (f := "place") h r.ins cl_Reading na_Reading_place (v := .int (s.pl : Int)) rfl
    refine s_ret (v := .bl (decide (l[s.pl]? = some c))) (ev_is (ev_andV (a := decide (s.pl < l.length)) (ev_is (ev_op (fp _ _ (ev_var rfl)) (ev_lenS (ft _ _ (ev_var rfl)) (tx_sz hl)) rv_I0) ?_) (fun h => ev_is (w := .bl (decide (l.getD s.pl 0 = c))) (ev_op (ev_ixS (c := l.getD s.pl 0) (ft _ _ (ev_var rfl)) (fp _ _ (ev_var rfl)) ?_ (by omega)) (ev_var rfl) (rv_eq (by rfl))) ?_)) ?_) k
    · rw [tx_len]
      congr 1
      rw [decide_eq_decide]
      omega
    · have := of_decide_eq_true h
      rw [List.getD_eq_getElem?_getD, List.getElem?_eq_getElem this]
      rfl
    · congr 1
      rw [decide_eq_decide]
      constructor
      · intro h
        have := tx_inj (V.str.inj h)
        exact (List.cons.inj this).1
      · intro h
        rw [h]
    · congr 1
      by_cases h : s.pl < l.length
      · rw [decide_eq_true h, Bool.true_and, List.getD_eq_getElem?_getD, List.getElem?_eq_getElem h, decide_eq_decide]
        constructor
        · intro h; exact congrArg some h
        · intro h; exact Option.some.inj h
      · rw [decide_eq_false h, Bool.false_and]
        symm
        rw [decide_eq_false_iff_not]
        intro h2
        rw [List.getElem?_eq_none (by omega)] at h2
        cases h2
theorem sc_Reading_put_word : FnScope ["self", "word"] ["self"] (defScope s_Reading_put_word) := ⟨rfl, rfl, rfl, by decide +kernel, rfl, by decide +kernel, by decide +kernel⟩
theorem ok_Reading_put_word (Z : Zx K mg) : OkM prog w K mg base 2 "Reading" "put_word" ["self"] (sp_Reading_put_word K) := by
  obtain ⟨fd, F0⟩ := Z.fun_ 10
  have F : Fun K "put_word" "Reading.put_word" s_Reading_put_word (He.ma K (He.ga K "Reading") "put_word") fd := Wk.fun_of F0
  have c_GREAT := Z.str 75 (x := "GREAT")
  obtain ⟨_, g_word_at, b_word_at, m_word_at, k_word_at⟩ := ok_word_at (w := w) (base := base) Z
  have n_len := Z.free 63 (x := "len")
  have na_Reading_text := Z.noat 90 (x := "Reading") (f := "text")
  have na_Reading_numbers := Z.noat 91 (x := "Reading") (f := "numbers")
  have na_Reading_place := Z.noat 92 (x := "Reading") (f := "place")
  have na_Reading_signs := Z.noat 93 (x := "Reading") (f := "signs")
  have cl_Reading := Z.cls 87 (x := "Reading")
  refine ⟨fd, ?_, F.binds (ps := ["self"]) fun _ _ _ _ _ _ us hl => match us, hl with | [_], _ => rfl, Z.cls 87, Z.meth 97⟩
  refine F.ok sc_Reading_put_word (fun vs H Q E h => ?_) (fun cdv A outer s H vs Q E hr h => ?_)
  · obtain ⟨B, l, R, s, rfl, o, r, e, hl, hpl, hsg, hG, k0, k1⟩ := h
    rfl
  · obtain ⟨B, l, R, s, rfl, o, r, e, hl, hpl, hsg, hG, k0, k1⟩ := h
    refine ⟨_, (pss_cons (ps_set (i := 1) sc_Reading_put_word.nd rfl (by first | exact Or.inl rfl | exact Or.inr rfl) (pe_call g_word_at (hr.mono (by decide)) (by rfl) m_word_at k_word_at b_word_at .nil pass0 (pa_cons (pe_fld (pv 0) (by rfl)) (pa_cons (pe_fld (pv 0) (by rfl)) pa_nil)))) (pss_cons (ps_if (pt_cmpR op_eq (pv 1) pe_str (nomark _)) (pss_one (ps_ret pe_bl)) pss_nil) (pss_cons (ps_fldaug (pv 0) (pe_callB call_len_str (by rfl) n_len (by decide +kernel) (pa_cons (pv 1) pa_nil)) in_add) (pss_cons (ps_if (pt_cmpR op_in_sign (pe_ix ix_str (pv 1) pe_int (fun _ _ => rfl)) (pe_gs c_GREAT) rfl) (pss_one ps_never) (pss_one (ps_expr (pe_bm PySem.F.plainAttrs_list PySem.F.slot_list_append PySem.F.type_list_append mt_append (pe_fld (pv 0) (by rfl)) (pa_cons (pe_tup (pa_cons (pv 1) (pa_cons pe_int pa_nil))) pa_nil))))) (pss_one (ps_ret pe_bl)))))), ?_⟩
    have ft := fun (σ : L2.St) (ta : TE) (H0 : Hp) (s : RS) (r : Rdg K l R s H0) (h : Ev ta σ H0 (.ref R.x)) => ev_fld (f := "text") h r.ins cl_Reading na_Reading_text (v := .str (tx l)) rfl
    have fp := fun (σ : L2.St) (ta : TE) (H0 : Hp) (s : RS) (r : Rdg K l R s H0) (h : Ev ta σ H0 (.ref R.x)) => ev_fld (f := "place") h r.ins cl_Reading na_Reading_place (v := .int (s.pl : Int)) rfl
    have fs := fun (σ : L2.St) (ta : TE) (H0 : Hp) (s : RS) (r : Rdg K l R s H0) (h : Ev ta σ H0 (.ref R.x)) => ev_fld (f := "signs") h r.ins cl_Reading na_Reading_signs (v := .ref R.a) rfl
    have hw1 := alen_le 9 (l.drop s.pl)
    generalize hw : wordOf (l.drop s.pl) = w0 at *
    have hwl : w0.length ≤ (l.drop s.pl).length ∧ w0.length ≤ 9 := by
      rw [← hw, wordOf_eq]
      split
      · unfold wd
        rw [List.length_take]
        omega
      · simp
    have hd : (l.drop s.pl).length = l.length - s.pl := List.length_drop
    refine q_asg (v := .str (tx w0)) (ev_call (ea_cons (ft _ _ _ s r (ev_var rfl)) (ea_cons (fp _ _ _ s r (ev_var rfl)) ea_nil)) (fun H1 e1 Q1 q1 E1 => ⟨l, s.pl, rfl, hl, hpl, fun H' e' => by rw [hw]; exact q1 H' e'⟩)) (fun H1 e1 => ?_)
    refine q_when (b := decide (w0 = [])) (et_is (et_test (ev_op (ev_var rfl) ev_c (rv_eq (by rfl)))) ?_) (fun hb H2 e2 => ?_) (fun hb H2 e2 => ?_)
    · rw [decide_eq_decide, tx_nil]
      constructor
      · intro h; exact tx_inj (V.str.inj h)
      · intro h; rw [h]
    · exact s_ret ev_c fun H3 e3 => k0 (of_decide_eq_true hb) H3 (e.trans ((e1.trans e2).trans e3)) (.of ((e1.trans e2).trans e3)) (r.mono ((e1.trans e2).trans e3))
    · have hne : w0 ≠ [] := of_decide_eq_false hb
      have r2 := r.mono (e1.trans e2)
      refine q_faug (a := (s.pl : Int)) (ev_var rfl) (ev_lenS (ev_var rfl) (tx_sz (by omega : w0.length ≤ 9))) r2.ins cl_Reading na_Reading_place rfl (few rfl) (fun H3 e3 => ?_)
      have r3 := (r2.mono e3).place (s.pl + w0.length)
      have hf : putF "place" (.int ((s.pl : Int) + ((tx w0).length : Int))) (fsR l R s.pl) = fsR l R (s.pl + w0.length) := by
        rw [tx_len]
        show fsR' l R _ = fsR' l R _
        rw [Int.natCast_add]
      rw [hf]
      have B3 : Ex B (upd H3 R.x (.ins (He.ga K "Reading") R.dx (fsR l R (s.pl + w0.length)))) := Ex.mut (e.trans ((e1.trans e2).trans e3)) o.1
      have T3 : Tu H (upd H3 R.x (.ins (He.ga K "Reading") R.dx (fsR l R (s.pl + w0.length)))) := (Tu.of ((e1.trans e2).trans e3)).trans (.ins (e3 _ _ r2.ins))
      refine q_if (b := false) (et_is (et_test (ev_op (ev_ixS (i := 0) (c := w0.headD 0) (ev_var rfl) ev_c ?_ (by omega)) ev_c rv_inS)) ?_) (fun h => absurd h (by decide)) (fun _ H4 e4 => ?_)
      · cases w0 with
        | nil => exact absurd rfl hne
        | cons c t => rfl
      · rw [great_eq]
        refine decide_eq_false (hG _ ?_)
        refine List.mem_of_mem_drop (i := s.pl) (wordOf_sub _ _ ?_)
        rw [hw]
        cases w0 with
        | nil => exact absurd rfl hne
        | cons c t => exact List.mem_cons_self
      · have r4 := r3.mono e4
        obtain ⟨vs, v1, v2⟩ := r4.sgs
        refine s_appU (xs := vs) v1 (fs _ _ _ _ r4 (ev_var rfl)) (eu_tup (ea_cons (ev_var rfl) (ea_cons ev_c ea_nil)) (few5 rfl)) (by have := v2.1; dsimp only at this; omega) (fun p H5 hp e5 h5 => ?_)
        have v5 := e5 _ _ v1
        dsimp only
        refine s_ret ev_c (fun H6 e6 => ?_)
        refine k1 hne H6 ?_ ?_ ?_
        · exact (Ex.mut ((B3.trans e4).trans e5) o.2.1).trans e6
        · exact (T3.trans ((Tu.of (e4.trans e5)).trans (.lst v5))).trans (.of e6)
        · have g := (r4.mono e5).signs o (vs := vs ++ [.ref p]) (zs := s.sg ++ [(w0, 0)]) ((v2.tu (.of e5)).app ⟨p, rfl, h5⟩)
          have g2 := g.mono e6
          unfold putW
          rw [hw]
          exact g2
theorem sc_Reading_open_name : FnScope ["self"] ["self"] (defScope s_Reading_open_name) := ⟨rfl, rfl, rfl, by decide +kernel, rfl, by decide +kernel, by decide +kernel⟩
theorem ok_Reading_open_name (Z : Zx K mg) : OkM prog w K mg base 1 "Reading" "open_name" ["self"] (sp_Reading_open_name K) := by
  obtain ⟨fd, F0⟩ := Z.fun_ 11
  have F : Fun K "open_name" "Reading.open_name" s_Reading_open_name (He.ma K (He.ga K "Reading") "open_name") fd := Wk.fun_of F0
  have n_len := Z.free 63 (x := "len")
  have na_Reading_place := Z.noat 92 (x := "Reading") (f := "place")
  have na_Reading_signs := Z.noat 93 (x := "Reading") (f := "signs")
  have na_Reading_spots := Z.noat 94 (x := "Reading") (f := "spots")
  have na_Reading_counts := Z.noat 95 (x := "Reading") (f := "counts")
  have cl_Reading := Z.cls 87 (x := "Reading")
  refine ⟨fd, ?_, F.binds (ps := ["self"]) fun _ _ _ _ _ _ us hl => match us, hl with | [_], _ => rfl, Z.cls 87, Z.meth 98⟩
  refine F.ok sc_Reading_open_name (fun vs H Q E h => ?_) (fun cdv A outer s H vs Q E hr h => ?_)
  · obtain ⟨B, l, R, s, rfl, o, r, e, h0, h1, h2, h3, k⟩ := h
    rfl
  · obtain ⟨B, l, R, s, rfl, o, r, e, h0, h1, h2, h3, k⟩ := h
    refine ⟨_, (pss_cons (ps_fldaug (pv 0) pe_int in_add) (pss_cons (ps_expr (pe_bm PySem.F.plainAttrs_list PySem.F.slot_list_append PySem.F.type_list_append mt_append (pe_fld (pv 0) (by rfl)) (pa_cons (pe_op op_sub (pe_callB call_len_seq (by rfl) n_len (by decide +kernel) (pa_cons (pe_fld (pv 0) (by rfl)) pa_nil)) pe_int) pa_nil))) (pss_one (ps_expr (pe_bm PySem.F.plainAttrs_list PySem.F.slot_list_append PySem.F.type_list_append mt_append (pe_fld (pv 0) (by rfl)) (pa_cons pe_int pa_nil)))))), ?_⟩
    obtain ⟨vs, v1, v2⟩ := r.sgs
    refine q_faug (a := (s.pl : Int)) (ev_var rfl) ev_c r.ins cl_Reading na_Reading_place rfl (few rfl) (fun H1 e1 => ?_)
    have r1 := (r.mono e1).place (s.pl + 1)
    have hf : putF "place" (.int ((s.pl : Int) + 1)) (fsR l R s.pl) = fsR l R (s.pl + 1) := rfl
    rw [hf]
    have B1 : Ex B (upd H1 R.x (.ins (He.ga K "Reading") R.dx (fsR l R (s.pl + 1)))) := Ex.mut (e.trans e1) o.1
    have T1 : Tu H (upd H1 R.x (.ins (He.ga K "Reading") R.dx (fsR l R (s.pl + 1)))) := (Tu.of e1).trans (.ins (e1 _ _ r.ins))
    obtain ⟨us, u1, u2⟩ := r1.sgs
    refine q_app (xs := nis s.sp) (v := .int ((s.sg.length - 1 : Nat) : Int)) r1.sps (ev_fld (f := "spots") (ev_var rfl) r1.ins cl_Reading na_Reading_spots rfl) (ev_is (ev_op (ev_len (ev_fld (f := "signs") (ev_var rfl) r1.ins cl_Reading na_Reading_signs rfl) (sq_of u1)) ev_c rv_I0) ?_) (by rw [nis_len]; omega) (fun H2 e2 => ?_)
    · have := u2.1
      dsimp only at this
      congr 1
      omega
    have r2 := (r1.mono e2).spots o (s.sp ++ [s.sg.length - 1])
    have hs : nis s.sp ++ [V.int ((s.sg.length - 1 : Nat) : Int)] = nis (s.sp ++ [s.sg.length - 1]) := by unfold nis; rw [List.map_append]; rfl
    rw [hs]
    refine s_app (xs := nis s.ct) (v := .int 1) r2.cts (ev_fld (f := "counts") (ev_var rfl) r2.ins cl_Reading na_Reading_counts rfl) ev_c (by rw [nis_len]; omega) (fun H3 e3 => ?_)
    have r3 := (r2.mono e3).counts o (s.ct ++ [1])
    have hc : nis s.ct ++ [V.int 1] = nis (s.ct ++ [1]) := by unfold nis; rw [List.map_append]; rfl
    rw [hc]
    refine k _ (Ex.mut ((Ex.mut (B1.trans e2) o.2.2.1).trans e3) o.2.2.2.1) ?_ r3
    exact ((T1.trans (.of e2)).trans (.lst (e2 _ _ r1.sps))).trans ((Tu.of e3).trans (.lst (e3 _ _ r2.cts)))
theorem sc_Reading_close_name : FnScope ["self", "spot"] ["self"] (defScope s_Reading_close_name) := ⟨rfl, rfl, rfl, by decide +kernel, rfl, by decide +kernel, by decide +kernel⟩
theorem ok_Reading_close_name (Z : Zx K mg) : OkM prog w K mg base 1 "Reading" "close_name" ["self"] (sp_Reading_close_name K) := by
  obtain ⟨fd, F0⟩ := Z.fun_ 12
  have F : Fun K "close_name" "Reading.close_name" s_Reading_close_name (He.ma K (He.ga K "Reading") "close_name") fd := Wk.fun_of F0
  have na_Reading_place := Z.noat 92 (x := "Reading") (f := "place")
  have na_Reading_signs := Z.noat 93 (x := "Reading") (f := "signs")
  have na_Reading_spots := Z.noat 94 (x := "Reading") (f := "spots")
  have na_Reading_counts := Z.noat 95 (x := "Reading") (f := "counts")
  have cl_Reading := Z.cls 87 (x := "Reading")
  refine ⟨fd, ?_, F.binds (ps := ["self"]) fun _ _ _ _ _ _ us hl => match us, hl with | [_], _ => rfl, Z.cls 87, Z.meth 99⟩
  refine F.ok sc_Reading_close_name (fun vs H Q E h => ?_) (fun cdv A outer s H vs Q E hr h => ?_)
  · obtain ⟨B, l, R, s, rfl, o, r, e, h1, h2, h3, h4, k⟩ := h
    rfl
  · obtain ⟨B, l, R, s, rfl, o, r, e, h1, h2, h3, h4, k⟩ := h
    refine ⟨_, (pss_cons (ps_fldaug (pv 0) pe_int in_add) (pss_cons (ps_set (i := 1) sc_Reading_close_name.nd rfl (by first | exact Or.inl rfl | exact Or.inr rfl) (pe_bm0 PySem.F.plainAttrs_list PySem.F.slot_list_pop PySem.F.type_list_pop mt_pop (pe_fld (pv 0) (by rfl)))) (pss_one (ps_asg (pe_tup (pa_cons (pe_ix ix_tup (pe_ix ix_list (pe_fld (pv 0) (by rfl)) (pv 1) (fun _ _ => rfl)) pe_int (fun _ _ => rfl)) (pa_cons (pe_bm0 PySem.F.plainAttrs_list PySem.F.slot_list_pop PySem.F.type_list_pop mt_pop (pe_fld (pv 0) (by rfl))) pa_nil))) (pg_sub (pe_fld (pv 0) (by rfl)) (pv 1) set_list))))), ?_⟩
    refine q_faug (a := (s.pl : Int)) (ev_var rfl) ev_c r.ins cl_Reading na_Reading_place rfl (few rfl) (fun H1 e1 => ?_)
    have r1 := (r.mono e1).place (s.pl + 1)
    have hf : putF "place" (.int ((s.pl : Int) + 1)) (fsR l R s.pl) = fsR l R (s.pl + 1) := rfl
    rw [hf]
    have B1 : Ex B (upd H1 R.x (.ins (He.ga K "Reading") R.dx (fsR l R (s.pl + 1)))) := Ex.mut (e.trans e1) o.1
    have T1 : Tu H (upd H1 R.x (.ins (He.ga K "Reading") R.dx (fsR l R (s.pl + 1)))) := (Tu.of e1).trans (.ins (e1 _ _ r.ins))
    generalize upd H1 R.x (.ins (He.ga K "Reading") R.dx (fsR l R (s.pl + 1))) = G1 at *
    refine q_pop (xs := nis s.sp) r1.sps (ev_fld (f := "spots") (ev_var rfl) r1.ins cl_Reading na_Reading_spots rfl) (nis_last h2) (fun H2 e2 => ?_)
    rw [nis_drop]
    have r2 := (r1.mono e2).spots o s.sp.dropLast
    have B2 := Ex.mut (o := .lst (nis s.sp.dropLast)) (B1.trans e2) o.2.2.1
    have T2 : Tu H (upd H2 R.b (.lst (nis s.sp.dropLast))) := (T1.trans (.of e2)).trans (.lst (e2 _ _ r1.sps))
    generalize upd H2 R.b (.lst (nis s.sp.dropLast)) = G2 at *
    obtain ⟨vs, v1, v2, v3⟩ := r2.sgs
    dsimp only at v2 v3
    have hlt : s.sp.getLastD 0 < vs.length := by omega
    obtain ⟨p, ep, hp⟩ := v3 (s.sp.getLastD 0) (vs[s.sp.getLastD 0]) (s.sg.getD (s.sp.getLastD 0) ([], 0)) (List.getElem?_eq_getElem hlt) (by rw [List.getD_eq_getElem?_getD, List.getElem?_eq_getElem h4]; rfl)
    have hix : atI vs (s.sp.getLastD 0 : Nat) = some (.ref p) := by
      rw [atI_nat (List.getElem?_eq_getElem hlt), ep]
    refine s_tupPop (l := R.c) (xs := nis s.ct) (y := .int (s.ct.getLastD 0 : Nat)) (v := .str (tx (s.sg.getD (s.sp.getLastD 0) ([], 0)).1)) ?_ ?_ r2.cts (nis_last h3) (fun q H3 e3 hq => ?_)
    · exact ev_op (ev_op (ev_fld (f := "signs") (ev_var rfl) r2.ins cl_Reading na_Reading_signs rfl) (ev_var rfl) (rv_ixL (sq_of v1) hix)) ev_c (rv_ixT (i := 0) (st_of hp) rfl)
    · exact ev_fld (f := "counts") (ev_var rfl) r2.ins cl_Reading na_Reading_counts rfl
    rw [nis_drop] at hq
    rw [nis_drop]
    have r3 := (r2.mono e3).counts o s.ct.dropLast
    have B3 := Ex.mut (o := .lst (nis s.ct.dropLast)) (B2.trans e3) o.2.2.2.1
    have T3 : Tu H (upd H3 R.c (.lst (nis s.ct.dropLast))) := (T2.trans (.of e3)).trans (.lst (e3 _ _ r2.cts))
    generalize upd H3 R.c (.lst (nis s.ct.dropLast)) = G3 at *
    have e4 : Ex G3 (upd G3 q (.tup [.str (tx (s.sg.getD (s.sp.getLastD 0) ([], 0)).1), .int (s.ct.getLastD 0 : Nat)])) := Ex.new hq
    have hq2 : upd G3 q (.tup [.str (tx (s.sg.getD (s.sp.getLastD 0) ([], 0)).1), .int (s.ct.getLastD 0 : Nat)]) q = some (.tup [.str (tx (s.sg.getD (s.sp.getLastD 0) ([], 0)).1), .int (s.ct.getLastD 0 : Nat)]) := upd_same
    generalize upd G3 q (.tup [.str (tx (s.sg.getD (s.sp.getLastD 0) ([], 0)).1), .int (s.ct.getLastD 0 : Nat)]) = G4 at *
    have r4 := r3.mono e4
    obtain ⟨us, u1, u2⟩ := r4.sgs
    have ul := u2.1
    dsimp only at ul
    refine ev_fld (K := K) (ta := tVar 0) (f := "signs") (ev_var rfl) r4.ins cl_Reading na_Reading_signs rfl G4 (Ex.refl _) _ (fun H5 e5 => ?_)
    refine ⟨_, rfl, R.a, us, _, _, rfl, rfl, e5 _ _ u1, ixN_nat (by omega), ?_⟩
    have r5 := r4.mono e5
    refine k _ (Ex.mut ((B3.trans e4).trans e5) o.2.1) ((T3.trans (.of (e4.trans e5))).trans (.lst (e5 _ _ u1))) (r5.signs o (zs := s.sg.set (s.sp.getLastD 0) ((s.sg.getD (s.sp.getLastD 0) ([], 0)).1, s.ct.getLastD 0)) ((u2.tu (.of e5)).set ⟨q, rfl, e5 _ _ hq2⟩))

end
end Tx
end
section
set_option Elab.async false
set_option linter.all false
set_option maxRecDepth 100000
set_option maxHeartbeats 4000000
namespace Tx
open PySem PySem.Spec PyProof.Rows L2 Evl Wk
section
variable {w : World} {K : PySem.W.Frag} {mg : Str → Option Value} {base : Heap}

def sp_go_on (K : PySem.W.Frag) : Sp := fun vs H Q _ => ∃ (B : Hp) (l : List Nat) (R : RA) (s : RS), vs = [.ref R.x] ∧ Own B R ∧ Rdg K l R s H ∧ Ex B H ∧ l.length ≤ 5000 ∧ RInv l s ∧ 0 < s.sg.length ∧
  ∀ H', Ex B H' → Tu H H' → Rdg K l R (goOn l s).1 H' → Q (oV (goOn l s).2) H'
theorem sc_go_on : FnScope ["reading"] ["reading"] (defScope s_go_on) := ⟨rfl, rfl, rfl, by decide +kernel, rfl, by decide +kernel, by decide +kernel⟩
theorem ok_go_on (Z : Zx K mg) : OkD prog w K mg base CX0 2 "go_on" ["reading"] (sp_go_on K) := by
  obtain ⟨fd, F0⟩ := Z.fun_ 13
  have F : Fun K "go_on" "go_on" s_go_on (He.ga K "go_on") fd := Wk.fun_of F0
  have c_MOST_PARTS := Z.int 72 (x := "MOST_PARTS")
  obtain ⟨_, g_is_variable, b_is_variable, m_is_variable, k_is_variable⟩ := ok_is_variable (w := w) (base := base) Z
  obtain ⟨_, g_Reading_close_name, b_Reading_close_name, c_Reading_close_name, m_Reading_close_name⟩ := ok_Reading_close_name (w := w) (base := base) Z
  obtain ⟨_, g_Reading_is_at, b_Reading_is_at, c_Reading_is_at, m_Reading_is_at⟩ := ok_Reading_is_at (w := w) (base := base) Z
  obtain ⟨_, g_Reading_open_name, b_Reading_open_name, c_Reading_open_name, m_Reading_open_name⟩ := ok_Reading_open_name (w := w) (base := base) Z
  have n_len := Z.free 63 (x := "len")
  have na_Reading_place := Z.noat 92 (x := "Reading") (f := "place")
  have na_Reading_signs := Z.noat 93 (x := "Reading") (f := "signs")
  have na_Reading_spots := Z.noat 94 (x := "Reading") (f := "spots")
  have na_Reading_counts := Z.noat 95 (x := "Reading") (f := "counts")
  have cl_Reading := Z.cls 87 (x := "Reading")
  refine ⟨fd, ?_, F.binds (ps := ["reading"]) fun _ _ _ _ _ _ us hl => match us, hl with | [_], _ => rfl, Z.glo 8, F.kp⟩
  refine F.ok sc_go_on (fun vs H Q E h => ?_) (fun cdv A outer s H vs Q E hr h => ?_)
  · obtain ⟨B, l, R, s, rfl, o, r, e, hl, inv, h0, k⟩ := h
    rfl
  · obtain ⟨B, l, R, s, rfl, o, r, e, hl, inv, h0, k⟩ := h
    refine ⟨_, (pss_cons (ps_if (pw_and (pt_val (pe_meth (pv 0) c_Reading_is_at m_Reading_is_at g_Reading_is_at (hr.mono (by decide)) b_Reading_is_at .nil pass0 (pa_cons pe_str pa_nil))) (pw_and1 (pt_not (pt_val (pe_call g_is_variable (hr.mono (by decide)) (by rfl) m_is_variable k_is_variable b_is_variable .nil pass0 (pa_cons (pe_ix ix_list (pe_fld (pv 0) (by rfl)) (pe_un un_neg pe_int) (fun _ _ => rfl)) pa_nil)))))).pt (pss_cons (ps_expr (pe_meth0 (pv 0) c_Reading_open_name m_Reading_open_name g_Reading_open_name (hr.mono (by decide)) b_Reading_open_name .nil pass0)) (pss_one (ps_ret pe_bl))) pss_nil) (pss_cons (ps_while PassesOwn.never (pw_and (pt_cmpR op_gt (pe_callB call_len_seq (by rfl) n_len (by decide +kernel) (pa_cons (pe_fld (pv 0) (by rfl)) pa_nil)) pe_int (nomark _)) (pw_and1 (pt_val (pe_meth (pv 0) c_Reading_is_at m_Reading_is_at g_Reading_is_at (hr.mono (by decide)) b_Reading_is_at .nil pass0 (pa_cons pe_str pa_nil))))).pt (pss_one (ps_expr (pe_meth0 (pv 0) c_Reading_close_name m_Reading_close_name g_Reading_close_name (hr.mono (by decide)) b_Reading_close_name .nil pass0)))) (pss_cons (ps_if (pt_cmpR op_eq (pe_callB call_len_seq (by rfl) n_len (by decide +kernel) (pa_cons (pe_fld (pv 0) (by rfl)) pa_nil)) pe_int (nomark _)) (pss_one (ps_ret pe_bl)) pss_nil) (pss_cons (ps_if (pw_or (pt_not (pt_val (pe_meth (pv 0) c_Reading_is_at m_Reading_is_at g_Reading_is_at (hr.mono (by decide)) b_Reading_is_at .nil pass0 (pa_cons pe_str pa_nil)))) (pw_or1 (pt_cmpR op_eq (pe_ix ix_list (pe_fld (pv 0) (by rfl)) (pe_un un_neg pe_int) (fun _ _ => rfl)) (pe_gi c_MOST_PARTS) (nomark _)))).pt (pss_one (ps_ret pe_non)) pss_nil) (pss_cons (ps_fldaug (pv 0) pe_int in_add) (pss_cons (ps_augS (pe_fld (pv 0) (by rfl)) (pe_un un_neg pe_int) get_list pe_int ip_add set_list) (pss_one (ps_ret pe_bl)))))))), ?_⟩
    have fsg := fun (σ : L2.St) (ta : TE) (H0 : Hp) (s : RS) (r : Rdg K l R s H0) (h : Ev ta σ H0 (.ref R.x)) => ev_fld (K := K) (f := "signs") h r.ins cl_Reading na_Reading_signs (v := .ref R.a) rfl
    have fsp := fun (σ : L2.St) (ta : TE) (H0 : Hp) (s : RS) (r : Rdg K l R s H0) (h : Ev ta σ H0 (.ref R.x)) => ev_fld (K := K) (f := "spots") h r.ins cl_Reading na_Reading_spots (v := .ref R.b) rfl
    have fct := fun (σ : L2.St) (ta : TE) (H0 : Hp) (s : RS) (r : Rdg K l R s H0) (h : Ev ta σ H0 (.ref R.x)) => ev_fld (K := K) (f := "counts") h r.ins cl_Reading na_Reading_counts (v := .ref R.c) rfl
    have isat := fun (σ : L2.St) (ta : TE) (H0 : Hp) (s : RS) (E : XK) (z : Str) (c : Nat) (hz : z = tx [c]) (r : Rdg K l R s H0) (h : Ev ta σ H0 (.ref R.x)) => ev_meth (m := "is_at") (sp := sp_Reading_is_at K) (E := E) (v := .bl (decide (l[s.pl]? = some c))) h r.ins rfl (ea_cons (ta := tC (.str z)) (ev_is ev_c (congrArg V.str hz)) ea_nil) (fun H1 e1 Q1 q1 E1 => ⟨l, R, s, c, rfl, r.mono e1, hl, fun H' e' => q1 H' e'⟩)
    have z40 : ("(" : Str) = tx [40] := by decide +kernel
    have z41 : (")" : Str) = tx [41] := by decide +kernel
    have z44 : ("," : Str) = tx [44] := by decide +kernel
    obtain ⟨vs, v1, v2, v3⟩ := r.sgs
    have hlast : vs[vs.length - 1]? = some vs[vs.length - 1] := List.getElem?_eq_getElem (by omega)
    obtain ⟨p, ep, hp⟩ := v3 (vs.length - 1) _ (s.sg[s.sg.length - 1]) hlast (by rw [v2]; exact List.getElem?_eq_getElem (by omega))
    rw [ep] at hlast
    refine q_when (b := decide (l[s.pl]? = some 40)) (et_is (et_and (et_B (isat _ _ _ _ _ _ _ z40 r (ev_var rfl))) (fun _ => et_not (et_B (ev_call (z := .bl false) (ea_cons (ev_op (fsg _ _ _ _ r (ev_var rfl)) ev_m1 (rv_ixL (sq_of v1) (atI_last hlast))) ea_nil) (fun H1 e1 Q1 q1 E1 => ⟨.ref p, rfl, .inr ⟨p, _, rfl, e1 _ _ hp, q1 H1 (Ex.refl _)⟩⟩))))) (by rw [Bool.not_false, Bool.and_true])) (fun hb H1 e1 => ?_) (fun hb H1 e1 => ?_)
    · have hc := of_decide_eq_true hb
      have g : goOn l s = (openN s, some true) := if_pos hc
      have := inv.sg
      have := inv.sl
      have := inv.ct
      have := inv.pl
      refine q_mt0 (ev_var rfl) (r.mono e1).ins rfl (fun H2 e2 => ⟨B, l, R, s, rfl, o, r.mono (e1.trans e2), e.trans (e1.trans e2), h0, by omega, by omega, by omega, fun H3 b3 t3 r3 => ?_⟩)
      refine s_ret ev_c (fun H4 e4 => ?_)
      have kk := k H4 (b3.trans e4) (((Tu.of (e1.trans e2)).trans t3).trans (.of e4)) (by rw [g]; exact r3.mono e4)
      rw [g] at kk
      exact kk
    · have hc := of_decide_eq_false hb
      have g : goOn l s = if (closeAll l s.sp.length s).sp = [] then (closeAll l s.sp.length s, some false) else
          if l[(closeAll l s.sp.length s).pl]? ≠ some 44 ∨ (closeAll l s.sp.length s).ct.getLastD 0 = 4 then (closeAll l s.sp.length s, none) else (commaN (closeAll l s.sp.length s), some true) := if_neg hc
      refine q_while (fun m σ' H' => σ' = [some (.ref R.x)] ∧ ∃ s', m = s'.sp.length ∧ RInv l s' ∧ Rdg K l R s' H' ∧ Ex B H' ∧ Tu H H' ∧ closeAll l s.sp.length s = closeAll l s'.sp.length s') s.sp.length ⟨rfl, s, rfl, inv, r.mono e1, e.trans e1, .of e1, rfl⟩ ?_
      rintro m σ' H' ⟨rfl, s', rfl, inv', r', b', t', g'⟩
      refine ⟨decide (s'.sp ≠ [] ∧ l[s'.pl]? = some 41), ?_, fun hb2 H2 e2 => ?_, fun hb2 H2 e2 => ?_⟩
      · refine et_is (et_and (et_test (ev_op (ev_len (fsp _ _ _ _ r' (ev_var rfl)) (sq_of r'.sps)) ev_c rv_I0)) (fun _ => et_B (isat _ _ _ _ _ _ _ z41 r' (ev_var rfl)))) ?_
        rw [nis_len, Bool.decide_and]
        congr 1
        rw [decide_eq_decide]
        constructor
        · intro h h2
          rw [h2] at h
          exact absurd h (by decide)
        · intro h
          have := List.length_pos_iff.mpr h
          show (0 : Int) < _
          omega
      · have hc2 := of_decide_eq_true hb2
        refine ⟨fun σ2 H3 => σ2 = [some (.ref R.x)] ∧ Rdg K l R (closeN s') H3 ∧ Ex B H3 ∧ Tu H H3, ?_, ?_⟩
        · rintro σ2 H3 ⟨rfl, r3, b3, t3⟩
          refine ⟨_, ?_, rfl, closeN s', rfl, inv'.close hc2.1 hc2.2, r3, b3, t3, ?_⟩
          · rw [closeN_sp]
            have := List.length_pos_iff.mpr hc2.1
            omega
          · rw [g']; exact closeAll_step l s' hc2.1 hc2.2
        · have i1 := inv'.sg
          have i2 := inv'.pl
          have i3 := inv'.ct
          have i4 := List.length_pos_iff.mpr hc2.1
          refine s_mt0 (ev_var rfl) (r'.mono e2).ins rfl (fun H3 e3 => ⟨B, l, R, s', rfl, o, r'.mono (e2.trans e3), b'.trans (e2.trans e3), by omega, hc2.1, fun h => by rw [h] at i3; simp at i3; omega, inv'.sp _ (getLastD_mem hc2.1), fun H4 b4 t4 r4 => ?_⟩)
          exact ⟨rfl, r4, b4, (t'.trans (.of (e2.trans e3))).trans t4⟩
      · have hc2 := of_decide_eq_false hb2
        have g2 := closeAll_stop l s' hc2
        rw [g', g2] at g
        have r2 := r'.mono e2
        refine q_when (b := decide (s'.sp = [])) (et_is (et_test (ev_op (ev_len (fsp _ _ _ _ r2 (ev_var rfl)) (sq_of r2.sps)) ev_c (rv_eq (by rfl)))) ?_) (fun hb3 H3 e3 => ?_) (fun hb3 H3 e3 => ?_)
        · rw [nis_len, decide_eq_decide]
          constructor
          · intro h
            have := V.int.inj h
            exact List.length_eq_zero_iff.mp (by omega)
          · intro h; rw [h]; rfl
        · have h3 := of_decide_eq_true hb3
          rw [if_pos h3] at g
          refine s_ret ev_c (fun H4 e4 => ?_)
          have kk := k H4 (b'.trans ((e2.trans e3).trans e4)) (t'.trans (.of ((e2.trans e3).trans e4))) (by rw [g]; exact r'.mono ((e2.trans e3).trans e4))
          rw [g] at kk
          exact kk
        · have h3 := of_decide_eq_false hb3
          rw [if_neg h3] at g
          have r3 := r2.mono e3
          have i3 := inv'.ct
          have hne : s'.ct ≠ [] := fun h => by
            rw [h] at i3
            have := List.length_pos_iff.mpr h3
            simp at i3
            omega
          refine q_when (b := decide (l[s'.pl]? ≠ some 44 ∨ s'.ct.getLastD 0 = 4)) (et_is (et_or (et_not (et_B (isat _ _ _ _ _ _ _ z44 r3 (ev_var rfl)))) (fun _ => et_test (ev_op (ev_op (fct _ _ _ _ r3 (ev_var rfl)) ev_m1 (rv_ixL (sq_of r3.cts) (atI_last (nis_last hne)))) ev_c (rv_eq (by rfl))))) ?_) (fun hb4 H4 e4 => ?_) (fun hb4 H4 e4 => ?_)
          · rw [Bool.decide_or, decide_not]
            congr 1
            rw [decide_eq_decide]
            constructor
            · intro h
              have := V.int.inj h
              omega
            · intro h; rw [h]; rfl
          · have h4 := of_decide_eq_true hb4
            rw [if_pos h4] at g
            refine s_ret ev_c (fun H5 e5 => ?_)
            have kk := k H5 (b'.trans (((e2.trans e3).trans e4).trans e5)) (t'.trans (.of (((e2.trans e3).trans e4).trans e5))) (by rw [g]; exact r'.mono (((e2.trans e3).trans e4).trans e5))
            rw [g] at kk
            exact kk
          · have h4 := of_decide_eq_false hb4
            rw [if_neg h4] at g
            have r4 := r3.mono e4
            refine q_faug (a := (s'.pl : Int)) (ev_var rfl) ev_c r4.ins cl_Reading na_Reading_place rfl (few rfl) (fun H5 e5 => ?_)
            have r5 := (r4.mono e5).place (s'.pl + 1)
            have hf : putF "place" (.int ((s'.pl : Int) + 1)) (fsR l R s'.pl) = fsR l R (s'.pl + 1) := rfl
            rw [hf]
            have B5 : Ex B (upd H5 R.x (.ins (He.ga K "Reading") R.dx (fsR l R (s'.pl + 1)))) := Ex.mut (b'.trans (((e2.trans e3).trans e4).trans e5)) o.1
            have T5 : Tu H (upd H5 R.x (.ins (He.ga K "Reading") R.dx (fsR l R (s'.pl + 1)))) := (t'.trans (.of (((e2.trans e3).trans e4).trans e5))).trans (.ins (e5 _ _ r4.ins))
            generalize upd H5 R.x (.ins (He.ga K "Reading") R.dx (fsR l R (s'.pl + 1))) = G5 at *
            have hct : nis s'.ct = nis s'.ct.dropLast ++ [.int ((s'.ct.getLastD 0 : Nat) : Int)] := by
              conv => lhs; rw [← List.dropLast_concat_getLast hne]
              unfold nis
              rw [List.map_append, List.getLastD_eq_getLast?, List.getLast?_eq_some_getLast hne]
              rfl
            have r5c := r5.cts
            dsimp only at r5c
            rw [hct] at r5c
            refine q_augLast (xs := nis s'.ct.dropLast) (a := ((s'.ct.getLastD 0 : Nat) : Int)) (fct _ _ _ _ r5 (ev_var rfl)) ev_m1 ev_c r5c (fun H6 e6 => ?_)
            refine s_ret ev_c (fun H7 e7 => ?_)
            have r6 := (r5.mono e6).counts o (s'.ct.dropLast ++ [s'.ct.getLastD 0 + 1])
            have hnew : nis s'.ct.dropLast ++ [V.int ((s'.ct.getLastD 0 : Nat) + 1 : Int)] = nis (s'.ct.dropLast ++ [s'.ct.getLastD 0 + 1]) := by unfold nis; rw [List.map_append]; rfl
            rw [← hnew] at r6
            have kk := k H7 ((Ex.mut (B5.trans e6) o.2.2.2.1).trans e7) ((T5.trans ((Tu.of e6).trans (.lst (e6 _ _ r5c)))).trans (.of e7)) (by rw [g]; exact r6.mono e7)
            rw [g] at kk
            exact kk

end
end Tx
end
section
set_option Elab.async false
set_option linter.all false
set_option maxRecDepth 100000
set_option maxHeartbeats 4000000
namespace Tx
open PySem PySem.Spec PyProof.Rows L2 Evl Wk
section
variable {w : World} {K : PySem.W.Frag} {mg : Str → Option Value} {base : Heap}

def sp_read_term (K : PySem.W.Frag) : Sp := fun vs H Q _ => ∃ (l : List Nat) (start : Nat) (nm : Addr), vs = [.str (tx l), .int (start : Int), .ref nm] ∧ l.length ≤ 5000 ∧ start ≤ l.length ∧ NoG l ∧ ∀ v H', Ex H H' → ReadV (readT l start) v H' → Q v H'
theorem sc_read_term : FnScope ["text", "start", "names", "reading", "is_open"] ["text", "start", "names"] (defScope s_read_term) := ⟨rfl, rfl, rfl, by decide +kernel, rfl, by decide +kernel, by decide +kernel⟩
theorem ok_read_term (Z : Zx K mg) : OkD prog w K mg base CX0 3 "read_term" ["text", "start", "names"] (sp_read_term K) := by
  obtain ⟨fd, F0⟩ := Z.fun_ 14
  have F : Fun K "read_term" "read_term" s_read_term (He.ga K "read_term") fd := Wk.fun_of F0
  obtain ⟨_, g_go_on, b_go_on, m_go_on, k_go_on⟩ := ok_go_on (w := w) (base := base) Z
  obtain ⟨_, g_Reading, b_Reading, m_Reading, k_Reading⟩ := ok_Reading___init__ (w := w) (base := base) Z
  obtain ⟨_, g_Reading_put_word, b_Reading_put_word, c_Reading_put_word, m_Reading_put_word⟩ := ok_Reading_put_word (w := w) (base := base) Z
  have n_tuple := Z.free 71 (x := "tuple")
  have na_Reading_place := Z.noat 92 (x := "Reading") (f := "place")
  have na_Reading_signs := Z.noat 93 (x := "Reading") (f := "signs")
  have cl_Reading := Z.cls 87 (x := "Reading")
  refine ⟨fd, ?_, F.binds (ps := ["text", "start", "names"]) fun _ _ _ _ _ _ us hl => match us, hl with | [_, _, _], _ => rfl, Z.glo 9, F.kp⟩
  refine F.ok sc_read_term (fun vs H Q E h => ?_) (fun cdv A outer s H vs Q E hr h => ?_)
  · obtain ⟨l, start, nm, rfl, hl, hs, hG, k⟩ := h
    rfl
  · obtain ⟨l, start, nm, rfl, hl, hs, hG, k⟩ := h
    refine ⟨_, (pss_cons (ps_set (i := 3) sc_read_term.nd rfl (by first | exact Or.inl rfl | exact Or.inr rfl) (pe_make k_Reading g_Reading (hr.mono (by decide)) (by rfl) m_Reading b_Reading .nil pass0 (pa_cons (pv 0) (pa_cons (pv 2) pa_nil)))) (pss_cons (ps_fld (pv 3) (pv 1) rfl) (pss_cons (ps_set (i := 4) sc_read_term.nd rfl (by first | exact Or.inl rfl | exact Or.inr rfl) pe_bl) (pss_cons (ps_while PassesOwn.never (pt_truth (pv 4) (fun _ => rfl)) (pss_cons (ps_if (pt_not (pt_val (pe_meth0 (pv 3) c_Reading_put_word m_Reading_put_word g_Reading_put_word (hr.mono (by decide)) b_Reading_put_word .nil pass0))) (pss_one (ps_ret pe_non)) pss_nil) (pss_one (ps_set (i := 4) sc_read_term.nd rfl (by first | exact Or.inl rfl | exact Or.inr rfl) (pe_call g_go_on (hr.mono (by decide)) (by rfl) m_go_on k_go_on b_go_on .nil pass0 (pa_cons (pv 3) pa_nil)))))) (pss_one (ps_ret (pe_ifExp (pt_cmpR op_isN (pv 4) pe_non (nomark _)) pe_non (pe_tup (pa_cons (pe_callTy call_tuple_of (by rfl) n_tuple (by decide +kernel) (pa_cons (pe_fld (pv 3) (by rfl)) pa_nil)) (pa_cons (pe_fld (pv 3) (by rfl)) pa_nil)))))))))), ?_⟩
    refine q_make (ea_cons (ev_var rfl) (ea_cons (ev_var rfl) ea_nil)) (fun B x dx e1 hx hdx hn => ?_)
    have e2 : Ex B (upd (upd B dx (.own x)) x (.ins (He.ga K "Reading") dx [])) := Ex.mut (Ex.new hdx) hx
    refine ⟨B, x, dx, l, nm, rfl, hx, e2, upd_same, fun H2 a b c e3 o r2 => ⟨rfl, ?_⟩⟩
    generalize hR : RA.mk x dx a b c nm = R at *
    have hRx : x = R.x := by rw [← hR]
    subst hRx
    refine q_fld (v := .int (start : Int)) (ev_var rfl) (ev_var rfl) r2.ins cl_Reading na_Reading_place (few rfl) (fun H3 e4 => ?_)
    have r3 := (r2.mono e4).place start
    have hf : putF "place" (.int (start : Int)) (fsR l R 0) = fsR l R start := rfl
    dsimp only at r3 ⊢
    rw [hf]
    have B3 : Ex B (upd H3 R.x (.ins (He.ga K "Reading") R.dx (fsR l R start))) := Ex.mut (e3.trans e4) o.1
    generalize upd H3 R.x (.ins (He.ga K "Reading") R.dx (fsR l R start)) = G3 at *
    refine q_asg ev_c (fun H4 e5 => ?_)
    refine q_while (fun m σ' H' => ∃ s ob, σ' = [some (.str (tx l)), some (.int (start : Int)), some (.ref nm), some (.ref R.x), some (oV ob)] ∧ Rdg K l R s H' ∧ Ex B H' ∧ RInv l s ∧
      (ob = some true → ∃ n, m = n + 1 ∧ l.length - s.pl + 1 ≤ n ∧ readLoop l (l.length - start + 1) ⟨start, [], [], []⟩ = readLoop l n s) ∧ (ob = some false → m = 0 ∧ readLoop l (l.length - start + 1) ⟨start, [], [], []⟩ = some s) ∧ (ob = none → m = 0 ∧ readLoop l (l.length - start + 1) ⟨start, [], [], []⟩ = none))
      (l.length - start + 2) ⟨⟨start, [], [], []⟩, some true, rfl, r3.mono e5, B3.trans e5, ⟨hs, rfl, fun _ h => (by cases h), Nat.zero_le _, Nat.zero_le _⟩, fun _ => ⟨_, rfl, Nat.le_refl _, rfl⟩, fun h => (by cases h), fun h => (by cases h)⟩ ?_
    rintro m σ' H' ⟨s, ob, rfl, r, b', inv, w1, w2, w3⟩
    refine ⟨decide (ob = some true), et_tru (K := K) (ev_var rfl) (fun H5 e6 => ?_), fun hb H5 e6 => ?_, fun hb H5 e6 => ?_⟩
    · cases ob with
      | none => rfl
      | some z => cases z <;> rfl
    · have hob := of_decide_eq_true hb
      subst hob
      obtain ⟨n, rfl, hn, hres⟩ := w1 rfl
      obtain ⟨n', rfl⟩ : ∃ n', n = n' + 1 := ⟨n - 1, by omega⟩
      refine ⟨fun σ2 H6 => ∃ m', m' < n' + 1 + 1 ∧ ∃ s ob, σ2 = [some (.str (tx l)), some (.int (start : Int)), some (.ref nm), some (.ref R.x), some (oV ob)] ∧ Rdg K l R s H6 ∧ Ex B H6 ∧ RInv l s ∧
        (ob = some true → ∃ n, m' = n + 1 ∧ l.length - s.pl + 1 ≤ n ∧ readLoop l (l.length - start + 1) ⟨start, [], [], []⟩ = readLoop l n s) ∧ (ob = some false → m' = 0 ∧ readLoop l (l.length - start + 1) ⟨start, [], [], []⟩ = some s) ∧ (ob = none → m' = 0 ∧ readLoop l (l.length - start + 1) ⟨start, [], [], []⟩ = none), fun _ _ h => h, ?_⟩
      have hsg := inv.sg
      have hpl := inv.pl
      refine q_ifNotB (x_mt0 (ev_var rfl) (r.mono e6).ins rfl (fun H6 e7 => ⟨B, l, R, s, rfl, o, r.mono (e6.trans e7), b'.trans (e6.trans e7), hl, inv.pl, by omega, hG, fun hw H7 b7 t7 r7 => ?_, fun hw H7 b7 t7 r7 => ?_⟩))
      · refine ⟨false, rfl, ?_⟩
        rw [if_neg (by decide)]
        refine s_ret ev_c (fun H8 e8 => k _ H8 (e1.trans (b7.trans e8)) ?_)
        have : readT l start = none := by
          unfold readT
          rw [hres]
          unfold readLoop
          rw [if_pos hw]
          rfl
        rw [this]
        rfl
      · refine ⟨true, rfl, ?_⟩
        rw [if_pos rfl]
        obtain ⟨i1, i2, i3⟩ := putW_inv inv hw
        refine s_asgC (ea_cons (ev_var rfl) ea_nil) (fun H8 e8 => ⟨B, l, R, putW l s, rfl, o, r7.mono e8, b7.trans e8, hl, i1, i2, fun H9 b9 t9 r9 => ?_⟩)
        have i4 := goOn_inv i1 i2
        have i5 := goOn_pl l (putW l s)
        have i6 := i4.pl
        have hstep : readLoop l (n' + 1) s = match (goOn l (putW l s)).2 with
          | none => none
          | some false => some (goOn l (putW l s)).1
          | some true => readLoop l n' (goOn l (putW l s)).1 := by
          conv => lhs; unfold readLoop
          rw [if_neg hw]
          try rfl
        rw [hstep] at hres
        refine ⟨(match (goOn l (putW l s)).2 with | some true => n' + 1 | _ => 0), ?_, (goOn l (putW l s)).1, (goOn l (putW l s)).2, rfl, r9, b9, i4, fun h => ?_, fun h => ?_, fun h => ?_⟩
        · split <;> omega
        · rw [h] at hres ⊢
          exact ⟨n', rfl, by omega, hres⟩
        · rw [h] at hres ⊢
          exact ⟨rfl, hres⟩
        · rw [h] at hres ⊢
          exact ⟨rfl, hres⟩
    · have hob := of_decide_eq_false hb
      have r5 := r.mono e6
      obtain ⟨vs, v1, v2⟩ := r5.sgs
      refine sx_ret (P := ReadV (readT l start)) (x_if (b := decide (ob = none)) (et_is (et_test (b := decide (oV ob = .non)) (ev_op (ev_var rfl) ev_c (fun H6 e7 Q1 q1 => ⟨rfl, q1 H6 (Ex.refl _)⟩))) ?_) (fun h => ?_) (fun h => ?_)) (fun v H6 e7 p => k v H6 (e1.trans ((b'.trans e6).trans e7)) p)
      · rw [decide_eq_decide]
        cases ob with
        | none => simp [oV]
        | some z => simp [oV]
      · have := (w3 (of_decide_eq_true h)).2
        have g : readT l start = none := by unfold readT; rw [this]; rfl
        rw [g]
        exact (x_ev ev_c).imp fun _ _ h => h
      · have hF : ob = some false := by
          cases ob with
          | none => exact absurd rfl (of_decide_eq_false h)
          | some z => cases z with
            | true => exact absurd rfl hob
            | false => rfl
        have := (w2 hF).2
        have g : readT l start = some (s.sg, s.pl) := by unfold readT; rw [this]; rfl
        rw [g]
        refine (x_tup (x_cons (P := TermAt s.sg) (fun H6 e7 Q1 q1 => eu_tuple (K := K) (ev_fld (f := "signs") (ev_var rfl) r5.ins cl_Reading na_Reading_signs rfl) (sq_of v1) H6 e7 _ (fun p H7 hp e8 h8 => q1 _ H7 e8 ⟨p, vs, rfl, h8, v2.tu (.of (e7.trans e8))⟩)) (TermAt.mo _) (x_ofA (ea_cons (ev_fld (f := "place") (ev_var rfl) r5.ins cl_Reading na_Reading_place rfl) ea_nil))) ?_ ?_).imp ?_
        · rintro us H8 H9 e9 ⟨t, rr, rfl, h1, h2⟩
          exact ⟨t, rr, rfl, TermAt.mo _ _ _ _ e9 h1, h2⟩
        · rintro us H8 ⟨t, rr, rfl, h1, rfl⟩
          exact few5 rfl
        · rintro u H8 ⟨p, us, rfl, h8, t, rr, rfl, h1, rfl⟩
          exact ⟨p, t, rfl, h8, h1⟩

end
end Tx
end
section
set_option Elab.async false
set_option linter.all false
set_option maxRecDepth 100000
set_option maxHeartbeats 4000000
namespace Tx
open PySem PySem.Spec PyProof.Rows L2 Evl Wk
section
variable {w : World} {K : PySem.W.Frag} {mg : Str → Option Value} {base : Heap}

def sp_is_atom : Sp := fun vs H Q _ => ∃ (zs : List Sg) (v : V), vs = [v] ∧ TermAt zs v H ∧ zs ≠ [] ∧ ∀ H', Ex H H' → Q (.bl true) H'
theorem sc_is_atom : FnScope ["term"] ["term"] (defScope s_is_atom) := ⟨rfl, rfl, rfl, by decide +kernel, rfl, by decide +kernel, by decide +kernel⟩
theorem ok_is_atom (Z : Zx K mg) : OkD prog w K mg base CX0 2 "is_atom" ["term"] (sp_is_atom) := by
  obtain ⟨fd, F0⟩ := Z.fun_ 21
  have F : Fun K "is_atom" "is_atom" s_is_atom (He.ga K "is_atom") fd := Wk.fun_of F0
  obtain ⟨_, g_is_variable, b_is_variable, m_is_variable, k_is_variable⟩ := ok_is_variable (w := w) (base := base) Z
  refine ⟨fd, ?_, F.binds (ps := ["term"]) fun _ _ _ _ _ _ us hl => match us, hl with | [_], _ => rfl, Z.glo 14, F.kp⟩
  refine F.ok sc_is_atom (fun vs H Q E h => ?_) (fun cdv A outer s H vs Q E hr h => ?_)
  · obtain ⟨zs, v, rfl, ⟨q, vs, rfl, h1, h2⟩, hne, k⟩ := h
    rfl
  · obtain ⟨zs, v, rfl, ⟨q, vs, rfl, h1, h2⟩, hne, k⟩ := h
    refine ⟨_, (pss_one (ps_ret (pe_not (pe_call g_is_variable (hr.mono (by decide)) (by rfl) m_is_variable k_is_variable b_is_variable .nil pass0 (pa_cons (pe_ix ix_tup (pv 0) pe_int (fun _ _ => rfl)) pa_nil))))), ?_⟩
    have h0 : 0 < vs.length := by rw [h2.1]; exact List.length_pos_iff.mpr hne
    obtain ⟨p, ep, hp⟩ := h2.2 0 (vs[0]) (zs[0]'(by rw [← h2.1]; exact h0)) (List.getElem?_eq_getElem h0) (List.getElem?_eq_getElem _)
    refine s_ret (v := .bl true) (ev_notV (a := false) (ev_call (z := .bl false) (ea_cons (ev_op (ev_var rfl) ev_c (rv_ixT (i := 0) (v := .ref p) (st_of h1) (atI_nat (by rw [List.getElem?_eq_getElem h0, ep])))) ea_nil) (fun H1 e1 Q1 q1 E1 => ⟨.ref p, rfl, .inr ⟨p, _, rfl, e1 _ _ hp, q1 H1 (Ex.refl _)⟩⟩))) k
def sp_depth_of : Sp := fun vs H Q _ => ∃ (zs : List Sg) (v : V), vs = [v] ∧ TermAt zs v H ∧ zs.length ≤ 5000 ∧ ∀ H', Ex H H' → Q (.int (depthOf zs)) H'
theorem sc_depth_of : FnScope ["term", "found", "open_parts", "sign", "many"] ["term"] (defScope s_depth_of) := ⟨rfl, rfl, rfl, by decide +kernel, rfl, by decide +kernel, by decide +kernel⟩
theorem ok_depth_of (Z : Zx K mg) : OkD prog w K mg base CX0 2 "depth_of" ["term"] (sp_depth_of) := by
  obtain ⟨fd, F0⟩ := Z.fun_ 6
  have F : Fun K "depth_of" "depth_of" s_depth_of (He.ga K "depth_of") fd := Wk.fun_of F0
  obtain ⟨_, g_is_variable, b_is_variable, m_is_variable, k_is_variable⟩ := ok_is_variable (w := w) (base := base) Z
  have n_len := Z.free 63 (x := "len")
  have n_max := Z.free 65 (x := "max")
  refine ⟨fd, ?_, F.binds (ps := ["term"]) fun _ _ _ _ _ _ us hl => match us, hl with | [_], _ => rfl, Z.glo 6, F.kp⟩
  refine F.ok sc_depth_of (fun vs H Q E h => ?_) (fun cdv A outer s H vs Q E hr h => ?_)
  · obtain ⟨zs, v, rfl, ⟨q, vs, rfl, h1, h2⟩, hl, k⟩ := h
    rfl
  · obtain ⟨zs, v, rfl, ⟨q, vs, rfl, h1, h2⟩, hl, k⟩ := h
    refine ⟨_, (pss_cons (ps_set (i := 1) sc_depth_of.nd rfl (by first | exact Or.inl rfl | exact Or.inr rfl) pe_int) (pss_cons (ps_set (i := 2) sc_depth_of.nd rfl (by first | exact Or.inl rfl | exact Or.inr rfl) (pe_lst pa_nil)) (pss_cons (ps_for PassesOwn.never rfl (pi_tup (pv 0)) (pg_name (i := 3) sc_depth_of.nd rfl (by first | exact Or.inl rfl | exact Or.inr rfl)) (pss_cons (ps_set (i := 1) sc_depth_of.nd rfl (by first | exact Or.inl rfl | exact Or.inr rfl) (pe_callB (call_max2 rfl) (by rfl) n_max (by decide +kernel) (pa_cons (pv 1) (pa_cons (pe_op op_add (pe_callB call_len_seq (by rfl) n_len (by decide +kernel) (pa_cons (pv 2) pa_nil)) pe_int) pa_nil)))) (pss_cons (ps_set (i := 4) sc_depth_of.nd rfl (by first | exact Or.inl rfl | exact Or.inr rfl) (pe_ifExp (pt_val (pe_call g_is_variable (hr.mono (by decide)) (by rfl) m_is_variable k_is_variable b_is_variable .nil pass0 (pa_cons (pv 3) pa_nil))) pe_int (pe_ix ix_tup (pv 3) pe_int (fun _ _ => rfl)))) (pss_cons (ps_expr (pe_bm PySem.F.plainAttrs_list PySem.F.slot_list_append PySem.F.type_list_append mt_append (pv 2) (pa_cons (pv 4) pa_nil))) (pss_one (ps_while PassesOwn.never (pw_and (pt_cmpR op_gt (pe_callB call_len_seq (by rfl) n_len (by decide +kernel) (pa_cons (pv 2) pa_nil)) pe_int (nomark _)) (pw_and1 (pt_cmpR op_eq (pe_ix ix_list (pv 2) (pe_un un_neg pe_int) (fun _ _ => rfl)) pe_int (nomark _)))).pt (pss_cons (ps_expr (pe_bm0 PySem.F.plainAttrs_list PySem.F.slot_list_pop PySem.F.type_list_pop mt_pop (pv 2))) (pss_one (ps_if (pt_cmpR op_gt (pe_callB call_len_seq (by rfl) n_len (by decide +kernel) (pa_cons (pv 2) pa_nil)) pe_int (nomark _)) (pss_one (ps_augS (pv 2) (pe_un un_neg pe_int) get_list pe_int ip_sub set_list)) pss_nil))))))))) (pss_one (ps_ret (pv 1)))))), ?_⟩
    refine q_asg ev_c (fun H1 e1 => ?_)
    refine q_asgL (xs := []) (el_lst ea_nil (few5 rfl)) (fun o H2 ho e2 h3 => ?_)
    have hB : H o = none := fresh_back e1 ho
    refine q_forT (K := K) (xs := vs) (ev_var rfl) (st_of ((e1.trans e2) _ _ h1)) (fun i σ' H' => ∃ s3 s4, σ' = [some (.ref q), some (.int ((zs.take i).foldl dStep (0, [])).1), some (.ref o), s3, s4] ∧ Ex H H' ∧ H' o = some (.lst (izs ((zs.take i).foldl dStep (0, [])).2)) ∧ ((zs.take i).foldl dStep (0, [])).2.length ≤ i) (fun H3 e3 => ⟨none, none, rfl, (e1.trans e2).trans e3, e3 _ _ h3, Nat.zero_le _⟩) (fun i σ' H' hi ⟨s3, s4, hσ, e, _⟩ => st_of (e _ _ h1)) ?_ ?_
    · rintro i x σ' H' hx ⟨s3, s4, rfl, e, ho1, hlen⟩
      obtain ⟨z, hz, p, rfl, hp⟩ := AllV.at (P := fun z v H => SgOk H v z) (as := zs) h2 hx
      have hi : i < vs.length := (List.getElem?_eq_some_iff.mp hx).1
      have hi2 := h2.1
      have hfold : (zs.take (i + 1)).foldl dStep (0, []) = dStep ((zs.take i).foldl dStep (0, [])) z := by
        rw [List.take_add_one, hz]
        show ((zs.take i) ++ [z]).foldl dStep (0, []) = _
        rw [List.foldl_append]
        rfl
      rw [hfold]
      generalize (zs.take i).foldl dStep (0, []) = S at *
      obtain ⟨m, st⟩ := S
      dsimp only at ho1 hlen ⊢
      have hil := izs_len st
      refine q_asg (v := .int (if (st.length : Int) + 1 > m then (st.length : Int) + 1 else m)) (ev_is (ev_max2 (ev_var rfl) (ev_op (ev_len (ev_var rfl) (sq_of ho1)) ev_c rv_I0)) (by rw [hil])) (fun H3 e3 => ?_)
      refine q_asg (v := .int (z.2 : Int)) (ev_if (b := false) (et_B (ev_call (z := .bl false) (ea_cons (ev_var rfl) ea_nil) (fun H4 e4 Q1 q1 E1 => ⟨.ref p, rfl, .inr ⟨p, _, rfl, e4 _ _ (e3 _ _ (e _ _ hp)), q1 H4 (Ex.refl _)⟩⟩))) (fun h => absurd h (by decide)) (fun _ => ev_op (ev_var rfl) ev_c (rv_ixT (i := 1) (st_of (e3 _ _ (e _ _ hp))) rfl))) (fun H4 e4 => ?_)
      have ho4 := e4 _ _ (e3 _ _ ho1)
      refine q_app (xs := izs st) ho4 (ev_var rfl) (ev_var rfl) (by rw [hil]; omega) (fun H5 e5 => ?_)
      have hsnoc : izs st ++ [V.int (z.2 : Int)] = izs (st ++ [(z.2 : Int)]) := by unfold izs; rw [List.map_append]; rfl
      rw [hsnoc]
      have E5 : Ex H (upd H5 o (.lst (izs (st ++ [(z.2 : Int)])))) := Ex.mut (((e.trans e3).trans e4).trans e5) hB
      have ho5 : upd H5 o (.lst (izs (st ++ [(z.2 : Int)]))) o = some (.lst (izs (st ++ [(z.2 : Int)]))) := upd_same
      generalize upd H5 o (.lst (izs (st ++ [(z.2 : Int)]))) = G5 at *
      refine s_while (fun n σ2 H' => ∃ st', n = st'.length ∧ σ2 = [some (.ref q), some (.int (if (st.length : Int) + 1 > m then (st.length : Int) + 1 else m)), some (.ref o), some (.ref p), some (.int (z.2 : Int))] ∧ Ex H H' ∧ H' o = some (.lst (izs st')) ∧ st'.length ≤ i + 1 ∧ dClose (st.length + 1) (st ++ [(z.2 : Int)]) = dClose st'.length st') (st.length + 1) ⟨st ++ [(z.2 : Int)], by simp, rfl, E5, ho5, by simp; exact hlen, by simp⟩ ?_
      rintro n σ2 H' ⟨st', rfl, rfl, e', ho', hl', hc'⟩
      have hil' := izs_len st'
      refine ⟨decide (st' ≠ [] ∧ st'.getLastD 0 = 0), ?_, fun hb H6 e6 => ?_, fun hb H6 e6 => ?_⟩
      · refine et_is (et_and (et_test (ev_op (ev_len (ev_var rfl) (sq_of ho')) ev_c rv_I0)) (fun hA => et_test (ev_op (ev_op (ev_var rfl) ev_m1 (rv_ixL (sq_of ho') (atI_last (izs_last (izs_ne hA))))) ev_c (rv_eq (by rfl))))) ?_
        rw [Bool.decide_and]
        congr 1
        · rw [decide_eq_decide, hil']
          constructor
          · intro h h2
            rw [h2] at h
            exact absurd h (by decide)
          · intro h
            have := List.length_pos_iff.mpr h
            show (0 : Int) < _
            omega
        · rw [decide_eq_decide]
          constructor
          · intro h; exact V.int.inj h
          · intro h; rw [h]
      · have hc := of_decide_eq_true hb
        have h0 := List.length_pos_iff.mpr hc.1
        have hstep := dClose_step st' hc
        refine ⟨fun σ3 H7 => ∃ st2, st2.length < st'.length ∧ σ3 = [some (.ref q), some (.int (if (st.length : Int) + 1 > m then (st.length : Int) + 1 else m)), some (.ref o), some (.ref p), some (.int (z.2 : Int))] ∧ Ex H H7 ∧ H7 o = some (.lst (izs st2)) ∧ dClose st'.length st' = dClose st2.length st2, ?_, ?_⟩
        · rintro σ3 H7 ⟨st2, g1, rfl, g3, g4, g5⟩
          exact ⟨_, g1, st2, rfl, rfl, g3, g4, by omega, hc'.trans g5⟩
        · refine q_dropPop (xs := izs st') (e6 _ _ ho') (ev_var rfl) (izs_last hc.1) (fun H7 e7 => ?_)
          rw [izs_drop]
          have E7 : Ex H (upd H7 o (.lst (izs st'.dropLast))) := Ex.mut ((e'.trans e6).trans e7) hB
          have ho7 : upd H7 o (.lst (izs st'.dropLast)) o = some (.lst (izs st'.dropLast)) := upd_same
          generalize upd H7 o (.lst (izs st'.dropLast)) = G7 at *
          have hil7 := izs_len st'.dropLast
          refine s_when (b := decide (st'.dropLast ≠ [])) (et_is (et_test (ev_op (ev_len (ev_var rfl) (sq_of ho7)) ev_c rv_I0)) ?_) (fun hb2 H8 e8 => ?_) (fun hb2 H8 e8 => ?_)
          · rw [decide_eq_decide, hil7]
            constructor
            · intro h h2
              rw [h2] at h
              exact absurd h (by decide)
            · intro h
              have := List.length_pos_iff.mpr h
              show (0 : Int) < _
              omega
          · have hne := of_decide_eq_true hb2
            have ho8 := e8 _ _ ho7
            rw [izs_snoc hne] at ho8
            refine s_augLast (xs := izs st'.dropLast.dropLast) (a := st'.dropLast.getLastD 0) (ev_var rfl) ev_m1 ev_c ho8 (fun H9 e9 => ?_)
            have hp2 := List.length_pos_iff.mpr hne
            rw [List.length_dropLast] at hp2
            refine ⟨st'.dropLast.dropLast ++ [st'.dropLast.getLastD 0 - 1], by rw [List.length_append, List.length_singleton, List.length_dropLast, List.length_dropLast]; omega, rfl, Ex.mut ((E7.trans e8).trans e9) hB, ?_, ?_⟩
            · rw [upd_same]; unfold izs; rw [List.map_append]; rfl
            · rw [hstep, if_neg hne]
          · have hne : st'.dropLast = [] := Decidable.not_not.mp (of_decide_eq_false hb2)
            refine ⟨[], by simp; omega, rfl, E7.trans e8, by rw [← hne]; exact e8 _ _ ho7, ?_⟩
            rw [hstep, if_pos hne]
      · have hc := of_decide_eq_false hb
        refine ⟨some (.ref p), some (.int (z.2 : Int)), rfl, e'.trans e6, ?_, ?_⟩
        · show H6 o = some (.lst (izs (dClose (st.length + 1) (st ++ [(z.2 : Int)]))))
          rw [hc', dClose_stop st' hc]
          exact e6 _ _ ho'
        · show (dClose (st.length + 1) (st ++ [(z.2 : Int)])).length ≤ i + 1
          rw [hc', dClose_stop st' hc]
          exact hl'
    · rintro σ' H' ⟨s3, s4, rfl, e, _⟩
      rw [show zs.take vs.length = zs by rw [h2.1]; exact List.take_length]
      exact s_ret (ev_var rfl) (fun H3 e3 => k H3 (e.trans e3))
def sp_variables_of : Sp := fun vs H Q _ => ∃ (zs : List Sg) (v : V), vs = [v] ∧ TermAt zs v H ∧ RetL [] H Q
theorem sc_variables_of : FnScope ["term", "found", "sign"] ["term"] (defScope s_variables_of) := ⟨rfl, rfl, rfl, by decide +kernel, rfl, by decide +kernel, by decide +kernel⟩
theorem ok_variables_of (Z : Zx K mg) : OkD prog w K mg base CX0 2 "variables_of" ["term"] (sp_variables_of) := by
  obtain ⟨fd, F0⟩ := Z.fun_ 5
  have F : Fun K "variables_of" "variables_of" s_variables_of (He.ga K "variables_of") fd := Wk.fun_of F0
  obtain ⟨_, g_is_variable, b_is_variable, m_is_variable, k_is_variable⟩ := ok_is_variable (w := w) (base := base) Z
  have n_list := Z.free 64 (x := "list")
  refine ⟨fd, ?_, F.binds (ps := ["term"]) fun _ _ _ _ _ _ us hl => match us, hl with | [_], _ => rfl, Z.glo 5, F.kp⟩
  refine F.ok sc_variables_of (fun vs H Q E h => ?_) (fun cdv A outer s H vs Q E hr h => ?_)
  · obtain ⟨zs, v, rfl, ⟨q, vs, rfl, h1, h2⟩, k⟩ := h
    rfl
  · obtain ⟨zs, v, rfl, ⟨q, vs, rfl, h1, h2⟩, k⟩ := h
    have hu1 := hu_of hr
    refine ⟨_, (pss_cons (ps_set (i := 1) sc_variables_of.nd rfl (by first | exact Or.inl rfl | exact Or.inr rfl) pe_dnewK) (pss_cons (ps_for PassesOwn.never rfl (pi_tup (pv 0)) (pg_name (i := 2) sc_variables_of.nd rfl (by first | exact Or.inl rfl | exact Or.inr rfl)) (pss_one (ps_if (pt_val (pe_call g_is_variable (hr.mono (by decide)) (by rfl) m_is_variable k_is_variable b_is_variable .nil pass0 (pa_cons (pv 2) pa_nil))) (pss_one (ps_dput hu1 (pv 1) (pv 2) pe_bl rfl)) pss_nil))) (pss_one (ps_ret (pe_callTy (call_listD rfl) (by rfl) n_list (by decide +kernel) (pa_cons (pv 1) pa_nil)))))), ?_⟩
    have hvl := h2.1
    refine q_dnew (fun o H1 ho e1 h3 => ?_)
    refine q_forT (K := K) (xs := vs) (ev_var rfl) (st_of (e1 _ _ h1)) (fun i σ' H' => ∃ s2, σ' = [some (.ref q), some (.ref o), s2] ∧ Ex H H' ∧ H' o = some (.dK [])) (fun H3 e3 => ⟨none, rfl, e1.trans e3, e3 _ _ h3⟩) (fun i σ' H' hi ⟨s2, hσ, e, _⟩ => st_of (e _ _ h1)) ?_ ?_
    · rintro i x σ' H' hx ⟨s2, rfl, e, ho'⟩
      obtain ⟨z, hz, p, rfl, hp⟩ := AllV.at (P := fun z v H => SgOk H v z) (as := zs) h2 hx
      exact s_when (b := false) (et_B (ev_call (z := .bl false) (ea_cons (ev_var rfl) ea_nil) (fun H4 e4 Q1 q1 E1 => ⟨.ref p, rfl, .inr ⟨p, _, rfl, e4 _ _ (e _ _ hp), q1 H4 (Ex.refl _)⟩⟩))) (fun h => absurd h (by decide)) (fun _ H4 e4 => ⟨_, rfl, e.trans e4, e4 _ _ ho'⟩)
    · rintro σ' H' ⟨s2, rfl, e, ho'⟩
      exact s_retL (xs := []) (fun H3 e3 Q1 q1 => ev_var (i := 1) (v := .ref o) rfl H3 (Ex.refl _) _ (fun H4 e4 => ⟨o, [], rfl, .inl (e4 _ _ (e3 _ _ ho')), fun p hp => q1 p _ (fresh_back e4 hp) (e4.trans (Ex.new hp)) upd_same⟩)) (fun p H3 hp e3 h3 => k p H3 (fresh_back e hp) (e.trans e3) h3)
def sp_put_in : Sp := fun vs H Q _ => ∃ (zs : List Sg) (v : V) (d : Addr), vs = [.ref d, v] ∧ TermAt zs v H ∧ zs.length ≤ 5000 ∧ RetV v H Q
theorem sc_put_in : FnScope ["bindings", "term", "sign", "found"] ["bindings", "term"] (defScope s_put_in) := ⟨rfl, rfl, rfl, by decide +kernel, rfl, by decide +kernel, by decide +kernel⟩
theorem ok_put_in (Z : Zx K mg) : OkD prog w K mg base CX0 2 "put_in" ["bindings", "term"] (sp_put_in) := by
  obtain ⟨fd, F0⟩ := Z.fun_ 4
  have F : Fun K "put_in" "put_in" s_put_in (He.ga K "put_in") fd := Wk.fun_of F0
  obtain ⟨_, g_is_variable, b_is_variable, m_is_variable, k_is_variable⟩ := ok_is_variable (w := w) (base := base) Z
  have n_any := Z.free 58 (x := "any")
  refine ⟨fd, ?_, F.binds (ps := ["bindings", "term"]) fun _ _ _ _ _ _ us hl => match us, hl with | [_, _], _ => rfl, Z.glo 4, F.kp⟩
  refine F.ok sc_put_in (fun vs H Q E h => ?_) (fun cdv A outer s H vs Q E hr h => ?_)
  · obtain ⟨zs, v, d, rfl, ⟨q, vs, rfl, h1, h2⟩, hl, k⟩ := h
    rfl
  · obtain ⟨zs, v, d, rfl, ⟨q, vs, rfl, h1, h2⟩, hl, k⟩ := h
    have hu1 := hu_of hr
    refine ⟨_, (pss_cons (ps_if (pt_not (pt_val (pe_callB (cr_any rfl) (by rfl) n_any (by decide +kernel) (pa_cons (pe_lc (own := [("sign", 2)]) rfl sc_put_in.nd (pi_tup (pv 1)) (blkOk_by (own := [("sign", 2)]) (N := ["bindings", "term", "sign", "found"]) (sc := defScope s_put_in) (by decide +kernel)) (fun _ _ _ _ _ => pg_name (i := 2) sc_put_in.nd rfl (Or.inl rfl)) (fun _ _ _ _ _ => pts_nil) (fun _ _ _ _ _ => (pe_and (pe_call g_is_variable (hr.mono (by decide)) (by rfl) m_is_variable k_is_variable b_is_variable .nil pass0 (pa_cons (pv 2) pa_nil)) (pe_one (pe_cmp (pc_din hu1 (pv 2) (pv 0)) (by rfl)))))) pa_nil)))) (pss_one (ps_ret (pv 1))) pss_nil) (pss_cons ps_never (pss_cons ps_never (pss_one ps_never)))), ?_⟩
    have hvl := h2.1
    refine q_when (b := true) (et_is (et_not (et_B (ev_anyc (p := fun _ => false) (as := vs) (inj := id) (ei_T (K := K) (ev_var rfl) (by rw [List.map_id]; exact st_of h1)) (by omega) (fun _ => rfl) (fun x hx H1 e1 => ?_)))) ?_) (fun _ H1 e1 => s_ret (ev_var rfl) (fun H2 e2 => k H2 (e1.trans e2))) (fun h => absurd h (by decide))
    · obtain ⟨i, hi⟩ := List.getElem?_of_mem hx
      obtain ⟨z, hz, p, rfl, hp⟩ := AllV.at (P := fun z v H => SgOk H v z) (as := zs) h2 hi
      exact ev_andV (a := false) (b := false) (ev_call (z := .bl false) (ea_cons (ev_var rfl) ea_nil) (fun H2 e2 Q1 q1 E1 => ⟨.ref p, rfl, .inr ⟨p, _, rfl, e2 _ _ (e1 _ _ hp), q1 H2 (Ex.refl _)⟩⟩)) (fun h => absurd h (by decide))
    · rw [any_false]
      rfl

end
end Tx
end
section
set_option Elab.async false
set_option linter.all false
set_option maxRecDepth 100000
set_option maxHeartbeats 4000000
namespace Tx
open PySem PySem.Spec PyProof.Rows L2 Evl Wk
section
variable {w : World} {K : PySem.W.Frag} {mg : Str → Option Value} {base : Heap}

def sp_Literal_init (K : PySem.W.Frag) : Sp := fun vs H Q _ => ∃ (B : Hp) (x dx : Addr) (t d : V), vs = [.ref x, t, d] ∧ B x = none ∧ Ex B H ∧ H x = some (.ins (He.ga K "Literal") dx []) ∧
  ∀ H', Ex B H' → H' x = some (.ins (He.ga K "Literal") dx [("atom", t), ("is_denied", d)]) → Q .non H'
def sp_Clause_init (K : PySem.W.Frag) : Sp := fun vs H Q _ => ∃ (B : Hp) (x dx : Addr) (t d : V), vs = [.ref x, t, d] ∧ B x = none ∧ Ex B H ∧ H x = some (.ins (He.ga K "Clause") dx []) ∧
  ∀ H', Ex B H' → H' x = some (.ins (He.ga K "Clause") dx [("head", t), ("body", d)]) → Q .non H'
theorem sc_Literal___init__ : FnScope ["self", "atom", "is_denied"] ["self", "atom", "is_denied"] (defScope s_Literal___init__) := ⟨rfl, rfl, rfl, by decide +kernel, rfl, by decide +kernel, by decide +kernel⟩
theorem ok_Literal___init__ (Z : Zx K mg) : OkC prog w K mg base 1 "Literal" ["self", "atom", "is_denied"] (sp_Literal_init K) := by
  obtain ⟨fd, F0⟩ := Z.fun_ 15
  have F : Fun K "__init__" "Literal.__init__" s_Literal___init__ (He.ma K (He.ga K "Literal") "__init__") fd := Wk.fun_of F0
  have na_Literal_atom := Z.noat 103 (x := "Literal") (f := "atom")
  have na_Literal_is_denied := Z.noat 104 (x := "Literal") (f := "is_denied")
  have cl_Literal := Z.cls 100 (x := "Literal")
  refine ⟨fd, ?_, F.binds (ps := ["self", "atom", "is_denied"]) fun _ _ _ _ _ _ us hl => match us, hl with | [_, _, _], _ => rfl, Z.glo 50, Z.mkr 101⟩
  refine F.ok sc_Literal___init__ (fun vs H Q E h => ?_) (fun cdv A outer s H vs Q E hr h => ?_)
  · obtain ⟨B, x, dx, t, d, rfl, hB, e, hx, k⟩ := h
    rfl
  · obtain ⟨B, x, dx, t, d, rfl, hB, e, hx, k⟩ := h
    refine ⟨_, (pss_cons (ps_fld (pv 0) (pv 1) rfl) (pss_one (ps_fld (pv 0) (pv 2) rfl))), ?_⟩
    refine q_fld (v := t) (ev_var rfl) (ev_var rfl) hx cl_Literal na_Literal_atom (few rfl) (fun H1 e1 => ?_)
    have E1 := Ex.mut (o := .ins (He.ga K "Literal") dx (putF "atom" t [])) (e.trans e1) hB
    refine s_fld (v := d) (ev_var rfl) (ev_var rfl) upd_same cl_Literal na_Literal_is_denied (few rfl) (fun H2 e2 => ?_)
    exact k _ (Ex.mut (E1.trans e2) hB) upd_same
theorem sc_Clause___init__ : FnScope ["self", "head", "body"] ["self", "head", "body"] (defScope s_Clause___init__) := ⟨rfl, rfl, rfl, by decide +kernel, rfl, by decide +kernel, by decide +kernel⟩
theorem ok_Clause___init__ (Z : Zx K mg) : OkC prog w K mg base 1 "Clause" ["self", "head", "body"] (sp_Clause_init K) := by
  obtain ⟨fd, F0⟩ := Z.fun_ 16
  have F : Fun K "__init__" "Clause.__init__" s_Clause___init__ (He.ma K (He.ga K "Clause") "__init__") fd := Wk.fun_of F0
  have na_Clause_head := Z.noat 108 (x := "Clause") (f := "head")
  have na_Clause_body := Z.noat 109 (x := "Clause") (f := "body")
  have cl_Clause := Z.cls 105 (x := "Clause")
  refine ⟨fd, ?_, F.binds (ps := ["self", "head", "body"]) fun _ _ _ _ _ _ us hl => match us, hl with | [_, _, _], _ => rfl, Z.glo 51, Z.mkr 106⟩
  refine F.ok sc_Clause___init__ (fun vs H Q E h => ?_) (fun cdv A outer s H vs Q E hr h => ?_)
  · obtain ⟨B, x, dx, t, d, rfl, hB, e, hx, k⟩ := h
    rfl
  · obtain ⟨B, x, dx, t, d, rfl, hB, e, hx, k⟩ := h
    refine ⟨_, (pss_cons (ps_fld (pv 0) (pv 1) rfl) (pss_one (ps_fld (pv 0) (pv 2) rfl))), ?_⟩
    refine q_fld (v := t) (ev_var rfl) (ev_var rfl) hx cl_Clause na_Clause_head (few rfl) (fun H1 e1 => ?_)
    have E1 := Ex.mut (o := .ins (He.ga K "Clause") dx (putF "head" t [])) (e.trans e1) hB
    refine s_fld (v := d) (ev_var rfl) (ev_var rfl) upd_same cl_Clause na_Clause_body (few rfl) (fun H2 e2 => ?_)
    exact k _ (Ex.mut (E1.trans e2) hB) upd_same
def termV (z : List Sg) (v : V) (H : Hp) : Prop := TermAt z v H
def sp_atoms_of (K : PySem.W.Frag) : Sp := fun vs H Q _ => ∃ (z : Cl) (v : V), vs = [v] ∧ ClAt K z v H ∧ z.2.length ≤ 100 ∧ ∀ p ts H', H p = none → Ex H H' → H' p = some (.lst ts) → AllV TermAt (z.1 :: z.2.map Prod.fst) ts H' → Q (.ref p) H'
theorem sc_atoms_of : FnScope ["clause", "literal"] ["clause"] (defScope s_atoms_of) := ⟨rfl, rfl, rfl, by decide +kernel, rfl, by decide +kernel, by decide +kernel⟩
theorem ok_atoms_of (Z : Zx K mg) : OkD prog w K mg base CX0 1 "atoms_of" ["clause"] (sp_atoms_of K) := by
  obtain ⟨fd, F0⟩ := Z.fun_ 17
  have F : Fun K "atoms_of" "atoms_of" s_atoms_of (He.ga K "atoms_of") fd := Wk.fun_of F0
  have na_Literal_atom := Z.noat 103 (x := "Literal") (f := "atom")
  have na_Clause_head := Z.noat 108 (x := "Clause") (f := "head")
  have na_Clause_body := Z.noat 109 (x := "Clause") (f := "body")
  have cl_Clause := Z.cls 105 (x := "Clause")
  have cl_Literal := Z.cls 100 (x := "Literal")
  refine ⟨fd, ?_, F.binds (ps := ["clause"]) fun _ _ _ _ _ _ us hl => match us, hl with | [_], _ => rfl, Z.glo 10, F.kp⟩
  refine F.ok sc_atoms_of (fun vs H Q E h => ?_) (fun cdv A outer s H vs Q E hr h => ?_)
  · obtain ⟨z, v, rfl, ⟨p, dx, t, b, us, rfl, h1, h2, h3, h4⟩, hl, k⟩ := h
    rfl
  · obtain ⟨z, v, rfl, ⟨p, dx, t, b, us, rfl, h1, h2, h3, h4⟩, hl, k⟩ := h
    refine ⟨_, (pss_one (ps_ret (pe_op op_cat (pe_lst (pa_cons (pe_fld (pv 0) (by rfl)) pa_nil)) (pe_lc (te := (tFld K (tVar 1) "atom")) (own := [("literal", 1)]) rfl sc_atoms_of.nd (pi_list (pe_fld (pv 0) (by rfl))) (blkOk_by (own := [("literal", 1)]) (N := ["clause", "literal"]) (sc := defScope s_atoms_of) (by decide +kernel)) (fun _ _ _ _ _ => pg_name (i := 1) sc_atoms_of.nd rfl (Or.inl rfl)) (fun _ _ _ _ _ => pts_nil) (fun _ _ _ _ _ => (pe_fld (pv 1) (by rfl))))))), ?_⟩
    have hul := h4.1
    refine sx_ret (P := fun v H' => ∃ p ts, v = .ref p ∧ H p = none ∧ H' p = some (.lst ts) ∧ AllV TermAt (z.1 :: z.2.map Prod.fst) ts H') ?_ ?_
    · intro H0 e0 Q0 q0
      have hh : EvL (tLst (tCons (tFld K (tVar 0) "head") tNil)) (L2.start ["clause", "literal"] [V.ref p]) H [t] := el_lst (ea_cons (ev_fld (f := "head") (ev_var rfl) h1 cl_Clause na_Clause_head rfl) ea_nil) (few5 rfl)
      refine hh H0 e0 _ (fun l1 H1 hl1 e1 g1 => ?_)
      have hc : EvX (tLc (iList K (tFld K (tVar 0) "body")) (gName 1) tYes (tFld K (tVar 1) "atom") [1]) (L2.start ["clause", "literal"] [V.ref p]) H _ := x_lc (xs := us) (fun i t H => ∃ a, z.2[i]? = some a ∧ TermAt a.1 t H) (fun i v H H' n ⟨a, ha, h⟩ => ⟨a, ha, TermAt.mn _ _ _ _ n h⟩) (ei_L (K := K) (ev_fld (f := "body") (ev_var rfl) h1 cl_Clause na_Clause_body rfl) (sq_of h3)) (by omega) (fun _ => rfl) (fun i x hx H2 e2 => ?_)
      refine hc H1 (e0.trans e1) _ (fun v2 H2 e2 ⟨l2, ys, ev2, hl2, g2, g3, g4⟩ => ?_)
      rotate_left
      · obtain ⟨a, ha, pl, dl, tl, rfl, m1, m2⟩ := AllV.at h4 hx
        intro H3 e3 Q3 q3
        exact ev_fld (K := K) (f := "atom") (ev_var rfl) (e3 _ _ (e2 _ _ m1)) cl_Literal na_Literal_atom rfl H3 (Ex.refl _) _ (fun H4 e4 => q3 _ H4 e4 ⟨a, ha, (TermAt.mn a.1).mo _ _ _ (e2.trans (e3.trans e4)) m2⟩)
      · subst ev2
        refine ⟨l1, l2, [t], ys, rfl, rfl, e2 _ _ g1, g2, by rw [g3]; show 1 + us.length ≤ sizeLine; exact sz_of (by omega), fun q hq => ?_⟩
        have e3 : Ex H2 (upd H2 q (.lst ([t] ++ ys))) := Ex.new hq
        refine q0 _ _ ((e1.trans e2).trans e3) ⟨q, [t] ++ ys, rfl, fresh_back (e0.trans (e1.trans e2)) hq, upd_same, ?_, fun i v a hv ha => ?_⟩
        · rw [List.length_append, g3, hul]; simp; omega
        · cases i with
          | zero =>
            cases hv; cases ha
            exact (TermAt.mn z.1).mo _ _ _ ((e0.trans (e1.trans e2)).trans e3) h2
          | succ i =>
            have hv' : ys[i]? = some v := hv
            have ha' : (z.2.map Prod.fst)[i]? = some a := ha
            obtain ⟨c, hc, m⟩ := g4 i v hv'
            rw [List.getElem?_map, hc] at ha'
            cases ha'
            exact (TermAt.mn c.1).mo _ _ _ e3 m
    · rintro v H1 e1 ⟨q, ts, rfl, hq, hts, hall⟩
      exact k q ts H1 hq e1 hts hall

end
end Tx
end
section
set_option Elab.async false
set_option linter.all false
set_option maxRecDepth 100000
set_option maxHeartbeats 4000000
namespace Tx
open PySem PySem.Spec PyProof.Rows L2 Evl Wk
section
variable {w : World} {K : PySem.W.Frag} {mg : Str → Option Value} {base : Heap}

def SzC (z : Cl) : Prop := z.2.length ≤ 10 ∧ ∀ a, a ∈ z.1 :: z.2.map Prod.fst → a.length ≤ 5000
def sp_all_variables (K : PySem.W.Frag) : Sp := fun vs H Q _ => ∃ (z : Cl) (v : V), vs = [v] ∧ ClAt K z v H ∧ SzC z ∧ RetL [] H Q
theorem sc_all_variables : FnScope ["clause", "signs", "atom"] ["clause"] (defScope s_all_variables) := ⟨rfl, rfl, rfl, by decide +kernel, rfl, by decide +kernel, by decide +kernel⟩
theorem ok_all_variables (Z : Zx K mg) : OkD prog w K mg base CX0 3 "all_variables" ["clause"] (sp_all_variables K) := by
  obtain ⟨fd, F0⟩ := Z.fun_ 19
  have F : Fun K "all_variables" "all_variables" s_all_variables (He.ga K "all_variables") fd := Wk.fun_of F0
  obtain ⟨_, g_atoms_of, b_atoms_of, m_atoms_of, k_atoms_of⟩ := ok_atoms_of (w := w) (base := base) Z
  obtain ⟨_, g_variables_of, b_variables_of, m_variables_of, k_variables_of⟩ := ok_variables_of (w := w) (base := base) Z
  have n_tuple := Z.free 71 (x := "tuple")
  refine ⟨fd, ?_, F.binds (ps := ["clause"]) fun _ _ _ _ _ _ us hl => match us, hl with | [_], _ => rfl, Z.glo 12, F.kp⟩
  refine F.ok sc_all_variables (fun vs H Q E h => ?_) (fun cdv A outer s H vs Q E hr h => ?_)
  · obtain ⟨z, v, rfl, hc, ⟨hz1, hz2⟩, k⟩ := h
    rfl
  · obtain ⟨z, v, rfl, hc, ⟨hz1, hz2⟩, k⟩ := h
    refine ⟨_, (pss_cons (ps_set (i := 1) sc_all_variables.nd rfl (by first | exact Or.inl rfl | exact Or.inr rfl) (pe_lst pa_nil)) (pss_cons (ps_for PassesOwn.never rfl (pi_list (pe_call g_atoms_of (hr.mono (by decide)) (by rfl) m_atoms_of k_atoms_of b_atoms_of .nil pass0 (pa_cons (pv 0) pa_nil))) (pg_name (i := 2) sc_all_variables.nd rfl (by first | exact Or.inl rfl | exact Or.inr rfl)) (pss_one (ps_expr (pe_bm PySem.F.plainAttrs_list PySem.F.slot_list_extend PySem.F.type_list_extend mt_extendT (pv 1) (pa_cons (pv 2) pa_nil))))) (pss_one (ps_ret (pe_call g_variables_of (hr.mono (by decide)) (by rfl) m_variables_of k_variables_of b_variables_of .nil pass0 (pa_cons (pe_callTy call_tuple_of (by rfl) n_tuple (by decide +kernel) (pa_cons (pv 1) pa_nil)) pa_nil)))))), ?_⟩
    refine q_asgL (xs := []) (el_lst ea_nil (few5 rfl)) (fun o H1 ho e1 h1 => ?_)
    have hal : (z.1 :: z.2.map Prod.fst).length = z.2.length + 1 := by simp
    refine q_forX (K := K) (PL := fun p ts H' => AllV TermAt (z.1 :: z.2.map Prod.fst) ts H') (x_call (ea_cons (ev_var rfl) ea_nil) (fun H2 e2 Q2 q2 E2 => ⟨z, v, rfl, ClAt.mo _ _ _ _ _ (e1.trans e2) hc, by omega, fun p ts H3 hp e3 h3 h4 => q2 _ H3 e3 ⟨p, ts, rfl, fresh_back e2 hp, h3, h4⟩⟩)) (fun q ts H2 hq e2 hts hall => ?_)
    have hlen := hall.1
    refine ⟨fun i σ' H' => ∃ s2, σ' = [some v, some (.ref o), s2] ∧ Ex H H' ∧ H' q = some (.lst ts) ∧ Tu H2 H' ∧ ∃ us zs, H' o = some (.lst us) ∧ SgL H' us zs ∧ us.length ≤ i * 5000, ⟨none, rfl, e1.trans e2, hts, .refl _, [], [], e2 _ _ h1, SgL.nil _, by simp⟩, fun i σ' H' hi ⟨s2, _, _, h, _⟩ => sq_of h, ?_, ?_⟩
    · rintro i x σ' H' hx ⟨s2, rfl, e, hq', tu, us, zs, g1, g2, g3⟩
      have hi : i < ts.length := (List.getElem?_eq_some_iff.mp hx).1
      obtain ⟨a, ha, p, ws, rfl, m1, m2⟩ := AllV.at hall hx
      have hm := hz2 a (List.mem_of_getElem? ha)
      have hwl := m2.1
      have hqo : q ≠ o := fun h => by
        subst h
        rw [h1] at hq
        cases hq
      refine s_extT (xs := us) (zs := ws) g1 (ev_var rfl) (ev_var rfl) (tu _ _ m1) (by have : i * 5000 ≤ 10 * 5000 := Nat.mul_le_mul_right _ (by omega); omega) (fun H3 e3 => ?_)
      have t3 : Tu H' (upd H3 o (.lst (us ++ ws))) := (Tu.of e3).trans (.lst (e3 _ _ g1))
      refine ⟨_, rfl, Ex.mut (e.trans e3) (fresh_back (Ex.refl _) ho), ?_, tu.trans t3, us ++ ws, zs ++ a, upd_same, ?_, ?_⟩
      · rw [upd_ne hqo]; exact e3 _ _ hq'
      · exact SgL.cat (g2.tu t3) ((m2.tu tu).tu t3)
      · rw [List.length_append, Nat.add_mul]; omega
    · rintro σ' H' ⟨s2, rfl, e, hq', tu, us, zs, g1, g2, g3⟩
      refine sx_ret (P := fun v H2 => ∃ p, v = .ref p ∧ H' p = none ∧ H2 p = some (.lst [])) (x_callX (x_one (x_evU (eu_tuple (K := K) (ev_var rfl) (sq_of g1)))) ?_) ?_
      · rintro vs H3 e3 ⟨v3, rfl, p, rfl, hp⟩ Q3 q3 E3
        exact ⟨zs, .ref p, rfl, ⟨p, us, rfl, hp, g2.tu (.of e3)⟩, fun p2 H4 hp2 e4 h4 => q3 _ H4 e4 ⟨p2, rfl, fresh_back e3 hp2, h4⟩⟩
      · rintro v3 H3 e3 ⟨p, rfl, hp, h3⟩
        exact k p H3 (fresh_back e hp) (e.trans e3) h3
def sp_changed_clause (K : PySem.W.Frag) : Sp := fun vs H Q _ => ∃ (z : Cl) (v : V) (d : Addr), vs = [v, .ref d] ∧ ClAt K z v H ∧ SzC z ∧ ∀ u H', Ex H H' → ClAtB K H z u H' → Q u H'
theorem sc_changed_clause : FnScope ["clause", "change", "body", "literal"] ["clause", "change"] (defScope s_changed_clause) := ⟨rfl, rfl, rfl, by decide +kernel, rfl, by decide +kernel, by decide +kernel⟩
theorem ok_changed_clause (Z : Zx K mg) : OkD prog w K mg base CX0 3 "changed_clause" ["clause", "change"] (sp_changed_clause K) := by
  obtain ⟨fd, F0⟩ := Z.fun_ 18
  have F : Fun K "changed_clause" "changed_clause" s_changed_clause (He.ga K "changed_clause") fd := Wk.fun_of F0
  obtain ⟨_, g_put_in, b_put_in, m_put_in, k_put_in⟩ := ok_put_in (w := w) (base := base) Z
  obtain ⟨_, g_Clause, b_Clause, m_Clause, k_Clause⟩ := ok_Clause___init__ (w := w) (base := base) Z
  obtain ⟨_, g_Literal, b_Literal, m_Literal, k_Literal⟩ := ok_Literal___init__ (w := w) (base := base) Z
  have na_Literal_atom := Z.noat 103 (x := "Literal") (f := "atom")
  have na_Literal_is_denied := Z.noat 104 (x := "Literal") (f := "is_denied")
  have na_Clause_head := Z.noat 108 (x := "Clause") (f := "head")
  have na_Clause_body := Z.noat 109 (x := "Clause") (f := "body")
  have cl_Clause := Z.cls 105 (x := "Clause")
  have cl_Literal := Z.cls 100 (x := "Literal")
  refine ⟨fd, ?_, F.binds (ps := ["clause", "change"]) fun _ _ _ _ _ _ us hl => match us, hl with | [_, _], _ => rfl, Z.glo 11, F.kp⟩
  refine F.ok sc_changed_clause (fun vs H Q E h => ?_) (fun cdv A outer s H vs Q E hr h => ?_)
  · obtain ⟨z, v, d, rfl, ⟨p, dx, t, b, us, rfl, h1, h2, h3, h4⟩, ⟨hz1, hz2⟩, k⟩ := h
    rfl
  · obtain ⟨z, v, d, rfl, ⟨p, dx, t, b, us, rfl, h1, h2, h3, h4⟩, ⟨hz1, hz2⟩, k⟩ := h
    refine ⟨_, (pss_cons (ps_setLc (i := 2) (te := (tMake (He.ga K "Literal") (sp_Literal_init K) [] (fun _ _ _ => False) (tCons (tCall (sp_put_in) [] (fun _ _ _ => False) (tCons (tVar 1) (tCons (tFld K (tVar 3) "atom") tNil))) (tCons (tFld K (tVar 3) "is_denied") tNil)))) (own := [("literal", 3)]) rfl sc_changed_clause.nd rfl rfl (sw_true rfl rfl rfl (by decide +kernel)) (pi_list (pe_fld (pv 0) (by rfl))) (blkOk_by (own := [("literal", 3)]) (N := ["clause", "change", "body", "literal"]) (sc := defScope s_changed_clause) (by decide +kernel)) (fun _ _ _ _ _ => pg_name (i := 3) sc_changed_clause.nd rfl (Or.inl rfl)) (fun _ _ _ _ _ => pts_nil) (fun _ _ _ _ _ => (pe_make k_Literal g_Literal (hr.mono (by decide)) (by rfl) m_Literal b_Literal .nil pass0 (pa_cons (pe_call g_put_in (hr.mono (by decide)) (by rfl) m_put_in k_put_in b_put_in .nil pass0 (pa_cons (pv 1) (pa_cons (pe_fld (pv 3) (by rfl)) pa_nil))) (pa_cons (pe_fld (pv 3) (by rfl)) pa_nil))))) (pss_one (ps_ret (pe_make k_Clause g_Clause (hr.mono (by decide)) (by rfl) m_Clause b_Clause .nil pass0 (pa_cons (pe_call g_put_in (hr.mono (by decide)) (by rfl) m_put_in k_put_in b_put_in .nil pass0 (pa_cons (pv 1) (pa_cons (pe_fld (pv 0) (by rfl)) pa_nil))) (pa_cons (pv 2) pa_nil)))))), ?_⟩
    have hul := h4.1
    refine qx_asg (P := fun v H' => ∃ q ys, v = .ref q ∧ H q = none ∧ H' q = some (.lst ys) ∧ ys.length = us.length ∧ ∀ (i : Nat) y, ys[i]? = some y → ∃ a, z.2[i]? = some a ∧ LitAt K a y H') (x_lc (xs := us) (fun i u H => ∃ a, z.2[i]? = some a ∧ LitAt K a u H) (fun i v H H' n ⟨a, ha, h⟩ => ⟨a, ha, LitAt.mn _ _ _ _ _ n h⟩) (ei_L (K := K) (ev_fld (f := "body") (ev_var rfl) h1 cl_Clause na_Clause_body rfl) (sq_of h3)) (by omega) (fun _ => rfl) (fun i x hx H1 e1 => ?_)) (fun v H1 e1 ⟨q, ys, ev, hq, g1, g2, g3⟩ => ?_)
    · obtain ⟨a, ha, pl, dl, tl, rfl, m1, m2⟩ := AllV.at h4 hx
      have hal : a.1.length ≤ 5000 := hz2 a.1 (List.mem_cons_of_mem _ (List.mem_map_of_mem (List.mem_of_getElem? ha)))
      refine x_make (PA := fun us _ => us = [tl, .bl a.2]) (x_ofA (ea_cons (ev_call (z := tl) (ea_cons (ev_var rfl) (ea_cons (ev_fld (f := "atom") (ev_var rfl) (e1 _ _ m1) cl_Literal na_Literal_atom rfl) ea_nil)) (fun H2 e2 Q2 q2 E2 => ⟨a.1, tl, d, rfl, TermAt.mo _ _ _ _ (e1.trans e2) m2, hal, q2⟩)) (ea_cons (ev_fld (f := "is_denied") (ev_var rfl) (e1 _ _ m1) cl_Literal na_Literal_is_denied rfl) ea_nil))) ?_
      rintro vs H2 x dx e2 rfl hx2 hdx hn Q2 q2 E2
      exact ⟨H2, x, dx, tl, .bl a.2, rfl, hx2, Ex.mut (Ex.new hdx) hx2, upd_same, fun H3 e3 h3 => q2 H3 e3 ⟨a, ha, x, dx, tl, rfl, h3, TermAt.mo _ _ _ _ ((e1.trans e2).trans e3) m2⟩⟩
    · subst ev
      refine sx_ret (P := ClAtB K H z) (x_make (PA := fun us _ => us = [t, .ref q]) (x_ofA (ea_cons (ev_call (z := t) (ea_cons (ev_var rfl) (ea_cons (ev_fld (f := "head") (ev_var rfl) (e1 _ _ h1) cl_Clause na_Clause_head rfl) ea_nil)) (fun H2 e2 Q2 q2 E2 => ⟨z.1, t, d, rfl, TermAt.mo _ _ _ _ (e1.trans e2) h2, hz2 _ List.mem_cons_self, q2⟩)) (ea_cons (ev_var rfl) ea_nil))) ?_) (fun u H2 e2 hu => k u H2 (e1.trans e2) hu)
      rintro vs H2 x dx e2 rfl hx2 hdx hn Q2 q2 E2
      refine ⟨H2, x, dx, t, .ref q, rfl, hx2, Ex.mut (Ex.new hdx) hx2, upd_same, fun H3 e3 h3 => q2 H3 e3 ⟨x, dx, t, q, ys, rfl, h3, TermAt.mo _ _ _ _ ((e1.trans e2).trans e3) h2, e3 _ _ (e2 _ _ g1), ⟨by rw [g2, hul], fun i y a hy ha => ?_⟩, hq⟩⟩
      obtain ⟨a', ha', hl⟩ := g3 i y hy
      rw [ha] at ha'
      cases ha'
      exact (LitAt.mn K a).mo _ _ _ (e2.trans e3) hl
def sp_clause_from (K : PySem.W.Frag) : Sp := fun vs H Q _ => ∃ (z : Cl) (v : V) (n : Int), vs = [v, .int n] ∧ ClAt K z v H ∧ SzC z ∧ ∀ u H', Ex H H' → ClAtB K H z u H' → Q u H'
theorem sc_clause_from : FnScope ["clause", "start", "change", "at", "variable"] ["clause", "start"] (defScope s_clause_from) := ⟨rfl, rfl, rfl, by decide +kernel, rfl, by decide +kernel, by decide +kernel⟩
theorem ok_clause_from (Z : Zx K mg) : OkD prog w K mg base CX0 4 "clause_from" ["clause", "start"] (sp_clause_from K) := by
  obtain ⟨fd, F0⟩ := Z.fun_ 20
  have F : Fun K "clause_from" "clause_from" s_clause_from (He.ga K "clause_from") fd := Wk.fun_of F0
  obtain ⟨_, g_all_variables, b_all_variables, m_all_variables, k_all_variables⟩ := ok_all_variables (w := w) (base := base) Z
  obtain ⟨_, g_changed_clause, b_changed_clause, m_changed_clause, k_changed_clause⟩ := ok_changed_clause (w := w) (base := base) Z
  have n_enumerate := Z.free 60 (x := "enumerate")
  refine ⟨fd, ?_, F.binds (ps := ["clause", "start"]) fun _ _ _ _ _ _ us hl => match us, hl with | [_, _], _ => rfl, Z.glo 13, F.kp⟩
  refine F.ok sc_clause_from (fun vs H Q E h => ?_) (fun cdv A outer s H vs Q E hr h => ?_)
  · obtain ⟨z, v, n, rfl, hc, hz, k⟩ := h
    rfl
  · obtain ⟨z, v, n, rfl, hc, hz, k⟩ := h
    refine ⟨_, (pss_cons (ps_set (i := 2) sc_clause_from.nd rfl (by first | exact Or.inl rfl | exact Or.inr rfl) pe_dnewK) (pss_cons (ps_for PassesOwn.never rfl (pi_enum (by rfl) n_enumerate (pa_cons (pe_call g_all_variables (hr.mono (by decide)) (by rfl) m_all_variables k_all_variables b_all_variables .nil pass0 (pa_cons (pv 0) pa_nil)) pa_nil)) (pg_tup rfl (pgs_cons (pg_name (i := 3) sc_clause_from.nd rfl (by first | exact Or.inl rfl | exact Or.inr rfl)) (pgs_cons (pg_name (i := 4) sc_clause_from.nd rfl (by first | exact Or.inl rfl | exact Or.inr rfl)) pgs_nil))) (pss_one ps_never)) (pss_one (ps_ret (pe_call g_changed_clause (hr.mono (by decide)) (by rfl) m_changed_clause k_changed_clause b_changed_clause .nil pass0 (pa_cons (pv 0) (pa_cons (pv 2) pa_nil))))))), ?_⟩
    refine q_dnew (fun o H1 ho e1 h1 => ?_)
    refine q_forEnum0 (K := K) ((x_call (P := fun v H' => ∃ p, v = .ref p ∧ H' p = some (.lst [])) (ea_cons (ev_var rfl) ea_nil) (fun H2 e2 Q2 q2 E2 => ⟨z, v, rfl, ClAt.mo _ _ _ _ _ (e1.trans e2) hc, hz, fun p H3 hp e3 h3 => q2 _ H3 e3 ⟨p, rfl, h3⟩⟩))) (fun H2 e2 => ?_)
    refine sx_ret (P := ClAtB K H z) (x_call (ea_cons (ev_var rfl) (ea_cons (ev_var rfl) ea_nil)) (fun H3 e3 Q3 q3 E3 => ⟨z, v, o, rfl, ClAt.mo _ _ _ _ _ ((e1.trans e2).trans e3) hc, hz, fun u H4 e4 hu => q3 u H4 e4 (hu.back ((e1.trans e2).trans e3))⟩)) (fun u H3 e3 hu => k u H3 ((e1.trans e2).trans e3) hu)

end
end Tx
end
section
set_option Elab.async false
set_option linter.all false
set_option maxRecDepth 100000
set_option maxHeartbeats 4000000
namespace Tx
open PySem PySem.Spec PyProof.Rows L2 Evl Wk
section
variable {w : World} {K : PySem.W.Frag} {mg : Str → Option Value} {base : Heap}

def sp_read_literal (K : PySem.W.Frag) : Sp := fun vs H Q _ => ∃ (l : List Nat) (s : Nat) (nm : Addr), vs = [.str (tx l), .int (s : Int), .ref nm] ∧ l.length ≤ 5000 ∧ s ≤ l.length ∧ NoG l ∧ ∀ v H', Ex H H' → ReadL K (readLit l s) v H' → Q v H'
theorem sc_read_literal : FnScope ["line", "start", "names", "is_denied", "found"] ["line", "start", "names"] (defScope s_read_literal) := ⟨rfl, rfl, rfl, by decide +kernel, rfl, by decide +kernel, by decide +kernel⟩
theorem ok_read_literal (Z : Zx K mg) : OkD prog w K mg base CX0 4 "read_literal" ["line", "start", "names"] (sp_read_literal K) := by
  obtain ⟨fd, F0⟩ := Z.fun_ 22
  have F : Fun K "read_literal" "read_literal" s_read_literal (He.ga K "read_literal") fd := Wk.fun_of F0
  have c_MOST_DEEP := Z.int 79 (x := "MOST_DEEP")
  have c_NOT := Z.str 82 (x := "NOT")
  obtain ⟨_, g_depth_of, b_depth_of, m_depth_of, k_depth_of⟩ := ok_depth_of (w := w) (base := base) Z
  obtain ⟨_, g_is_atom, b_is_atom, m_is_atom, k_is_atom⟩ := ok_is_atom (w := w) (base := base) Z
  obtain ⟨_, g_read_term, b_read_term, m_read_term, k_read_term⟩ := ok_read_term (w := w) (base := base) Z
  obtain ⟨_, g_Literal, b_Literal, m_Literal, k_Literal⟩ := ok_Literal___init__ (w := w) (base := base) Z
  have n_len := Z.free 63 (x := "len")
  refine ⟨fd, ?_, F.binds (ps := ["line", "start", "names"]) fun _ _ _ _ _ _ us hl => match us, hl with | [_, _, _], _ => rfl, Z.glo 15, F.kp⟩
  refine F.ok sc_read_literal (fun vs H Q E h => ?_) (fun cdv A outer s H vs Q E hr h => ?_)
  · obtain ⟨l, s, nm, rfl, hl, hs, hG, k⟩ := h
    rfl
  · obtain ⟨l, s, nm, rfl, hl, hs, hG, k⟩ := h
    refine ⟨_, (pss_cons (ps_set (i := 3) sc_read_literal.nd rfl (by first | exact Or.inl rfl | exact Or.inr rfl) (pe_cmpR op_eq (pe_slice sl_str (pv 0) (po_some (pv 1)) (po_some (pe_op op_add (pv 1) (pe_callB call_len_str (by rfl) n_len (by decide +kernel) (pa_cons (pe_gs c_NOT) pa_nil))))) (pe_gs c_NOT) (nomark _))) (pss_cons (ps_set (i := 4) sc_read_literal.nd rfl (by first | exact Or.inl rfl | exact Or.inr rfl) (pe_call g_read_term (hr.mono (by decide)) (by rfl) m_read_term k_read_term b_read_term .nil pass0 (pa_cons (pv 0) (pa_cons (pe_op op_add (pv 1) (pe_ifExp (pt_val (pv 3)) (pe_callB call_len_str (by rfl) n_len (by decide +kernel) (pa_cons (pe_gs c_NOT) pa_nil)) pe_int)) (pa_cons (pv 2) pa_nil))))) (pss_cons (ps_if (pw_or (pt_cmpR op_isN (pv 4) pe_non (nomark _)) (pw_or (pt_not (pt_val (pe_call g_is_atom (hr.mono (by decide)) (by rfl) m_is_atom k_is_atom b_is_atom .nil pass0 (pa_cons (pe_ix ix_tup (pv 4) pe_int (fun _ _ => rfl)) pa_nil)))) (pw_or1 (pt_cmpR op_gt (pe_call g_depth_of (hr.mono (by decide)) (by rfl) m_depth_of k_depth_of b_depth_of .nil pass0 (pa_cons (pe_ix ix_tup (pv 4) pe_int (fun _ _ => rfl)) pa_nil)) (pe_gi c_MOST_DEEP) (nomark _))))).pt (pss_one (ps_ret pe_non)) pss_nil) (pss_one (ps_ret (pe_tup (pa_cons (pe_make k_Literal g_Literal (hr.mono (by decide)) (by rfl) m_Literal b_Literal .nil pass0 (pa_cons (pe_ix ix_tup (pv 4) pe_int (fun _ _ => rfl)) (pa_cons (pv 3) pa_nil))) (pa_cons (pe_ix ix_tup (pv 4) pe_int (fun _ _ => rfl)) pa_nil)))))))), ?_⟩
    have hz : (tx l).length ≤ sizeLine := tx_sz hl
    have h4 : (("not " : Str).length : Int) = 4 := by rw [not_eq]; rfl
    refine q_asg (v := .bl (isNot l s)) (ev_is (ev_op (ev_slS (ev_var rfl) (eo_some (ev_var rfl)) (eo_some (ev_op (ev_var rfl) (ev_lenS ev_c (by rw [not_eq]; decide)) rv_I0)) hz) ev_c (rv_eq (by rfl))) ?_) (fun H1 e1 => ?_)
    · rw [h4, show (4 : Int) = ((4 : Nat) : Int) from rfl, cut_take, not_eq]
      unfold isNot
      congr 1
      rw [decide_eq_decide]
      constructor
      · intro h; exact tx_inj (V.str.inj h)
      · intro h; rw [h]
    refine qx_asg (P := ReadV (readT l (s + if isNot l s then 4 else 0))) (x_call (vs := [.str (tx l), .int ((s + if isNot l s then 4 else 0 : Nat) : Int), .ref nm]) (ea_cons (ev_var rfl) (ea_cons (ev_is (ev_op (ev_var rfl) (ev_if (v := .int (if isNot l s then 4 else 0)) (et_B (ev_var rfl)) (fun h => ev_is (ev_lenS ev_c (by rw [not_eq]; decide)) (by rw [h4, h]; rfl)) (fun h => ev_is ev_c (by rw [h]; rfl))) rv_I0) ?_) (ea_cons (ev_var rfl) ea_nil))) (fun H2 e2 Q2 q2 E2 => ⟨l, _, nm, rfl, hl, isNot_le hs, hG, q2⟩)) (fun v H2 e2 hv => ?_)
    · congr 1
      split <;> simp
    generalize hr : readT l (s + if isNot l s then 4 else 0) = o at *
    cases o with
    | none =>
      cases hv
      refine q_when (b := true) (et_or (a := true) (b := true) (et_test (ev_op (ev_var rfl) ev_c (fun H6 e7 Q1 q1 => ⟨rfl, q1 H6 (Ex.refl _)⟩))) (fun h => absurd h (by decide))) (fun _ H3 e3 => s_ret ev_c (fun H4 e4 => k _ H4 ((e1.trans e2).trans (e3.trans e4)) ?_)) (fun h => absurd h (by decide))
      unfold readLit
      rw [hr]
      rfl
    | some z =>
      obtain ⟨zs, e⟩ := z
      obtain ⟨p, t, rfl, hp, ht⟩ := hv
      have hzz := readT_sz (isNot_le hs) hr
      have ev0 : ∀ H', Ex H2 H' → Ev (tOp (rIxT K) (tVar 4) (tC (.int 0))) [some (.str (tx l)), some (.int (s : Int)), some (.ref nm), some (.bl (isNot l s)), some (.ref p)] H' t := fun H' e' => ev_op (ev_var rfl) ev_c (rv_ixT (i := 0) (st_of (e' _ _ hp)) rfl)
      refine q_when (b := decide (depthOf zs > 4)) (et_is (et_or (a := false) (b := false || decide (depthOf zs > 4)) (et_is (et_test (ev_op (ev_var rfl) ev_c (fun H6 e7 Q1 q1 => ⟨rfl, q1 H6 (Ex.refl _)⟩))) (by rw [decide_eq_false_iff_not]; intro h; cases h)) (fun _ => et_or (a := false) (et_not (a := true) (et_B (ev_call (z := .bl true) (ea_cons (ev0 _ (Ex.refl _)) ea_nil) (fun H3 e3 Q3 q3 E3 => ⟨zs, t, rfl, TermAt.mo _ _ _ _ e3 ht, List.length_pos_iff.mp hzz.1, q3⟩)))) (fun _ => et_test (ev_op (ev_call (z := .int (depthOf zs)) (ea_cons (ev0 _ (Ex.refl _)) ea_nil) (fun H3 e3 Q3 q3 E3 => ⟨zs, t, rfl, TermAt.mo _ _ _ _ e3 ht, by omega, q3⟩)) ev_c rv_I0)))) (by rw [Bool.false_or, Bool.false_or])) (fun hb H3 e3 => ?_) (fun hb H3 e3 => ?_)
      · refine s_ret ev_c (fun H4 e4 => k _ H4 ((e1.trans e2).trans (e3.trans e4)) ?_)
        unfold readLit
        rw [hr]
        dsimp only
        rw [if_pos (of_decide_eq_true hb)]
        rfl
      · refine sx_ret (P := LitR K (zs, isNot l s) e) ((x_tup (x_cons (P := LitAt K (zs, isNot l s)) (x_make (PA := fun us _ => us = [t, .bl (isNot l s)]) (x_ofA (ea_cons (ev0 _ e3) (ea_cons (ev_var rfl) ea_nil))) ?_) (LitAt.mn K _).mo (x_ofA (ea_cons (ev_op (ev_var rfl) ev_c (rv_ixT (i := 1) (v := .int (e : Int)) (st_of (e3 _ _ hp)) rfl)) ea_nil))) ?_ ?_).imp ?_) (fun v H4 e4 hv => k v H4 ((e1.trans e2).trans (e3.trans e4)) ?_)
        · rintro vs H4 x dx e4 rfl hx hdx hn Q4 q4 E4
          exact ⟨H4, x, dx, t, .bl (isNot l s), rfl, hx, Ex.mut (Ex.new hdx) hx, upd_same, fun H5 e5 h5 => q4 H5 e5 ⟨x, dx, t, rfl, h5, TermAt.mo _ _ _ _ (e3.trans (e4.trans e5)) ht⟩⟩
        · rintro us H8 H9 e9 ⟨t', rr, rfl, h1, h2⟩
          exact ⟨t', rr, rfl, (LitAt.mn K _).mo _ _ _ e9 h1, h2⟩
        · rintro us H8 ⟨t', rr, rfl, h1, rfl⟩
          exact few5 rfl
        · rintro u H8 ⟨p', us, rfl, h8, t', rr, rfl, h1, rfl⟩
          exact ⟨p', t', rfl, h8, h1⟩
        · unfold readLit
          rw [hr]
          dsimp only
          rw [if_neg (of_decide_eq_false hb)]
          exact hv

end
end Tx
end
section
set_option Elab.async false
set_option linter.all false
set_option maxRecDepth 100000
set_option maxHeartbeats 4000000
namespace Tx
open PySem PySem.Spec PyProof.Rows L2 Evl Wk
section
variable {w : World} {K : PySem.W.Frag} {mg : Str → Option Value} {base : Heap}

def sp_read_clause (K : PySem.W.Frag) : Sp := fun vs H Q _ => ∃ (l : List Nat), vs = [.str (tx l)] ∧ l.length ≤ 5000 ∧ NoG l ∧ ∀ v H', Ex H H' → ReadC K H (readCl l) v H' → Q v H'
theorem sc_read_clause : FnScope ["line", "names", "first", "body", "place", "ahead", "found"] ["line"] (defScope s_read_clause) := ⟨rfl, rfl, rfl, by decide +kernel, rfl, by decide +kernel, by decide +kernel⟩
theorem ok_read_clause (Z : Zx K mg) : OkD prog w K mg base CX0 5 "read_clause" ["line"] (sp_read_clause K) := by
  obtain ⟨fd, F0⟩ := Z.fun_ 23
  have F : Fun K "read_clause" "read_clause" s_read_clause (He.ga K "read_clause") fd := Wk.fun_of F0
  have c_MOST_BODY := Z.int 78 (x := "MOST_BODY")
  have c_MOST_LINE := Z.int 81 (x := "MOST_LINE")
  obtain ⟨_, g_clause_from, b_clause_from, m_clause_from, k_clause_from⟩ := ok_clause_from (w := w) (base := base) Z
  obtain ⟨_, g_read_literal, b_read_literal, m_read_literal, k_read_literal⟩ := ok_read_literal (w := w) (base := base) Z
  obtain ⟨_, g_Clause, b_Clause, m_Clause, k_Clause⟩ := ok_Clause___init__ (w := w) (base := base) Z
  have n_len := Z.free 63 (x := "len")
  have na_Literal_atom := Z.noat 103 (x := "Literal") (f := "atom")
  have na_Literal_is_denied := Z.noat 104 (x := "Literal") (f := "is_denied")
  have cl_Literal := Z.cls 100 (x := "Literal")
  refine ⟨fd, ?_, F.binds (ps := ["line"]) fun _ _ _ _ _ _ us hl => match us, hl with | [_], _ => rfl, Z.glo 16, F.kp⟩
  refine F.ok sc_read_clause (fun vs H Q E h => ?_) (fun cdv A outer s H vs Q E hr h => ?_)
  · obtain ⟨l, rfl, hl, hG, k⟩ := h
    rfl
  · obtain ⟨l, rfl, hl, hG, k⟩ := h
    refine ⟨_, (pss_cons (ps_set (i := 1) sc_read_clause.nd rfl (by first | exact Or.inl rfl | exact Or.inr rfl) pe_dnewK) (pss_cons (ps_set (i := 2) sc_read_clause.nd rfl (by first | exact Or.inl rfl | exact Or.inr rfl) (pe_call g_read_literal (hr.mono (by decide)) (by rfl) m_read_literal k_read_literal b_read_literal .nil pass0 (pa_cons (pv 0) (pa_cons pe_int (pa_cons (pv 1) pa_nil))))) (pss_cons (ps_if (pw_or (pt_cmpR op_isN (pv 2) pe_non (nomark _)) (pw_or (pt_val (pe_fld (pe_ix ix_tup (pv 2) pe_int (fun _ _ => rfl)) (by rfl))) (pw_or1 (pt_cmpR op_gt (pe_callB call_len_str (by rfl) n_len (by decide +kernel) (pa_cons (pv 0) pa_nil)) (pe_gi c_MOST_LINE) (nomark _))))).pt (pss_one (ps_ret pe_non)) pss_nil) (pss_cons (ps_set (i := 3) sc_read_clause.nd rfl (by first | exact Or.inl rfl | exact Or.inr rfl) (pe_lst pa_nil)) (pss_cons (ps_set (i := 4) sc_read_clause.nd rfl (by first | exact Or.inl rfl | exact Or.inr rfl) (pe_ix ix_tup (pv 2) pe_int (fun _ _ => rfl))) (pss_cons (ps_set (i := 5) sc_read_clause.nd rfl (by first | exact Or.inl rfl | exact Or.inr rfl) pe_str) (pss_cons (ps_while PassesOwn.never (pt_cmpR op_ne (pe_slice sl_str (pv 0) (po_some (pv 4)) po_none) pe_str (nomark _)) (pss_cons (ps_if (pw_or (pt_cmpR op_ne (pe_slice sl_str (pv 0) (po_some (pv 4)) (po_some (pe_op op_add (pv 4) (pe_callB call_len_str (by rfl) n_len (by decide +kernel) (pa_cons (pv 5) pa_nil))))) (pv 5) (nomark _)) (pw_or1 (pt_cmpR op_eq (pe_callB call_len_seq (by rfl) n_len (by decide +kernel) (pa_cons (pv 3) pa_nil)) (pe_gi c_MOST_BODY) (nomark _)))).pt (pss_one (ps_ret pe_non)) pss_nil) (pss_cons (ps_set (i := 6) sc_read_clause.nd rfl (by first | exact Or.inl rfl | exact Or.inr rfl) (pe_call g_read_literal (hr.mono (by decide)) (by rfl) m_read_literal k_read_literal b_read_literal .nil pass0 (pa_cons (pv 0) (pa_cons (pe_op op_add (pv 4) (pe_callB call_len_str (by rfl) n_len (by decide +kernel) (pa_cons (pv 5) pa_nil))) (pa_cons (pv 1) pa_nil))))) (pss_cons (ps_if (pt_cmpR op_isN (pv 6) pe_non (nomark _)) (pss_one (ps_ret pe_non)) pss_nil) (pss_cons (ps_expr (pe_bm PySem.F.plainAttrs_list PySem.F.slot_list_append PySem.F.type_list_append mt_append (pv 3) (pa_cons (pe_ix ix_tup (pv 6) pe_int (fun _ _ => rfl)) pa_nil))) (pss_cons (ps_set (i := 4) sc_read_clause.nd rfl (by first | exact Or.inl rfl | exact Or.inr rfl) (pe_ix ix_tup (pv 6) pe_int (fun _ _ => rfl))) (pss_one (ps_set (i := 5) sc_read_clause.nd rfl (by first | exact Or.inl rfl | exact Or.inr rfl) pe_str)))))))) (pss_one (ps_ret (pe_call g_clause_from (hr.mono (by decide)) (by rfl) m_clause_from k_clause_from b_clause_from .nil pass0 (pa_cons (pe_make k_Clause g_Clause (hr.mono (by decide)) (by rfl) m_Clause b_Clause .nil pass0 (pa_cons (pe_fld (pe_ix ix_tup (pv 2) pe_int (fun _ _ => rfl)) (by rfl)) (pa_cons (pv 3) pa_nil))) (pa_cons pe_int pa_nil)))))))))))), ?_⟩
    have hz : (tx l).length ≤ sizeLine := tx_sz hl
    refine q_dnew (fun o H1 ho e1 h1 => ?_)
    refine qx_asg (P := ReadL K (readLit l 0)) (x_call (vs := [.str (tx l), .int ((0 : Nat) : Int), .ref o]) (ea_cons (ev_var rfl) (ea_cons ev_c (ea_cons (ev_var rfl) ea_nil))) (fun H2 e2 Q2 q2 E2 => ⟨l, 0, o, rfl, hl, Nat.zero_le _, hG, q2⟩)) (fun v H2 e2 hv => ?_)
    generalize hr : readLit l 0 = r at *
    have e02 := e1.trans e2
    cases r with
    | none =>
      cases hv
      refine q_when (b := true) (et_or (a := true) (b := true) (et_test (ev_op (ev_var rfl) ev_c (fun H6 e7 Q1 q1 => ⟨rfl, q1 H6 (Ex.refl _)⟩))) (fun h => absurd h (by decide))) (fun _ H3 e3 => s_ret ev_c (fun H4 e4 => k _ H4 (e02.trans (e3.trans e4)) ?_)) (fun h => absurd h (by decide))
      unfold readCl
      rw [hr]
      rfl
    | some z =>
      obtain ⟨⟨hd, dn⟩, pl⟩ := z
      obtain ⟨p, lv, rfl, hp, q, dx, t, rfl, hq, ht⟩ := hv
      have hzz := readLit_sz (Nat.zero_le _) hr
      dsimp only at hzz ht hq
      have hcl : readCl l = if dn = true ∨ l.length > 200 then none else (bodyLoop l (l.length + 1) [32, 58, 45, 32] pl []).map fun bs => (hd, bs) := by
        unfold readCl
        rw [hr]
      refine q_when (b := decide (dn = true ∨ l.length > 200)) (et_is (et_or (a := false) (b := dn || decide (l.length > 200)) (et_is (et_test (ev_op (ev_var rfl) ev_c (fun H6 e7 Q1 q1 => ⟨rfl, q1 H6 (Ex.refl _)⟩))) (by rw [decide_eq_false_iff_not]; intro h; cases h)) (fun _ => et_or (et_B (ev_fld (f := "is_denied") (ev_op (ev_var rfl) ev_c (rv_ixT (i := 0) (v := .ref q) (st_of hp) rfl)) hq cl_Literal na_Literal_is_denied rfl)) (fun _ => et_test (ev_is (ev_op (ev_lenS (ev_var rfl) hz) ev_c rv_I0) (w := .bl (decide (l.length > 200))) ?_)))) ?_) (fun hb H3 e3 => ?_) (fun hb H3 e3 => ?_)
      · rw [tx_len]
        congr 1
        rw [decide_eq_decide]
        show (200 : Int) < _ ↔ _
        omega
      · rw [Bool.false_or, Bool.decide_or]
        congr 1
        cases dn <;> rfl
      · refine s_ret ev_c (fun H4 e4 => k _ H4 (e02.trans (e3.trans e4)) ?_)
        rw [hcl, if_pos (of_decide_eq_true hb)]
        rfl
      · rw [if_neg (of_decide_eq_false hb)] at hcl
        refine q_asgL (xs := []) (el_lst ea_nil (few5 rfl)) (fun b H4 hb4 e4 h4 => ?_)
        have e24 := e3.trans e4
        refine q_asg (v := .int (pl : Int)) (ev_op (ev_var rfl) ev_c (rv_ixT (i := 1) (st_of (e24 _ _ hp)) rfl)) (fun H5 e5 => ?_)
        refine q_asg ev_c (fun H6 e6 => ?_)
        have hB : H b = none := fresh_back (e02.trans e3) hb4
        have za1 : (" :- " : Str) = tx [32, 58, 45, 32] := by decide +kernel
        have za2 : (", " : Str) = tx [44, 32] := by decide +kernel
        have zd : ("." : Str) = tx [46] := by decide +kernel
        refine q_while (fun m σ' H' => ∃ (ah : List Nat) (p1 : Nat) (bs : List Lt) (ys : List V) (s7 : Option V), m = m ∧ l.length - p1 + 1 ≤ m ∧ σ' = [some (.str (tx l)), some (.ref o), some (.ref p), some (.ref b), some (.int (p1 : Int)), some (.str (tx ah)), s7] ∧ ah.length ≤ 4 ∧ p1 ≤ l.length ∧ bs.length ≤ 4 ∧ Ex H H' ∧ H' b = some (.lst ys) ∧ AllV (LitAt K) bs ys H' ∧ LitAt K (hd, dn) (.ref q) H' ∧ H' p = some (.tup [.ref q, .int (pl : Int)]) ∧ SzC (hd, bs) ∧ bodyLoop l (l.length + 1) [32, 58, 45, 32] pl [] = bodyLoop l m ah p1 bs) (l.length + 1) ⟨[32, 58, 45, 32], pl, [], [], none, rfl, by omega, by rw [za1]; rfl, Nat.le_refl _, by omega, Nat.zero_le _, (e02.trans e24).trans (e5.trans e6), (e5.trans e6) _ _ h4, AllV.nil, LitAt.mn K _ |>.mo _ _ _ (e24.trans (e5.trans e6)) ⟨q, dx, t, rfl, hq, ht⟩, (e24.trans (e5.trans e6)) _ _ hp, ⟨Nat.zero_le _, fun a ha => by simp at ha; rw [ha]; omega⟩, rfl⟩ ?_
        rintro m σ' H' ⟨ah, p1, bs, ys, s7, _, hm, rfl, hah, hp1, hbs, e', hb', hall, hql, hpp, hsz, hloop⟩
        obtain ⟨m, rfl⟩ : ∃ m', m = m' + 1 := ⟨m - 1, by omega⟩
        have hstep : bodyLoop l (m + 1) ah p1 bs = if l.drop p1 = [46] then some bs else if (l.drop p1).take ah.length ≠ ah ∨ bs.length = 4 then none else
            match readLit l (p1 + ah.length) with
            | none => none
            | some (b, e) => bodyLoop l m [44, 32] e (bs ++ [b]) := rfl
        have hyl := hall.1
        have hahz : (tx ah).length ≤ sizeLine := tx_sz hah
        have hwl : ∀ H9, Ex H' H9 → Ev (tOp rNe (tSl rSlS (tVar 0) (tPart (tVar 4)) tNoPart) (tC (.str "."))) [some (.str (tx l)), some (.ref o), some (.ref p), some (.ref b), some (.int (p1 : Int)), some (.str (tx ah)), s7] H9 (.bl (!decide (l.drop p1 = [46]))) := fun H9 e9 => by
          refine ev_is (ev_op (ev_slS (ev_var rfl) (eo_some (ev_var rfl)) eo_none hz) ev_c (rv_ne (by rfl))) ?_
          rw [cut_from, zd]
          congr 2
          rw [decide_eq_decide]
          constructor
          · intro h; exact tx_inj (V.str.inj h)
          · intro h; rw [h]
        refine ⟨!decide (l.drop p1 = [46]), et_test (hwl _ (Ex.refl _)), fun hb2 H7 e7 => ?_, fun hb2 H7 e7 => ?_⟩
        · have hne : l.drop p1 ≠ [46] := by simpa using hb2
          rw [if_neg hne] at hstep
          refine ⟨fun σ' H' => ∃ (ah : List Nat) (p1 : Nat) (bs : List Lt) (ys : List V) (s7 : Option V), m = m ∧ l.length - p1 + 1 ≤ m ∧ σ' = [some (.str (tx l)), some (.ref o), some (.ref p), some (.ref b), some (.int (p1 : Int)), some (.str (tx ah)), s7] ∧ ah.length ≤ 4 ∧ p1 ≤ l.length ∧ bs.length ≤ 4 ∧ Ex H H' ∧ H' b = some (.lst ys) ∧ AllV (LitAt K) bs ys H' ∧ LitAt K (hd, dn) (.ref q) H' ∧ H' p = some (.tup [.ref q, .int (pl : Int)]) ∧ SzC (hd, bs) ∧ bodyLoop l (l.length + 1) [32, 58, 45, 32] pl [] = bodyLoop l m ah p1 bs, fun σ2 H8 h => ⟨m, Nat.lt_succ_self m, h⟩, ?_⟩
          have hb7 := e7 _ _ hb'
          refine q_when (b := decide ((l.drop p1).take ah.length ≠ ah ∨ bs.length = 4)) (et_is (et_or (a := !decide ((l.drop p1).take ah.length = ah)) (b := decide (bs.length = 4)) (et_test (ev_is (ev_op (ev_slS (ev_var rfl) (eo_some (ev_var rfl)) (eo_some (ev_op (ev_var rfl) (ev_lenS (ev_var rfl) hahz) rv_I0)) hz) (ev_var rfl) (rv_ne (by rfl))) ?_)) (fun _ => et_test (ev_is (ev_op (ev_len (ev_var rfl) (sq_of hb7)) ev_c (rv_eq (by rfl))) ?_))) ?_) (fun hb8 H8 e8 => ?_) (fun hb8 H8 e8 => ?_)
          · rw [tx_len, cut_take]
            congr 2
            rw [decide_eq_decide]
            constructor
            · intro h; exact tx_inj (V.str.inj h)
            · intro h; rw [h]
          · rw [hyl]
            congr 1
            rw [decide_eq_decide]
            constructor
            · intro h
              have := V.int.inj h
              omega
            · intro h; rw [h]; rfl
          · rw [Bool.decide_or, decide_not]
          · rw [if_pos (of_decide_eq_true hb8)] at hstep
            refine s_ret ev_c (fun H9 e9 => k _ H9 (e'.trans (e7.trans (e8.trans e9))) ?_)
            rw [hcl, hloop, hstep]
            rfl
          · rw [if_neg (of_decide_eq_false hb8)] at hstep
            have h8 := of_decide_eq_false hb8
            simp only [not_or, Decidable.not_not] at h8
            have hle : p1 + ah.length ≤ l.length := by
              have := congrArg List.length h8.1
              rw [List.length_take, List.length_drop] at this
              omega
            refine qx_asg (P := ReadL K (readLit l (p1 + ah.length))) (x_call (vs := [.str (tx l), .int ((p1 + ah.length : Nat) : Int), .ref o]) (ea_cons (ev_var rfl) (ea_cons (ev_is (ev_op (ev_var rfl) (ev_lenS (ev_var rfl) hahz) rv_I0) (by rw [tx_len, Int.natCast_add])) (ea_cons (ev_var rfl) ea_nil))) (fun H9 e9 Q2 q2 E2 => ⟨l, _, o, rfl, hl, hle, hG, q2⟩)) (fun v H9 e9 hv => ?_)
            generalize hr2 : readLit l (p1 + ah.length) = r2 at *
            cases r2 with
            | none =>
              cases hv
              refine q_when (b := true) (et_test (ev_op (ev_var rfl) ev_c (fun H6 e7 Q1 q1 => ⟨rfl, q1 H6 (Ex.refl _)⟩))) (fun _ H10 e10 => s_ret ev_c (fun H11 e11 => k _ H11 ((e'.trans (e7.trans (e8.trans e9))).trans (e10.trans e11)) ?_)) (fun h => absurd h (by decide))
              rw [hcl, hloop, hstep]
              rfl
            | some z2 =>
              obtain ⟨b2, p2⟩ := z2
              obtain ⟨r, lv2, rfl, hr3, hlv⟩ := hv
              have hs2 := readLit_sz hle hr2
              refine q_when (b := false) (et_is (et_test (ev_op (ev_var rfl) ev_c (fun H6 e7 Q1 q1 => ⟨rfl, q1 H6 (Ex.refl _)⟩))) (by rw [decide_eq_false_iff_not]; intro h; cases h)) (fun h => absurd h (by decide)) (fun _ H10 e10 => ?_)
              have e810 := e7.trans ((e8.trans e9).trans e10)
              refine q_app (xs := ys) (v := lv2) (e810 _ _ hb') (ev_var rfl) (ev_op (ev_var rfl) ev_c (rv_ixT (i := 0) (st_of (e10 _ _ hr3)) rfl)) (by omega) (fun H11 e11 => ?_)
              have hbn := (e810.trans e11) _ _ hb'
              have n11 : Nl H11 (upd H11 b (.lst (ys ++ [lv2]))) := .lst hbn
              have E11 : Ex H (upd H11 b (.lst (ys ++ [lv2]))) := Ex.mut (e'.trans (e810.trans e11)) hB
              have hp11 : upd H11 b (.lst (ys ++ [lv2])) p = some (.tup [.ref q, .int (pl : Int)]) := n11.tu _ _ ((e810.trans e11) _ _ hpp)
              have hr11 : upd H11 b (.lst (ys ++ [lv2])) r = some (.tup [lv2, .int (p2 : Int)]) := n11.tu _ _ (e11 _ _ (e10 _ _ hr3))
              have hall11 : AllV (LitAt K) (bs ++ [b2]) (ys ++ [lv2]) (upd H11 b (.lst (ys ++ [lv2]))) := (AllV.mn (LitAt.mn K) _ _ _ ((Nl.of (e810.trans e11)).trans n11) hall).app (LitAt.mn K b2 _ _ _ ((Nl.of (e10.trans e11)).trans n11) hlv)
              have hq11 := LitAt.mn K (hd, dn) _ _ _ ((Nl.of (e810.trans e11)).trans n11) hql
              have hb11 : upd H11 b (.lst (ys ++ [lv2])) b = some (.lst (ys ++ [lv2])) := upd_same
              generalize upd H11 b (.lst (ys ++ [lv2])) = G11 at *
              refine q_asg (v := .int (p2 : Int)) (ev_op (ev_var rfl) ev_c (rv_ixT (i := 1) (st_of hr11) rfl)) (fun H12 e12 => ?_)
              refine s_asg ev_c (fun H13 e13 => ?_)
              have e1113 := e12.trans e13
              refine ⟨[44, 32], p2, bs ++ [b2], ys ++ [lv2], some (.ref r), rfl, by omega, by rw [za2]; rfl, by decide, hs2.2.2.2, by rw [List.length_append, List.length_singleton]; omega, E11.trans e1113, e1113 _ _ hb11, AllV.mo (fun a => (LitAt.mn K a).mo) _ _ _ e1113 hall11, (LitAt.mn K _).mo _ _ _ e1113 hq11, e1113 _ _ hp11, ⟨by show (bs ++ [b2]).length ≤ 10; rw [List.length_append, List.length_singleton]; omega, fun a ha => ?_⟩, hloop.trans hstep⟩
              simp only [List.map_append, List.mem_cons, List.mem_append, List.map_cons, List.map_nil, List.mem_singleton] at ha
              rcases ha with ha | ha | ha
              · rw [ha]; exact hsz.2 hd List.mem_cons_self
              · exact hsz.2 a (List.mem_cons_of_mem _ ha)
              · rcases ha with ha | ha
                · rw [ha]; omega
                · cases ha
        · have heq : l.drop p1 = [46] := by simpa using hb2
          rw [if_pos heq] at hstep
          rw [hloop, hstep] at hcl
          obtain ⟨q', dx', t', eq', hq', ht'⟩ := hql
          cases eq'
          refine sx_ret (P := ClAtB K H (hd, bs)) (x_callX (x_cons (P := ClAt K (hd, bs)) (x_make (PA := fun us _ => us = [t', .ref b]) (x_ofA (ea_cons (ev_fld (f := "atom") (ev_op (ev_var rfl) ev_c (rv_ixT (i := 0) (v := .ref q) (st_of (e7 _ _ hpp)) rfl)) (e7 _ _ hq') cl_Literal na_Literal_atom rfl) (ea_cons (ev_var rfl) ea_nil))) ?_) (ClAt.mo K _) (x_ofA (ea_cons ev_c ea_nil))) ?_) (fun v H8 e8 hv => k v H8 (e'.trans (e7.trans e8)) (by rw [hcl]; exact hv))
          · rintro vs H8 x dx8 e8 rfl hx hdx hn Q4 q4 E4
            exact ⟨H8, x, dx8, t', .ref b, rfl, hx, Ex.mut (Ex.new hdx) hx, upd_same, fun H9 e9 h9 => q4 H9 e9 ⟨x, dx8, t', b, ys, rfl, h9, TermAt.mo _ _ _ _ (e7.trans (e8.trans e9)) ht', e9 _ _ (e8 _ _ (e7 _ _ hb')), AllV.mo (fun a => (LitAt.mn K a).mo) _ _ _ (e7.trans (e8.trans e9)) hall⟩⟩
          · rintro vs H8 e8 ⟨v8, rr, rfl, h8, rfl⟩ Q4 q4 E4
            exact ⟨(hd, bs), v8, 0, rfl, h8, hsz, fun u H9 e9 hu => q4 u H9 e9 (hu.back (e'.trans (e7.trans e8)))⟩

end
end Tx
end
section
set_option Elab.async false
set_option linter.all false
set_option maxRecDepth 100000
set_option maxHeartbeats 4000000
namespace Tx
open PySem PySem.Spec PyProof.Rows L2 Evl Wk
section
variable {w : World} {K : PySem.W.Frag} {mg : Str → Option Value} {base : Heap}

def sp_demand (K : PySem.W.Frag) : Sp := fun vs H Q E => ∃ (b : Bool) (nm : Str), vs = [.bl b, .str nm] ∧ (b = true → ∀ H', Ex H H' → Q .non H') ∧ (b = false → BadE K nm H E)
theorem sc_demand : FnScope ["is_good", "name"] ["is_good", "name"] (defScope s_demand) := ⟨rfl, rfl, rfl, by decide +kernel, rfl, by decide +kernel, by decide +kernel⟩
theorem ok_demand (Z : Zx K mg) : OkD prog w K mg base (L2.CX prog w) 1 "demand" ["is_good", "name"] (sp_demand K) := by
  obtain ⟨fd, F0⟩ := Z.fun_ 2
  have F : Fun K "demand" "demand" s_demand (He.ga K "demand") fd := Wk.fun_of F0
  have x_BadArgument := Z.bad
  have cBadArgument := Z.glo 54 (x := "BadArgument")
  refine ⟨fd, ?_, F.binds (ps := ["is_good", "name"]) fun _ _ _ _ _ _ us hl => match us, hl with | [_, _], _ => rfl, Z.glo 2, F.kp⟩
  refine F.okX sc_demand (fun vs H Q E h => ?_) (fun cdv A outer s H vs Q E hr h => ?_)
  · obtain ⟨b, nm, rfl, k1, k2⟩ := h
    rfl
  · obtain ⟨b, nm, rfl, k1, k2⟩ := h
    refine ⟨_, (pss_one (ps_if (pt_not (pt_val (pv 0))) (pss_one (ps_raiseBadArgument rfl x_BadArgument cBadArgument hr (takes_of rfl rfl rfl rfl) (pa_cons (pv 1) pa_nil))) pss_nil)), ?_⟩
    refine s_when (b := !b) (et_not (et_B (ev_var rfl))) (fun hb H1 e1 => ?_) (fun hb H1 e1 => ?_)
    · have hb' : b = false := by simpa using hb
      have hA : EvA (tCons (tVar 1) tNil) (L2.start ["is_good", "name"] [V.bl b, V.str nm]) H1 [.str nm] := ea_cons (ev_var rfl) ea_nil
      exact hA H1 (Ex.refl _) (fun vs H2 => ∃ v, vs = [v] ∧ ∀ d, H2 d = none → E (.ref (He.ga K "BadArgument")) (some d) (upd H2 d (.xd [(("name" : Str), v)]))) (fun H2 e2 => ⟨.str nm, rfl, fun d hd => k2 hb' d _ ((e1.trans e2).trans (Ex.new hd)) upd_same⟩)
    · have hb' : b = true := by simpa using hb
      exact k1 hb' H1 e1
def sp_read_program (K : PySem.W.Frag) : Sp := fun vs H Q _ => ∃ (ls : List (List Nat)) (zs : List Cl), vs = [.str (tx (progT ls))] ∧ (progT ls).length ≤ 4000 ∧ ls.length ≤ 30 ∧ (∀ l, l ∈ ls → 10 ∉ l ∧ NoG l ∧ l.length ≤ 4000) ∧ ls.map readCl = zs.map some ∧
  ∀ p ys H', H p = none → Ex H H' → H' p = some (.lst ys) → AllV (ClAt K) zs ys H' → Q (.ref p) H'
theorem sc_read_program : FnScope ["text", "lines", "found", "at", "line", "clause"] ["text"] (defScope s_read_program) := ⟨rfl, rfl, rfl, by decide +kernel, rfl, by decide +kernel, by decide +kernel⟩
theorem ok_read_program (Z : Zx K mg) : OkD prog w K mg base CX0 6 "read_program" ["text"] (sp_read_program K) := by
  obtain ⟨fd, F0⟩ := Z.fun_ 24
  have F : Fun K "read_program" "read_program" s_read_program (He.ga K "read_program") fd := Wk.fun_of F0
  have c_MOST_CLAUSES := Z.int 77 (x := "MOST_CLAUSES")
  obtain ⟨_, g_read_clause, b_read_clause, m_read_clause, k_read_clause⟩ := ok_read_clause (w := w) (base := base) Z
  have n_enumerate := Z.free 60 (x := "enumerate")
  refine ⟨fd, ?_, F.binds (ps := ["text"]) fun _ _ _ _ _ _ us hl => match us, hl with | [_], _ => rfl, Z.glo 17, F.kp⟩
  refine F.ok sc_read_program (fun vs H Q E h => ?_) (fun cdv A outer s H vs Q E hr h => ?_)
  · obtain ⟨ls, zs, rfl, hl, hn, hls, hz, k⟩ := h
    rfl
  · obtain ⟨ls, zs, rfl, hl, hn, hls, hz, k⟩ := h
    refine ⟨_, (pss_cons (ps_set (i := 1) sc_read_program.nd rfl (by first | exact Or.inl rfl | exact Or.inr rfl) (pe_split (pv 0) pe_str)) (pss_cons (ps_set (i := 2) sc_read_program.nd rfl (by first | exact Or.inl rfl | exact Or.inr rfl) (pe_lst pa_nil)) (pss_cons (ps_for PassesOwn.never rfl (pi_enum (by rfl) n_enumerate (pa_cons (pe_slice sl_list (pv 1) po_none (po_some (pe_un un_neg pe_int))) pa_nil)) (pg_tup rfl (pgs_cons (pg_name (i := 3) sc_read_program.nd rfl (by first | exact Or.inl rfl | exact Or.inr rfl)) (pgs_cons (pg_name (i := 4) sc_read_program.nd rfl (by first | exact Or.inl rfl | exact Or.inr rfl)) pgs_nil))) (pss_cons (ps_set (i := 5) sc_read_program.nd rfl (by first | exact Or.inl rfl | exact Or.inr rfl) (pe_ifExp (pt_cmpR op_lt (pv 3) (pe_gi c_MOST_CLAUSES) (nomark _)) (pe_call g_read_clause (hr.mono (by decide)) (by rfl) m_read_clause k_read_clause b_read_clause .nil pass0 (pa_cons (pv 4) pa_nil)) pe_non)) (pss_cons (ps_if (pt_cmpR op_isN (pv 5) pe_non (nomark _)) (pss_one ps_never) pss_nil) (pss_one (ps_expr (pe_bm PySem.F.plainAttrs_list PySem.F.slot_list_append PySem.F.type_list_append mt_append (pv 2) (pa_cons (pv 5) pa_nil))))))) (pss_cons (ps_if (pt_cmpR op_ne (pe_ix ix_list (pv 1) (pe_un un_neg pe_int) (fun _ _ => rfl)) pe_str (nomark _)) (pss_one ps_never) pss_nil) (pss_one (ps_ret (pv 2))))))), ?_⟩
    have hsp := split_txt ls (fun l h => (hls l h).1)
    have hzl : ls.length = zs.length := by
      have := congrArg List.length hz
      rwa [List.length_map, List.length_map] at this
    refine q_asgL (xs := (ls.map tx ++ [tx []]).map V.str) (fun H0 e0 Q0 q0 => ?_) (fun o H1 ho e1 h1 => ?_)
    · refine ev_var (v := .str (tx (progT ls))) rfl H0 (Ex.refl _) _ (fun H2 e2 => ⟨⟨_, rfl⟩, ?_⟩)
      refine ev_c (σ := L2.start ["text", "lines", "found", "at", "line", "clause"] [V.str (tx (progT ls))]) H2 (Ex.refl _) _ (fun H3 e3 => ⟨_, _, rfl, rfl, by decide +kernel, ?_, ?_⟩)
      · rw [tx_len]; exact sz_of (by omega)
      · rw [hsp]
        exact fun p hp => q0 p _ (fresh_back (e2.trans e3) hp) ((e2.trans e3).trans (Ex.new hp)) upd_same
    refine q_asgL (xs := []) (el_lst ea_nil (few5 rfl)) (fun f H2 hf e2 h2 => ?_)
    have hmap : (ls.map tx ++ [tx []]).map V.str = (ls.map fun l => V.str (tx l)) ++ [V.str (tx [])] := by
      rw [List.map_append, List.map_map]
      rfl
    rw [hmap] at h1
    have hfB : H f = none := fresh_back e1 hf
    have ho2 := e2 _ _ h1
    have hof : o ≠ f := ne_new h1 hf
    refine q_forEnumL (K := K) (xs := ls.map fun l => V.str (tx l)) (fun H3 e3 Q3 q3 => ?_) (fun p i σ' H' => ∃ s3 s4 s5 ys, σ' = [some (.str (tx (progT ls))), some (.ref o), some (.ref f), s3, s4, s5] ∧ p ≠ f ∧ Ex H H' ∧ H' o = some (.lst ((ls.map fun l => V.str (tx l)) ++ [V.str (tx [])])) ∧ H' p = some (.lst (ls.map fun l => V.str (tx l))) ∧ H' f = some (.lst ys) ∧ AllV (ClAt K) (zs.take i) ys (del H' f))
      (fun p H3 hp e3 hp3 => ⟨none, none, none, [], rfl, (ne_new h2 hp).symm, (e1.trans e2).trans e3, e3 _ _ ho2, hp3, e3 _ _ h2, by rw [List.take_zero]; exact AllV.nil⟩) (fun p i σ' H' ⟨s3, s4, s5, ys, _, _, _, _, h, _⟩ => h) ?_ ?_
    · refine el_sl (K := K) (lo := none) (hi := some (-1)) (ev_var rfl) eo_none (eo_some ev_m1) (sq_of ho2) H3 e3 _ (fun p H4 hp e4 h4 => ?_)
      rw [cut_last] at h4
      exact q3 p H4 hp e4 h4
    · rintro p i x σ' H' H'' hx ⟨s3, s4, s5, ys, rfl, hpf, e', ho', hp', hf', hall⟩ e''
      rw [List.getElem?_map] at hx
      obtain ⟨l, hl1, rfl⟩ := Option.map_eq_some_iff.mp hx
      have hi : i < ls.length := (List.getElem?_eq_some_iff.mp hl1).1
      have hmem := hls l (List.mem_of_getElem? hl1)
      obtain ⟨z, hz1⟩ : ∃ z, zs[i]? = some z := ⟨zs[i], List.getElem?_eq_getElem (by omega)⟩
      have hzi : readCl l = some z := by
        have := congrArg (fun y => y[i]?) hz
        simp only [List.getElem?_map, hl1, hz1] at this
        exact Option.some.inj this
      refine qx_asg (P := ClAtB K H'' z) (x_if (b := true) (et_is (et_test (ev_op (ev_var rfl) ev_c rv_I0)) ?_) (fun _ => x_call (ea_cons (ev_var rfl) ea_nil) (fun H3 e3 Q3 q3 E3 => ⟨l, rfl, by omega, hmem.2.1, fun v H4 e4 hv => q3 v H4 e4 ?_⟩)) (fun h => absurd h (by decide))) (fun v H3 e3 hv => ?_)
      · rw [decide_eq_true_iff]; omega
      · rw [hzi] at hv
        exact ClAtB.back e3 hv
      · have hvn : v ≠ .non := by
          obtain ⟨p', _, _, _, _, h, _⟩ := hv
          rw [h]
          intro h
          cases h
        refine q_when (b := false) (et_is (et_test (ev_op (ev_var rfl) ev_c (fun H6 e7 Q1 q1 => ⟨rfl, q1 H6 (Ex.refl _)⟩))) (decide_eq_false hvn)) (fun h => absurd h (by decide)) (fun _ H4 e4 => ?_)
        have hyl := hall.1
        rw [List.length_take] at hyl
        have hf4 := e4 _ _ (e3 _ _ (e'' _ _ hf'))
        refine s_app (xs := ys) hf4 (ev_var rfl) (ev_var rfl) (by omega) (fun H5 e5 => ?_)
        have e35 := (e3.trans e4).trans e5
        have hf5 := e5 _ _ hf4
        refine ⟨_, _, _, ys ++ [v], rfl, hpf, Ex.mut ((e'.trans e'').trans e35) hfB, ?_, ?_, upd_same, ?_⟩
        · rw [upd_ne hof]; exact e35 _ _ (e'' _ _ ho')
        · rw [upd_ne hpf]; exact e35 _ _ (e'' _ _ hp')
        · rw [del_upd]
          have ht : zs.take (i + 1) = zs.take i ++ [z] := by rw [List.take_add_one, hz1]; rfl
          rw [ht]
          exact (AllV.mo (ClAt.mo K) _ _ _ (ex_deldel (e''.trans e35)) hall).app ((ClAtB.mo K _ z _ _ _ (e4.trans e5) hv).del hf5 (e'' _ _ hf'))
    · rintro p σ' H' ⟨s3, s4, s5, ys, rfl, hpf, e', ho', hp', hf', hall⟩
      refine q_when (b := false) (et_is (et_test (ev_op (ev_op (ev_var rfl) ev_m1 (rv_ixL (v := .str (tx [])) (sq_of ho') (atI_last (last_app _ _)))) ev_c (rv_ne (by rfl)))) ?_) (fun h => absurd h (by decide)) (fun _ H3 e3 => ?_)
      · rw [tx_nil]
        simp
      · refine s_ret (ev_var rfl) (fun H4 e4 => k f ys H4 hfB (e'.trans (e3.trans e4)) ((e3.trans e4) _ _ hf') ?_)
        rw [List.length_map, hzl, List.take_length] at hall
        exact AllV.mo (ClAt.mo K) _ _ _ ((ex_del H' f).trans (e3.trans e4)) hall

end
end Tx
end
section
set_option Elab.async false
set_option linter.all false
set_option maxRecDepth 100000
set_option maxHeartbeats 4000000
namespace Tx
open PySem PySem.Spec PyProof.Rows L2 Evl Wk
section
variable {w : World} {K : PySem.W.Frag} {mg : Str → Option Value} {base : Heap}

def GoodP (ls : List (List Nat)) (zs : List Cl) : Prop := (progT ls).length ≤ 4000 ∧ ls.length ≤ 30 ∧ (∀ l, l ∈ ls → 10 ∉ l ∧ NoG l ∧ l.length ≤ 4000) ∧ ls.map readCl = zs.map some
def sp_demand_program (K : PySem.W.Frag) : Sp := fun vs H Q _ => ∃ (ls : List (List Nat)) (zs : List Cl), vs = [.str (tx (progT ls))] ∧ GoodP ls zs ∧ ∀ p ys H', H p = none → Ex H H' → H' p = some (.lst ys) → AllV (ClAt K) zs ys H' → Q (.ref p) H'
theorem sc_demand_program : FnScope ["value"] ["value"] (defScope s_demand_program) := ⟨rfl, rfl, rfl, by decide +kernel, rfl, by decide +kernel, by decide +kernel⟩
theorem ok_demand_program (Z : Zx K mg) : OkD prog w K mg base CX0 7 "demand_program" ["value"] (sp_demand_program K) := by
  obtain ⟨fd, F0⟩ := Z.fun_ 25
  have F : Fun K "demand_program" "demand_program" s_demand_program (He.ga K "demand_program") fd := Wk.fun_of F0
  have c_MOST_TEXT := Z.int 80 (x := "MOST_TEXT")
  obtain ⟨_, g_demand, b_demand, m_demand, k_demand⟩ := ok_demand (w := w) (base := base) Z
  obtain ⟨_, g_is_text, b_is_text, m_is_text, k_is_text⟩ := ok_is_text (w := w) (base := base) Z
  obtain ⟨_, g_read_program, b_read_program, m_read_program, k_read_program⟩ := ok_read_program (w := w) (base := base) Z
  refine ⟨fd, ?_, F.binds (ps := ["value"]) fun _ _ _ _ _ _ us hl => match us, hl with | [_], _ => rfl, Z.glo 18, F.kp⟩
  refine F.ok sc_demand_program (fun vs H Q E h => ?_) (fun cdv A outer s H vs Q E hr h => ?_)
  · obtain ⟨ls, zs, rfl, hg, k⟩ := h
    rfl
  · obtain ⟨ls, zs, rfl, hg, k⟩ := h
    refine ⟨_, (pss_cons (ps_expr (pe_call g_demand (hr.mono (by decide)) (by rfl) m_demand k_demand b_demand .nil passL (pa_cons (pe_call g_is_text (hr.mono (by decide)) (by rfl) m_is_text k_is_text b_is_text .nil pass0 (pa_cons (pv 0) (pa_cons (pe_gi c_MOST_TEXT) pa_nil))) (pa_cons pe_str pa_nil)))) (pss_one (ps_ret (pe_call g_read_program (hr.mono (by decide)) (by rfl) m_read_program k_read_program b_read_program .nil pass0 (pa_cons (pv 0) pa_nil))))), ?_⟩
    have hl := hg.1
    refine q_dropC (ea_cons (ev_call (z := .bl true) (ea_cons (ev_var rfl) (ea_cons ev_c ea_nil)) (fun H1 e1 Q1 q1 E1 => ⟨_, 4000, rfl, .inl ⟨_, rfl, by rw [tx_len]; exact sz_of (by omega), ?_⟩⟩)) (ea_cons ev_c ea_nil)) (fun H1 e1 => ⟨true, "program", rfl, fun _ H2 e2 => ?_, fun h => absurd h (by decide)⟩)
    · rw [show decide (((tx (progT ls)).length : Int) ≤ 4000) = true from by rw [tx_len]; exact decide_eq_true (by omega)]
      exact q1 H1 (Ex.refl _)
    · refine sx_ret (P := fun v H3 => ∃ p ys, v = .ref p ∧ H2 p = none ∧ H3 p = some (.lst ys) ∧ AllV (ClAt K) zs ys H3) (x_call (ea_cons (ev_var rfl) ea_nil) (fun H3 e3 Q3 q3 E3 => ⟨ls, zs, rfl, hg.1, hg.2.1, hg.2.2.1, hg.2.2.2, fun p ys H4 hp e4 h4 h5 => q3 _ H4 e4 ⟨p, ys, rfl, fresh_back e3 hp, h4, h5⟩⟩)) ?_
      rintro v H3 e3 ⟨p, ys, rfl, hp, h3, h4⟩
      exact k p ys H3 (fresh_back (e1.trans e2) hp) ((e1.trans e2).trans e3) h3 h4
def SzR (r : Rw) : Prop := r.2.1.length ≤ 100 ∧ r.2.2.length ≤ 100
def sp_rows_of (K : PySem.W.Frag) : Sp := fun vs H Q _ => ∃ (a : Addr) (us : List V) (rs : List Rw), vs = [.ref a] ∧ H a = some (.lst us) ∧ AllV (ClAt K) (rs.map clOf) us H ∧ rs.length ≤ 100 ∧ (∀ r, r ∈ rs → SzR r) ∧
  ∀ p H', H p = none → Ex H H' → RowsAt rs p H' → Q (.ref p) H'
theorem sc_rows_of : FnScope ["clauses", "found", "clause", "wanted", "literal", "denied"] ["clauses"] (defScope s_rows_of) := ⟨rfl, rfl, rfl, by decide +kernel, rfl, by decide +kernel, by decide +kernel⟩
theorem ok_rows_of (Z : Zx K mg) : OkD prog w K mg base CX0 1 "rows_of" ["clauses"] (sp_rows_of K) := by
  obtain ⟨fd, F0⟩ := Z.fun_ 26
  have F : Fun K "rows_of" "rows_of" s_rows_of (He.ga K "rows_of") fd := Wk.fun_of F0
  have na_Literal_atom := Z.noat 103 (x := "Literal") (f := "atom")
  have na_Literal_is_denied := Z.noat 104 (x := "Literal") (f := "is_denied")
  have na_Clause_head := Z.noat 108 (x := "Clause") (f := "head")
  have na_Clause_body := Z.noat 109 (x := "Clause") (f := "body")
  have cl_Clause := Z.cls 105 (x := "Clause")
  have cl_Literal := Z.cls 100 (x := "Literal")
  refine ⟨fd, ?_, F.binds (ps := ["clauses"]) fun _ _ _ _ _ _ us hl => match us, hl with | [_], _ => rfl, Z.glo 19, F.kp⟩
  refine F.ok sc_rows_of (fun vs H Q E h => ?_) (fun cdv A outer s H vs Q E hr h => ?_)
  · obtain ⟨a, us, rs, rfl, ha, hall, hn, hsz, k⟩ := h
    rfl
  · obtain ⟨a, us, rs, rfl, ha, hall, hn, hsz, k⟩ := h
    refine ⟨_, (pss_cons (ps_set (i := 1) sc_rows_of.nd rfl (by first | exact Or.inl rfl | exact Or.inr rfl) (pe_lst pa_nil)) (pss_cons (ps_for PassesOwn.never rfl (pi_list (pv 0)) (pg_name (i := 2) sc_rows_of.nd rfl (by first | exact Or.inl rfl | exact Or.inr rfl)) (pss_cons (ps_setLc (i := 3) (te := (tOp (rIxT K) (tOp (rIxT K) (tFld K (tVar 4) "atom") (tC (.int 0))) (tC (.int 0)))) (tt := (tNot (tB (tFld K (tVar 4) "is_denied")))) (own := [("literal", 4)]) rfl sc_rows_of.nd rfl rfl (sw_true rfl rfl rfl (by decide +kernel)) (pi_list (pe_fld (pv 2) (by rfl))) (blkOk_by (own := [("literal", 4)]) (N := ["clauses", "found", "clause", "wanted", "literal", "denied"]) (sc := defScope s_rows_of) (by decide +kernel)) (fun _ _ _ _ _ => pg_name (i := 4) sc_rows_of.nd rfl (Or.inl rfl)) (fun _ _ _ _ _ => pts_one (pt_not (pt_val (pe_fld (pv 4) (by rfl))))) (fun _ _ _ _ _ => (pe_ix ix_tup (pe_ix ix_tup (pe_fld (pv 4) (by rfl)) pe_int (fun _ _ => rfl)) pe_int (fun _ _ => rfl)))) (pss_cons (ps_setLc (i := 5) (te := (tOp (rIxT K) (tOp (rIxT K) (tFld K (tVar 4) "atom") (tC (.int 0))) (tC (.int 0)))) (tt := (tB (tFld K (tVar 4) "is_denied"))) (own := [("literal", 4)]) rfl sc_rows_of.nd rfl rfl (sw_true rfl rfl rfl (by decide +kernel)) (pi_list (pe_fld (pv 2) (by rfl))) (blkOk_by (own := [("literal", 4)]) (N := ["clauses", "found", "clause", "wanted", "literal", "denied"]) (sc := defScope s_rows_of) (by decide +kernel)) (fun _ _ _ _ _ => pg_name (i := 4) sc_rows_of.nd rfl (Or.inl rfl)) (fun _ _ _ _ _ => pts_one (pt_val (pe_fld (pv 4) (by rfl)))) (fun _ _ _ _ _ => (pe_ix ix_tup (pe_ix ix_tup (pe_fld (pv 4) (by rfl)) pe_int (fun _ _ => rfl)) pe_int (fun _ _ => rfl)))) (pss_one (ps_expr (pe_bm PySem.F.plainAttrs_list PySem.F.slot_list_append PySem.F.type_list_append mt_append (pv 1) (pa_cons (pe_tup (pa_cons (pe_ix ix_tup (pe_ix ix_tup (pe_fld (pv 2) (by rfl)) pe_int (fun _ _ => rfl)) pe_int (fun _ _ => rfl)) (pa_cons (pv 3) (pa_cons (pv 5) pa_nil)))) pa_nil))))))) (pss_one (ps_ret (pv 1))))), ?_⟩
    have hul : us.length = rs.length := by have := hall.1; rwa [List.length_map] at this
    refine q_asgL (xs := []) (el_lst ea_nil (few5 rfl)) (fun f H1 hf e1 h1 => ?_)
    refine q_forLn (K := K) (xs := us) (ev_var rfl) (sq_of (e1 _ _ ha)) (fun i σ' H' => ∃ s2 s3 s5 ys, σ' = [some (.ref a), some (.ref f), s2, s3, none, s5] ∧ Ex H H' ∧ H' f = some (.lst ys) ∧ AllV RowAt (rs.take i) ys (del H' f)) (fun H2 e2 => ⟨none, none, none, [], rfl, e1.trans e2, e2 _ _ h1, by rw [List.take_zero]; exact AllV.nil⟩) (fun i σ' H' _ ⟨_, _, _, _, _, e, _⟩ => sq_of (e _ _ ha)) ?_ ?_
    · rintro i x σ' H' hx ⟨s2, s3, s5, ys, rfl, e', hf', hys⟩
      obtain ⟨z, hz, hcl⟩ := AllV.at hall hx
      rw [List.getElem?_map] at hz
      obtain ⟨r, hr, rfl⟩ := Option.map_eq_some_iff.mp hz
      have hs := hsz r (List.mem_of_getElem? hr)
      obtain ⟨p, dx, t, b, ws, rfl, c1, c2, c3, c4⟩ := hcl
      have hlit : ∀ z, z ∈ ws.zip (clOf r).2 → ∀ H2, Ex H' H2 → ∃ p dx q g, z.1 = .ref p ∧ H2 p = some (.ins (He.ga K "Literal") dx [("atom", .ref q), ("is_denied", .bl z.2.2)]) ∧ H2 q = some (.tup [.ref g]) ∧ H2 g = some (.tup [nmV ((z.2.1.headD ([], 0)).1.headD 0), .int 0]) := by
        intro z hz2 H2 e2
        obtain ⟨p1, dx1, tt, e3, e4, e5⟩ := c4.mem z hz2
        have hzt : ∃ c, z.2.1 = t1 c := by
          have hm := (List.of_mem_zip hz2).2
          simp only [clOf, List.mem_append, List.mem_map] at hm
          rcases hm with ⟨c, _, hc⟩ | ⟨c, _, hc⟩
          · exact ⟨c, by rw [← hc]⟩
          · exact ⟨c, by rw [← hc]⟩
        obtain ⟨c, hc⟩ := hzt
        rw [hc] at e5 ⊢
        obtain ⟨q, vs, rfl, g1, g2, g3⟩ := e5
        match vs, g2 with
        | [v], _ =>
          obtain ⟨g, rfl, g4⟩ := g3 0 v ([c], 0) rfl rfl
          exact ⟨p1, dx1, q, g, e3, e2 _ _ (e' _ _ e4), e2 _ _ (e' _ _ g1), e2 _ _ (e' _ _ g4)⟩
      have hit : ∀ s3 s5, EvI (iList K (tFld K (tVar 2) "body")) [some (.ref a), some (.ref f), some (.ref p), s3, none, s5] H' ((ws.zip (clOf r).2).map Prod.fst) := fun s3 s5 => by
        rw [c4.fst]
        exact ei_L (ev_fld (ev_var rfl) (e' _ _ c1) cl_Clause na_Clause_body rfl) (sq_of (e' _ _ c3))
      have hzl := c4.zlen
      have hcl2 : (clOf r).2.length ≤ 200 := by
        obtain ⟨s1, s2⟩ := hs
        simp only [clOf, List.length_append, List.length_map]
        omega
      have helt : ∀ (s3 s5 : Option V) (z : V × Lt), z ∈ ws.zip (clOf r).2 → ∀ H2, Ex H' H2 → Ev (tOp (rIxT K) (tOp (rIxT K) (tFld K (tVar 4) "atom") (tC (.int 0))) (tC (.int 0))) [some (.ref a), some (.ref f), some (.ref p), s3, some z.1, s5] H2 (nmV ((z.2.1.headD ([], 0)).1.headD 0)) := fun s3 s5 z hz2 H2 e2 => by
        obtain ⟨p1, dx1, q, g, g0, g1, g2, g3⟩ := hlit z hz2 H2 e2
        rw [g0]
        exact ev_op (ev_op (ev_fld (ev_var rfl) g1 cl_Literal na_Literal_atom rfl) ev_c (rv_ixT (i := 0) (st_of g2) rfl)) ev_c (rv_ixT (i := 0) (st_of g3) rfl)
      have hden : ∀ (s3 s5 : Option V) (z : V × Lt), z ∈ ws.zip (clOf r).2 → ∀ H2, Ex H' H2 → Ev (tFld K (tVar 4) "is_denied") [some (.ref a), some (.ref f), some (.ref p), s3, some z.1, s5] H2 (.bl z.2.2) := fun s3 s5 z hz2 H2 e2 => by
        obtain ⟨p1, dx1, q, g, g0, g1, g2, g3⟩ := hlit z hz2 H2 e2
        rw [g0]
        exact ev_fld (ev_var rfl) g1 cl_Literal na_Literal_is_denied rfl
      have w1 : ((ws.zip (clOf r).2).filter fun z => !z.2.2).map (fun z => nmV ((z.2.1.headD ([], 0)).1.headD 0)) = nmL r.2.1 := by
        rw [zip_fm (fun z : Lt => !z.2) (fun z : Lt => nmV ((z.1.headD ([], 0)).1.headD 0)) ws _ c4.1]
        exact clOf_wanted r
      have w2 : ((ws.zip (clOf r).2).filter fun z => z.2.2).map (fun z => nmV ((z.2.1.headD ([], 0)).1.headD 0)) = nmL r.2.2 := by
        rw [zip_fm (fun z : Lt => z.2) (fun z : Lt => nmV ((z.1.headD ([], 0)).1.headD 0)) ws _ c4.1]
        exact clOf_denied r
      refine q_asgL (xs := nmL r.2.1) (w1 ▸ el_lc (as := ws.zip (clOf r).2) (inj := Prod.fst) (fun z => !z.2.2) (fun z => nmV ((z.2.1.headD ([], 0)).1.headD 0)) (hit s3 s5) (by omega) (fun _ => rfl) (fun z hz2 H2 e2 => et_not (et_B (hden s3 s5 z hz2 H2 e2))) (fun z hz2 H2 e2 _ => helt s3 s5 z hz2 H2 e2)) (fun wa H2 hwa e2 h2 => ?_)
      refine q_asgL (xs := nmL r.2.2) (w2 ▸ el_lc (as := ws.zip (clOf r).2) (inj := Prod.fst) (fun z => z.2.2) (fun z => nmV ((z.2.1.headD ([], 0)).1.headD 0)) ((hit (some (.ref wa)) s5).mono e2) (by omega) (fun _ => rfl) (fun z hz2 H3 e3 => et_B (hden (some (.ref wa)) s5 z hz2 H3 (e2.trans e3))) (fun z hz2 H3 e3 _ => helt (some (.ref wa)) s5 z hz2 H3 (e2.trans e3))) (fun da H3 hda e3 h3 => ?_)
      have e23 := e2.trans e3
      obtain ⟨q, vs, et, g1, g2, g3⟩ := c2
      subst et
      obtain ⟨gv, rfl⟩ : ∃ v, vs = [v] := by
        match vs, g2 with
        | [v], _ => exact ⟨v, rfl⟩
      obtain ⟨g, rfl, g4⟩ := g3 0 gv ([r.1], 0) rfl rfl
      have hyl := hys.1
      rw [List.length_take] at hyl
      have hi : i < us.length := (List.getElem?_eq_some_iff.mp hx).1
      refine s_appU (xs := ys) (ys := [nmV r.1, .ref wa, .ref da]) (e23 _ _ hf') (ev_var rfl) (eu_tup (ea_cons (ev_op (ev_op (ev_fld (f := "head") (ev_var rfl) (e23 _ _ (e' _ _ c1)) cl_Clause na_Clause_head rfl) ev_c (rv_ixT (i := 0) (v := .ref g) (st_of (e23 _ _ (e' _ _ g1))) rfl)) ev_c (rv_ixT (i := 0) (v := nmV r.1) (st_of (e23 _ _ (e' _ _ g4))) rfl)) (ea_cons (ev_var rfl) (ea_cons (ev_var rfl) ea_nil))) (few5 rfl)) (by omega) (fun tp H4 htp e4 h4 => ?_)
      have hf4 := e4 _ _ (e23 _ _ hf')
      have ht : rs.take (i + 1) = rs.take i ++ [r] := by rw [List.take_add_one, hr]; rfl
      refine ⟨_, _, _, ys ++ [.ref tp], rfl, Ex.mut (e'.trans (e23.trans e4)) hf, upd_same, ?_⟩
      rw [del_upd, ht]
      exact (AllV.mo RowAt.mo _ _ _ (ex_deldel (e23.trans e4)) hys).app (RowAtB.del (B := H') ⟨tp, wa, da, rfl, h4, e4 _ _ (e3 _ _ h2), e4 _ _ h3, hwa, fresh_back e2 hda⟩ hf4 hf')
    · rintro σ' H' ⟨s2, s3, s5, ys, rfl, e', hf', hys⟩
      refine s_ret (ev_var rfl) (fun H2 e2 => k f H2 hf (e'.trans e2) ⟨ys, e2 _ _ hf', ?_⟩)
      rw [hul, List.take_length] at hys
      exact AllV.mo RowAt.mo _ _ _ ((ex_del H' f).trans e2) hys

end
end Tx
end
section
set_option Elab.async false
set_option linter.all false
set_option maxRecDepth 100000
set_option maxHeartbeats 4000000
namespace Tx
open PySem PySem.Spec PyProof.Rows L2 Evl Wk
section
variable {w : World} {K : PySem.W.Frag} {mg : Str → Option Value} {base : Heap}

def SzRs (rs : List Rw) : Prop := rs.length ≤ 60 ∧ (∀ r, r ∈ rs → SzR r) ∧ (keysOf rs).length < 64
def sp_names_of : Sp := fun vs H Q _ => ∃ (a : Addr) (rs : List Rw), vs = [.ref a] ∧ RowsAt rs a H ∧ SzRs rs ∧ RetL (nmL (namesOf rs)) H Q
theorem sc_names_of : FnScope ["rows", "found", "head", "wanted", "denied", "name"] ["rows"] (defScope s_names_of) := ⟨rfl, rfl, rfl, by decide +kernel, rfl, by decide +kernel, by decide +kernel⟩
theorem ok_names_of (Z : Zx K mg) : OkD prog w K mg base CX0 1 "names_of" ["rows"] (sp_names_of) := by
  obtain ⟨fd, F0⟩ := Z.fun_ 27
  have F : Fun K "names_of" "names_of" s_names_of (He.ga K "names_of") fd := Wk.fun_of F0
  have n_sorted := Z.free 69 (x := "sorted")
  refine ⟨fd, ?_, F.binds (ps := ["rows"]) fun _ _ _ _ _ _ us hl => match us, hl with | [_], _ => rfl, Z.glo 20, F.kp⟩
  refine F.ok sc_names_of (fun vs H Q E h => ?_) (fun cdv A outer s H vs Q E hr h => ?_)
  · obtain ⟨a, rs, rfl, ⟨us, ha, hall⟩, ⟨hn, hsz, h64⟩, k⟩ := h
    rfl
  · obtain ⟨a, rs, rfl, ⟨us, ha, hall⟩, ⟨hn, hsz, h64⟩, k⟩ := h
    have hu1 := hu_of hr
    refine ⟨_, (pss_cons (ps_set (i := 1) sc_names_of.nd rfl (by first | exact Or.inl rfl | exact Or.inr rfl) pe_dnewK) (pss_cons (ps_for PassesOwn.never rfl (pi_list (pv 0)) (pg_tup rfl (pgs_cons (pg_name (i := 2) sc_names_of.nd rfl (by first | exact Or.inl rfl | exact Or.inr rfl)) (pgs_cons (pg_name (i := 3) sc_names_of.nd rfl (by first | exact Or.inl rfl | exact Or.inr rfl)) (pgs_cons (pg_name (i := 4) sc_names_of.nd rfl (by first | exact Or.inl rfl | exact Or.inr rfl)) pgs_nil)))) (pss_one (ps_for PassesOwn.never rfl (pi_list (pe_op op_cat (pe_op op_cat (pe_lst (pa_cons (pv 2) pa_nil)) (pv 3)) (pv 4))) (pg_name (i := 5) sc_names_of.nd rfl (by first | exact Or.inl rfl | exact Or.inr rfl)) (pss_one (ps_dput hu1 (pv 1) (pv 5) pe_bl rfl))))) (pss_one (ps_ret (pe_callB (call_sortedD rfl) (by rfl) n_sorted (by decide +kernel) (pa_cons (pv 1) pa_nil)))))), ?_⟩
    have hul := hall.1
    refine q_dnew (fun d H1 hd e1 h1 => ?_)
    refine q_forL (K := K) (xs := us) (ev_var rfl) (sq_of (e1 _ _ ha)) (fun i σ' H' => ∃ s2 s3 s4 s5, σ' = [some (.ref a), some (.ref d), s2, s3, s4, s5] ∧ Ex H H' ∧ H' d = some (.dK (dk (keysOf (rs.take i)))) ∧ (keysOf (rs.take i)).length ≤ i * 300) (fun H2 e2 => ⟨none, none, none, none, rfl, e1.trans e2, e2 _ _ h1, by simp [keysOf]⟩) (fun i σ' H' _ ⟨_, _, _, _, _, e, _⟩ => sq_of (e _ _ ha)) ?_ ?_
    · rintro i x σ' H' hx ⟨s2, s3, s4, s5, rfl, e', hd', hlen⟩
      obtain ⟨r, hr, p, w, dn, rfl, c1, c2, c3⟩ := AllV.at hall hx
      obtain ⟨z1, z2⟩ := hsz r (List.mem_of_getElem? hr)
      have hi : i < us.length := (List.getElem?_eq_some_iff.mp hx).1
      refine ⟨p, _, rfl, st_of (e' _ _ c1), rfl, _, _, rfl, _, _, rfl, _, _, rfl, rfl, ?_⟩
      rw [keysOf_take hr]
      refine s_forNL (K := K) (xs := nmL (rowNs r)) (el_cat (el_cat (el_lst (ea_cons (ev_var rfl) ea_nil) (few5 rfl)) (ev_var rfl) (e' _ _ c2) (by rw [nmL_len]; show 1 + _ ≤ _; omega)) (ev_var rfl) (e' _ _ c3) (by rw [List.length_append, nmL_len, nmL_len]; show 1 + _ + _ ≤ _; omega) |> fun h => (by
          have e : nmL (rowNs r) = ([nmV r.1] ++ nmL r.2.1) ++ nmL r.2.2 := by unfold nmL rowNs; rw [List.map_cons, List.map_append]; rfl
          rw [e]; exact h)) (fun q j σ' H' => ∃ s5, σ' = [some (.ref a), some (.ref d), some (nmV r.1), some (.ref w), some (.ref dn), s5] ∧ Ex H H' ∧ q ≠ d ∧ H' q = some (.lst (nmL (rowNs r))) ∧ H' d = some (.dK (dk (addAll (keysOf (rs.take i)) ((rowNs r).take j)))))
        (fun q H3 hq e3 h3 => ⟨s5, rfl, e'.trans e3, (ne_new hd' hq).symm, h3, e3 _ _ hd'⟩) (fun q j σ' H' _ ⟨_, _, _, _, h, _⟩ => sq_of h) ?_ ?_
      · rintro q j x σ' H'' hj ⟨s5', rfl, e'', hqd, hq, hd''⟩
        unfold nmL at hj
        rw [List.getElem?_map] at hj
        obtain ⟨c, hc, rfl⟩ := Option.map_eq_some_iff.mp hj
        have hj2 : j < (rowNs r).length := (List.getElem?_eq_some_iff.mp hc).1
        have hrl : (rowNs r).length = 1 + r.2.1.length + r.2.2.length := by unfold rowNs; rw [List.length_cons, List.length_append]; omega
        have hal := addAll_len ((rowNs r).take j) (keysOf (rs.take i))
        rw [List.length_take] at hal
        show sDPut _ _ _ _ _ _
        refine s_dput (ns := addAll (keysOf (rs.take i)) ((rowNs r).take j)) (c := c) ev_c (ev_var rfl) (ev_var rfl) hd'' (by omega) (fun H4 e4 => ⟨_, rfl, Ex.mut (e''.trans e4) hd, hqd, ?_, ?_⟩)
        · rw [upd_ne hqd]; exact e4 _ _ hq
        · rw [upd_same, addAll_take hc]
      · rintro q σ' H'' ⟨s5', rfl, e'', hqd, hq, hd''⟩
        rw [nmL_len, List.take_length] at hd''
        refine ⟨_, _, _, _, rfl, e'', hd'', ?_⟩
        have hal := addAll_len (rowNs r) (keysOf (rs.take i))
        have hrl : (rowNs r).length = 1 + r.2.1.length + r.2.2.length := by unfold rowNs; rw [List.length_cons, List.length_append]; omega
        omega
    · rintro σ' H' ⟨s2, s3, s4, s5, rfl, e', hd', hlen⟩
      rw [hul, List.take_length] at hd'
      exact s_retL (el_sortedD (ev_var rfl) hd' h64) (fun p H2 hp e2 h2 => k p H2 (fresh_back e' hp) (e'.trans e2) h2)

end
end Tx
end
section
set_option Elab.async false
set_option linter.all false
set_option maxRecDepth 100000
set_option maxHeartbeats 4000000
namespace Tx
open PySem PySem.Spec PyProof.Rows L2 Evl Wk
section
variable {w : World} {K : PySem.W.Frag} {mg : Str → Option Value} {base : Heap}

def sp_built_on (K : PySem.W.Frag) : Sp := fun vs H Q _ => ∃ (a b : Addr) (rs : List Rw) (ks : List Nat), vs = [.ref a, .ref b] ∧ RowsAt rs a H ∧ SqT K H b (nmL ks) ∧ SzRs rs ∧ RetL (nmL (sortN (fixOf (okB ks) rs))) H Q
def sp_high_of (K : PySem.W.Frag) : Sp := fun vs H Q _ => ∃ (a t u : Addr) (rs : List Rw) (ts fs : List Nat), vs = [.ref a, .ref t, .ref u] ∧ RowsAt rs a H ∧ H t = some (.dK (dk ts)) ∧ H u = some (.dK (dk fs)) ∧ SzRs rs ∧
  ∀ p H', H p = none → Ex H H' → H' p = some (.dK (dk (fixOf (okH ts fs) rs))) → Q (.ref p) H'
theorem sc_built_on : FnScope ["rows", "known", "found", "is_new", "head", "wanted", "denied", "is_good", "name"] ["rows", "known"] (defScope s_built_on) := ⟨rfl, rfl, rfl, by decide +kernel, rfl, by decide +kernel, by decide +kernel⟩
theorem ok_built_on (Z : Zx K mg) : OkD prog w K mg base CX0 1 "built_on" ["rows", "known"] (sp_built_on K) := by
  obtain ⟨fd, F0⟩ := Z.fun_ 29
  have F : Fun K "built_on" "built_on" s_built_on (He.ga K "built_on") fd := Wk.fun_of F0
  have n_all := Z.free 57 (x := "all")
  have n_any := Z.free 58 (x := "any")
  have n_sorted := Z.free 69 (x := "sorted")
  refine ⟨fd, ?_, F.binds (ps := ["rows", "known"]) fun _ _ _ _ _ _ us hl => match us, hl with | [_, _], _ => rfl, Z.glo 22, F.kp⟩
  refine F.ok sc_built_on (fun vs H Q E h => ?_) (fun cdv A outer s H vs Q E hr h => ?_)
  · obtain ⟨a, b, rs, ks, rfl, hrs, hks, hsz, k⟩ := h
    rfl
  · obtain ⟨a, b, rs, ks, rfl, hrs, hks, hsz, k⟩ := h
    have hu1 := hu_of hr
    refine ⟨_, (pss_cons (ps_set (i := 2) sc_built_on.nd rfl (by first | exact Or.inl rfl | exact Or.inr rfl) pe_dnewK) (pss_cons (ps_set (i := 3) sc_built_on.nd rfl (by first | exact Or.inl rfl | exact Or.inr rfl) pe_bl) (pss_cons (ps_while PassesOwn.never (pt_val (pv 3)) (pss_cons (ps_set (i := 3) sc_built_on.nd rfl (by first | exact Or.inl rfl | exact Or.inr rfl) pe_bl) (pss_one (ps_for PassesOwn.never rfl (pi_list (pv 0)) (pg_tup rfl (pgs_cons (pg_name (i := 4) sc_built_on.nd rfl (by first | exact Or.inl rfl | exact Or.inr rfl)) (pgs_cons (pg_name (i := 5) sc_built_on.nd rfl (by first | exact Or.inl rfl | exact Or.inr rfl)) (pgs_cons (pg_name (i := 6) sc_built_on.nd rfl (by first | exact Or.inl rfl | exact Or.inr rfl)) pgs_nil)))) (pss_cons (ps_set (i := 7) sc_built_on.nd rfl (by first | exact Or.inl rfl | exact Or.inr rfl) (pe_and (pe_callB (cr_all rfl) (by rfl) n_all (by decide +kernel) (pa_cons (pe_lc (own := [("name", 8)]) rfl sc_built_on.nd (pi_list (pv 5)) (blkOk_by (own := [("name", 8)]) (N := ["rows", "known", "found", "is_new", "head", "wanted", "denied", "is_good", "name"]) (sc := defScope s_built_on) (by decide +kernel)) (fun _ _ _ _ _ => pg_name (i := 8) sc_built_on.nd rfl (Or.inl rfl)) (fun _ _ _ _ _ => pts_nil) (fun _ _ _ _ _ => (pe_cmp (pc_din hu1 (pv 8) (pv 2)) (by rfl)))) pa_nil)) (pe_one (pe_not (pe_callB (cr_any rfl) (by rfl) n_any (by decide +kernel) (pa_cons (pe_lc (te := (tOp (rIn K false) (tVar 8) (tVar 1))) (own := [("name", 8)]) rfl sc_built_on.nd (pi_list (pv 6)) (blkOk_by (own := [("name", 8)]) (N := ["rows", "known", "found", "is_new", "head", "wanted", "denied", "is_good", "name"]) (sc := defScope s_built_on) (by decide +kernel)) (fun _ _ _ _ _ => pg_name (i := 8) sc_built_on.nd rfl (Or.inl rfl)) (fun _ _ _ _ _ => pts_nil) (fun _ _ _ _ _ => (pe_cmpR op_in_seq (pv 8) (pv 1) rfl))) pa_nil)))))) (pss_one (ps_if (pw_and (pt_val (pv 7)) (pw_and1 (pt_cmp (pc_dnotin hu1 (pv 4) (pv 2)) (by rfl)))).pt (pss_cons (ps_dput hu1 (pv 2) (pv 4) pe_bl rfl) (pss_one (ps_set (i := 3) sc_built_on.nd rfl (by first | exact Or.inl rfl | exact Or.inr rfl) pe_bl))) pss_nil))))))) (pss_one (ps_ret (pe_callB (call_sortedD rfl) (by rfl) n_sorted (by decide +kernel) (pa_cons (pv 2) pa_nil))))))), ?_⟩
    obtain ⟨us, ha, hall⟩ := hrs
    have hul := hall.1
    refine q_dnew (fun d H1 hd e1 h1 => ?_)
    refine q_asg ev_c (fun H2 e2 => ?_)
    have e12 := e1.trans e2
    obtain ⟨W, hW⟩ : ∃ W : Nat → L2.St → Hp → Prop, W = fun m σ' H' => ∃ f new s4 s5 s6 s7, σ' = [some (.ref a), some (.ref b), some (.ref d), some (.bl new), s4, s5, s6, s7, none] ∧ Ex H H' ∧ H' d = some (.dK (dk f)) ∧ f.length + unm rs f ≤ rs.length ∧
      (new = true → ∃ n, m = n + 1 ∧ unm rs f + 1 ≤ n ∧ fixOf (okB ks) rs = fixN (okB ks) rs n f) ∧ (new = false → m = 0 ∧ fixOf (okB ks) rs = f) := ⟨_, rfl⟩
    refine q_while W (rs.length + 3) (by
      rw [hW]
      exact ⟨[], true, none, none, none, none, rfl, e12, e2 _ _ h1, by have := unm_le rs []; simpa using this, fun _ => ⟨rs.length + 2, rfl, by have := unm_le rs []; omega, rfl⟩, fun h => by cases h⟩) ?_
    intro m σ' H' hw
    rw [hW] at hw
    obtain ⟨f, new, s4, s5, s6, s7, rfl, e', hd', hcnt, w1, w2⟩ := hw
    refine ⟨new, et_B (ev_var rfl), fun hb H3 e3 => ?_, fun hb H3 e3 => ?_⟩
    · subst hb
      obtain ⟨n, rfl, hn1, hfix⟩ := w1 rfl
      obtain ⟨n, rfl⟩ : ∃ n', n = n' + 1 := ⟨n - 1, by omega⟩
      have hstep : fixN (okB ks) rs (n + 1) f = if (pass (okB ks) rs f).2 = true then fixN (okB ks) rs n (pass (okB ks) rs f).1 else f := rfl
      rw [hstep] at hfix
      refine ⟨fun σ2 H4 => ∃ m', m' < n + 1 + 1 ∧ W m' σ2 H4, fun _ _ h => h, ?_⟩
      refine q_asg ev_c (fun H4 e4 => ?_)
      have e34 := e3.trans e4
      refine s_forL (K := K) (xs := us) (ev_var rfl) (sq_of (e34 _ _ (e' _ _ ha))) (fun i σ' H' => ∃ s4 s5 s6 s7, σ' = [some (.ref a), some (.ref b), some (.ref d), some (.bl ((rs.take i).foldl (pStep (okB ks)) (f, false)).2), s4, s5, s6, s7, none] ∧ Ex H H' ∧ H' d = some (.dK (dk ((rs.take i).foldl (pStep (okB ks)) (f, false)).1)) ∧ ((rs.take i).foldl (pStep (okB ks)) (f, false)).1.length + unm rs ((rs.take i).foldl (pStep (okB ks)) (f, false)).1 ≤ rs.length)
        (fun H5 e5 => ⟨s4, s5, s6, s7, rfl, e'.trans (e34.trans e5), (e34.trans e5) _ _ hd', hcnt⟩) (fun i σ' H' _ ⟨_, _, _, _, _, e, _⟩ => sq_of (e _ _ ha)) ?_ ?_
      · rintro i x σ' H5 hx ⟨s4, s5, s6, s7, rfl, e5, hd5, hcnt5⟩
        obtain ⟨r, hr, p, w, dn, rfl, c1, c2, c3⟩ := AllV.at hall hx
        obtain ⟨z1, z2⟩ := hsz.2.1 r (List.mem_of_getElem? hr)
        refine ⟨p, _, rfl, st_of (e5 _ _ c1), rfl, _, _, rfl, _, _, rfl, _, _, rfl, rfl, ?_⟩
        have hcn := pStep_cnt (ok := okB ks) (List.mem_of_getElem? hr) hcnt5
        have hlim : rs.length ≤ 60 := hsz.1
        rw [pass_take hr]
        generalize (rs.take i).foldl (pStep (okB ks)) (f, false) = S at *
        obtain ⟨g, nw⟩ := S
        dsimp only at hd5 hcnt5 ⊢
        refine q_asg (v := .bl ((r.2.1.all fun c => decide (c ∈ g)) && !(r.2.2.any fun c => decide (c ∈ ks)))) (ev_andV (ev_allc (K := K) (p := fun c => decide (c ∈ g)) (as := r.2.1) (inj := nmV) (ei_L (K := K) (ev_var rfl) (sq_of (e5 _ _ c2))) (by omega) (fun _ => rfl) (fun c _ H9 e9 => ev_din (ev_var rfl) (ev_var rfl) (e9 _ _ hd5))) (fun _ => ev_notV (ev_anyc (K := K) (p := fun c => decide (c ∈ ks)) (as := r.2.2) (inj := nmV) (ei_L (K := K) (ev_var rfl) (sq_of (e5 _ _ c3))) (by omega) (fun _ => rfl) (fun c _ H9 e9 => ev_inT (ev_var rfl) (ev_var rfl) (ex_t (e5.trans e9) hks))))) (fun H6 e6 => ?_)
        refine s_when (b := (okB ks) r && (decide (r.1 ∉ g) && r.2.1.all fun c => decide (c ∈ g))) (et_is (et_and (et_B (ev_var rfl)) (fun _ => et_B (ev_dnotin (ev_var rfl) (ev_var rfl) (e6 _ _ hd5)))) ?_) (fun hb H7 e7 => ?_) (fun hb H7 e7 => ?_)
        · unfold okB; rw [decide_not]; cases (r.2.1.all fun c => decide (c ∈ g)) <;> cases (r.2.2.any fun c => decide (c ∈ ks)) <;> cases decide (r.1 ∈ g) <;> rfl
        · have e67 := e6.trans e7
          rw [pStep_yes hb] at hcn ⊢
          refine q_dput (ns := g) (c := r.1) ev_c (ev_var rfl) (ev_var rfl) (e67 _ _ hd5) (by omega) (fun H8 e8 => ?_)
          refine s_asg ev_c (fun H9 e9 => ?_)
          exact ⟨_, _, _, _, rfl, (Ex.mut (e5.trans (e67.trans e8)) hd).trans e9, e9 _ _ upd_same, hcn⟩
        · have e67 := e6.trans e7
          rw [pStep_no hb] at hcn ⊢
          exact ⟨_, _, _, _, rfl, e5.trans e67, e67 _ _ hd5, hcn⟩
      · rintro σ' H5 ⟨s4, s5, s6, s7, rfl, e5, hd5, hcnt5⟩
        rw [hul, List.take_length] at hd5 hcnt5 ⊢
        have hp : rs.foldl (pStep (okB ks)) (f, false) = pass (okB ks) rs f := rfl
        rw [hp] at hd5 hcnt5 ⊢
        refine ⟨if (pass (okB ks) rs f).2 = true then n + 1 else 0, by split <;> omega, ?_⟩
        rw [hW]
        refine ⟨(pass (okB ks) rs f).1, (pass (okB ks) rs f).2, s4, s5, s6, s7, rfl, e5, hd5, hcnt5, fun h => ?_, fun h => ?_⟩
        · rw [if_pos h] at hfix ⊢
          have := pass_new h
          exact ⟨n, rfl, by omega, hfix⟩
        · rw [if_neg (by rw [h]; decide)] at hfix ⊢
          exact ⟨rfl, by rw [pass_old h]; exact hfix⟩
    · have hf := (w2 hb).2
      have hlim : rs.length ≤ 60 := hsz.1
      rw [hf] at k
      exact s_retL (el_sortedD (ev_var rfl) (e3 _ _ hd') (by omega)) (fun p H4 hp e4 h4 => k p H4 (fresh_back (e'.trans e3) hp) ((e'.trans e3).trans e4) h4)
theorem sc_high_of : FnScope ["rows", "true", "false", "found", "is_new", "head", "wanted", "denied", "is_blocked", "name"] ["rows", "true", "false"] (defScope s_high_of) := ⟨rfl, rfl, rfl, by decide +kernel, rfl, by decide +kernel, by decide +kernel⟩
theorem ok_high_of (Z : Zx K mg) : OkD prog w K mg base CX0 1 "high_of" ["rows", "true", "false"] (sp_high_of K) := by
  obtain ⟨fd, F0⟩ := Z.fun_ 34
  have F : Fun K "high_of" "high_of" s_high_of (He.ga K "high_of") fd := Wk.fun_of F0
  have n_all := Z.free 57 (x := "all")
  have n_any := Z.free 58 (x := "any")
  refine ⟨fd, ?_, F.binds (ps := ["rows", "true", "false"]) fun _ _ _ _ _ _ us hl => match us, hl with | [_, _, _], _ => rfl, Z.glo 27, F.kp⟩
  refine F.ok sc_high_of (fun vs H Q E h => ?_) (fun cdv A outer s H vs Q E hr h => ?_)
  · obtain ⟨a, t, u, rs, ts, fs, rfl, hrs, hts, hfs, hsz, k⟩ := h
    rfl
  · obtain ⟨a, t, u, rs, ts, fs, rfl, hrs, hts, hfs, hsz, k⟩ := h
    have hu1 := hu_of hr
    refine ⟨_, (pss_cons (ps_set (i := 3) sc_high_of.nd rfl (by first | exact Or.inl rfl | exact Or.inr rfl) pe_dnewK) (pss_cons (ps_set (i := 4) sc_high_of.nd rfl (by first | exact Or.inl rfl | exact Or.inr rfl) pe_bl) (pss_cons (ps_while PassesOwn.never (pt_val (pv 4)) (pss_cons (ps_set (i := 4) sc_high_of.nd rfl (by first | exact Or.inl rfl | exact Or.inr rfl) pe_bl) (pss_one (ps_for PassesOwn.never rfl (pi_list (pv 0)) (pg_tup rfl (pgs_cons (pg_name (i := 5) sc_high_of.nd rfl (by first | exact Or.inl rfl | exact Or.inr rfl)) (pgs_cons (pg_name (i := 6) sc_high_of.nd rfl (by first | exact Or.inl rfl | exact Or.inr rfl)) (pgs_cons (pg_name (i := 7) sc_high_of.nd rfl (by first | exact Or.inl rfl | exact Or.inr rfl)) pgs_nil)))) (pss_cons (ps_set (i := 8) sc_high_of.nd rfl (by first | exact Or.inl rfl | exact Or.inr rfl) (pe_or (pe_callB (cr_any rfl) (by rfl) n_any (by decide +kernel) (pa_cons (pe_lc (own := [("name", 9)]) rfl sc_high_of.nd (pi_list (pv 6)) (blkOk_by (own := [("name", 9)]) (N := ["rows", "true", "false", "found", "is_new", "head", "wanted", "denied", "is_blocked", "name"]) (sc := defScope s_high_of) (by decide +kernel)) (fun _ _ _ _ _ => pg_name (i := 9) sc_high_of.nd rfl (Or.inl rfl)) (fun _ _ _ _ _ => pts_nil) (fun _ _ _ _ _ => (pe_cmp (pc_din hu1 (pv 9) (pv 2)) (by rfl)))) pa_nil)) (pe_one (pe_callB (cr_any rfl) (by rfl) n_any (by decide +kernel) (pa_cons (pe_lc (own := [("name", 9)]) rfl sc_high_of.nd (pi_list (pv 7)) (blkOk_by (own := [("name", 9)]) (N := ["rows", "true", "false", "found", "is_new", "head", "wanted", "denied", "is_blocked", "name"]) (sc := defScope s_high_of) (by decide +kernel)) (fun _ _ _ _ _ => pg_name (i := 9) sc_high_of.nd rfl (Or.inl rfl)) (fun _ _ _ _ _ => pts_nil) (fun _ _ _ _ _ => (pe_cmp (pc_din hu1 (pv 9) (pv 1)) (by rfl)))) pa_nil))))) (pss_one (ps_if (pw_and (pt_cmp (pc_dnotin hu1 (pv 5) (pv 3)) (by rfl)) (pw_and (pt_not (pt_val (pv 8))) (pw_and1 (pt_val (pe_callB (cr_all rfl) (by rfl) n_all (by decide +kernel) (pa_cons (pe_lc (own := [("name", 9)]) rfl sc_high_of.nd (pi_list (pv 6)) (blkOk_by (own := [("name", 9)]) (N := ["rows", "true", "false", "found", "is_new", "head", "wanted", "denied", "is_blocked", "name"]) (sc := defScope s_high_of) (by decide +kernel)) (fun _ _ _ _ _ => pg_name (i := 9) sc_high_of.nd rfl (Or.inl rfl)) (fun _ _ _ _ _ => pts_nil) (fun _ _ _ _ _ => (pe_cmp (pc_din hu1 (pv 9) (pv 3)) (by rfl)))) pa_nil)))))).pt (pss_cons (ps_dput hu1 (pv 3) (pv 5) pe_bl rfl) (pss_one (ps_set (i := 4) sc_high_of.nd rfl (by first | exact Or.inl rfl | exact Or.inr rfl) pe_bl))) pss_nil))))))) (pss_one (ps_ret (pv 3)))))), ?_⟩
    obtain ⟨us, ha, hall⟩ := hrs
    have hul := hall.1
    refine q_dnew (fun d H1 hd e1 h1 => ?_)
    refine q_asg ev_c (fun H2 e2 => ?_)
    have e12 := e1.trans e2
    obtain ⟨W, hW⟩ : ∃ W : Nat → L2.St → Hp → Prop, W = fun m σ' H' => ∃ f new s4 s5 s6 s7, σ' = [some (.ref a), some (.ref t), some (.ref u), some (.ref d), some (.bl new), s4, s5, s6, s7, none] ∧ Ex H H' ∧ H' d = some (.dK (dk f)) ∧ f.length + unm rs f ≤ rs.length ∧
      (new = true → ∃ n, m = n + 1 ∧ unm rs f + 1 ≤ n ∧ fixOf (okH ts fs) rs = fixN (okH ts fs) rs n f) ∧ (new = false → m = 0 ∧ fixOf (okH ts fs) rs = f) := ⟨_, rfl⟩
    refine q_while W (rs.length + 3) (by
      rw [hW]
      exact ⟨[], true, none, none, none, none, rfl, e12, e2 _ _ h1, by have := unm_le rs []; simpa using this, fun _ => ⟨rs.length + 2, rfl, by have := unm_le rs []; omega, rfl⟩, fun h => by cases h⟩) ?_
    intro m σ' H' hw
    rw [hW] at hw
    obtain ⟨f, new, s4, s5, s6, s7, rfl, e', hd', hcnt, w1, w2⟩ := hw
    refine ⟨new, et_B (ev_var rfl), fun hb H3 e3 => ?_, fun hb H3 e3 => ?_⟩
    · subst hb
      obtain ⟨n, rfl, hn1, hfix⟩ := w1 rfl
      obtain ⟨n, rfl⟩ : ∃ n', n = n' + 1 := ⟨n - 1, by omega⟩
      have hstep : fixN (okH ts fs) rs (n + 1) f = if (pass (okH ts fs) rs f).2 = true then fixN (okH ts fs) rs n (pass (okH ts fs) rs f).1 else f := rfl
      rw [hstep] at hfix
      refine ⟨fun σ2 H4 => ∃ m', m' < n + 1 + 1 ∧ W m' σ2 H4, fun _ _ h => h, ?_⟩
      refine q_asg ev_c (fun H4 e4 => ?_)
      have e34 := e3.trans e4
      refine s_forL (K := K) (xs := us) (ev_var rfl) (sq_of (e34 _ _ (e' _ _ ha))) (fun i σ' H' => ∃ s4 s5 s6 s7, σ' = [some (.ref a), some (.ref t), some (.ref u), some (.ref d), some (.bl ((rs.take i).foldl (pStep (okH ts fs)) (f, false)).2), s4, s5, s6, s7, none] ∧ Ex H H' ∧ H' d = some (.dK (dk ((rs.take i).foldl (pStep (okH ts fs)) (f, false)).1)) ∧ ((rs.take i).foldl (pStep (okH ts fs)) (f, false)).1.length + unm rs ((rs.take i).foldl (pStep (okH ts fs)) (f, false)).1 ≤ rs.length)
        (fun H5 e5 => ⟨s4, s5, s6, s7, rfl, e'.trans (e34.trans e5), (e34.trans e5) _ _ hd', hcnt⟩) (fun i σ' H' _ ⟨_, _, _, _, _, e, _⟩ => sq_of (e _ _ ha)) ?_ ?_
      · rintro i x σ' H5 hx ⟨s4, s5, s6, s7, rfl, e5, hd5, hcnt5⟩
        obtain ⟨r, hr, p, w, dn, rfl, c1, c2, c3⟩ := AllV.at hall hx
        obtain ⟨z1, z2⟩ := hsz.2.1 r (List.mem_of_getElem? hr)
        refine ⟨p, _, rfl, st_of (e5 _ _ c1), rfl, _, _, rfl, _, _, rfl, _, _, rfl, rfl, ?_⟩
        have hcn := pStep_cnt (ok := okH ts fs) (List.mem_of_getElem? hr) hcnt5
        have hlim : rs.length ≤ 60 := hsz.1
        rw [pass_take hr]
        generalize (rs.take i).foldl (pStep (okH ts fs)) (f, false) = S at *
        obtain ⟨g, nw⟩ := S
        dsimp only at hd5 hcnt5 ⊢
        refine q_asg (v := .bl ((r.2.1.any fun c => decide (c ∈ fs)) || r.2.2.any fun c => decide (c ∈ ts))) (ev_orV (ev_anyc (K := K) (p := fun c => decide (c ∈ fs)) (as := r.2.1) (inj := nmV) (ei_L (K := K) (ev_var rfl) (sq_of (e5 _ _ c2))) (by omega) (fun _ => rfl) (fun c _ H9 e9 => ev_din (ev_var rfl) (ev_var rfl) ((e5.trans e9) _ _ hfs))) (fun _ => ev_anyc (K := K) (p := fun c => decide (c ∈ ts)) (as := r.2.2) (inj := nmV) (ei_L (K := K) (ev_var rfl) (sq_of (e5 _ _ c3))) (by omega) (fun _ => rfl) (fun c _ H9 e9 => ev_din (ev_var rfl) (ev_var rfl) ((e5.trans e9) _ _ hts)))) (fun H6 e6 => ?_)
        refine s_when (b := (okH ts fs) r && (decide (r.1 ∉ g) && r.2.1.all fun c => decide (c ∈ g))) (et_is (et_and (et_B (ev_dnotin (ev_var rfl) (ev_var rfl) (e6 _ _ hd5))) (fun _ => et_and (et_not (et_B (ev_var rfl))) (fun _ => et_B (ev_allc (K := K) (p := fun c => decide (c ∈ g)) (as := r.2.1) (inj := nmV) (ei_L (K := K) (ev_var rfl) (sq_of ((e5.trans e6) _ _ c2))) (by omega) (fun _ => rfl) (fun c _ H9 e9 => ev_din (ev_var rfl) (ev_var rfl) (e9 _ _ (e6 _ _ hd5))))))) ?_) (fun hb H7 e7 => ?_) (fun hb H7 e7 => ?_)
        · unfold okH; rw [decide_not]; cases (r.2.1.all fun c => decide (c ∈ g)) <;> cases ((r.2.1.any fun c => decide (c ∈ fs)) || r.2.2.any fun c => decide (c ∈ ts)) <;> cases decide (r.1 ∈ g) <;> rfl
        · have e67 := e6.trans e7
          rw [pStep_yes hb] at hcn ⊢
          refine q_dput (ns := g) (c := r.1) ev_c (ev_var rfl) (ev_var rfl) (e67 _ _ hd5) (by omega) (fun H8 e8 => ?_)
          refine s_asg ev_c (fun H9 e9 => ?_)
          exact ⟨_, _, _, _, rfl, (Ex.mut (e5.trans (e67.trans e8)) hd).trans e9, e9 _ _ upd_same, hcn⟩
        · have e67 := e6.trans e7
          rw [pStep_no hb] at hcn ⊢
          exact ⟨_, _, _, _, rfl, e5.trans e67, e67 _ _ hd5, hcn⟩
      · rintro σ' H5 ⟨s4, s5, s6, s7, rfl, e5, hd5, hcnt5⟩
        rw [hul, List.take_length] at hd5 hcnt5 ⊢
        have hp : rs.foldl (pStep (okH ts fs)) (f, false) = pass (okH ts fs) rs f := rfl
        rw [hp] at hd5 hcnt5 ⊢
        refine ⟨if (pass (okH ts fs) rs f).2 = true then n + 1 else 0, by split <;> omega, ?_⟩
        rw [hW]
        refine ⟨(pass (okH ts fs) rs f).1, (pass (okH ts fs) rs f).2, s4, s5, s6, s7, rfl, e5, hd5, hcnt5, fun h => ?_, fun h => ?_⟩
        · rw [if_pos h] at hfix ⊢
          have := pass_new h
          exact ⟨n, rfl, by omega, hfix⟩
        · rw [if_neg (by rw [h]; decide)] at hfix ⊢
          exact ⟨rfl, by rw [pass_old h]; exact hfix⟩
    · have hf := (w2 hb).2
      have hlim : rs.length ≤ 60 := hsz.1
      rw [hf] at k
      exact s_ret (ev_var rfl) (fun H4 e4 => k d H4 hd ((e'.trans e3).trans e4) ((e3.trans e4) _ _ hd'))

end
end Tx
end
section
set_option Elab.async false
set_option linter.all false
set_option maxRecDepth 100000
set_option maxHeartbeats 4000000
namespace Tx
open PySem PySem.Spec PyProof.Rows L2 Evl Wk
section
variable {w : World} {K : PySem.W.Frag} {mg : Str → Option Value} {base : Heap}

def sp_Case_init (K : PySem.W.Frag) : Sp := fun vs H Q _ => ∃ (B : Hp) (x dx : Addr) (t d : V), vs = [.ref x, t, d] ∧ B x = none ∧ Ex B H ∧ H x = some (.ins (He.ga K "Case") dx []) ∧
  ∀ H', Ex B H' → H' x = some (.ins (He.ga K "Case") dx [("true", t), ("false", d)]) → Q .non H'
def sp_is_shut (K : PySem.W.Frag) : Sp := fun vs H Q _ => ∃ (v : V) (ts fs : List Nat), vs = [v] ∧ CaseAt K ts fs v H ∧ ts.length ≤ 1000 ∧ ∀ H', Ex H H' → Q (.bl (ts.any fun c => decide (c ∈ fs))) H'
def sp_put (K : PySem.W.Frag) : Sp := fun vs H Q _ => ∃ (v : V) (ts fs : List Nat) (c : Nat) (b : Bool), vs = [v, nmV c, .bl b] ∧ CaseAt K ts fs v H ∧ ts.length ≤ 1000 ∧ fs.length ≤ 1000 ∧
  ∀ u H', Ex H H' → CaseAt K (if b then addN ts c else ts) (if b then fs else addN fs c) u H' → Q u H'
theorem sc_Case___init__ : FnScope ["self", "true", "false"] ["self", "true", "false"] (defScope s_Case___init__) := ⟨rfl, rfl, rfl, by decide +kernel, rfl, by decide +kernel, by decide +kernel⟩
theorem ok_Case___init__ (Z : Zx K mg) : OkC prog w K mg base 1 "Case" ["self", "true", "false"] (sp_Case_init K) := by
  obtain ⟨fd, F0⟩ := Z.fun_ 35
  have F : Fun K "__init__" "Case.__init__" s_Case___init__ (He.ma K (He.ga K "Case") "__init__") fd := Wk.fun_of F0
  have na_Case_true := Z.noat 113 (x := "Case") (f := "true")
  have na_Case_false := Z.noat 114 (x := "Case") (f := "false")
  have cl_Case := Z.cls 110 (x := "Case")
  refine ⟨fd, ?_, F.binds (ps := ["self", "true", "false"]) fun _ _ _ _ _ _ us hl => match us, hl with | [_, _, _], _ => rfl, Z.glo 52, Z.mkr 111⟩
  refine F.ok sc_Case___init__ (fun vs H Q E h => ?_) (fun cdv A outer s H vs Q E hr h => ?_)
  · obtain ⟨B, x, dx, t, d, rfl, hB, e, hx, k⟩ := h
    rfl
  · obtain ⟨B, x, dx, t, d, rfl, hB, e, hx, k⟩ := h
    refine ⟨_, (pss_cons (ps_fld (pv 0) (pv 1) rfl) (pss_one (ps_fld (pv 0) (pv 2) rfl))), ?_⟩
    refine q_fld (v := t) (ev_var rfl) (ev_var rfl) hx cl_Case na_Case_true (few rfl) (fun H1 e1 => ?_)
    have E1 := Ex.mut (o := .ins (He.ga K "Case") dx (putF "true" t [])) (e.trans e1) hB
    refine s_fld (v := d) (ev_var rfl) (ev_var rfl) upd_same cl_Case na_Case_false (few rfl) (fun H2 e2 => ?_)
    exact k _ (Ex.mut (E1.trans e2) hB) upd_same
theorem sc_Case_is_shut : FnScope ["self", "name"] ["self"] (defScope s_Case_is_shut) := ⟨rfl, rfl, rfl, by decide +kernel, rfl, by decide +kernel, by decide +kernel⟩
theorem ok_Case_is_shut (Z : Zx K mg) : OkM prog w K mg base 1 "Case" "is_shut" ["self"] (sp_is_shut K) := by
  obtain ⟨fd, F0⟩ := Z.fun_ 36
  have F : Fun K "is_shut" "Case.is_shut" s_Case_is_shut (He.ma K (He.ga K "Case") "is_shut") fd := Wk.fun_of F0
  have n_any := Z.free 58 (x := "any")
  have na_Case_true := Z.noat 113 (x := "Case") (f := "true")
  have na_Case_false := Z.noat 114 (x := "Case") (f := "false")
  have cl_Case := Z.cls 110 (x := "Case")
  refine ⟨fd, ?_, F.binds (ps := ["self"]) fun _ _ _ _ _ _ us hl => match us, hl with | [_], _ => rfl, Z.cls 110, Z.meth 115⟩
  refine F.ok sc_Case_is_shut (fun vs H Q E h => ?_) (fun cdv A outer s H vs Q E hr h => ?_)
  · obtain ⟨v, ts, fs, rfl, ⟨p, dx, t, f, rfl, h1, h2, h3⟩, hl, k⟩ := h
    rfl
  · obtain ⟨v, ts, fs, rfl, ⟨p, dx, t, f, rfl, h1, h2, h3⟩, hl, k⟩ := h
    have hu1 := hu_of hr
    refine ⟨_, (pss_one (ps_ret (pe_lock (pe_callB (cr_any rfl) (by rfl) n_any (by decide +kernel) (pa_cons (pe_lc (te := (tDIn (tVar 1) (tFld K (tVar 0) "false"))) (own := [("name", 1)]) rfl sc_Case_is_shut.nd (pi_keys (pe_fld (pv 0) (by rfl))) (blkOk_by (own := [("name", 1)]) (N := ["self", "name"]) (sc := defScope s_Case_is_shut) (by decide +kernel)) (fun _ _ _ _ _ => pg_name (i := 1) sc_Case_is_shut.nd rfl (Or.inl rfl)) (fun _ _ _ _ _ => pts_nil) (fun _ _ _ _ _ => (pe_cmp (pc_din hu1 (pv 1) (pe_fld (pv 0) (by rfl))) (by rfl)))) pa_nil))))), ?_⟩
    refine s_ret (ev_lock (d := t) h2 trivial (fun od => ?_)) k
    have hp : upd H t (.frz od (.dK (dk ts))) p = some (.ins (He.ga K "Case") dx [("true", .ref t), ("false", .ref f)]) := by
      rw [upd_ne (nq_of h1 h2 (by intro h; cases h))]; exact h1
    have hf : Rd (upd H t (.frz od (.dK (dk ts)))) f (.dK (dk fs)) := by
      by_cases x : f = t
      · subst x
        rw [h2] at h3
        have e := HO.dK.inj (Option.some.inj h3)
        rw [← e]
        exact .inr ⟨od, upd_same⟩
      · exact .inl (by rw [upd_ne x]; exact h3)
    exact ev_anyc (K := K) (p := fun c => decide (c ∈ fs)) (as := ts) (inj := nmV) (ei_dk (ev_fld (f := "true") (ev_var rfl) hp cl_Case na_Case_true rfl) upd_same) (by omega) (fun _ => rfl) (fun c _ H9 e9 => ev_dinF (ev_var rfl) (ev_fld (f := "false") (ev_var rfl) (e9 _ _ hp) cl_Case na_Case_false rfl) (ex_rd e9 hf))
theorem sc_Case_put : FnScope ["self", "name", "is_true", "true", "false"] ["self", "name", "is_true"] (defScope s_Case_put) := ⟨rfl, rfl, rfl, by decide +kernel, rfl, by decide +kernel, by decide +kernel⟩
theorem ok_Case_put (Z : Zx K mg) : OkM prog w K mg base 3 "Case" "put" ["self", "name", "is_true"] (sp_put K) := by
  obtain ⟨fd, F0⟩ := Z.fun_ 37
  have F : Fun K "put" "Case.put" s_Case_put (He.ma K (He.ga K "Case") "put") fd := Wk.fun_of F0
  obtain ⟨_, g_Case, b_Case, m_Case, k_Case⟩ := ok_Case___init__ (w := w) (base := base) Z
  have n_dict := Z.free 59 (x := "dict")
  have na_Case_true := Z.noat 113 (x := "Case") (f := "true")
  have na_Case_false := Z.noat 114 (x := "Case") (f := "false")
  have cl_Case := Z.cls 110 (x := "Case")
  refine ⟨fd, ?_, F.binds (ps := ["self", "name", "is_true"]) fun _ _ _ _ _ _ us hl => match us, hl with | [_, _, _], _ => rfl, Z.cls 110, Z.meth 116⟩
  refine F.ok sc_Case_put (fun vs H Q E h => ?_) (fun cdv A outer s H vs Q E hr h => ?_)
  · obtain ⟨v, ts, fs, c, b, rfl, ⟨p, dx, t, f, rfl, h1, h2, h3⟩, hl1, hl2, k⟩ := h
    rfl
  · obtain ⟨v, ts, fs, c, b, rfl, ⟨p, dx, t, f, rfl, h1, h2, h3⟩, hl1, hl2, k⟩ := h
    have hu1 := hu_of hr
    refine ⟨_, (pss_cons (ps_par (i := 3) (j := 4) rfl sc_Case_put.nd rfl rfl (by decide) rfl rfl (pa_cons (pe_callTy call_dictD (by rfl) n_dict (by decide +kernel) (pa_cons (pe_fld (pv 0) (by rfl)) pa_nil)) (pa_cons (pe_callTy call_dictD (by rfl) n_dict (by decide +kernel) (pa_cons (pe_fld (pv 0) (by rfl)) pa_nil)) pa_nil)) (by rfl)) (pss_cons (ps_if (pt_val (pv 2)) (pss_one (ps_dput hu1 (pv 3) (pv 1) pe_bl rfl)) (pss_one (ps_dput hu1 (pv 4) (pv 1) pe_bl rfl))) (pss_one (ps_ret (pe_make k_Case g_Case (hr.mono (by decide)) (by rfl) m_Case b_Case .nil pass0 (pa_cons (pv 3) (pa_cons (pv 4) pa_nil))))))), ?_⟩
    refine q_parX (x_dict (ev_fld (f := "true") (ev_var rfl) h1 cl_Case na_Case_true rfl) h2) (fun H1 e1 => x_dict (ev_fld (f := "false") (ev_var rfl) (e1 _ _ h1) cl_Case na_Case_false rfl) (e1 _ _ h3)) ?_
    rintro v1 v2 H1 H2 e1 ⟨t2, rfl, ht2, t2d⟩ e2 ⟨f2, rfl, hf2, f2d⟩
    have htf : t2 ≠ f2 := ne_new t2d hf2
    have e12 := e1.trans e2
    have hf2H : H f2 = none := fresh_back e1 hf2
    refine q_if (b := b) (et_B (ev_var rfl)) (fun hb H3 e3 => ?_) (fun hb H3 e3 => ?_)
    · subst hb
      refine s_dput (ns := ts) (c := c) ev_c (ev_var rfl) (ev_var rfl) (e3 _ _ (e2 _ _ t2d)) (by omega) (fun H4 e4 => ?_)
      refine sx_ret (P := fun u H' => CaseAt K (addN ts c) fs u H') (x_make (PA := fun us _ => us = [.ref t2, .ref f2]) (x_ofA (ea_cons (ev_var rfl) (ea_cons (ev_var rfl) ea_nil))) ?_) (fun u H5 e5 hu => k u H5 ((Ex.mut (e12.trans (e3.trans e4)) ht2).trans e5) hu)
      rintro vs H5 x dx5 e5 rfl hx hdx hn Q4 q4 E4
      exact ⟨H5, x, dx5, .ref t2, .ref f2, rfl, hx, Ex.mut (Ex.new hdx) hx, upd_same, fun H6 e6 h6 => q4 H6 e6 ⟨x, dx5, t2, f2, rfl, h6, e6 _ _ (e5 _ _ upd_same), e6 _ _ (e5 _ _ (by rw [upd_ne htf.symm]; exact e4 _ _ (e3 _ _ f2d)))⟩⟩
    · subst hb
      refine s_dput (ns := fs) (c := c) ev_c (ev_var rfl) (ev_var rfl) (e3 _ _ f2d) (by omega) (fun H4 e4 => ?_)
      refine sx_ret (P := fun u H' => CaseAt K ts (addN fs c) u H') (x_make (PA := fun us _ => us = [.ref t2, .ref f2]) (x_ofA (ea_cons (ev_var rfl) (ea_cons (ev_var rfl) ea_nil))) ?_) (fun u H5 e5 hu => k u H5 ((Ex.mut (e12.trans (e3.trans e4)) hf2H).trans e5) hu)
      rintro vs H5 x dx5 e5 rfl hx hdx hn Q4 q4 E4
      exact ⟨H5, x, dx5, .ref t2, .ref f2, rfl, hx, Ex.mut (Ex.new hdx) hx, upd_same, fun H6 e6 h6 => q4 H6 e6 ⟨x, dx5, t2, f2, rfl, h6, e6 _ _ (e5 _ _ (by rw [upd_ne htf]; exact e4 _ _ (e3 _ _ (e2 _ _ t2d)))), e6 _ _ (e5 _ _ upd_same)⟩⟩

end
end Tx
end
section
set_option Elab.async false
set_option linter.all false
set_option maxRecDepth 100000
set_option maxHeartbeats 4000000
namespace Tx
open PySem PySem.Spec PyProof.Rows L2 Evl Wk
section
variable {w : World} {K : PySem.W.Frag} {mg : Str → Option Value} {base : Heap}

def sp_forced (K : PySem.W.Frag) : Sp := fun vs H Q _ => ∃ (a : Addr) (v : V) (rs : List Rw) (ts fs : List Nat), vs = [.ref a, v] ∧ RowsAt rs a H ∧ CaseAt K ts fs v H ∧ SzRs rs ∧ ts.length ≤ 1000 ∧ fs.length ≤ 1000 ∧ (namesOf rs).length ≤ 1000 ∧
  ∀ u H', Ex H H' → ForcedAt (forcedT rs ts fs) (forcedF rs ts fs) u H' → Q u H'
def sp_open_name (K : PySem.W.Frag) : Sp := fun vs H Q _ => ∃ (a : Addr) (v : V) (rs : List Rw) (ts fs : List Nat), vs = [.ref a, v] ∧ RowsAt rs a H ∧ CaseAt K ts fs v H ∧ SzRs rs ∧ RetV (nmO (openOf rs ts fs)) H Q
theorem sc_forced : FnScope ["rows", "case", "true", "head", "wanted", "denied", "is_good", "name", "high"] ["rows", "case"] (defScope s_forced) := ⟨rfl, rfl, rfl, by decide +kernel, rfl, by decide +kernel, by decide +kernel⟩
theorem ok_forced (Z : Zx K mg) : OkD prog w K mg base CX0 2 "forced" ["rows", "case"] (sp_forced K) := by
  obtain ⟨fd, F0⟩ := Z.fun_ 38
  have F : Fun K "forced" "forced" s_forced (He.ga K "forced") fd := Wk.fun_of F0
  obtain ⟨_, g_high_of, b_high_of, m_high_of, k_high_of⟩ := ok_high_of (w := w) (base := base) Z
  obtain ⟨_, g_names_of, b_names_of, m_names_of, k_names_of⟩ := ok_names_of (w := w) (base := base) Z
  have n_all := Z.free 57 (x := "all")
  have na_Case_true := Z.noat 113 (x := "Case") (f := "true")
  have na_Case_false := Z.noat 114 (x := "Case") (f := "false")
  have cl_Case := Z.cls 110 (x := "Case")
  refine ⟨fd, ?_, F.binds (ps := ["rows", "case"]) fun _ _ _ _ _ _ us hl => match us, hl with | [_, _], _ => rfl, Z.glo 28, F.kp⟩
  refine F.ok sc_forced (fun vs H Q E h => ?_) (fun cdv A outer s H vs Q E hr h => ?_)
  · obtain ⟨a, v, rs, ts, fs, rfl, hrs, ⟨p, dx, t, f, rfl, h1, h2, h3⟩, hsz, hl1, hl2, hl3, k⟩ := h
    rfl
  · obtain ⟨a, v, rs, ts, fs, rfl, hrs, ⟨p, dx, t, f, rfl, h1, h2, h3⟩, hsz, hl1, hl2, hl3, k⟩ := h
    have hu1 := hu_of hr
    refine ⟨_, (pss_cons (ps_set (i := 2) sc_forced.nd rfl (by first | exact Or.inl rfl | exact Or.inr rfl) (pe_lst pa_nil)) (pss_cons (ps_for PassesOwn.never rfl (pi_list (pv 0)) (pg_tup rfl (pgs_cons (pg_name (i := 3) sc_forced.nd rfl (by first | exact Or.inl rfl | exact Or.inr rfl)) (pgs_cons (pg_name (i := 4) sc_forced.nd rfl (by first | exact Or.inl rfl | exact Or.inr rfl)) (pgs_cons (pg_name (i := 5) sc_forced.nd rfl (by first | exact Or.inl rfl | exact Or.inr rfl)) pgs_nil)))) (pss_cons (ps_set (i := 6) sc_forced.nd rfl (by first | exact Or.inl rfl | exact Or.inr rfl) (pe_and (pe_callB (cr_all rfl) (by rfl) n_all (by decide +kernel) (pa_cons (pe_lc (te := (tDIn (tVar 7) (tFld K (tVar 1) "true"))) (own := [("name", 7)]) rfl sc_forced.nd (pi_list (pv 4)) (blkOk_by (own := [("name", 7)]) (N := ["rows", "case", "true", "head", "wanted", "denied", "is_good", "name", "high"]) (sc := defScope s_forced) (by decide +kernel)) (fun _ _ _ _ _ => pg_name (i := 7) sc_forced.nd rfl (Or.inl rfl)) (fun _ _ _ _ _ => pts_nil) (fun _ _ _ _ _ => (pe_cmp (pc_din hu1 (pv 7) (pe_fld (pv 1) (by rfl))) (by rfl)))) pa_nil)) (pe_one (pe_callB (cr_all rfl) (by rfl) n_all (by decide +kernel) (pa_cons (pe_lc (te := (tDIn (tVar 7) (tFld K (tVar 1) "false"))) (own := [("name", 7)]) rfl sc_forced.nd (pi_list (pv 5)) (blkOk_by (own := [("name", 7)]) (N := ["rows", "case", "true", "head", "wanted", "denied", "is_good", "name", "high"]) (sc := defScope s_forced) (by decide +kernel)) (fun _ _ _ _ _ => pg_name (i := 7) sc_forced.nd rfl (Or.inl rfl)) (fun _ _ _ _ _ => pts_nil) (fun _ _ _ _ _ => (pe_cmp (pc_din hu1 (pv 7) (pe_fld (pv 1) (by rfl))) (by rfl)))) pa_nil))))) (pss_one (ps_if (pw_and (pt_val (pv 6)) (pw_and1 (pt_cmp (pc_dnotin hu1 (pv 3) (pe_fld (pv 1) (by rfl))) (by rfl)))).pt (pss_one (ps_expr (pe_bm PySem.F.plainAttrs_list PySem.F.slot_list_append PySem.F.type_list_append mt_append (pv 2) (pa_cons (pv 3) pa_nil)))) pss_nil)))) (pss_cons (ps_set (i := 8) sc_forced.nd rfl (by first | exact Or.inl rfl | exact Or.inr rfl) (pe_call g_high_of (hr.mono (by decide)) (by rfl) m_high_of k_high_of b_high_of .nil pass0 (pa_cons (pv 0) (pa_cons (pe_fld (pv 1) (by rfl)) (pa_cons (pe_fld (pv 1) (by rfl)) pa_nil))))) (pss_one (ps_ret (pe_tup (pa_cons (pv 2) (pa_cons (pe_lc (tt := (tAnd (tB (tDNotIn (tVar 7) (tVar 8))) (tB (tDNotIn (tVar 7) (tFld K (tVar 1) "false"))))) (own := [("name", 7)]) rfl sc_forced.nd (pi_list (pe_call g_names_of (hr.mono (by decide)) (by rfl) m_names_of k_names_of b_names_of .nil pass0 (pa_cons (pv 0) pa_nil))) (blkOk_by (own := [("name", 7)]) (N := ["rows", "case", "true", "head", "wanted", "denied", "is_good", "name", "high"]) (sc := defScope s_forced) (by decide +kernel)) (fun _ _ _ _ _ => pg_name (i := 7) sc_forced.nd rfl (Or.inl rfl)) (fun _ _ _ _ _ => pts_one (pw_and (pt_cmp (pc_dnotin hu1 (pv 7) (pv 8)) (by rfl)) (pw_and1 (pt_cmp (pc_dnotin hu1 (pv 7) (pe_fld (pv 1) (by rfl))) (by rfl)))).pt) (fun _ _ _ _ _ => (pv 7))) pa_nil)))))))), ?_⟩
    have hrs0 := hrs
    obtain ⟨us, ha, hall⟩ := hrs
    have hul := hall.1
    have hlim : rs.length ≤ 60 := hsz.1
    refine q_asgL (xs := []) (el_lst ea_nil (few5 rfl)) (fun o H1 ho e1 g1 => ?_)
    refine q_forL (K := K) (xs := us) (ev_var rfl) (sq_of (e1 _ _ ha)) (fun i σ' H' => ∃ s3 s4 s5 s6, σ' = [some (.ref a), some (.ref p), some (.ref o), s3, s4, s5, s6, none, none] ∧ Ex H H' ∧ H' o = some (.lst (nmL (forcedT (rs.take i) ts fs)))) (fun H2 e2 => ⟨none, none, none, none, rfl, e1.trans e2, e2 _ _ g1⟩) (fun i σ' H' _ ⟨_, _, _, _, _, e, _⟩ => sq_of (e _ _ ha)) ?_ ?_
    · rintro i x σ' H' hx ⟨s3, s4, s5, s6, rfl, e', ho'⟩
      obtain ⟨r, hr, q, w, dn, rfl, c1, c2, c3⟩ := AllV.at hall hx
      obtain ⟨z1, z2⟩ := hsz.2.1 r (List.mem_of_getElem? hr)
      refine ⟨q, _, rfl, st_of (e' _ _ c1), rfl, _, _, rfl, _, _, rfl, _, _, rfl, rfl, ?_⟩
      have hft := forcedT_len (rs.take i) ts fs
      rw [List.length_take] at hft
      refine q_asg (v := .bl (r.2.1.all (fun c => decide (c ∈ ts)) && r.2.2.all (fun c => decide (c ∈ fs)))) (ev_andV (ev_allc (K := K) (p := fun c => decide (c ∈ ts)) (as := r.2.1) (inj := nmV) (ei_L (K := K) (ev_var rfl) (sq_of (e' _ _ c2))) (by omega) (fun _ => rfl) (fun c _ H9 e9 => ev_din (ev_var rfl) (ev_fld (f := "true") (ev_var rfl) ((e'.trans e9) _ _ h1) cl_Case na_Case_true rfl) ((e'.trans e9) _ _ h2))) (fun _ => ev_allc (K := K) (p := fun c => decide (c ∈ fs)) (as := r.2.2) (inj := nmV) (ei_L (K := K) (ev_var rfl) (sq_of (e' _ _ c3))) (by omega) (fun _ => rfl) (fun c _ H9 e9 => ev_din (ev_var rfl) (ev_fld (f := "false") (ev_var rfl) ((e'.trans e9) _ _ h1) cl_Case na_Case_false rfl) ((e'.trans e9) _ _ h3)))) (fun H6 e6 => ?_)
      refine s_when (b := okF ts fs r) (et_and (et_B (ev_var rfl)) (fun _ => et_B (ev_dnotin (ev_var rfl) (ev_fld (f := "true") (ev_var rfl) ((e'.trans e6) _ _ h1) cl_Case na_Case_true rfl) ((e'.trans e6) _ _ h2)))) (fun hb H7 e7 => ?_) (fun hb H7 e7 => ?_)
      · have e67 := e6.trans e7
        refine s_app (xs := nmL (forcedT (rs.take i) ts fs)) (e67 _ _ ho') (ev_var rfl) (ev_var rfl) (by rw [nmL_len]; omega) (fun H8 e8 => ⟨_, _, _, _, rfl, Ex.mut (e'.trans (e67.trans e8)) ho, ?_⟩)
        rw [upd_same, forcedT_take hr, if_pos hb]
        unfold nmL
        rw [List.map_append]
        rfl
      · refine ⟨_, _, _, _, rfl, e'.trans (e6.trans e7), ?_⟩
        rw [forcedT_take hr, if_neg (by rw [hb]; decide), List.append_nil]
        exact (e6.trans e7) _ _ ho'
    · rintro σ' H' ⟨s3, s4, s5, s6, rfl, e', ho'⟩
      rw [hul, List.take_length] at ho'
      refine qx_asg (P := fun v H2 => ∃ d, v = .ref d ∧ H2 d = some (.dK (dk (fixOf (okH ts fs) rs)))) (x_call (vs := [.ref a, .ref t, .ref f]) (ea_cons (ev_var rfl) (ea_cons (ev_fld (f := "true") (ev_var rfl) (e' _ _ h1) cl_Case na_Case_true rfl) (ea_cons (ev_fld (f := "false") (ev_var rfl) (e' _ _ h1) cl_Case na_Case_false rfl) ea_nil))) (fun H2 e2 Q2 q2 E2 => ⟨a, t, f, rs, ts, fs, rfl, hrs0.ex (e'.trans e2), (e'.trans e2) _ _ h2, (e'.trans e2) _ _ h3, hsz, fun d H3 hd e3 h3 => q2 _ H3 e3 ⟨d, rfl, h3⟩⟩)) (fun v2 H2 e2 ⟨d, ev2, hd⟩ => ?_)
      subst ev2
      have e02 := e'.trans e2
      have hlc : EvL (tLc (iList K (tCall (sp_names_of) [] (fun _ _ _ => False) (tCons (tVar 0) tNil))) (gName 7) (tAnd (tB (tDNotIn (tVar 7) (tVar 8))) (tB (tDNotIn (tVar 7) (tFld K (tVar 1) "false")))) (tVar 7) [7]) [some (.ref a), some (.ref p), some (.ref o), s3, s4, s5, s6, none, some (.ref d)] H2 (nmL (forcedF rs ts fs)) :=
        el_lc (as := namesOf rs) (inj := nmV) (fun c => !decide (c ∈ fixOf (okH ts fs) rs) && !decide (c ∈ fs)) nmV (ei_NL (K := K) (el_call (ea_cons (ev_var rfl) ea_nil) (fun H3 e3 Q3 q3 E3 => ⟨a, rs, rfl, hrs0.ex (e02.trans e3), hsz, q3⟩))) (by omega) (fun _ => rfl)
          (fun c _ H3 e3 => et_and (et_B (ev_dnotin (ev_var rfl) (ev_var rfl) (e3 _ _ hd))) (fun _ => et_B (ev_dnotin (ev_var rfl) (ev_fld (f := "false") (ev_var rfl) ((e02.trans e3) _ _ h1) cl_Case na_Case_false rfl) ((e02.trans e3) _ _ h3)))) (fun c _ H3 e3 _ => ev_var rfl)
      have hox : EvX (tVar 2) [some (.ref a), some (.ref p), some (.ref o), s3, s4, s5, s6, none, some (.ref d)] H2 (fun x H => x = .ref o ∧ H o = some (.lst (nmL (forcedT rs ts fs)))) := fun H3 e3 Q3 q3 => ev_var (σ := [some (.ref a), some (.ref p), some (.ref o), s3, s4, s5, s6, none, some (.ref d)]) (i := 2) (v := .ref o) rfl H3 (Ex.refl _) _ (fun H4 e4 => q3 _ H4 e4 ⟨rfl, (e2.trans (e3.trans e4)) _ _ ho'⟩)
      refine sx_ret (P := ForcedAt (forcedT rs ts fs) (forcedF rs ts fs)) ((x_tup (x_cons hox (fun _ _ _ e h => ⟨h.1, e _ _ h.2⟩) (x_one (x_evL hlc))) ?_ ?_).imp ?_) (fun u H3 e3 hu => k u H3 (e02.trans e3) hu)
      · rintro vs H8 H9 e9 ⟨v, r, rfl, ⟨rfl, hv⟩, v2, rfl, q, rfl, hq, hq2⟩
        exact ⟨_, _, rfl, ⟨rfl, e9 _ _ hv⟩, _, rfl, q, rfl, hq, e9 _ _ hq2⟩
      · rintro vs H8 ⟨v, r, rfl, ⟨rfl, hv⟩, v2, rfl, q, rfl, hq, hq2⟩
        exact few5 rfl
      · rintro u H8 ⟨pp, vs, rfl, hp8, v, r, rfl, ⟨rfl, hv⟩, v2, rfl, q, rfl, hq, hq2⟩
        exact ⟨pp, o, q, rfl, hp8, hv, hq2⟩
theorem sc_open_name : FnScope ["rows", "case", "name"] ["rows", "case"] (defScope s_open_name) := ⟨rfl, rfl, rfl, by decide +kernel, rfl, by decide +kernel, by decide +kernel⟩
theorem ok_open_name (Z : Zx K mg) : OkD prog w K mg base CX0 2 "open_name" ["rows", "case"] (sp_open_name K) := by
  obtain ⟨fd, F0⟩ := Z.fun_ 40
  have F : Fun K "open_name" "open_name" s_open_name (He.ga K "open_name") fd := Wk.fun_of F0
  obtain ⟨_, g_names_of, b_names_of, m_names_of, k_names_of⟩ := ok_names_of (w := w) (base := base) Z
  have na_Case_true := Z.noat 113 (x := "Case") (f := "true")
  have na_Case_false := Z.noat 114 (x := "Case") (f := "false")
  have cl_Case := Z.cls 110 (x := "Case")
  refine ⟨fd, ?_, F.binds (ps := ["rows", "case"]) fun _ _ _ _ _ _ us hl => match us, hl with | [_, _], _ => rfl, Z.glo 30, F.kp⟩
  refine F.ok sc_open_name (fun vs H Q E h => ?_) (fun cdv A outer s H vs Q E hr h => ?_)
  · obtain ⟨a, v, rs, ts, fs, rfl, hrs, ⟨p, dx, t, f, rfl, h1, h2, h3⟩, hsz, k⟩ := h
    rfl
  · obtain ⟨a, v, rs, ts, fs, rfl, hrs, ⟨p, dx, t, f, rfl, h1, h2, h3⟩, hsz, k⟩ := h
    have hu1 := hu_of hr
    refine ⟨_, (pss_cons (ps_for PassesOwn.never rfl (pi_list (pe_call g_names_of (hr.mono (by decide)) (by rfl) m_names_of k_names_of b_names_of .nil pass0 (pa_cons (pv 0) pa_nil))) (pg_name (i := 2) sc_open_name.nd rfl (by first | exact Or.inl rfl | exact Or.inr rfl)) (pss_one (ps_if (pw_and (pt_cmp (pc_dnotin hu1 (pv 2) (pe_fld (pv 1) (by rfl))) (by rfl)) (pw_and1 (pt_cmp (pc_dnotin hu1 (pv 2) (pe_fld (pv 1) (by rfl))) (by rfl)))).pt (pss_one (ps_ret (pv 2))) pss_nil))) (pss_one (ps_ret pe_non))), ?_⟩
    refine q_forNL (K := K) (xs := nmL (namesOf rs)) (el_call (ea_cons (ev_var rfl) ea_nil) (fun H1 e1 Q1 q1 E1 => ⟨a, rs, rfl, hrs.ex e1, hsz, q1⟩)) (fun q i σ' H' => ∃ s2, σ' = [some (.ref a), some (.ref p), s2] ∧ Ex H H' ∧ H' q = some (.lst (nmL (namesOf rs))) ∧ ∀ c, c ∈ (namesOf rs).take i → (!decide (c ∈ ts) && !decide (c ∈ fs)) = false)
      (fun q H1 hq e1 h1 => ⟨none, rfl, e1, h1, fun c hc => by simp at hc⟩) (fun q i σ' H' _ ⟨_, _, _, h, _⟩ => sq_of h) ?_ ?_
    · rintro q i x σ' H' hx ⟨s2, rfl, e', hq, hno⟩
      unfold nmL at hx
      rw [List.getElem?_map] at hx
      obtain ⟨c, hc, rfl⟩ := Option.map_eq_some_iff.mp hx
      show tIfS _ _ _ _ _ _
      refine s_when (b := !decide (c ∈ ts) && !decide (c ∈ fs)) (et_and (et_B (ev_dnotin (ev_var rfl) (ev_fld (f := "true") (ev_var rfl) (e' _ _ h1) cl_Case na_Case_true rfl) (e' _ _ h2))) (fun _ => et_B (ev_dnotin (ev_var rfl) (ev_fld (f := "false") (ev_var rfl) (e' _ _ h1) cl_Case na_Case_false rfl) (e' _ _ h3)))) (fun hb H1 e1 => ?_) (fun hb H1 e1 => ?_)
      · refine s_ret (v := nmV c) (ev_var rfl) (fun H2 e2 => ?_)
        have : openOf rs ts fs = some c := by
          unfold openOf
          exact find_first hc hno hb
        rw [this] at k
        exact k H2 (e'.trans (e1.trans e2))
      · refine ⟨_, rfl, e'.trans e1, e1 _ _ hq, fun d hd => ?_⟩
        rw [List.take_add_one, hc, List.mem_append] at hd
        rcases hd with hd | hd
        · exact hno d hd
        · have : d = c := by simpa using hd
          rw [this]; exact hb
    · rintro q σ' H' ⟨s2, rfl, e', hq, hno⟩
      rw [nmL_len, List.take_length] at hno
      have : openOf rs ts fs = none := by
        unfold openOf
        rw [List.find?_eq_none]
        intro c hc
        rw [hno c hc]
        decide
      rw [this] at k
      exact s_ret ev_c (fun H2 e2 => k H2 (e'.trans e2))

end
end Tx
end
section
set_option Elab.async false
set_option linter.all false
set_option maxRecDepth 100000
set_option maxHeartbeats 4000000
namespace Tx
open PySem PySem.Spec PyProof.Rows L2 Evl Wk
section
variable {w : World} {K : PySem.W.Frag} {mg : Str → Option Value} {base : Heap}

def SzCs (rs : List Rw) (ts fs : List Nat) : Prop := ts.length + miss (namesOf rs) ts ≤ 1000 ∧ fs.length + miss (namesOf rs) fs ≤ 1000
def sp_grown (K : PySem.W.Frag) : Sp := fun vs H Q _ => ∃ (a : Addr) (v : V) (rs : List Rw) (ts fs : List Nat), vs = [.ref a, v] ∧ RowsAt rs a H ∧ CaseAt K ts fs v H ∧ SzRs rs ∧ SzCs rs ts fs ∧ (namesOf rs).length ≤ 1000 ∧
  ∀ u H', Ex H H' → CaseAt K (growOf rs ts fs).1 (growOf rs ts fs).2 u H' → Q u H'
theorem sc_grown : FnScope ["rows", "case", "found", "is_new", "true", "false", "name"] ["rows", "case"] (defScope s_grown) := ⟨rfl, rfl, rfl, by decide +kernel, rfl, by decide +kernel, by decide +kernel⟩
theorem ok_grown (Z : Zx K mg) : OkD prog w K mg base CX0 4 "grown" ["rows", "case"] (sp_grown K) := by
  obtain ⟨fd, F0⟩ := Z.fun_ 39
  have F : Fun K "grown" "grown" s_grown (He.ga K "grown") fd := Wk.fun_of F0
  obtain ⟨_, g_forced, b_forced, m_forced, k_forced⟩ := ok_forced (w := w) (base := base) Z
  obtain ⟨_, g_Case_is_shut, b_Case_is_shut, c_Case_is_shut, m_Case_is_shut⟩ := ok_Case_is_shut (w := w) (base := base) Z
  obtain ⟨_, g_Case_put, b_Case_put, c_Case_put, m_Case_put⟩ := ok_Case_put (w := w) (base := base) Z
  have n_len := Z.free 63 (x := "len")
  have cl_Case := Z.cls 110 (x := "Case")
  refine ⟨fd, ?_, F.binds (ps := ["rows", "case"]) fun _ _ _ _ _ _ us hl => match us, hl with | [_, _], _ => rfl, Z.glo 29, F.kp⟩
  refine F.ok sc_grown (fun vs H Q E h => ?_) (fun cdv A outer s H vs Q E hr h => ?_)
  · obtain ⟨a, v, rs, ts, fs, rfl, hrs, hc, hsz, hcs, hnl, k⟩ := h
    rfl
  · obtain ⟨a, v, rs, ts, fs, rfl, hrs, hc, hsz, hcs, hnl, k⟩ := h
    refine ⟨_, (pss_cons (ps_set (i := 2) sc_grown.nd rfl (by first | exact Or.inl rfl | exact Or.inr rfl) (pv 1)) (pss_cons (ps_set (i := 3) sc_grown.nd rfl (by first | exact Or.inl rfl | exact Or.inr rfl) pe_bl) (pss_cons (ps_while PassesOwn.never (pw_and (pt_val (pv 3)) (pw_and1 (pt_not (pt_val (pe_meth0 (pv 2) c_Case_is_shut m_Case_is_shut g_Case_is_shut (hr.mono (by decide)) b_Case_is_shut .nil pass0))))).pt (pss_cons (ps_asg (pe_call g_forced (hr.mono (by decide)) (by rfl) m_forced k_forced b_forced .nil pass0 (pa_cons (pv 0) (pa_cons (pv 2) pa_nil))) (pg_tup rfl (pgs_cons (pg_name (i := 4) sc_grown.nd rfl (by first | exact Or.inl rfl | exact Or.inr rfl)) (pgs_cons (pg_name (i := 5) sc_grown.nd rfl (by first | exact Or.inl rfl | exact Or.inr rfl)) pgs_nil)))) (pss_cons (ps_for PassesOwn.never rfl (pi_list (pv 4)) (pg_name (i := 6) sc_grown.nd rfl (by first | exact Or.inl rfl | exact Or.inr rfl)) (pss_one (ps_set (i := 2) sc_grown.nd rfl (by first | exact Or.inl rfl | exact Or.inr rfl) (pe_meth (pv 2) c_Case_put m_Case_put g_Case_put (hr.mono (by decide)) b_Case_put .nil pass0 (pa_cons (pv 6) (pa_cons pe_bl pa_nil)))))) (pss_cons (ps_for PassesOwn.never rfl (pi_list (pv 5)) (pg_name (i := 6) sc_grown.nd rfl (by first | exact Or.inl rfl | exact Or.inr rfl)) (pss_one (ps_set (i := 2) sc_grown.nd rfl (by first | exact Or.inl rfl | exact Or.inr rfl) (pe_meth (pv 2) c_Case_put m_Case_put g_Case_put (hr.mono (by decide)) b_Case_put .nil pass0 (pa_cons (pv 6) (pa_cons pe_bl pa_nil)))))) (pss_one (ps_set (i := 3) sc_grown.nd rfl (by first | exact Or.inl rfl | exact Or.inr rfl) (pe_cmpR op_gt (pe_op op_add (pe_callB call_len_seq (by rfl) n_len (by decide +kernel) (pa_cons (pv 4) pa_nil)) (pe_callB call_len_seq (by rfl) n_len (by decide +kernel) (pa_cons (pv 5) pa_nil))) pe_int (nomark _)))))))) (pss_one (ps_ret (pv 2)))))), ?_⟩
    refine q_asg (ev_var rfl) (fun H1 e1 => ?_)
    refine q_asg ev_c (fun H2 e2 => ?_)
    have e12 := e1.trans e2
    obtain ⟨W, hW⟩ : ∃ W : Nat → L2.St → Hp → Prop, W = fun m σ' H' => ∃ u ts' fs' new s4 s5 s6, σ' = [some (.ref a), some v, some u, some (.bl new), s4, s5, s6] ∧ Ex H H' ∧ CaseAt K ts' fs' u H' ∧ SzCs rs ts' fs' ∧
      (new = true → ∃ n, m = n + 1 ∧ miss (namesOf rs) ts' + miss (namesOf rs) fs' + 1 ≤ n ∧ growOf rs ts fs = growN rs n ts' fs') ∧ (new = false → m = 0 ∧ growOf rs ts fs = (ts', fs')) := ⟨_, rfl⟩
    refine q_while W (miss (namesOf rs) ts + miss (namesOf rs) fs + 2) (by
      rw [hW]
      exact ⟨v, ts, fs, true, none, none, none, rfl, e12, CaseAt.mo K _ _ _ _ _ e12 hc, hcs, fun _ => ⟨_, rfl, Nat.le_refl _, rfl⟩, fun h => by cases h⟩) ?_
    intro m σ' H' hw
    rw [hW] at hw
    obtain ⟨u, ts', fs', new, s4, s5, s6, rfl, e', hcu, hcs', w1, w2⟩ := hw
    have hcu0 := hcu
    obtain ⟨p, dx, t, f, rfl, h1, h2, h3⟩ := hcu
    obtain ⟨z1, z2⟩ := hcs'
    have htest : EvT (tAnd (tB (tVar 3)) (tNot (tB (tMeth (He.ga K "Case") "is_shut" (sp_is_shut K) [] (fun _ _ _ => False) (tVar 2) tNil)))) [some (.ref a), some v, some (.ref p), some (.bl new), s4, s5, s6] H' (new && !shutB ts' fs') :=
      et_and (et_B (ev_var rfl)) (fun _ => et_not (et_B (ev_meth (ev_var rfl) h1 rfl ea_nil (fun H3 e3 Q3 q3 E3 => ⟨.ref p, ts', fs', rfl, CaseAt.mo K _ _ _ _ _ e3 hcu0, by omega, fun H4 e4 => q3 H4 e4⟩))))
    refine ⟨new && !shutB ts' fs', htest, fun hb H3 e3 => ?_, fun hb H3 e3 => ?_⟩
    · obtain ⟨hb1, hb2⟩ := Bool.and_eq_true_iff.mp hb
      subst hb1
      have hns : ¬ shutB ts' fs' = true := by simpa using hb2
      obtain ⟨n, rfl, hn1, hfix⟩ := w1 rfl
      obtain ⟨n, rfl⟩ : ∃ n', n = n' + 1 := ⟨n - 1, by omega⟩
      have hstep : growN rs (n + 1) ts' fs' = if shutB ts' fs' = true then (ts', fs') else
        if forcedT rs ts' fs' = [] ∧ forcedF rs ts' fs' = [] then (ts', fs') else growN rs n (addAll ts' (forcedT rs ts' fs')) (addAll fs' (forcedF rs ts' fs')) := rfl
      rw [hstep, if_neg hns] at hfix
      refine ⟨fun σ2 H4 => ∃ m', m' < n + 1 + 1 ∧ W m' σ2 H4, fun _ _ h => h, ?_⟩
      have e03 := e'.trans e3
      refine q_asgTupX (K := K) (P2 := fun x y H => ∃ t f, x = .ref t ∧ y = .ref f ∧ H t = some (.lst (nmL (forcedT rs ts' fs'))) ∧ H f = some (.lst (nmL (forcedF rs ts' fs')))) ((x_call (P := ForcedAt (forcedT rs ts' fs') (forcedF rs ts' fs')) (ea_cons (ev_var rfl) (ea_cons (ev_var rfl) ea_nil)) (fun H4 e4 Q4 q4 E4 => ⟨a, .ref p, rs, ts', fs', rfl, hrs.ex (e03.trans e4), CaseAt.mo K _ _ _ _ _ (e3.trans e4) hcu0, hsz, by omega, by omega, hnl, q4⟩)).imp ?_) ?_
      · rintro u H4 ⟨q, t, f, rfl, g1, g2, g3⟩
        exact ⟨q, _, _, rfl, g1, t, f, rfl, rfl, g2, g3⟩
      rintro x y H4 e4 ⟨t2, f2, rfl, rfl, g2, g3⟩
      have cT : ∀ i c, c ∈ (forcedT rs ts' fs').take i → c ∈ namesOf rs := fun i c hc => (forcedT_names (List.mem_of_mem_take hc)).1
      have cF : ∀ i c, c ∈ (forcedF rs ts' fs').take i → c ∈ namesOf rs := fun i c hc => (forcedF_names (List.mem_of_mem_take hc)).1
      refine q_forLn (K := K) (xs := nmL (forcedT rs ts' fs')) (ev_var rfl) (sq_of g2) (fun i σ' H5 => ∃ u s6, σ' = [some (.ref a), some v, some u, some (.bl true), some (.ref t2), some (.ref f2), s6] ∧ Ex H4 H5 ∧ CaseAt K (addAll ts' ((forcedT rs ts' fs').take i)) fs' u H5)
        (fun H5 e5 => ⟨_, s6, rfl, e5, CaseAt.mo K _ _ _ _ _ (e3.trans (e4.trans e5)) hcu0⟩) (fun i σ' H5 _ ⟨_, _, _, e, _⟩ => sq_of (e _ _ g2)) ?_ ?_
      · rintro i x σ' H5 hx ⟨u, s6, rfl, e5, hcu5⟩
        unfold nmL at hx
        rw [List.getElem?_map] at hx
        obtain ⟨c, hc, rfl⟩ := Option.map_eq_some_iff.mp hx
        have hcnt := addAll_cnt (ns := namesOf rs) (f := ts') (cT i)
        have hcu6 := hcu5
        obtain ⟨p5, dx5, t5, f5, rfl, q1, q2, q3⟩ := hcu5
        refine sx_asg (P := CaseAt K (addN (addAll ts' ((forcedT rs ts' fs').take i)) c) fs') (x_meth (ev_var rfl) q1 rfl (ea_cons (ev_var rfl) (ea_cons ev_c ea_nil)) (fun H6 e6 Q6 q6 E6 => ⟨.ref p5, addAll ts' ((forcedT rs ts' fs').take i), fs', c, true, rfl, CaseAt.mo K _ _ _ _ _ e6 hcu6, by omega, by omega, q6⟩)) (fun u H6 e6 hu => ⟨u, _, rfl, e5.trans e6, by rw [addAll_take hc]; exact hu⟩)
      rintro σ' H5 ⟨u5, s65, rfl, e5, hcu5⟩
      rw [nmL_len, List.take_length] at hcu5
      have cntT := addAll_cnt (ns := namesOf rs) (f := ts') (cs := forcedT rs ts' fs') (fun c hc => (forcedT_names hc).1)
      have cntF := addAll_cnt (ns := namesOf rs) (f := fs') (cs := forcedF rs ts' fs') (fun c hc => (forcedF_names hc).1)
      refine q_forLn (K := K) (xs := nmL (forcedF rs ts' fs')) (ev_var rfl) (sq_of (e5 _ _ g3)) (fun i σ' H6 => ∃ u s6, σ' = [some (.ref a), some v, some u, some (.bl true), some (.ref t2), some (.ref f2), s6] ∧ Ex H4 H6 ∧ CaseAt K (addAll ts' (forcedT rs ts' fs')) (addAll fs' ((forcedF rs ts' fs').take i)) u H6)
        (fun H6 e6 => ⟨_, s65, rfl, e5.trans e6, CaseAt.mo K _ _ _ _ _ e6 hcu5⟩) (fun i σ' H6 _ ⟨_, _, _, e, _⟩ => sq_of (e _ _ g3)) ?_ ?_
      · rintro i x σ' H6 hx ⟨u, s6, rfl, e6, hcu6⟩
        unfold nmL at hx
        rw [List.getElem?_map] at hx
        obtain ⟨c, hc, rfl⟩ := Option.map_eq_some_iff.mp hx
        have hcnt := addAll_cnt (ns := namesOf rs) (f := fs') (cF i)
        have hcu7 := hcu6
        obtain ⟨p5, dx5, t5, f5, rfl, q1, q2, q3⟩ := hcu6
        refine sx_asg (P := CaseAt K (addAll ts' (forcedT rs ts' fs')) (addN (addAll fs' ((forcedF rs ts' fs').take i)) c)) (x_meth (ev_var rfl) q1 rfl (ea_cons (ev_var rfl) (ea_cons ev_c ea_nil)) (fun H7 e7 Q7 q7 E7 => ⟨.ref p5, _, _, c, false, rfl, CaseAt.mo K _ _ _ _ _ e7 hcu7, by omega, by omega, q7⟩)) (fun u H7 e7 hu => ⟨u, _, rfl, e6.trans e7, by rw [addAll_take hc]; exact hu⟩)
      rintro σ' H6 ⟨u6, s66, rfl, e6, hcu6⟩
      rw [nmL_len, List.take_length] at hcu6
      refine s_asg (v := .bl (decide (¬ (forcedT rs ts' fs' = [] ∧ forcedF rs ts' fs' = [])))) (ev_is (ev_op (ev_op (ev_len (ev_var rfl) (sq_of (e6 _ _ g2))) (ev_len (ev_var rfl) (sq_of (e6 _ _ g3))) rv_I0) ev_c rv_I0) ?_) (fun H7 e7 => ?_)
      · rw [nmL_len, nmL_len]
        congr 1
        rw [decide_eq_decide]
        show (0 : Int) < _ ↔ _
        rw [← List.length_eq_zero_iff, ← List.length_eq_zero_iff]
        omega
      · refine ⟨if forcedT rs ts' fs' = [] ∧ forcedF rs ts' fs' = [] then 0 else n + 1, by split <;> omega, ?_⟩
        rw [hW]
        refine ⟨u6, _, _, _, _, _, _, rfl, (e03.trans (e4.trans (e6.trans e7))), CaseAt.mo K _ _ _ _ _ e7 hcu6, ⟨by omega, by omega⟩, fun h => ?_, fun h => ?_⟩
        · have h' := of_decide_eq_true h
          rw [if_neg h'] at hfix ⊢
          have := grow_lt h'
          exact ⟨n, rfl, by omega, hfix⟩
        · have h' : forcedT rs ts' fs' = [] ∧ forcedF rs ts' fs' = [] := Decidable.not_not.mp (of_decide_eq_false h)
          rw [if_pos h'] at hfix ⊢
          refine ⟨rfl, ?_⟩
          rw [hfix, h'.1, h'.2]
          rfl
    · have hres : growOf rs ts fs = (ts', fs') := by
        cases new with
        | false => exact (w2 rfl).2
        | true =>
          obtain ⟨n, rfl, hn1, hfix⟩ := w1 rfl
          obtain ⟨n, rfl⟩ : ∃ n', n = n' + 1 := ⟨n - 1, by omega⟩
          have hs : shutB ts' fs' = true := by
            rw [Bool.true_and] at hb
            simpa using hb
          rw [hfix]
          unfold growN
          rw [if_pos hs]
      rw [hres] at k
      exact s_ret (ev_var rfl) (fun H4 e4 => k _ H4 (e'.trans (e3.trans e4)) (CaseAt.mo K _ _ _ _ _ (e3.trans e4) hcu0))

end
end Tx
end
section
set_option Elab.async false
set_option linter.all false
set_option maxRecDepth 100000
set_option maxHeartbeats 4000000
namespace Tx
open PySem PySem.Spec PyProof.Rows L2 Evl Wk
section
variable {w : World} {K : PySem.W.Frag} {mg : Str → Option Value} {base : Heap}

def sp_is_tuple (K : PySem.W.Frag) : Sp := fun vs H Q _ => ∃ (v : V) (lo hi : Int), vs = [v, .int lo, .int hi] ∧ ((∃ a xs, v = .ref a ∧ H a = some (.tup xs) ∧ ∀ H', Ex H H' → Q (.bl (decide (lo ≤ (xs.length : Int)) && decide ((xs.length : Int) ≤ hi))) H') ∨ (∃ t, TyX K H v (.type t) ∧ kitB t "tuple" = some false ∧ Q (.bl false) H))
theorem sc_is_tuple : FnScope ["value", "least", "most"] ["value", "least", "most"] (defScope s_is_tuple) := ⟨rfl, rfl, rfl, by decide +kernel, rfl, by decide +kernel, by decide +kernel⟩
theorem ok_is_tuple (Z : Zx K mg) : OkD prog w K mg base CX0 1 "is_tuple" ["value", "least", "most"] (sp_is_tuple K) := by
  obtain ⟨fd, F0⟩ := Z.fun_ 0
  have F : Fun K "is_tuple" "is_tuple" s_is_tuple (He.ga K "is_tuple") fd := Wk.fun_of F0
  have n_isinstance := Z.free 62 (x := "isinstance")
  have n_len := Z.free 63 (x := "len")
  have n_tuple := Z.free 71 (x := "tuple")
  refine ⟨fd, ?_, F.binds (ps := ["value", "least", "most"]) fun _ _ _ _ _ _ us hl => match us, hl with | [_, _, _], _ => rfl, Z.glo 0, F.kp⟩
  refine F.ok sc_is_tuple (fun vs H Q E h => ?_) (fun cdv A outer s H vs Q E hr h => ?_)
  · obtain ⟨v, lo, hi, rfl, h⟩ := h
    rfl
  · obtain ⟨v, lo, hi, rfl, h⟩ := h
    refine ⟨_, (pss_one (ps_ret (pe_and (pe_callB call_isi (by rfl) n_isinstance (by decide +kernel) (pa_cons (pv 0) (pa_cons (pe_bltn (v := .ty "tuple") (by rfl) n_tuple (by decide +kernel) rfl) pa_nil))) (pe_one (pe_chain op_le op_le (pv 1) (pe_callB call_len_seq (by rfl) n_len (by decide +kernel) (pa_cons (pv 0) pa_nil)) (pv 2)))))), ?_⟩
    rcases h with ⟨a, xs, rfl, ha, q⟩ | ⟨t, ht, hb, q⟩
    · refine ⟨_, rfl, _, _, _, _, _, rfl, .ty _, .base (.tup ha), kit_ty (by decide +kernel), true, rfl, ?_⟩
      exact ev_chainI (σ := L2.start ["value", "least", "most"] [V.ref a, V.int lo, V.int hi]) (i := lo) (j := (xs.length : Int)) (k := hi) (ta := tVar 1) (tb := tCB (rLenS K) (tCons (tVar 0) tNil)) (tc := tVar 2) (ev_var rfl) (ev_lenT (ev_var rfl) (st_of ha)) (ev_var rfl) H (Ex.refl _) _ (fun H' e' => q H' e')
    · refine ⟨_, rfl, _, _, _, _, _, rfl, .ty _, ht, kit_ty hb, false, rfl, ?_⟩
      exact q
/-- a program of names alone, or one with an atom that has parts -/
def sp_demand_names (K : PySem.W.Frag) : Sp := fun vs H Q E => ∃ (ls : List (List Nat)) (zs : List Cl), vs = [.str (tx (progT ls))] ∧ GoodP ls zs ∧ zs.length ≤ 30 ∧ (∀ z, z ∈ zs → z.2.length ≤ 100) ∧
  ((∃ rs, zs = rs.map clOf ∧ SzRs rs ∧ (namesOf rs).length ≤ 10 ∧ ∀ p H', H p = none → Ex H H' → RowsAt rs p H' → Q (.ref p) H') ∨ ((∃ z, z ∈ zs ∧ ∃ t, t ∈ z.1 :: z.2.map Prod.fst ∧ t.length ≠ 1) ∧ BadE K "program" H E))
theorem sc_demand_names : FnScope ["value", "clauses", "clause", "atoms", "literal", "atom", "rows"] ["value"] (defScope s_demand_names) := ⟨rfl, rfl, rfl, by decide +kernel, rfl, by decide +kernel, by decide +kernel⟩
theorem ok_demand_names (Z : Zx K mg) : OkD prog w K mg base (L2.CX prog w) 8 "demand_names" ["value"] (sp_demand_names K) := by
  obtain ⟨fd, F0⟩ := Z.fun_ 28
  have F : Fun K "demand_names" "demand_names" s_demand_names (He.ga K "demand_names") fd := Wk.fun_of F0
  have x_BadArgument := Z.bad
  have cBadArgument := Z.glo 54 (x := "BadArgument")
  have c_MOST_NAMES := Z.int 83 (x := "MOST_NAMES")
  obtain ⟨_, g_demand, b_demand, m_demand, k_demand⟩ := ok_demand (w := w) (base := base) Z
  obtain ⟨_, g_demand_program, b_demand_program, m_demand_program, k_demand_program⟩ := ok_demand_program (w := w) (base := base) Z
  obtain ⟨_, g_names_of, b_names_of, m_names_of, k_names_of⟩ := ok_names_of (w := w) (base := base) Z
  obtain ⟨_, g_rows_of, b_rows_of, m_rows_of, k_rows_of⟩ := ok_rows_of (w := w) (base := base) Z
  have n_all := Z.free 57 (x := "all")
  have n_len := Z.free 63 (x := "len")
  have na_Literal_atom := Z.noat 103 (x := "Literal") (f := "atom")
  have na_Clause_head := Z.noat 108 (x := "Clause") (f := "head")
  have na_Clause_body := Z.noat 109 (x := "Clause") (f := "body")
  have cl_Clause := Z.cls 105 (x := "Clause")
  have cl_Literal := Z.cls 100 (x := "Literal")
  refine ⟨fd, ?_, F.binds (ps := ["value"]) fun _ _ _ _ _ _ us hl => match us, hl with | [_], _ => rfl, Z.glo 21, F.kp⟩
  refine F.okX sc_demand_names (fun vs H Q E h => ?_) (fun cdv A outer s H vs Q E hr h => ?_)
  · obtain ⟨ls, zs, rfl, hg, hzn, hzb, h⟩ := h
    rfl
  · obtain ⟨ls, zs, rfl, hg, hzn, hzb, h⟩ := h
    refine ⟨_, (pss_cons (ps_set (i := 1) sc_demand_names.nd rfl (by first | exact Or.inl rfl | exact Or.inr rfl) (pe_call g_demand_program (hr.mono (by decide)) (by rfl) m_demand_program k_demand_program b_demand_program .nil pass0 (pa_cons (pv 0) pa_nil))) (pss_cons (ps_for (passes_of rfl) rfl (pi_list (pv 1)) (pg_name (i := 2) sc_demand_names.nd rfl (by first | exact Or.inl rfl | exact Or.inr rfl)) (pss_cons (ps_set (i := 3) sc_demand_names.nd rfl (by first | exact Or.inl rfl | exact Or.inr rfl) (pe_op op_cat (pe_lst (pa_cons (pe_fld (pv 2) (by rfl)) pa_nil)) (pe_lc (te := (tFld K (tVar 4) "atom")) (own := [("literal", 4)]) rfl sc_demand_names.nd (pi_list (pe_fld (pv 2) (by rfl))) (blkOk_by (own := [("literal", 4)]) (N := ["value", "clauses", "clause", "atoms", "literal", "atom", "rows"]) (sc := defScope s_demand_names) (by decide +kernel)) (fun _ _ _ _ _ => pg_name (i := 4) sc_demand_names.nd rfl (Or.inl rfl)) (fun _ _ _ _ _ => pts_nil) (fun _ _ _ _ _ => (pe_fld (pv 4) (by rfl)))))) (pss_one (ps_expr (pe_call g_demand (hr.mono (by decide)) (by rfl) m_demand k_demand b_demand .nil (passes_call (takes_of rfl rfl rfl rfl) (fun _ _ _ _ h => h)) (pa_cons (pe_callB (cr_all rfl) (by rfl) n_all (by decide +kernel) (pa_cons (pe_lc (te := (tOp rEq (tCB (rLenS K) (tCons (tVar 5) tNil)) (tC (.int 1)))) (own := [("atom", 5)]) rfl sc_demand_names.nd (pi_list (pv 3)) (blkOk_by (own := [("atom", 5)]) (N := ["value", "clauses", "clause", "atoms", "literal", "atom", "rows"]) (sc := defScope s_demand_names) (by decide +kernel)) (fun _ _ _ _ _ => pg_name (i := 5) sc_demand_names.nd rfl (Or.inl rfl)) (fun _ _ _ _ _ => pts_nil) (fun _ _ _ _ _ => (pe_cmpR op_eq (pe_callB call_len_seq (by rfl) n_len (by decide +kernel) (pa_cons (pv 5) pa_nil)) pe_int (nomark _)))) pa_nil)) (pa_cons pe_str pa_nil))))))) (pss_cons (ps_set (i := 6) sc_demand_names.nd rfl (by first | exact Or.inl rfl | exact Or.inr rfl) (pe_call g_rows_of (hr.mono (by decide)) (by rfl) m_rows_of k_rows_of b_rows_of .nil pass0 (pa_cons (pv 1) pa_nil))) (pss_cons (ps_expr (pe_call g_demand (hr.mono (by decide)) (by rfl) m_demand k_demand b_demand .nil (passes_call (takes_of rfl rfl rfl rfl) (fun _ _ _ _ h => h)) (pa_cons (pe_cmpR op_le (pe_callB call_len_seq (by rfl) n_len (by decide +kernel) (pa_cons (pe_call g_names_of (hr.mono (by decide)) (by rfl) m_names_of k_names_of b_names_of .nil pass0 (pa_cons (pv 6) pa_nil)) pa_nil)) (pe_gi c_MOST_NAMES) (nomark _)) (pa_cons pe_str pa_nil)))) (pss_one (ps_ret (pv 6))))))), ?_⟩
    refine qx_asg (P := fun v H' => ∃ p ys, v = .ref p ∧ H p = none ∧ H' p = some (.lst ys) ∧ AllV (ClAt K) zs ys H') (x_call (ea_cons (ev_var rfl) ea_nil) (fun H1 e1 Q1 q1 E1 => ⟨ls, zs, rfl, hg, fun p ys H2 hp e2 h2 h3 => q1 _ H2 e2 ⟨p, ys, rfl, fresh_back e1 hp, h2, h3⟩⟩)) ?_
    rintro v H1 e1 ⟨q, ys, rfl, hq, hys, hall⟩
    have hyl := hall.1
    have okz : ∀ z : Cl, (z.1 :: z.2.map Prod.fst).all (fun t => decide (t.length = 1)) = false → BadE K "program" H E → True := fun _ _ _ => trivial
    refine q_forLn (K := K) (xs := ys) (ev_var rfl) (sq_of hys) (fun i σ' H' => ∃ s2 s3, σ' = [some (.str (tx (progT ls))), some (.ref q), s2, s3, none, none, none] ∧ Ex H1 H' ∧ ∀ z, z ∈ zs.take i → (z.1 :: z.2.map Prod.fst).all (fun t => decide (t.length = 1)) = true)
      (fun H2 e2 => ⟨none, none, rfl, e2, fun z hz => by simp at hz⟩) (fun i σ' H' _ ⟨_, _, _, e, _⟩ => sq_of (e _ _ hys)) ?_ ?_
    · rintro i x σ' H' hx ⟨s2, s3, rfl, e', hno⟩
      obtain ⟨z, hz, hcl⟩ := AllV.at hall hx
      have hmem := List.mem_of_getElem? hz
      have hzl := hzb z hmem
      obtain ⟨p, dx, t, b, us, rfl, c1, c2, c3, c4⟩ := hcl
      have hul := c4.1
      have hat : EvX (tOp rCat (tLst (tCons (tFld K (tVar 2) "head") tNil)) (tLc (iList K (tFld K (tVar 2) "body")) (gName 4) tYes (tFld K (tVar 4) "atom") [4])) [some (.str (tx (progT ls))), some (.ref q), some (.ref p), s3, none, none, none] H' (fun v H2 => ∃ w ys, v = .ref w ∧ H2 w = some (.lst ([t] ++ ys)) ∧ (ys.length = us.length ∧ ∀ (i : Nat) y, ys[i]? = some y → ∃ a, z.2[i]? = some a ∧ TermAt a.1 y H2)) := by
        refine x_catL (PL := fun ys H2 => ys.length = us.length ∧ ∀ (i : Nat) y, ys[i]? = some y → ∃ a, z.2[i]? = some a ∧ TermAt a.1 y H2) (el_lst (ea_cons (ev_fld (f := "head") (ev_var rfl) (e' _ _ c1) cl_Clause na_Clause_head rfl) ea_nil) (few5 rfl)) ((x_lc (xs := us) (fun i t H => ∃ a, z.2[i]? = some a ∧ TermAt a.1 t H) (fun i v H H' n ⟨a, ha, h⟩ => ⟨a, ha, TermAt.mn _ _ _ _ n h⟩) (ei_L (K := K) (ev_fld (f := "body") (ev_var rfl) (e' _ _ c1) cl_Clause na_Clause_body rfl) (sq_of (e' _ _ c3))) (by omega) (fun _ => rfl) (fun i x hx H2 e2 => ?_)).imp ?_) ?_ ?_
        · obtain ⟨a, ha, pl, dl, tl, rfl, m1, m2⟩ := AllV.at c4 hx
          intro H3 e3 Q3 q3
          exact ev_fld (K := K) (f := "atom") (ev_var rfl) (e3 _ _ (e2 _ _ (e' _ _ m1))) cl_Literal na_Literal_atom rfl H3 (Ex.refl _) _ (fun H4 e4 => q3 _ H4 e4 ⟨a, ha, (TermAt.mn a.1).mo _ _ _ ((e'.trans e2).trans (e3.trans e4)) m2⟩)
        · rintro v H2 ⟨w, ys, rfl, _, g2, g3, g4⟩
          exact ⟨w, ys, rfl, g2, g3, g4⟩
        · rintro ys H2 H3 e3 ⟨g3, g4⟩
          exact ⟨g3, fun i y hy => let ⟨a, ha, h⟩ := g4 i y hy; ⟨a, ha, (TermAt.mn a.1).mo _ _ _ e3 h⟩⟩
        · rintro ys H2 ⟨g3, g4⟩
          show 1 + _ ≤ _
          omega
      refine qx_asg (P := fun v H2 => ∃ w ts, v = .ref w ∧ H2 w = some (.lst ts) ∧ AllV TermAt (z.1 :: z.2.map Prod.fst) ts H2) (fun H0 e0 Q0 q0 => hat H0 e0 Q0 (fun v H2 e2 ⟨w, ys2, ev, g1, g3, g4⟩ => q0 v H2 e2 ⟨w, [t] ++ ys2, ev, g1, by rw [List.length_append, g3, hul]; simp; omega, fun i y a hy ha => ?_⟩)) ?_
      · cases i with
        | zero =>
          cases hy; cases ha
          exact (TermAt.mn z.1).mo _ _ _ (e'.trans (e0.trans e2)) c2
        | succ i =>
          have hy' : ys2[i]? = some y := hy
          have ha' : (z.2.map Prod.fst)[i]? = some a := ha
          obtain ⟨c, hc, m⟩ := g4 i y hy'
          rw [List.getElem?_map, hc] at ha'
          cases ha'
          exact m
      rintro v H2 e2 ⟨w, ts, rfl, hw, hts⟩
      have htl := hts.1
      have hal : (z.1 :: z.2.map Prod.fst).length ≤ 101 := by rw [List.length_cons, List.length_map]; omega
      refine s_dropC (vs := [.bl ((z.1 :: z.2.map Prod.fst).all fun t => decide (t.length = 1)), .str "program"]) (ea_cons ?_ (ea_cons ev_c ea_nil)) (fun H3 e3 => ⟨_, "program", rfl, fun hb H4 e4 => ?_, fun hb => ?_⟩)
      · have hpair : ∀ y, y ∈ ts.zip (z.1 :: z.2.map Prod.fst) → ∀ H5, Ex H2 H5 → Ev (tOp rEq (tCB (rLenS K) (tCons (tVar 5) tNil)) (tC (.int 1))) [some (.str (tx (progT ls))), some (.ref q), some (.ref p), some (.ref w), none, some y.1, none] H5 (.bl (decide (y.2.length = 1))) := fun y hy H5 e5 => by
          obtain ⟨a, vs, ea, ga, gb⟩ := hts.mem y hy
          rw [ea]
          refine ev_is (ev_op (ev_lenT (K := K) (ev_var rfl) (st_of (e5 _ _ ga))) ev_c (rv_eq (by rfl))) ?_
          rw [gb.1]
          congr 1
          rw [decide_eq_decide]
          constructor
          · intro h
            have := V.int.inj h
            omega
          · intro h; rw [h]; rfl
        have hr := ev_allc (K := K) (H := H2) (σ := [some (.str (tx (progT ls))), some (.ref q), some (.ref p), some (.ref w), none, none, none]) (te := tOp rEq (tCB (rLenS K) (tCons (tVar 5) tNil)) (tC (.int 1))) (j := 5) (vs := [5]) (wi := iList K (tVar 3)) (as := ts.zip (z.1 :: z.2.map Prod.fst)) (inj := Prod.fst) (fun y => decide (y.2.length = 1)) (by rw [hts.fst]; exact ei_L (ev_var (i := 3) (σ := [some (.str (tx (progT ls))), some (.ref q), some (.ref p), some (.ref w), none, none, none]) rfl) (sq_of hw)) (by rw [hts.zlen]; omega) (fun _ => rfl) (fun y hy H5 e5 => hpair y hy H5 e5)
        refine ev_is hr ?_
        congr 1
        have e : (ts.zip (z.1 :: z.2.map Prod.fst)).all (fun y => decide (y.2.length = 1)) = ((ts.zip (z.1 :: z.2.map Prod.fst)).map Prod.snd).all (fun t => decide (t.length = 1)) := by rw [List.all_map]; rfl
        rw [e, hts.snd]
      · refine ⟨_, _, rfl, e'.trans (e2.trans (e3.trans e4)), fun y hy => ?_⟩
        rw [List.take_add_one, hz, List.mem_append] at hy
        rcases hy with hy | hy
        · exact hno y hy
        · have : y = z := by simpa using hy
          rw [this]; exact hb
      · rcases h with ⟨rs, hrs, _⟩ | ⟨_, hbad⟩
        · exfalso
          rw [hrs] at hmem
          obtain ⟨r, _, hr⟩ := List.mem_map.mp hmem
          rw [← hr, clOf_one] at hb
          cases hb
        · exact hbad.mono (e1.trans (e'.trans (e2.trans e3)))
    · rintro σ' H' ⟨s2, s3, rfl, e', hno⟩
      rcases h with ⟨rs, hrs, hsz, hnl, k⟩ | ⟨⟨z, hz, t, ht, hne⟩, _⟩
      · subst hrs
        have hlim : rs.length ≤ 60 := hsz.1
        refine qx_asg (P := fun v H2 => ∃ p, v = .ref p ∧ H p = none ∧ RowsAt rs p H2) (x_call (ea_cons (ev_var rfl) ea_nil) (fun H2 e2 Q2 q2 E2 => ⟨q, ys, rs, rfl, (e'.trans e2) _ _ hys, AllV.mo (ClAt.mo K) _ _ _ (e'.trans e2) hall, by omega, hsz.2.1, fun p H3 hp e3 h3 => q2 _ H3 e3 ⟨p, rfl, fresh_back (e1.trans (e'.trans e2)) hp, h3⟩⟩)) ?_
        rintro v H2 e2 ⟨p, rfl, hp, hrows⟩
        refine q_dropC (vs := [.bl true, .str "program"]) (ea_cons (ev_is (ev_op (ev_lenN (K := K) (el_call (ea_cons (ev_var rfl) ea_nil) (fun H3 e3 Q3 q3 E3 => ⟨p, rs, rfl, hrows.ex e3, hsz, q3⟩))) ev_c rv_I0) ?_) (ea_cons ev_c ea_nil)) (fun H3 e3 => ⟨true, "program", rfl, fun _ H4 e4 => ?_, fun h => absurd h (by decide)⟩)
        · rw [nmL_len]
          congr 1
          exact decide_eq_true (by omega)
        · exact s_ret (ev_var rfl) (fun H5 e5 => k p H5 hp (e1.trans (e'.trans (e2.trans (e3.trans (e4.trans e5))))) (hrows.ex (e3.trans (e4.trans e5))))
      · exfalso
        rw [hyl, List.take_length] at hno
        have := List.all_eq_true.mp (hno z hz) t ht
        exact hne (by simpa using this)

end
end Tx
end
section
set_option Elab.async false
set_option linter.all false
set_option maxRecDepth 100000
set_option maxHeartbeats 4000000
namespace Tx
open PySem PySem.Spec PyProof.Rows L2 Evl Wk
section
variable {w : World} {K : PySem.W.Frag} {mg : Str → Option Value} {base : Heap}

def sp_case_tree (K : PySem.W.Frag) : Sp := fun vs H Q _ => ∃ (a : Addr) (v : V) (rs : List Rw) (ts fs : List Nat), vs = [.ref a, v] ∧ RowsAt rs a H ∧ CaseAt K ts fs v H ∧ SzRs rs ∧ SzCs rs ts fs ∧ (namesOf rs).length ≤ 5 ∧
  (treeOf rs ts fs = none → ∀ H', Ex H H' → Q .non H') ∧ (∀ ns, treeOf rs ts fs = some ns → ∀ p us H', H p = none → Ex H H' → H' p = some (.lst us) → AllV NodeAt ns us H' → Q (.ref p) H')
theorem sc_case_tree : FnScope ["rows", "start", "found", "waiting", "case", "name"] ["rows", "start"] (defScope s_case_tree) := ⟨rfl, rfl, rfl, by decide +kernel, rfl, by decide +kernel, by decide +kernel⟩
theorem ok_case_tree (Z : Zx K mg) : OkD prog w K mg base CX0 5 "case_tree" ["rows", "start"] (sp_case_tree K) := by
  obtain ⟨fd, F0⟩ := Z.fun_ 42
  have F : Fun K "case_tree" "case_tree" s_case_tree (He.ga K "case_tree") fd := Wk.fun_of F0
  have c_MOST_NODES := Z.int 84 (x := "MOST_NODES")
  have c_SHUT := Z.str 86 (x := "SHUT")
  have c_SPLIT := Z.str 85 (x := "SPLIT")
  obtain ⟨_, g_grown, b_grown, m_grown, k_grown⟩ := ok_grown (w := w) (base := base) Z
  obtain ⟨_, g_open_name, b_open_name, m_open_name, k_open_name⟩ := ok_open_name (w := w) (base := base) Z
  obtain ⟨_, g_Case_is_shut, b_Case_is_shut, c_Case_is_shut, m_Case_is_shut⟩ := ok_Case_is_shut (w := w) (base := base) Z
  obtain ⟨_, g_Case_put, b_Case_put, c_Case_put, m_Case_put⟩ := ok_Case_put (w := w) (base := base) Z
  have n_len := Z.free 63 (x := "len")
  have cl_Case := Z.cls 110 (x := "Case")
  refine ⟨fd, ?_, F.binds (ps := ["rows", "start"]) fun _ _ _ _ _ _ us hl => match us, hl with | [_, _], _ => rfl, Z.glo 32, F.kp⟩
  refine F.ok sc_case_tree (fun vs H Q E h => ?_) (fun cdv A outer s H vs Q E hr h => ?_)
  · obtain ⟨a, v, rs, ts, fs, rfl, hrs, hc, hsz, hcs, hnl, k0, k1⟩ := h
    rfl
  · obtain ⟨a, v, rs, ts, fs, rfl, hrs, hc, hsz, hcs, hnl, k0, k1⟩ := h
    refine ⟨_, (pss_cons (ps_set (i := 2) sc_case_tree.nd rfl (by first | exact Or.inl rfl | exact Or.inr rfl) (pe_lst pa_nil)) (pss_cons (ps_set (i := 3) sc_case_tree.nd rfl (by first | exact Or.inl rfl | exact Or.inr rfl) (pe_lst (pa_cons (pv 1) pa_nil))) (pss_cons (ps_while PassesOwn.never (pt_cmpR op_gt (pe_callB call_len_seq (by rfl) n_len (by decide +kernel) (pa_cons (pv 3) pa_nil)) pe_int (nomark _)) (pss_cons (ps_set (i := 4) sc_case_tree.nd rfl (by first | exact Or.inl rfl | exact Or.inr rfl) (pe_call g_grown (hr.mono (by decide)) (by rfl) m_grown k_grown b_grown .nil pass0 (pa_cons (pv 0) (pa_cons (pe_bm0 PySem.F.plainAttrs_list PySem.F.slot_list_pop PySem.F.type_list_pop mt_pop (pv 3)) pa_nil)))) (pss_one (ps_if (pt_val (pe_meth0 (pv 4) c_Case_is_shut m_Case_is_shut g_Case_is_shut (hr.mono (by decide)) b_Case_is_shut .nil pass0)) (pss_one (ps_expr (pe_bm PySem.F.plainAttrs_list PySem.F.slot_list_append PySem.F.type_list_append mt_append (pv 2) (pa_cons (pe_tup (pa_cons (pe_gs c_SHUT) pa_nil)) pa_nil)))) (pss_cons (ps_set (i := 5) sc_case_tree.nd rfl (by first | exact Or.inl rfl | exact Or.inr rfl) (pe_call g_open_name (hr.mono (by decide)) (by rfl) m_open_name k_open_name b_open_name .nil pass0 (pa_cons (pv 0) (pa_cons (pv 4) pa_nil)))) (pss_cons (ps_if (pw_or (pt_cmpR op_isN (pv 5) pe_non (nomark _)) (pw_or1 (pt_cmpR op_ge (pe_callB call_len_seq (by rfl) n_len (by decide +kernel) (pa_cons (pv 2) pa_nil)) (pe_gi c_MOST_NODES) (nomark _)))).pt (pss_one (ps_ret pe_non)) pss_nil) (pss_cons (ps_expr (pe_bm PySem.F.plainAttrs_list PySem.F.slot_list_append PySem.F.type_list_append mt_append (pv 2) (pa_cons (pe_tup (pa_cons (pe_gs c_SPLIT) (pa_cons (pv 5) pa_nil))) pa_nil))) (pss_one (ps_expr (pe_bm PySem.F.plainAttrs_list PySem.F.slot_list_extend PySem.F.type_list_extend mt_extend (pv 3) (pa_cons (pe_lst (pa_cons (pe_meth (pv 4) c_Case_put m_Case_put g_Case_put (hr.mono (by decide)) b_Case_put .nil pass0 (pa_cons (pv 5) (pa_cons pe_bl pa_nil))) (pa_cons (pe_meth (pv 4) c_Case_put m_Case_put g_Case_put (hr.mono (by decide)) b_Case_put .nil pass0 (pa_cons (pv 5) (pa_cons pe_bl pa_nil))) pa_nil))) pa_nil))))))))))) (pss_one (ps_ret (pe_ifExp (pt_cmpR op_le (pe_callB call_len_seq (by rfl) n_len (by decide +kernel) (pa_cons (pv 2) pa_nil)) (pe_gi c_MOST_NODES) (nomark _)) (pv 2) pe_non)))))), ?_⟩
    refine q_asgL (xs := []) (el_lst ea_nil (few5 rfl)) (fun f H1 hf e1 g1 => ?_)
    refine q_asgL (xs := [v]) (el_lst (ea_cons (ev_var rfl) ea_nil) (few5 rfl)) (fun w H2 hw e2 g2 => ?_)
    have e12 := e1.trans e2
    have hwH : H w = none := fresh_back e1 hw
    have hfw : f ≠ w := ne_new g1 hw
    have huo : uo rs ts fs ≤ 5 := Nat.le_trans (List.length_filter_le _ _) hnl
    have hpow : 2 ^ (uo rs ts fs + 1) ≤ 64 := Nat.pow_le_pow_right (by omega) (by omega : uo rs ts fs + 1 ≤ 6)
    have zshut : ("shut" : Str) = "shut" := rfl
    obtain ⟨W, hW⟩ : ∃ W : Nat → L2.St → Hp → Prop, W = fun m σ' H' => ∃ (F : List Nd) (Wt : List (List Nat × List Nat)) (fv wv : List V) (s4 s5 : Option V), m = load rs Wt.reverse ∧ σ' = [some (.ref a), some v, some (.ref f), some (.ref w), s4, s5] ∧ Ex H H' ∧ H' f = some (.lst fv) ∧ AllV NodeAt F fv H' ∧ H' w = some (.lst wv) ∧
      AllV (fun c => CaseAt K c.1 c.2) Wt wv H' ∧ (∀ c, c ∈ Wt → SzCs rs c.1 c.2) ∧ F.length + load rs Wt.reverse ≤ 63 ∧ treeOf rs ts fs = (treeAll rs Wt.reverse).map (F ++ ·) := ⟨_, rfl⟩
    refine q_while W (load rs [(ts, fs)]) (by
      rw [hW]
      refine ⟨[], [(ts, fs)], [], [v], none, none, rfl, rfl, e12, e2 _ _ g1, AllV.nil, g2, ?_, ?_, ?_, ?_⟩
      · exact AllV.app (as := []) (vs := []) AllV.nil (CaseAt.mo K _ _ _ _ _ e12 hc)
      · intro c hcm
        have : c = (ts, fs) := by simpa using hcm
        rw [this]; exact hcs
      · show 0 + ((2 ^ (uo rs ts fs + 1) - 1) + 0) ≤ 63
        omega
      · show treeOf rs ts fs = (treeAll rs [(ts, fs)]).map _
        unfold treeAll treeAll
        cases treeOf rs ts fs with
        | none => rfl
        | some ns => simp) ?_
    intro m σ' H' hw'
    rw [hW] at hw'
    obtain ⟨F, Wt, fv, wv, s4, s5, rfl, rfl, e', hf', hF, hw', hWt, hszc, hld, htree⟩ := hw'
    have hwl := hWt.1
    have hfl := hF.1
    refine ⟨decide (Wt ≠ []), et_is (et_test (ev_op (ev_len (ev_var rfl) (sq_of hw')) ev_c rv_I0)) ?_, fun hb H3 e3 => ?_, fun hb H3 e3 => ?_⟩
    · rw [hwl, decide_eq_decide]
      constructor
      · intro h h2
        rw [h2] at h
        exact absurd h (by decide)
      · intro h
        have := List.length_pos_iff.mpr h
        show (0 : Int) < _
        omega
    · have hne := of_decide_eq_true hb
      obtain ⟨W0, c, rfl⟩ : ∃ W0 c, Wt = W0 ++ [c] := ⟨Wt.dropLast, Wt.getLast hne, (List.dropLast_concat_getLast hne).symm⟩
      obtain ⟨wv0, y, rfl, hW0, hcy⟩ := hWt.snoc
      have hrev : (W0 ++ [c]).reverse = c :: W0.reverse := by simp
      rw [hrev] at hld htree ⊢
      have hszk := hszc c (by simp)
      refine ⟨fun σ2 H4 => ∃ m', m' < load rs (c :: W0.reverse) ∧ W m' σ2 H4, fun _ _ h => h, ?_⟩
      have hw0l := hW0.1
      refine q_callPop (K := K) (xs := wv0 ++ [y]) (x := .ref a) (y := y) (ev_var rfl) (ev_var rfl) (e3 _ _ hw') (last_app _ _) (fun H4 e4 => ?_)
      rw [List.dropLast_concat]
      have e34 := e3.trans e4
      have hw4 := e34 _ _ hw'
      have n4 : Nl H' (upd H4 w (.lst wv0)) := (Nl.of e34).trans (.lst hw4)
      have E4 : Ex H (upd H4 w (.lst wv0)) := Ex.mut (e'.trans e34) hwH
      have hf4 : upd H4 w (.lst wv0) f = some (.lst fv) := by rw [upd_ne hfw]; exact e34 _ _ hf'
      have hwv4 : upd H4 w (.lst wv0) w = some (.lst wv0) := upd_same
      have hF4 := AllV.mn NodeAt.mn _ _ _ n4 hF
      have hW4 := AllV.mn (CaseAt.mn2 K) _ _ _ n4 hW0
      have hc4 := CaseAt.mn K _ _ _ _ _ n4 hcy
      generalize upd H4 w (.lst wv0) = G4 at *
      refine ⟨a, y, rs, c.1, c.2, rfl, hrs.ex E4, hc4, hsz, hszk, by omega, fun u H5 e5 hu => ?_⟩
      have hgc := growN_cnt rs (miss (namesOf rs) c.1 + miss (namesOf rs) c.2 + 1) c.1 c.2
      have hug := uo_grow rs c.1 c.2
      have hteq := treeOf_eq rs c.1 c.2
      have hG : growOf rs c.1 c.2 = growN rs (miss (namesOf rs) c.1 + miss (namesOf rs) c.2 + 1) c.1 c.2 := rfl
      rw [← hG] at hgc
      generalize growOf rs c.1 c.2 = G at *
      obtain ⟨gt, gf⟩ := G
      dsimp only at hu hgc hug hteq
      obtain ⟨z1, z2⟩ := hszk
      have hu0 := hu
      obtain ⟨p, dx, t, ff, rfl, q1, q2, q3⟩ := hu
      refine s_if (b := shutB gt gf) (et_B (ev_meth (ev_var rfl) q1 rfl ea_nil (fun H6 e6 Q6 q6 E6 => ⟨.ref p, gt, gf, rfl, CaseAt.mo K _ _ _ _ _ e6 hu0, by omega, fun H7 e7 => q6 H7 e7⟩))) (fun hs H6 e6 => ?_) (fun hs H6 e6 => ?_)
      · rw [if_pos hs] at hteq
        refine s_appU (xs := fv) (e6 _ _ (e5 _ _ hf4)) (ev_var rfl) (eu_tup (ea_cons ev_c ea_nil) (few5 rfl)) (by omega) (fun tp H7 htp e7 h7 => ?_)
        have e57 := e5.trans (e6.trans e7)
        have hf7 := e57 _ _ hf4
        have n7 : Nl G4 (upd H7 f (.lst (fv ++ [.ref tp]))) := (Nl.of e57).trans (.lst hf7)
        refine ⟨load rs W0.reverse, load_pos rs c _, ?_⟩
        rw [hW]
        refine ⟨F ++ [none], W0, fv ++ [.ref tp], wv0, _, _, rfl, rfl, Ex.mut (E4.trans e57) hf, upd_same, (AllV.mn NodeAt.mn _ _ _ n7 hF4).app ⟨tp, rfl, (Nl.lst hf7).tu _ _ h7⟩, ?_, AllV.mn (CaseAt.mn2 K) _ _ _ n7 hW4, fun d hd => hszc d (List.mem_append_left _ hd), ?_, ?_⟩
        · rw [upd_ne hfw.symm]; exact e57 _ _ hwv4
        · have := load_pos rs c W0.reverse
          rw [List.length_append, List.length_singleton]
          omega
        · rw [htree]
          exact treeAll_some F hteq
      · rw [if_neg (by rw [hs]; decide)] at hteq
        refine q_asg (v := nmO (openOf rs gt gf)) (ev_call (z := nmO (openOf rs gt gf)) (ea_cons (ev_var rfl) (ea_cons (ev_var rfl) ea_nil)) (fun H7 e7 Q7 q7 E7 => ⟨a, .ref p, rs, gt, gf, rfl, hrs.ex (E4.trans (e5.trans (e6.trans e7))), CaseAt.mo K _ _ _ _ _ (e6.trans e7) hu0, hsz, q7⟩)) (fun H7 e7 => ?_)
        have e57 := e5.trans (e6.trans e7)
        have hf7 := e57 _ _ hf4
        cases ho : openOf rs gt gf with
        | none =>
          rw [ho] at hteq
          refine q_when (b := true) (et_or (a := true) (b := true) (et_test (ev_op (ev_var rfl) ev_c (fun H6 e7 Q1 q1 => ⟨rfl, q1 H6 (Ex.refl _)⟩))) (fun h => absurd h (by decide))) (fun _ H8 e8 => s_ret ev_c (fun H9 e9 => k0 ?_ H9 (E4.trans (e57.trans (e8.trans e9))))) (fun h => absurd h (by decide))
          rw [htree]
          exact treeAll_none F hteq
        | some nc =>
          rw [ho] at hteq
          dsimp only at hteq
          obtain ⟨o1, o2, o3⟩ := openOf_some ho
          have u1 := uo_true ho
          have u2 := uo_false ho
          refine q_when (b := false) (et_is (et_or (a := false) (b := false) (et_is (et_test (ev_op (ev_var rfl) ev_c (fun H6 e7 Q1 q1 => ⟨rfl, q1 H6 (Ex.refl _)⟩))) (by rw [decide_eq_false_iff_not]; intro h; cases h)) (fun _ => et_is (et_test (ev_op (ev_len (ev_var rfl) (sq_of hf7)) ev_c rv_I0)) (by rw [hfl, decide_eq_false_iff_not]; have := load_pos rs c W0.reverse; show ¬ ((200 : Int) ≤ _); omega))) rfl) (fun h => absurd h (by decide)) (fun _ H8 e8 => ?_)
          refine q_appU (xs := fv) (e8 _ _ hf7) (ev_var rfl) (eu_tup (ea_cons ev_c (ea_cons (ev_var rfl) ea_nil)) (few5 rfl)) (by have := load_pos rs c W0.reverse; omega) (fun tp H9 htp e9 h9 => ?_)
          have e59 := e57.trans (e8.trans e9)
          have hf9 := e59 _ _ hf4
          have n9 : Nl G4 (upd H9 f (.lst (fv ++ [.ref tp]))) := (Nl.of e59).trans (.lst hf9)
          have E9 : Ex H (upd H9 f (.lst (fv ++ [.ref tp]))) := Ex.mut (E4.trans e59) hf
          have hw9 : upd H9 f (.lst (fv ++ [.ref tp])) w = some (.lst wv0) := by rw [upd_ne hfw.symm]; exact e59 _ _ hwv4
          have hF9 := (AllV.mn NodeAt.mn _ _ _ n9 hF4).app (a := some nc) ⟨tp, rfl, (Nl.lst (ys := fv ++ [.ref tp]) hf9).tu _ _ h9⟩
          have hW9 := AllV.mn (CaseAt.mn2 K) _ _ _ n9 hW4
          have hu9 := CaseAt.mn K _ _ _ _ _ ((Nl.of (e6.trans (e7.trans (e8.trans e9)))).trans (Nl.lst (ys := fv ++ [.ref tp]) hf9)) hu0
          have hff9 : upd H9 f (.lst (fv ++ [.ref tp])) f = some (.lst (fv ++ [.ref tp])) := upd_same
          generalize upd H9 f (.lst (fv ++ [.ref tp])) = G9 at *
          have cn1 := addN_cnt (f := gf) o1
          have cn2 := addN_cnt (f := gt) o1
          have hu9' := hu9
          obtain ⟨p9, dx9, t9, ff9, ep9, r1, r2, r3⟩ := hu9
          cases ep9
          refine s_extX (xs := wv0) (PL := fun zs H => ∃ x1 x2, zs = [x1, x2] ∧ CaseAt K gt (addN gf nc) x1 H ∧ CaseAt K (addN gt nc) gf x2 H) hw9 (ev_var rfl) ((x_lst (x_cons (P := CaseAt K gt (addN gf nc)) (x_meth (ev_var rfl) r1 rfl (ea_cons (ev_var rfl) (ea_cons ev_c ea_nil)) (fun H10 e10 Q10 q10 E10 => ⟨.ref p, gt, gf, nc, false, rfl, CaseAt.mo K _ _ _ _ _ e10 hu9', by omega, by omega, q10⟩)) (CaseAt.mo K _ _) (x_one (P := CaseAt K (addN gt nc) gf) (x_meth (ev_var rfl) r1 rfl (ea_cons (ev_var rfl) (ea_cons ev_c ea_nil)) (fun H10 e10 Q10 q10 E10 => ⟨.ref p, gt, gf, nc, true, rfl, CaseAt.mo K _ _ _ _ _ e10 hu9', by omega, by omega, q10⟩)))) ?_ ?_).imp ?_) ?_ ?_
          · rintro vs H10 H11 e11 ⟨x1, r, rfl, c1, x2, rfl, c2⟩
            exact ⟨x1, _, rfl, CaseAt.mo K _ _ _ _ _ e11 c1, x2, rfl, CaseAt.mo K _ _ _ _ _ e11 c2⟩
          · rintro vs H10 ⟨x1, r, rfl, c1, x2, rfl, c2⟩
            exact few5 rfl
          · rintro u H10 ⟨q, vs, rfl, hq, x1, r, rfl, c1, x2, rfl, c2⟩
            exact ⟨q, _, rfl, hq, x1, x2, rfl, c1, c2⟩
          · rintro zs H10 ⟨x1, x2, rfl, c1, c2⟩
            show wv0.length + 2 ≤ _
            have h1 := hW9.1
            have h2 := load_len rs (c :: W0.reverse)
            rw [List.length_cons, List.length_reverse] at h2
            omega
          · rintro zs H10 e10 ⟨x1, x2, rfl, c1, c2⟩
            have hwv10 := e10 _ _ hw9
            have n10 : Nl H10 (upd H10 w (.lst (wv0 ++ [x1, x2]))) := .lst hwv10
            have hsplit := load_split rs c (addN gt nc, gf) (gt, addN gf nc) W0.reverse (by dsimp only; omega) (by dsimp only; omega)
            have hrev2 : (W0 ++ [(gt, addN gf nc), (addN gt nc, gf)]).reverse = (addN gt nc, gf) :: (gt, addN gf nc) :: W0.reverse := by simp
            refine ⟨load rs ((addN gt nc, gf) :: (gt, addN gf nc) :: W0.reverse), by omega, ?_⟩
            rw [hW]
            refine ⟨F ++ [some nc], W0 ++ [(gt, addN gf nc), (addN gt nc, gf)], fv ++ [.ref tp], wv0 ++ [x1, x2], _, _, by rw [hrev2], rfl, Ex.mut (E9.trans e10) hwH, ?_, AllV.mn NodeAt.mn _ _ _ ((Nl.of e10).trans n10) hF9, upd_same, ?_, ?_, ?_, ?_⟩
            · rw [upd_ne hfw]; exact e10 _ _ hff9
            · have h1 := AllV.mn (CaseAt.mn2 K) _ _ _ ((Nl.of e10).trans n10) hW9
              have h2 := (h1.app (a := (gt, addN gf nc)) (CaseAt.mn K _ _ _ _ _ n10 c1)).app (a := (addN gt nc, gf)) (CaseAt.mn K _ _ _ _ _ n10 c2)
              rw [List.append_assoc, List.append_assoc] at h2
              exact h2
            · intro d hd
              rcases List.mem_append.mp hd with hd | hd
              · exact hszc d (List.mem_append_left _ hd)
              · simp only [List.mem_cons, List.not_mem_nil, or_false] at hd
                rcases hd with hd | hd
                · rw [hd]; exact ⟨(by show gt.length + miss (namesOf rs) gt ≤ 1000; omega), (by show (addN gf nc).length + miss (namesOf rs) (addN gf nc) ≤ 1000; omega)⟩
                · rw [hd]; exact ⟨(by show (addN gt nc).length + miss (namesOf rs) (addN gt nc) ≤ 1000; omega), (by show gf.length + miss (namesOf rs) gf ≤ 1000; omega)⟩
            · rw [hrev2, List.length_append, List.length_singleton]
              omega
            · rw [htree, hrev2]
              exact treeAll_split F hteq
    · have hnil : Wt = [] := Decidable.not_not.mp (of_decide_eq_false hb)
      subst hnil
      have hr : treeOf rs ts fs = some F := by rw [htree]; simp [treeAll]
      have hload : load rs ([] : List (List Nat × List Nat)).reverse = 0 := rfl
      refine s_ret (v := .ref f) (ev_if (b := true) (et_is (et_test (ev_op (ev_len (ev_var rfl) (sq_of (e3 _ _ hf'))) ev_c rv_I0)) (by rw [hfl]; exact decide_eq_true (by omega))) (fun _ => ev_var rfl) (fun h => absurd h (by decide))) (fun H4 e4 => ?_)
      exact k1 F hr f fv H4 hf (e'.trans (e3.trans e4)) ((e3.trans e4) _ _ hf') (AllV.mo (fun o => (NodeAt.mn o).mo) _ _ _ (e3.trans e4) hF)

end
end Tx
end
section
set_option Elab.async false
set_option linter.all false
set_option maxRecDepth 100000
set_option maxHeartbeats 4000000
namespace Tx
open PySem PySem.Spec PyProof.Rows L2 Evl Wk
section
variable {w : World} {K : PySem.W.Frag} {mg : Str → Option Value} {base : Heap}

def sp_roll : Sp := fun vs H Q _ => ∃ (B : Hp) (k : Nat) (d : Addr) (n : Nat), vs = [.ref d, .int (n : Int)] ∧ 1 ≤ n ∧ n < 1000000 ∧ k < 100000 ∧ B d = none ∧ Ex B H ∧ DiceAt k d H ∧
  ∀ (i : Nat) H', i < n → Ex B H' → DiceAt (k + 1) d H' → Q (.int (i : Int)) H'
theorem sc__law_roll : FnScope ["dice", "total", "found"] ["dice", "total"] (defScope s__law_roll) := ⟨rfl, rfl, rfl, by decide +kernel, rfl, by decide +kernel, by decide +kernel⟩
theorem ok__law_roll (Z : Zx K mg) : OkD prog w K mg base CX0 1 "_law_roll" ["dice", "total"] (sp_roll) := by
  obtain ⟨fd, F0⟩ := Z.fun_ 48
  have F : Fun K "_law_roll" "_law_roll" s__law_roll (He.ga K "_law_roll") fd := Wk.fun_of F0
  have n_int := Z.free 61 (x := "int")
  refine ⟨fd, ?_, F.binds (ps := ["dice", "total"]) fun _ _ _ _ _ _ us hl => match us, hl with | [_, _], _ => rfl, Z.glo 38, F.kp⟩
  refine F.ok sc__law_roll (fun vs H Q E h => ?_) (fun cdv A outer s H vs Q E hr h => ?_)
  · obtain ⟨B, k, d, n, rfl, hn1, hn2, hk, hB, e, ⟨b, m, c, hb, hm1, hm2, hc, hd⟩, q⟩ := h
    rfl
  · obtain ⟨B, k, d, n, rfl, hn1, hn2, hk, hB, e, ⟨b, m, c, hb, hm1, hm2, hc, hd⟩, q⟩ := h
    refine ⟨_, (pss_cons (ps_if (pt_cmpR op_gt (pe_ix ix_list (pv 0) pe_int (fun _ _ => rfl)) pe_int (nomark _)) (pss_cons (ps_set (i := 2) sc__law_roll.nd rfl (by first | exact Or.inl rfl | exact Or.inr rfl) (pe_op op_mod (pe_callTy call_int1 (by rfl) n_int (by decide +kernel) (pa_cons (pe_ix ix_list (pv 0) pe_int (fun _ _ => rfl)) pa_nil)) (pv 1))) (pss_cons (ps_asg (pe_op op_fdiv (pe_ix ix_list (pv 0) pe_int (fun _ _ => rfl)) (pv 1)) (pg_sub (pv 0) pe_int set_list)) (pss_one (ps_ret (pv 2))))) pss_nil) (pss_cons (ps_asg (pe_op op_add (pe_ix ix_list (pv 0) pe_int (fun _ _ => rfl)) pe_int) (pg_sub (pv 0) pe_int set_list)) (pss_cons (ps_asg (pe_op op_mod (pe_callTy call_int1 (by rfl) n_int (by decide +kernel) (pa_cons (pe_op op_add (pe_op op_add (pe_op op_mul (pe_ix ix_list (pv 0) pe_int (fun _ _ => rfl)) pe_int) (pe_op op_mul (pe_op op_mul (pe_ix ix_list (pv 0) pe_int (fun _ _ => rfl)) (pe_ix ix_list (pv 0) pe_int (fun _ _ => rfl))) pe_int)) pe_int) pa_nil)) pe_int) (pg_sub (pv 0) pe_int set_list)) (pss_one (ps_ret (pe_op op_mod (pe_callTy call_int1 (by rfl) n_int (by decide +kernel) (pa_cons (pe_op op_fdiv (pe_ix ix_list (pv 0) pe_int (fun _ _ => rfl)) pe_int) pa_nil)) (pv 1))))))), ?_⟩
    have hnn : (0 : Int) < (n : Int) := by omega
    refine q_if (b := decide (b > 0)) (et_test (ev_op (ev_op (ev_var rfl) ev_c (rv_ixL (K := K) (i := 0) (v := .int b) (sq_of hd) rfl)) ev_c rv_I0)) (fun hb1 H1 e1 => ?_) (fun hb1 H1 e1 => ?_)
    · refine q_asg (v := .int (b % (n : Int))) (ev_op (ev_int1 (ev_op (ev_var rfl) ev_c (rv_ixL (K := K) (i := 0) (v := .int b) (sq_of (e1 _ _ hd)) rfl))) (ev_var rfl) (rv_I hnn)) (fun H2 e2 => ?_)
      have e12 := e1.trans e2
      refine q_setL (j := 0) (v := .int (b / (n : Int))) (e12 _ _ hd) (ev_op (ev_op (ev_var rfl) ev_c (rv_ixL (K := K) (i := 0) (v := .int b) (sq_of (e12 _ _ hd)) rfl)) (ev_var rfl) (rv_I ⟨hnn, by omega⟩)) (ev_var rfl) ev_c (show 0 < 3 by decide) (fun H3 e3 => ?_)
      have h1 : b % (n : Int) = ((b % (n : Int)).toNat : Int) := by
        have := Int.emod_nonneg b (by omega : (n : Int) ≠ 0)
        omega
      have h2 : (b % (n : Int)).toNat < n := by
        have := Int.emod_lt_of_pos b hnn
        have := Int.emod_nonneg b (by omega : (n : Int) ≠ 0)
        omega
      refine s_ret (ev_var rfl) (fun H4 e4 => ?_)
      rw [h1]
      exact q _ H4 h2 ((Ex.mut (e.trans (e12.trans e3)) hB).trans e4) ⟨b / (n : Int), m, c, Int.ediv_nonneg hb (by omega), hm1, hm2, by omega, e4 _ _ upd_same⟩
    · refine q_setL (j := 2) (v := .int ((c : Int) + 1)) (e1 _ _ hd) (ev_op (ev_op (ev_var rfl) ev_c (rv_ixL (K := K) (i := 2) (v := .int (c : Int)) (sq_of (e1 _ _ hd)) rfl)) ev_c rv_I0) (ev_var rfl) ev_c (show 2 < 3 by decide) (fun H2 e2 => ?_)
      have E2 : Ex B (upd H2 d (.lst [.int b, .int m, .int ((c : Int) + 1)])) := Ex.mut (e.trans (e1.trans e2)) hB
      have hd2 : upd H2 d (.lst [.int b, .int m, .int ((c : Int) + 1)]) d = some (.lst [.int b, .int m, .int ((c : Int) + 1)]) := upd_same
      show tSeq _ _ _ _ (upd H2 d (.lst [.int b, .int m, .int ((c : Int) + 1)]))
      generalize upd H2 d (.lst [.int b, .int m, .int ((c : Int) + 1)]) = G2 at *
      have hcc : ((c : Int) + 1) < 2 ^ 64 := by omega
      refine q_setL (j := 1) (v := .int ((m * 52501 + ((c : Int) + 1) * ((c : Int) + 1) * 1009 + 77) % 2147480009)) hd2 (ev_op (ev_int1 (ev_op (ev_op (ev_op (ev_op (ev_var rfl) ev_c (rv_ixL (K := K) (i := 1) (v := .int m) (sq_of hd2) rfl)) ev_c (rv_I (Or.inr ⟨by decide, by decide⟩))) (ev_op (ev_op (ev_op (ev_var rfl) ev_c (rv_ixL (K := K) (i := 2) (v := .int ((c : Int) + 1)) (sq_of hd2) rfl)) (ev_op (ev_var rfl) ev_c (rv_ixL (K := K) (i := 2) (v := .int ((c : Int) + 1)) (sq_of hd2) rfl)) (rv_I (Or.inr ⟨by omega, hcc⟩))) ev_c (rv_I (Or.inr ⟨by decide, by decide⟩))) rv_I0) ev_c rv_I0)) ev_c (rv_I (by decide))) (ev_var rfl) ev_c (show 1 < 3 by decide) (fun H3 e3 => ?_)
      have hm3 := Int.emod_nonneg (m * 52501 + ((c : Int) + 1) * ((c : Int) + 1) * 1009 + 77) (by decide : (2147480009 : Int) ≠ 0)
      have hm4 := Int.emod_lt_of_pos (m * 52501 + ((c : Int) + 1) * ((c : Int) + 1) * 1009 + 77) (by decide : (0 : Int) < 2147480009)
      have E3 : Ex B (upd H3 d (.lst [.int b, .int ((m * 52501 + ((c : Int) + 1) * ((c : Int) + 1) * 1009 + 77) % 2147480009), .int ((c : Int) + 1)])) := Ex.mut (E2.trans e3) hB
      have hd3 : upd H3 d (.lst [.int b, .int ((m * 52501 + ((c : Int) + 1) * ((c : Int) + 1) * 1009 + 77) % 2147480009), .int ((c : Int) + 1)]) d = some (.lst [.int b, .int ((m * 52501 + ((c : Int) + 1) * ((c : Int) + 1) * 1009 + 77) % 2147480009), .int ((c : Int) + 1)]) := upd_same
      show tRet _ _ _ (upd H3 d (.lst [.int b, .int ((m * 52501 + ((c : Int) + 1) * ((c : Int) + 1) * 1009 + 77) % 2147480009), .int ((c : Int) + 1)]))
      generalize (m * 52501 + ((c : Int) + 1) * ((c : Int) + 1) * 1009 + 77) % 2147480009 = m2 at *
      generalize upd H3 d (.lst [.int b, .int m2, .int ((c : Int) + 1)]) = G3 at *
      refine s_ret (v := .int (m2 / 211 % (n : Int))) (ev_op (ev_int1 (ev_op (ev_op (ev_var rfl) ev_c (rv_ixL (K := K) (i := 1) (v := .int m2) (sq_of hd3) rfl)) ev_c (rv_I ⟨by decide, by decide⟩))) (ev_var rfl) (rv_I hnn)) (fun H4 e4 => ?_)
      have h1 : m2 / 211 % (n : Int) = ((m2 / 211 % (n : Int)).toNat : Int) := by
        have := Int.emod_nonneg (m2 / 211) (by omega : (n : Int) ≠ 0)
        omega
      have h2 : (m2 / 211 % (n : Int)).toNat < n := by
        have := Int.emod_lt_of_pos (m2 / 211) hnn
        have := Int.emod_nonneg (m2 / 211) (by omega : (n : Int) ≠ 0)
        omega
      rw [h1]
      exact q _ H4 h2 (E3.trans e4) ⟨b, m2, c + 1, hb, hm3, hm4, by omega, e4 _ _ hd3⟩

end
end Tx
end
section
set_option Elab.async false
set_option linter.all false
set_option maxRecDepth 100000
set_option maxHeartbeats 4000000
namespace Tx
open PySem PySem.Spec PyProof.Rows L2 Evl Wk
section
variable {w : World} {K : PySem.W.Frag} {mg : Str → Option Value} {base : Heap}

def sp_pick (K : PySem.W.Frag) : Sp := fun vs H Q _ => ∃ (B : Hp) (k : Nat) (d a : Addr) (xs : List V), vs = [.ref d, .ref a] ∧ xs ≠ [] ∧ xs.length < 1000 ∧ k < 100000 ∧ B d = none ∧ Ex B H ∧ DiceAt k d H ∧ B a = some (.lst xs) ∧
  ∀ (i : Nat) x H', xs[i]? = some x → Ex B H' → DiceAt (k + 1) d H' → Q x H'
theorem sc__law_pick : FnScope ["dice", "things"] ["dice", "things"] (defScope s__law_pick) := ⟨rfl, rfl, rfl, by decide +kernel, rfl, by decide +kernel, by decide +kernel⟩
theorem ok__law_pick (Z : Zx K mg) : OkD prog w K mg base CX0 2 "_law_pick" ["dice", "things"] (sp_pick K) := by
  obtain ⟨fd, F0⟩ := Z.fun_ 49
  have F : Fun K "_law_pick" "_law_pick" s__law_pick (He.ga K "_law_pick") fd := Wk.fun_of F0
  obtain ⟨_, g__law_roll, b__law_roll, m__law_roll, k__law_roll⟩ := ok__law_roll (w := w) (base := base) Z
  have n_len := Z.free 63 (x := "len")
  refine ⟨fd, ?_, F.binds (ps := ["dice", "things"]) fun _ _ _ _ _ _ us hl => match us, hl with | [_, _], _ => rfl, Z.glo 39, F.kp⟩
  refine F.ok sc__law_pick (fun vs H Q E h => ?_) (fun cdv A outer s H vs Q E hr h => ?_)
  · obtain ⟨B, k, d, a, xs, rfl, hne, hl, hk, hB, e, hd, ha, q⟩ := h
    rfl
  · obtain ⟨B, k, d, a, xs, rfl, hne, hl, hk, hB, e, hd, ha, q⟩ := h
    refine ⟨_, (pss_one (ps_ret (pe_ix ix_list (pv 1) (pe_call g__law_roll (hr.mono (by decide)) (by rfl) m__law_roll k__law_roll b__law_roll .nil pass0 (pa_cons (pv 0) (pa_cons (pe_callB call_len_seq (by rfl) n_len (by decide +kernel) (pa_cons (pv 1) pa_nil)) pa_nil))) (fun _ _ => rfl)))), ?_⟩
    have h0 := List.length_pos_iff.mpr hne
    have hargs : EvA (tCons (tVar 0) (tCons (tCB (rLenS K) (tCons (tVar 1) tNil)) tNil)) (L2.start ["dice", "things"] [V.ref d, V.ref a]) H [.ref d, .int (xs.length : Int)] := ea_cons (ev_var rfl) (ea_cons (ev_len (ev_var rfl) (sq_of (e _ _ ha))) ea_nil)
    have hv : Ev (tVar 1) (L2.start ["dice", "things"] [V.ref d, V.ref a]) H (.ref a) := ev_var rfl
    refine hv H (Ex.refl _) (fun x H1 => tCall sp_roll [] _ (tCons (tVar 0) (tCons (tCB (rLenS K) (tCons (tVar 1) tNil)) tNil)) (L2.start ["dice", "things"] [V.ref d, V.ref a]) H1 fun y H2 => rIxL K x y H2 Q) (fun H1 e1 => ?_)
    refine hargs H1 e1 _ (fun H2 e2 => ?_)
    refine ⟨B, k, d, xs.length, rfl, by omega, by omega, hk, hB, e.trans (e1.trans e2), hd.ex (e1.trans e2), fun i H' hi e' hd' => ?_⟩
    exact ⟨a, xs, (i : Int), xs[i], rfl, rfl, sq_of (e' _ _ ha), atI_nat (List.getElem?_eq_getElem hi), q i _ H' (List.getElem?_eq_getElem hi) e' hd'⟩
def sp_dice (K : PySem.W.Frag) : Sp := fun vs H Q _ => ∃ (a : Addr) (xs : List Int) (n : Nat), vs = [.ref a, .int (n : Int)] ∧ SqL K H a (xs.map V.int) ∧ xs.length ≤ 100 ∧ n ≤ 100 ∧ ∀ d H', H d = none → Ex H H' → DiceAt 0 d H' → Q (.ref d) H'
theorem sc__law_dice : FnScope ["script", "spot", "own", "mixed", "cell"] ["script", "spot"] (defScope s__law_dice) := ⟨rfl, rfl, rfl, by decide +kernel, rfl, by decide +kernel, by decide +kernel⟩
theorem ok__law_dice (Z : Zx K mg) : OkD prog w K mg base CX0 1 "_law_dice" ["script", "spot"] (sp_dice K) := by
  obtain ⟨fd, F0⟩ := Z.fun_ 47
  have F : Fun K "_law_dice" "_law_dice" s__law_dice (He.ga K "_law_dice") fd := Wk.fun_of F0
  have n_abs := Z.free 56 (x := "abs")
  have n_int := Z.free 61 (x := "int")
  have n_len := Z.free 63 (x := "len")
  refine ⟨fd, ?_, F.binds (ps := ["script", "spot"]) fun _ _ _ _ _ _ us hl => match us, hl with | [_, _], _ => rfl, Z.glo 37, F.kp⟩
  refine F.ok sc__law_dice (fun vs H Q E h => ?_) (fun cdv A outer s H vs Q E hr h => ?_)
  · obtain ⟨a, xs, n, rfl, ha, hl, hn, q⟩ := h
    rfl
  · obtain ⟨a, xs, n, rfl, ha, hl, hn, q⟩ := h
    refine ⟨_, (pss_cons (ps_set (i := 2) sc__law_dice.nd rfl (by first | exact Or.inl rfl | exact Or.inr rfl) (pe_ifExp (pt_cmpR op_lt (pv 1) (pe_callB call_len_seq (by rfl) n_len (by decide +kernel) (pa_cons (pv 0) pa_nil)) (nomark _)) (pe_ix ix_list (pv 0) (pv 1) (fun _ _ => rfl)) (pe_op op_add (pe_op op_mul pe_int (pv 1)) pe_int))) (pss_cons (ps_set (i := 3) sc__law_dice.nd rfl (by first | exact Or.inl rfl | exact Or.inr rfl) (pe_op op_add pe_int (pe_op op_mul pe_int (pv 1)))) (pss_cons (ps_for PassesOwn.never rfl (pi_list (pe_op op_cat (pe_slice sl_list (pv 0) po_none (po_some pe_int)) (pe_lst (pa_cons (pv 2) pa_nil)))) (pg_name (i := 4) sc__law_dice.nd rfl (by first | exact Or.inl rfl | exact Or.inr rfl)) (pss_one (ps_set (i := 3) sc__law_dice.nd rfl (by first | exact Or.inl rfl | exact Or.inr rfl) (pe_op op_mod (pe_callTy call_int1 (by rfl) n_int (by decide +kernel) (pa_cons (pe_op op_add (pe_op op_mul (pv 3) pe_int) (pe_op op_mod (pe_callTy call_int1 (by rfl) n_int (by decide +kernel) (pa_cons (pv 4) pa_nil)) pe_int)) pa_nil)) pe_int)))) (pss_one (ps_ret (pe_lst (pa_cons (pe_ifExp (pw_or (pt_cmpR op_lt (pv 2) pe_int (nomark _)) (pw_or1 (pt_cmpR op_ge (pv 2) (pe_op op_pow pe_int pe_int) (nomark _)))).pt (pe_callB call_abs (by rfl) n_abs (by decide +kernel) (pa_cons (pv 2) pa_nil)) pe_int) (pa_cons (pv 3) (pa_cons pe_int pa_nil))))))))), ?_⟩
    have hlt : ∀ i : Nat, i < xs.length → (xs.map V.int)[i]? = some (.int (xs.getD i 0)) := fun i hi => by
      rw [List.getElem?_map, List.getElem?_eq_getElem hi, List.getD_eq_getElem?_getD, List.getElem?_eq_getElem hi]
      rfl
    generalize hown : (if n < xs.length then xs.getD n 0 else 733 * (n : Int) + 29) = own
    refine q_asg (v := .int own) (ev_if (b := decide (n < xs.length)) (et_is (et_test (ev_op (ev_var rfl) (ev_len (ev_var rfl) ha) rv_I0)) ?_) (fun h => ?_) (fun h => ?_)) (fun H1 e1 => ?_)
    · rw [List.length_map, decide_eq_decide]
      omega
    · have h' := of_decide_eq_true h
      rw [if_pos h'] at hown
      rw [← hown]
      exact ev_op (ev_var rfl) (ev_var rfl) (rv_ixL ha (atI_nat (hlt n h')))
    · have h' := of_decide_eq_false h
      rw [if_neg h'] at hown
      rw [← hown]
      exact ev_op (ev_op ev_c (ev_var rfl) (rv_I (Or.inl ⟨by decide, by decide⟩))) ev_c rv_I0
    refine q_asg (v := .int (910003 + 7907 * (n : Int))) (ev_op ev_c (ev_op ev_c (ev_var rfl) (rv_I (Or.inl ⟨by decide, by decide⟩))) rv_I0) (fun H2 e2 => ?_)
    have e12 := e1.trans e2
    have hints : ∀ x, x ∈ cutV (xs.map V.int) none (some 6) ++ [V.int own] → ∃ i, x = .int i := fun x hx => by
      rcases List.mem_append.mp hx with h | h
      · have h2 : x ∈ xs.map V.int := List.mem_of_mem_drop (List.mem_of_mem_take h)
        obtain ⟨i, _, rfl⟩ := List.mem_map.mp h2
        exact ⟨i, rfl⟩
      · exact ⟨own, by simpa using h⟩
    have hcl := cutV_length (xs.map V.int) none (some 6)
    rw [List.length_map] at hcl
    refine q_forNL (K := K) (xs := cutV (xs.map V.int) none (some 6) ++ [V.int own]) (el_catN (el_sl (ev_var rfl) eo_none (eo_some ev_c) (ex_l e12 ha)) (el_lst (ea_cons (ev_var rfl) ea_nil) (few5 rfl)) (by rw [List.length_singleton]; omega)) (fun p i σ' H' => ∃ (m : Int) (s4 : Option V), σ' = [some (.ref a), some (.int (n : Int)), some (.int own), some (.int m), s4] ∧ Ex H H' ∧ H' p = some (.lst (cutV (xs.map V.int) none (some 6) ++ [V.int own])) ∧ 0 ≤ m ∧ m < 2147480009)
      (fun p H3 hp e3 h3 => ⟨_, none, rfl, e12.trans e3, h3, by omega, by omega⟩) (fun p i σ' H' _ ⟨_, _, _, _, h, _⟩ => sq_of h) ?_ ?_
    · rintro p i x σ' H' hx ⟨m, s4, rfl, e', hp, hm1, hm2⟩
      obtain ⟨cell, rfl⟩ := hints x (List.mem_of_getElem? hx)
      show tAsg _ _ _ _ _
      refine s_asg (v := .int ((m * 48271 + cell % 2147480009) % 2147480009)) (ev_op (ev_int1 (ev_op (ev_op (ev_var rfl) ev_c (rv_I (Or.inr ⟨by decide, by decide⟩))) (ev_op (ev_int1 (ev_var rfl)) ev_c (rv_I (by decide))) rv_I0)) ev_c (rv_I (by decide))) (fun H3 e3 => ?_)
      exact ⟨_, _, rfl, e'.trans e3, e3 _ _ hp, Int.emod_nonneg _ (by decide), Int.emod_lt_of_pos _ (by decide)⟩
    · rintro p σ' H' ⟨m, s4, rfl, e', hp, hm1, hm2⟩
      refine s_retL (xs := [.int (if decide (own < 0) || decide (own ≥ 10 ^ 16) then (if own < 0 then -own else own) else 0), .int m, .int 0]) (el_lst (ea_cons (ev_if (b := decide (own < 0) || decide (own ≥ 10 ^ 16)) (et_or (et_test (ev_op (ev_var rfl) ev_c rv_I0)) (fun _ => et_test (ev_op (ev_var rfl) (ev_op ev_c ev_c (rv_I ⟨by decide, by decide, by decide⟩)) rv_I0))) (fun h => ?_) (fun h => ?_)) (ea_cons (ev_var rfl) (ea_cons ev_c ea_nil))) (few5 rfl)) (fun d H3 hd e3 h3 => ?_)
      · rw [if_pos h]
        exact fun H4 e4 Q4 q4 => ev_var (i := 2) (v := .int own) rfl H4 (Ex.refl _) _ (fun H5 e5 => ⟨own, rfl, q4 H5 e5⟩)
      · rw [if_neg (by rw [h]; decide)]
        exact ev_c
      · refine q d H3 (fresh_back e' hd) (e'.trans e3) ⟨_, m, 0, ?_, hm1, hm2, Nat.le_refl _, h3⟩
        split
        · split <;> omega
        · omega

end
end Tx
end
section
set_option Elab.async false
set_option linter.all false
set_option maxRecDepth 100000
set_option maxHeartbeats 4000000
namespace Tx
open PySem PySem.Spec PyProof.Rows L2 Evl Wk
section
variable {w : World} {K : PySem.W.Frag} {mg : Str → Option Value} {base : Heap}

theorem dice_ne {k : Nat} {d a : Addr} {H : Hp} (h : DiceAt k d H) (ha : H a = none) : a ≠ d := fun e => by
  obtain ⟨b, m, c, _, _, _, _, h5⟩ := h
  subst e
  rw [ha] at h5
  cases h5
theorem dice_upd {k : Nat} {d a : Addr} {H : Hp} {o : HO} (h : DiceAt k d H) (ha : a ≠ d) : DiceAt k d (upd H a o) := by
  obtain ⟨b, m, c, h1, h2, h3, h4, h5⟩ := h
  exact ⟨b, m, c, h1, h2, h3, h4, by rw [upd_ne ha.symm]; exact h5⟩
section
variable {σ : L2.St} {H : Hp} {ta te tl tn : TE} {tr : TA} {D : Ends} {tu tz : TS} {d : Addr}
theorem d_roll {E : XK} {n : Nat} (hd : Ev ta σ (del H d) (.ref d)) (hn : Ev te σ (del H d) (.int (n : Int))) (h1 : 1 ≤ n) (h2 : n < 1000000) : ED (tCall sp_roll [] E (tCons ta (tCons te tNil))) σ d H 1 (fun v _ => ∃ i : Nat, i < n ∧ v = .int (i : Int)) := fun k H1 e hk hlt Q q =>
  (ea_cons hd (ea_cons hn ea_nil)) H1 e _ fun H2 e2 => by
    refine ⟨del H2 d, k, d, n, rfl, h1, h2, by omega, del_same, ex_del H2 d, hk.ex e2, fun i H' hi e' hd' => q _ H' ((Ed.of e2).trans e') hd' ⟨i, hi, rfl⟩⟩
theorem d_pickN {E : XK} {xs : List V} (hd : Ev ta σ (del H d) (.ref d)) (hl : EvL te σ (del H d) xs) (h1 : xs ≠ []) (h2 : xs.length < 1000) : ED (tCall (sp_pick K) [] E (tCons ta (tCons te tNil))) σ d H 1 (fun v _ => v ∈ xs) := fun k H1 e hk hlt Q q =>
  hd H1 e _ fun H2 e2 => hl H2 (Ex.trans e e2) _ fun a H3 ha e3 h3 => by
    have hne : a ≠ d := dice_ne (hk.ex e2) ha
    refine ⟨del H3 d, k, d, a, xs, rfl, h1, h2, by omega, del_same, ex_del H3 d, hk.ex (e2.trans e3), by rw [del_ne hne]; exact h3, fun i x H' hi e' hd' => q _ H' ((Ed.of (e2.trans e3)).trans e') hd' (List.mem_of_getElem? hi)⟩
theorem d_pick {E : XK} {xs : List V} {a : Addr} (hd : Ev ta σ (del H d) (.ref d)) (hl : Ev te σ (del H d) (.ref a)) (ha : (del H d) a = some (.lst xs)) (h1 : xs ≠ []) (h2 : xs.length < 1000) : ED (tCall (sp_pick K) [] E (tCons ta (tCons te tNil))) σ d H 1 (fun v _ => v ∈ xs) := fun k H1 e hk hlt Q q =>
  hd H1 e _ fun H2 e2 => hl H2 (Ex.trans e e2) _ fun H3 e3 => by
    have hne : a ≠ d := fun x => by subst x; rw [del_same] at ha; cases ha
    refine ⟨del H3 d, k, d, a, xs, rfl, h1, h2, by omega, del_same, ex_del H3 d, hk.ex (e2.trans e3), by rw [del_ne hne]; exact (Ex.trans e (e2.trans e3)) _ _ ha, fun i x H' hi e' hd' => q _ H' ((Ed.of (e2.trans e3)).trans e') hd' (List.mem_of_getElem? hi)⟩
/-- [e for _ in range(n)], all of which roll -/
theorem d_lcR {j N c0 c1 : Nat} {vs : List Nat} {P : V → Prop} (hn : ED tn σ d H c0 (fun v _ => ∃ i : Nat, i ≤ N ∧ v = .int (i : Int))) (hN : N ≤ 100) (hw : ∀ x, wipe ((wipe σ vs).set j (some x)) vs = wipe σ vs)
    (he : ∀ (i : Nat) H1, Ed d H H1 → ED te ((wipe σ vs).set j (some (.int (i : Int)))) d H1 c1 (fun v _ => P v)) :
    ED (tLc (iRng1 (tCons tn tNil)) (gName j) tYes te vs) σ d H (c0 + N * c1) (fun v H' => ∃ p ys, v = .ref p ∧ H p = none ∧ p ≠ d ∧ H' p = some (.lst ys) ∧ ys.length ≤ N ∧ ∀ y, y ∈ ys → P y) := fun k H1 e hk hlt Q q =>
  hn k H1 e hk (by omega) _ fun v H2 e2 hk2 ⟨n, hnN, ev⟩ => by
    subst ev
    have hmul : ∀ i, i ≤ n → i * c1 ≤ N * c1 := fun i hi => Nat.mul_le_mul_right _ (Nat.le_trans hi hnN)
    refine ⟨(n : Int), rfl, by omega, by omega, fun Dl hD => ?_⟩
    have hDd : Dl ≠ d := dice_ne hk2 hD
    refine lc_it (walk_range (lo := 0)) (fun i H' => Ed d H2 H' ∧ DiceAt (k + c0 + i * c1) d H' ∧ ∃ ys, H' Dl = some (.lst ys) ∧ ys.length = i ∧ ∀ y, y ∈ ys → P y) ⟨Ed.of (Ex.new hD), by rw [Nat.zero_mul]; exact dice_upd hk2 hDd, [], upd_same, rfl, fun y hy => by cases hy⟩ (fun _ _ _ _ => trivial) ?_ ?_
    · rintro i x H' H'' hi ⟨p1, p2, ys, p3, p4, p5⟩ ⟨rfl, rfl⟩
      have hin : i < n := by simpa using hi
      have e0 : (fun i : Nat => V.int ((0 : Int) + (i : Int))) i = V.int (i : Int) := by
        show V.int ((0 : Int) + (i : Int)) = _
        rw [Int.zero_add]
      rw [e0]
      refine ⟨hw _, et_yes (σ := (wipe σ vs).set j (some (.int (i : Int)))) H'' (Ex.refl _) _ fun H3 e3 => ?_⟩
      show te _ H3 _
      have h1 := hmul (i + 1) hin
      rw [Nat.add_mul, Nat.one_mul] at h1
      refine he i H3 (e.trans (e2.trans (p1.trans (Ed.of e3)))) (k + c0 + i * c1) H3 (Ed.refl d H3) (p2.ex e3) (by omega) _ fun u H4 e4 hk4 pu => ?_
      have hD4 := e4.at (e3 _ _ p3) hDd
      refine ⟨ys, hD4, sz_lt (by omega), Ex.mut (p1.trans ((Ed.of e3).trans e4)) (del_none hD), ?_, ys ++ [u], upd_same, by simp [p4], fun y hy => ?_⟩
      · rw [Nat.add_mul, Nat.one_mul, ← Nat.add_assoc]
        exact dice_upd hk4 hDd
      · rcases List.mem_append.mp hy with h | h
        · exact p5 y h
        · have : y = u := by simpa using h
          rw [this]; exact pu
    · rintro H' ⟨p1, p2, ys, p3, p4, p5⟩
      have h1 := hmul n (Nat.le_refl n)
      have hnt : (n : Int).toNat = n := by omega
      rw [hnt] at p2 p4
      refine q _ H' (e2.trans p1) (p2.mono (by omega)) ⟨Dl, ys, rfl, ?_, hDd, p3, by omega, p5⟩
      cases hh : H Dl with
      | none => rfl
      | some o =>
        have := (e.trans e2).at hh hDd
        rw [hD] at this
        cases this
end

end
end Tx
end
section
set_option Elab.async false
set_option linter.all false
set_option maxRecDepth 100000
set_option maxHeartbeats 4000000
namespace Tx
open PySem PySem.Spec PyProof.Rows L2 Evl Wk
section
variable {w : World} {K : PySem.W.Frag} {mg : Str → Option Value} {base : Heap}

section
variable {σ : L2.St} {H : Hp} {ta te tl tn : TE} {tr : TA} {D : Ends} {tu tz : TS} {d : Addr}
theorem q_forD {j L N c0 k : Nat} (hn : ED tn σ d H c0 (fun v _ => ∃ i : Nat, L ≤ i ∧ i ≤ N ∧ v = .int (i : Int))) (hk : DiceAt k d H) (hkc : k + c0 ≤ 90000) (hN : N ≤ 100) (Pv : Nat → L2.St → Hp → Prop) (h0 : ∀ H1, Ed d H H1 → DiceAt (k + c0) d H1 → Pv 0 σ H1)
    (hs : ∀ (i : Nat) σ' H', i < N → Pv i σ' H' → tu { D with nx := Pv (i + 1), ct := Pv (i + 1), bk := tz D } (σ'.set j (some (.int (i : Int)))) H') (hd : ∀ n σ' H', L ≤ n → n ≤ N → Pv n σ' H' → tz D σ' H') : tSeq (tFor (iRng1 (tCons tn tNil)) (gName j) tu) tz D σ H :=
  hn k H (Ed.refl d H) hk hkc _ fun v H2 e2 hk2 ⟨n, hL, hnN, ev⟩ => by
    subst ev
    refine ⟨(n : Int), rfl, by omega, by omega, ?_⟩
    refine for_it (D := { D with nx := tz D }) (walk_range (lo := 0)) Pv (h0 H2 e2 hk2) (fun _ _ _ _ _ => trivial) ?_ ?_
    · rintro i x σ' H' H'' hi p ⟨rfl, rfl⟩
      have hin : i < n := by simpa using hi
      have e0 : (fun i : Nat => V.int ((0 : Int) + (i : Int))) i = V.int (i : Int) := by
        show V.int ((0 : Int) + (i : Int)) = _
        rw [Int.zero_add]
      rw [e0]
      exact hs i σ' H'' (by omega) p
    · intro σ' H' p
      have hnt : (n : Int).toNat = n := by omega
      rw [hnt] at p
      exact hd n σ' H' hL hnN p
theorem d_add1 {c n : Nat} (h : ED te σ d H c (fun v _ => ∃ i : Nat, i < n ∧ v = .int (i : Int))) : ED (tOp (rI0 fun i j => .int (i + j)) (tC (.int 1)) te) σ d H c (fun v _ => ∃ i : Nat, 1 ≤ i ∧ i ≤ n ∧ v = .int (i : Int)) := fun k H1 e hk hc Q q =>
  h k H1 e hk hc _ fun v H2 e2 hk2 ⟨i, hi, ev⟩ => by
    subst ev
    have h1 : V.int (1 + (i : Int)) = V.int ((i + 1 : Nat) : Int) := by
      rw [Int.natCast_add, Int.add_comm]
      rfl
    exact ⟨1, (i : Int), rfl, rfl, q (.int (1 + (i : Int))) H2 e2 hk2 ⟨i + 1, Nat.succ_pos i, hi, h1⟩⟩
theorem qd_asg {i c k : Nat} {P : V → Hp → Prop} (h : ED te σ d H c P) (hk : DiceAt k d H) (hc : k + c ≤ 90000) (kk : ∀ v H1, Ed d H H1 → DiceAt (k + c) d H1 → P v H1 → tz D (σ.set i (some v)) H1) : tSeq (tAsg te (gName i)) tz D σ H := h k H (Ed.refl d H) hk hc _ kk
/-- xs.append((e, x, y)), e rolls -/
theorem sd_app3 {c k : Nat} {l : Addr} {xs : List V} {P : V → Prop} {x y : V} {tx1 ty1 : TE} (hl : H l = some (.lst xs)) (hld : l ≠ d) (ha : Ev ta σ H (.ref l)) (h : ED te σ d H c (fun v _ => P v)) (hx : Ev tx1 σ (del H d) x) (hy : Ev ty1 σ (del H d) y) (hk : DiceAt k d H) (hc : k + c ≤ 90000) (hz : xs.length < 100000)
    (kk : ∀ v p H1, Ed d H H1 → DiceAt (k + c) d H1 → P v → H p = none → H1 p = some (.tup [v, x, y]) → D.nx σ (upd H1 l (.lst (xs ++ [.ref p])))) :
    tDrop (tBM K "list" rAppend ta (tCons (tTup (tCons te (tCons tx1 (tCons ty1 tNil)))) tNil)) D σ H := ha H (Ex.refl H) _ fun H1 e1 =>
  ⟨Or.inl ⟨rfl, xs, sq_of (e1 l _ hl)⟩, h k H1 (Ed.of e1) (hk.ex e1) hc _ fun v H2 e2 hk2 pv => by
    have e12 := (Ed.of (d := d) e1).trans e2
    refine hx H2 e12 _ fun H3 e3 => ?_
    refine hy H3 (Ex.trans e12 e3) _ fun H4 e4 => ?_
    refine ⟨few5' rfl, fun p hp => ?_⟩
    have e14 := e12.trans (Ed.of (e3.trans e4))
    have hp0 : H p = none := by
      cases hh : H p with
      | none => rfl
      | some o =>
        have hpd : p ≠ d := dice_ne (hk2.ex (e3.trans e4)) hp
        have := e14.at hh hpd
        rw [hp] at this
        cases this
    have hl4 := e14.at hl hld
    have hlp : l ≠ p := ne_new hl4 hp
    refine ⟨l, xs, .ref p, rfl, rfl, by rw [upd_ne hlp]; exact hl4, sz_lt hz, kk v p _ (e14.trans (Ed.of (Ex.new hp))) (hk2.ex ((e3.trans e4).trans (Ex.new hp))) pv hp0 upd_same⟩⟩
end
theorem ED.imp {te : TE} {σ : L2.St} {d : Addr} {H : Hp} {c : Nat} {P R : V → Hp → Prop} (h : ED te σ d H c P) (i : ∀ v H, P v H → R v H) : ED te σ d H c R := fun k H1 e hk hc Q q => h k H1 e hk hc Q fun v H2 e2 hk2 p => q v H2 e2 hk2 (i v H2 p)
theorem names_back {as : List Nat} : ∀ ys : List V, (∀ y, y ∈ ys → y ∈ nmL as) → ∃ cs : List Nat, ys = nmL cs ∧ ∀ c, c ∈ cs → c ∈ as
  | [], _ => ⟨[], rfl, fun c h => by cases h⟩
  | y :: ys, h => by
    obtain ⟨cs, h1, h2⟩ := names_back ys fun z hz => h z (List.mem_cons_of_mem _ hz)
    obtain ⟨c, hc, rfl⟩ := List.mem_map.mp (h y List.mem_cons_self)
    exact ⟨c :: cs, by rw [h1]; rfl, fun a ha => by
      rcases List.mem_cons.mp ha with x | x
      · rw [x]; exact hc
      · exact h2 a x⟩
theorem nm_dice {cs : List Nat} {b m c : Int} : HO.lst (nmL cs) ≠ HO.lst [.int b, .int m, .int c] := fun h => by
  have h1 := HO.lst.inj h
  cases cs with
  | nil => cases h1
  | cons x xs =>
    have h2 := (List.cons.inj h1).1
    cases h2
theorem row_ed {k : Nat} {d f : Addr} {H H' : Hp} {r : Rw} {v : V} (hk : DiceAt k d H) (e : Ed d H H') (h : RowAt r v (del H f)) : RowAt r v (del H' f) := by
  obtain ⟨p, w, dn, h1, h2, h3, h4⟩ := h
  obtain ⟨b, m, c, _, _, _, _, h5⟩ := hk
  have key : ∀ a o, del H f a = some o → o ≠ .lst [.int b, .int m, .int (c : Int)] → del H' f a = some o := fun a o ho hn => by
    have haf : a ≠ f := fun x => by subst x; rw [del_same] at ho; cases ho
    rw [del_ne haf] at ho ⊢
    exact e.at ho (fun x => by subst x; rw [h5] at ho; exact hn (Option.some.inj ho).symm)
  exact ⟨p, w, dn, h1, key _ _ h2 (by intro h; cases h), key _ _ h3 nm_dice, key _ _ h4 nm_dice⟩
def abc : List Nat := [97, 98, 99, 100, 101]
theorem lit_abc : [V.str "a", V.str "b", V.str "c", V.str "d", V.str "e"] = nmL abc := by
  have ha : ("a" : Str) = tx [97] := by decide +kernel
  have hb : ("b" : Str) = tx [98] := by decide +kernel
  have hc : ("c" : Str) = tx [99] := by decide +kernel
  have hd : ("d" : Str) = tx [100] := by decide +kernel
  have he : ("e" : Str) = tx [101] := by decide +kernel
  rw [ha, hb, hc, hd, he]
  rfl
def GoodR' (rs : List Rw) : Prop := ∀ r, r ∈ rs → r.1 ∈ abc ∧ r.2.1.length ≤ 2 ∧ r.2.2.length ≤ 2 ∧ (∀ c, c ∈ r.2.1 → c ∈ abc) ∧ ∀ c, c ∈ r.2.2 → c ∈ abc
def GoodR (rs : List Rw) : Prop := rs.length ≤ 7 ∧ GoodR' rs
def sp_wt_named : Sp := fun vs H Q _ => ∃ (d : Addr) (k : Nat), vs = [.ref d] ∧ DiceAt k d H ∧ k ≤ 80000 ∧ ∀ p rs H', H p = none → Ed d H H' → DiceAt (k + 60) d H' → RowsAt rs p H' → GoodR rs → rs ≠ [] → Q (.ref p) H'
theorem sc__law_wt_named : FnScope ["dice", "found", "turn", "wanted", "part", "denied"] ["dice"] (defScope s__law_wt_named) := ⟨rfl, rfl, rfl, by decide +kernel, rfl, by decide +kernel, by decide +kernel⟩
theorem ok__law_wt_named (Z : Zx K mg) : OkD prog w K mg base CX0 3 "_law_wt_named" ["dice"] (sp_wt_named) := by
  obtain ⟨fd, F0⟩ := Z.fun_ 50
  have F : Fun K "_law_wt_named" "_law_wt_named" s__law_wt_named (He.ga K "_law_wt_named") fd := Wk.fun_of F0
  obtain ⟨_, g__law_pick, b__law_pick, m__law_pick, k__law_pick⟩ := ok__law_pick (w := w) (base := base) Z
  obtain ⟨_, g__law_roll, b__law_roll, m__law_roll, k__law_roll⟩ := ok__law_roll (w := w) (base := base) Z
  have n_range := Z.free 67 (x := "range")
  refine ⟨fd, ?_, F.binds (ps := ["dice"]) fun _ _ _ _ _ _ us hl => match us, hl with | [_], _ => rfl, Z.glo 40, F.kp⟩
  refine F.ok sc__law_wt_named (fun vs H Q E h => ?_) (fun cdv A outer s H vs Q E hr h => ?_)
  · obtain ⟨d, k, rfl, hk, hk2, q⟩ := h
    rfl
  · obtain ⟨d, k, rfl, hk, hk2, q⟩ := h
    refine ⟨_, (pss_cons (ps_set (i := 1) sc__law_wt_named.nd rfl (by first | exact Or.inl rfl | exact Or.inr rfl) (pe_lst pa_nil)) (pss_cons (ps_for PassesOwn.never rfl (pi_range1 (by rfl) n_range (pa_cons (pe_op op_add pe_int (pe_call g__law_roll (hr.mono (by decide)) (by rfl) m__law_roll k__law_roll b__law_roll .nil pass0 (pa_cons (pv 0) (pa_cons pe_int pa_nil)))) pa_nil)) (pg_name (i := 2) sc__law_wt_named.nd rfl (by first | exact Or.inl rfl | exact Or.inr rfl)) (pss_cons (ps_setLc (i := 3) (own := [("part", 4)]) rfl sc__law_wt_named.nd rfl rfl (sw_true rfl rfl rfl (by decide +kernel)) (pi_range1 (by rfl) n_range (pa_cons (pe_call g__law_roll (hr.mono (by decide)) (by rfl) m__law_roll k__law_roll b__law_roll .nil pass0 (pa_cons (pv 0) (pa_cons pe_int pa_nil))) pa_nil)) (blkOk_by (own := [("part", 4)]) (N := ["dice", "found", "turn", "wanted", "part", "denied"]) (sc := defScope s__law_wt_named) (by decide +kernel)) (fun _ _ _ _ _ => pg_name (i := 4) sc__law_wt_named.nd rfl (by first | exact Or.inl rfl | exact Or.inr rfl)) (fun _ _ _ _ _ => pts_nil) (fun _ _ _ _ _ => (pe_call g__law_pick (hr.mono (by decide)) (by rfl) m__law_pick k__law_pick b__law_pick .nil pass0 (pa_cons (pv 0) (pa_cons (pe_lst (pa_cons pe_str (pa_cons pe_str (pa_cons pe_str (pa_cons pe_str (pa_cons pe_str pa_nil)))))) pa_nil))))) (pss_cons (ps_setLc (i := 5) (own := [("part", 4)]) rfl sc__law_wt_named.nd rfl rfl (sw_true rfl rfl rfl (by decide +kernel)) (pi_range1 (by rfl) n_range (pa_cons (pe_call g__law_pick (hr.mono (by decide)) (by rfl) m__law_pick k__law_pick b__law_pick .nil pass0 (pa_cons (pv 0) (pa_cons (pe_lst (pa_cons pe_int (pa_cons pe_int (pa_cons pe_int (pa_cons pe_int (pa_cons pe_int pa_nil)))))) pa_nil))) pa_nil)) (blkOk_by (own := [("part", 4)]) (N := ["dice", "found", "turn", "wanted", "part", "denied"]) (sc := defScope s__law_wt_named) (by decide +kernel)) (fun _ _ _ _ _ => pg_name (i := 4) sc__law_wt_named.nd rfl (by first | exact Or.inl rfl | exact Or.inr rfl)) (fun _ _ _ _ _ => pts_nil) (fun _ _ _ _ _ => (pe_call g__law_pick (hr.mono (by decide)) (by rfl) m__law_pick k__law_pick b__law_pick .nil pass0 (pa_cons (pv 0) (pa_cons (pe_lst (pa_cons pe_str (pa_cons pe_str (pa_cons pe_str (pa_cons pe_str (pa_cons pe_str pa_nil)))))) pa_nil))))) (pss_one (ps_expr (pe_bm PySem.F.plainAttrs_list PySem.F.slot_list_append PySem.F.type_list_append mt_append (pv 1) (pa_cons (pe_tup (pa_cons (pe_call g__law_pick (hr.mono (by decide)) (by rfl) m__law_pick k__law_pick b__law_pick .nil pass0 (pa_cons (pv 0) (pa_cons (pe_lst (pa_cons pe_str (pa_cons pe_str (pa_cons pe_str (pa_cons pe_str (pa_cons pe_str pa_nil)))))) pa_nil))) (pa_cons (pv 3) (pa_cons (pv 5) pa_nil)))) pa_nil))))))) (pss_one (ps_ret (pv 1))))), ?_⟩
    refine q_asgL (xs := []) (el_lst ea_nil (few5 rfl)) (fun f H1 hf e1 h1 => ?_)
    have hk1 := hk.ex e1
    have hfd : f ≠ d := dice_ne hk hf
    refine q_forD (L := 1) (N := 7) (d := d) (d_add1 (n := 7) (d_roll (n := 7) (ev_var rfl) ev_c (by decide) (by decide))) hk1 (by omega) (by decide) (fun i σ' H' => ∃ s2 s3 s5 ys rs, σ' = [some (.ref d), some (.ref f), s2, s3, none, s5] ∧ Ed d H H' ∧ DiceAt (k + 1 + i * 8) d H' ∧ H' f = some (.lst ys) ∧ AllV RowAt rs ys (del H' f) ∧ rs.length = i ∧ GoodR' rs)
      (fun H2 e2 hk2 => ⟨none, none, none, [], [], rfl, (Ed.of e1).trans e2, hk2, e2.at h1 hfd, AllV.nil, rfl, fun r hr => by cases hr⟩) ?_ ?_
    · rintro i σ' H' hi ⟨s2, s3, s5, ys, rs, rfl, e', hk', hf', hrs, hlen, hgood⟩
      have hfH : H f = none := hf
      have hlit : ∀ (σ : L2.St) (H0 : Hp), EvL (tLst (tCons (tC (.str "a")) (tCons (tC (.str "b")) (tCons (tC (.str "c")) (tCons (tC (.str "d")) (tCons (tC (.str "e")) tNil)))))) σ H0 (nmL abc) := fun σ H0 => by
        rw [← lit_abc]
        exact el_lst (ea_cons ev_c (ea_cons ev_c (ea_cons ev_c (ea_cons ev_c (ea_cons ev_c ea_nil))))) (few5 rfl)
      refine qd_asg (k := k + 1 + i * 8) (c := 1 + 2 * 1) (d := d) (d_lcR (N := 2) (c0 := 1) (c1 := 1) (P := fun v => v ∈ nmL abc) (ED.imp (d_roll (n := 3) (ev_var rfl) ev_c (by decide) (by decide)) (fun v H2 ⟨i, hi, ev⟩ => ⟨i, by omega, ev⟩)) (by decide) (fun _ => rfl) (fun j H2 e2 => d_pickN (ev_var rfl) (hlit _ _) (by decide) (by decide))) hk' (by omega) ?_
      rintro v H2 e2 hk2 ⟨wa, ws, rfl, hwa, hwd, h2, hwl, hws⟩
      obtain ⟨wcs, rfl, hwc⟩ := names_back ws hws
      rw [nmL_len] at hwl
      refine qd_asg (k := k + 1 + i * 8 + (1 + 2 * 1)) (c := 1 + 2 * 1) (d := d) (d_lcR (N := 2) (c0 := 1) (c1 := 1) (P := fun v => v ∈ nmL abc) (ED.imp (d_pickN (xs := [.int 0, .int 0, .int 1, .int 1, .int 2]) (ev_var rfl) (el_lst (ea_cons ev_c (ea_cons ev_c (ea_cons ev_c (ea_cons ev_c (ea_cons ev_c ea_nil))))) (few5 rfl)) (by simp) (by decide)) (fun v H2 hv => ?_)) (by decide) (fun _ => rfl) (fun j H3 e3 => d_pickN (ev_var rfl) (hlit _ _) (by decide) (by decide))) hk2 (by omega) ?_
      · simp only [List.mem_cons, List.not_mem_nil, or_false] at hv
        rcases hv with h | h | h | h | h
        · exact ⟨0, by decide, h⟩
        · exact ⟨0, by decide, h⟩
        · exact ⟨1, by decide, h⟩
        · exact ⟨1, by decide, h⟩
        · exact ⟨2, by decide, h⟩
      rintro v H3 e3 hk3 ⟨da, ds, rfl, hda, hdd, h3, hdl, hds⟩
      obtain ⟨dcs, rfl, hdc⟩ := names_back ds hds
      rw [nmL_len] at hdl
      have e23 := e2.trans e3
      have hf3 := e23.at hf' hfd
      have hw3 := e3.at h2 hwd
      have hwf : wa ≠ f := fun x => by subst x; rw [hf'] at hwa; cases hwa
      have hdf : da ≠ f := fun x => by subst x; rw [e2.at hf' hfd] at hda; cases hda
      have hyl := hrs.1
      refine sd_app3 (K := K) (d := d) (k := k + 1 + i * 8 + (1 + 2 * 1) + (1 + 2 * 1)) (c := 1) (P := fun v => v ∈ nmL abc) hf3 hfd (ev_var rfl) (d_pickN (ev_var rfl) (hlit _ _) (by decide) (by decide)) (ev_var rfl) (ev_var rfl) hk3 (by omega) (by omega) ?_
      rintro v p H4 e4 hk4 hv hp hp4
      obtain ⟨c, hc, rfl⟩ := List.mem_map.mp hv
      have hf4 := e4.at hf3 hfd
      refine ⟨_, _, _, ys ++ [.ref p], rs ++ [(c, wcs, dcs)], rfl, Ex.mut (e'.trans (e23.trans e4)) (del_none hfH), (dice_upd hk4 hfd).mono (by omega), upd_same, ?_, by simp [hlen], ?_⟩
      · rw [del_upd]
        have r1 : AllV RowAt rs ys (del H4 f) := ⟨hrs.1, fun j v r hv hr => row_ed hk' (e23.trans e4) (hrs.2 j v r hv hr)⟩
        exact r1.app ⟨p, wa, da, rfl, by rw [del_ne (fun x => by subst x; rw [hf3] at hp; cases hp)]; exact hp4, by rw [del_ne hwf]; exact e4.at hw3 hwd, by rw [del_ne hdf]; exact e4.at h3 hdd⟩
      · intro r hr
        rcases List.mem_append.mp hr with h | h
        · exact hgood r h
        · have : r = (c, wcs, dcs) := by simpa using h
          rw [this]
          exact ⟨hc, hwl, hdl, hwc, hdc⟩
    · rintro n σ' H' hL hn ⟨s2, s3, s5, ys, rs, rfl, e', hk', hf', hrs, hlen, hgood⟩
      refine s_ret (ev_var rfl) (fun H2 e2 => ?_)
      exact q f rs H2 hf (e'.trans (Ed.of e2)) ((hk'.ex e2).mono (by omega)) ⟨ys, e2 _ _ hf', AllV.mo RowAt.mo _ _ _ ((ex_del H' f).trans e2) hrs⟩ ⟨by omega, hgood⟩ (fun h => by rw [h] at hlen; simp at hlen; omega)

end
end Tx
end
section
set_option Elab.async false
set_option linter.all false
set_option maxRecDepth 100000
set_option maxHeartbeats 4000000
namespace Tx
open PySem PySem.Spec PyProof.Rows L2 Evl Wk
section
variable {w : World} {K : PySem.W.Frag} {mg : Str → Option Value} {base : Heap}

abbrev rAddS' : R2 := fun x y H Q => ∃ i j, x = V.str i ∧ y = V.str j ∧ i.length + j.length ≤ sizeLine ∧ Q (.str (i ++ j)) H
theorem sum_le {n : Nat} : ∀ ls : List (List Nat), (∀ l, l ∈ ls → l.length ≤ n) → ((ls.map tx).map (·.length)).sum ≤ ls.length * n
  | [], _ => by simp
  | l :: ls, h => by
    have ih := sum_le ls fun m hm => h m (List.mem_cons_of_mem _ hm)
    have h1 := h l List.mem_cons_self
    simp only [List.map_cons, List.sum_cons, List.length_cons, tx_len, Nat.add_mul]
    omega
theorem ev_joinL {σ : L2.St} {H : Hp} {to te : TE} {s : List Nat} {ls : List (List Nat)} {n : Nat} (hs : Ev to σ H (.str (tx s))) (hl : EvL te σ H (ls.map fun l => V.str (tx l))) (hn : ∀ l, l ∈ ls → l.length ≤ n) (hz : ls.length * n + ls.length * s.length ≤ 16777216) :
    Ev (tM1 (fun x xs H Q => ∃ a p, ∃ ys : List Str, x = .str a ∧ xs = [.ref p] ∧ (SqL K H p (ys.map V.str) ∨ SqT K H p (ys.map V.str)) ∧ (ys.map (·.length)).sum + ys.length * a.length ≤ 16777216 ∧ Q (.str (Txt.join a ys)) H) to te) σ H (.str (tx (TL.joinL s ls))) := fun H1 e Q q =>
  hs H1 e _ fun H2 e2 => ⟨⟨_, rfl⟩, hl H2 (e.trans e2) _ fun p H3 hp e3 h3 => ⟨tx s, p, ls.map tx, rfl, rfl, .inl (sq_of (by rw [h3, List.map_map]; rfl)), by
    have := sum_le ls hn
    rw [List.length_map, tx_len]
    omega, by
    rw [SX.join_S]
    exact q H3 (e2.trans e3)⟩⟩
theorem ev_joinA {σ : L2.St} {H : Hp} {to te : TE} {s : List Nat} {ls : List (List Nat)} {n : Nat} {p : Addr} (hs : Ev to σ H (.str (tx s))) (hl : Ev te σ H (.ref p)) (hp : H p = some (.lst (ls.map fun l => V.str (tx l)))) (hn : ∀ l, l ∈ ls → l.length ≤ n) (hz : ls.length * n + ls.length * s.length ≤ 16777216) :
    Ev (tM1 (fun x xs H Q => ∃ a p, ∃ ys : List Str, x = .str a ∧ xs = [.ref p] ∧ (SqL K H p (ys.map V.str) ∨ SqT K H p (ys.map V.str)) ∧ (ys.map (·.length)).sum + ys.length * a.length ≤ 16777216 ∧ Q (.str (Txt.join a ys)) H) to te) σ H (.str (tx (TL.joinL s ls))) := fun H1 e Q q =>
  hs H1 e _ fun H2 e2 => ⟨⟨_, rfl⟩, hl H2 (e.trans e2) _ fun H3 e3 => ⟨tx s, p, ls.map tx, rfl, rfl, .inl (sq_of (by rw [(e.trans (e2.trans e3)) _ _ hp, List.map_map]; rfl)), by
    have := sum_le ls hn
    rw [List.length_map, tx_len]
    omega, by
    rw [SX.join_S]
    exact q H3 (e2.trans e3)⟩⟩
theorem el_catE {σ : L2.St} {H : Hp} {ta te : TE} {xs ys : List V} {q : Addr} (hb : Ev ta σ H (.ref q)) (hq : H q = some (.lst xs)) (h : EvL te σ H ys) (hz : xs.length + ys.length ≤ 100000) : EvL (tOp rCat ta te) σ H (xs ++ ys) := fun H1 e Q k =>
  hb H1 e _ fun H2 e2 => h H2 (e.trans e2) _ fun p H3 hp e3 h3 => ⟨q, p, xs, ys, rfl, rfl, (e.trans (e2.trans e3)) _ _ hq, h3, sz_of hz, fun o ho => k o _ (fresh_back (e2.trans e3) ho) ((e2.trans e3).trans (Ex.new ho)) upd_same⟩
theorem joinL_flat : ∀ ls : List (List Nat), TL.joinL [] ls = ls.flatten
  | [] => rfl
  | [l] => by simp [TL.joinL]
  | l :: m :: ls => by
    show l ++ ([] ++ TL.joinL [] (m :: ls)) = _
    rw [joinL_flat (m :: ls)]
    rfl
def partsT (r : Rw) : List (List Nat) := r.2.1.map (fun c => [c]) ++ r.2.2.map (fun c => notW ++ [c])
theorem joinL_len : ∀ (ls : List (List Nat)), (∀ l, l ∈ ls → l.length ≤ 5) → (TL.joinL [44, 32] ls).length ≤ ls.length * 7
  | [], _ => by simp [TL.joinL]
  | [l], h => by
    have := h l List.mem_cons_self
    show l.length ≤ _
    simp
    omega
  | l :: m :: ls, h => by
    have ih := joinL_len (m :: ls) fun x hx => h x (List.mem_cons_of_mem _ hx)
    have h1 := h l List.mem_cons_self
    show (l ++ ([44, 32] ++ TL.joinL [44, 32] (m :: ls))).length ≤ _
    rw [List.length_append, List.length_append]
    simp only [List.length_cons, List.length_nil] at ih ⊢
    omega
theorem partsT_len (r : Rw) : ∀ l, l ∈ partsT r → l.length ≤ 5 := fun l hl => by
  simp only [partsT, List.mem_append, List.mem_map] at hl
  rcases hl with ⟨c, _, h⟩ | ⟨c, _, h⟩
  · rw [← h]; simp
  · rw [← h]; simp [notW]
def bodyT (r : Rw) : List Nat := TL.joinL [44, 32] (r.2.1.map (fun c => [c]) ++ r.2.2.map (fun c => notW ++ [c]))
def lineT (r : Rw) : List Nat := ([r.1] ++ (if bodyT r = [] then [] else [32, 58, 45, 32] ++ bodyT r)) ++ [46]
def sp_wt_text : Sp := fun vs H Q _ => ∃ (a : Addr) (rs : List Rw), vs = [.ref a] ∧ RowsAt rs a H ∧ rs.length ≤ 7 ∧ (∀ r, r ∈ rs → r.2.1.length ≤ 2 ∧ r.2.2.length ≤ 2) ∧ RetV (.str (tx (progT (rs.map lineT)))) H Q
theorem sc__law_wt_named_text : FnScope ["clauses", "rows", "head", "wanted", "denied", "body", "name"] ["clauses"] (defScope s__law_wt_named_text) := ⟨rfl, rfl, rfl, by decide +kernel, rfl, by decide +kernel, by decide +kernel⟩
theorem ok__law_wt_named_text (Z : Zx K mg) : OkD prog w K mg base CX0 1 "_law_wt_named_text" ["clauses"] (sp_wt_text) := by
  obtain ⟨fd, F0⟩ := Z.fun_ 51
  have F : Fun K "_law_wt_named_text" "_law_wt_named_text" s__law_wt_named_text (He.ga K "_law_wt_named_text") fd := Wk.fun_of F0
  refine ⟨fd, ?_, F.binds (ps := ["clauses"]) fun _ _ _ _ _ _ us hl => match us, hl with | [_], _ => rfl, Z.glo 41, F.kp⟩
  refine F.ok sc__law_wt_named_text (fun vs H Q E h => ?_) (fun cdv A outer s H vs Q E hr h => ?_)
  · obtain ⟨a, rs, rfl, ⟨us, ha, hall⟩, hn, hsz, k⟩ := h
    rfl
  · obtain ⟨a, rs, rfl, ⟨us, ha, hall⟩, hn, hsz, k⟩ := h
    refine ⟨_, (pss_cons (ps_set (i := 1) sc__law_wt_named_text.nd rfl (by first | exact Or.inl rfl | exact Or.inr rfl) (pe_lst pa_nil)) (pss_cons (ps_for PassesOwn.never rfl (pi_list (pv 0)) (pg_tup rfl (pgs_cons (pg_name (i := 2) sc__law_wt_named_text.nd rfl (by first | exact Or.inl rfl | exact Or.inr rfl)) (pgs_cons (pg_name (i := 3) sc__law_wt_named_text.nd rfl (by first | exact Or.inl rfl | exact Or.inr rfl)) (pgs_cons (pg_name (i := 4) sc__law_wt_named_text.nd rfl (by first | exact Or.inl rfl | exact Or.inr rfl)) pgs_nil)))) (pss_cons (ps_set (i := 5) sc__law_wt_named_text.nd rfl (by first | exact Or.inl rfl | exact Or.inr rfl) (pe_join pe_str (pe_op op_cat (pv 3) (pe_lc (own := [("name", 6)]) rfl sc__law_wt_named_text.nd (pi_list (pv 4)) (blkOk_by (own := [("name", 6)]) (N := ["clauses", "rows", "head", "wanted", "denied", "body", "name"]) (sc := defScope s__law_wt_named_text) (by decide +kernel)) (fun _ _ _ _ _ => pg_name (i := 6) sc__law_wt_named_text.nd rfl (by first | exact Or.inl rfl | exact Or.inr rfl)) (fun _ _ _ _ _ => pts_nil) (fun _ _ _ _ _ => (pe_op op_add_str pe_str (pv 6))))))) (pss_one (ps_expr (pe_bm PySem.F.plainAttrs_list PySem.F.slot_list_append PySem.F.type_list_append mt_append (pv 1) (pa_cons (pe_op op_add_str (pe_op op_add_str (pv 2) (pe_ifExp (pt_cmpR op_ne (pv 5) pe_str (nomark _)) (pe_op op_add_str pe_str (pv 5)) pe_str)) pe_str) pa_nil)))))) (pss_one (ps_ret (pe_join pe_str (pv 1)))))), ?_⟩
    have hul := hall.1
    have zc : (", " : Str) = tx [44, 32] := by decide +kernel
    have za : (" :- " : Str) = tx [32, 58, 45, 32] := by decide +kernel
    have zd : (".\n" : Str) = tx [46, 10] := by decide +kernel
    refine q_asgL (xs := []) (el_lst ea_nil (few5 rfl)) (fun o H1 ho e1 h1 => ?_)
    have hbl : ∀ r, r ∈ rs → (partsT r).length ≤ 4 ∧ (bodyT r).length ≤ 28 := fun r hr => by
      obtain ⟨z1, z2⟩ := hsz r hr
      have h1 : (partsT r).length ≤ 4 := by unfold partsT; rw [List.length_append, List.length_map, List.length_map]; omega
      have h2 := joinL_len (partsT r) (partsT_len r)
      exact ⟨h1, Nat.le_trans h2 (by omega)⟩
    have hll : ∀ r, r ∈ rs → (lineT r ++ [10]).length ≤ 40 := fun r hr => by
      have := (hbl r hr).2
      unfold lineT
      split
      · simp
      · simp only [List.length_append, List.length_cons, List.length_nil]
        omega
    refine q_forL (K := K) (xs := us) (ev_var rfl) (sq_of (e1 _ _ ha)) (fun i σ' H' => ∃ s2 s3 s4 s5, σ' = [some (.ref a), some (.ref o), s2, s3, s4, s5, none] ∧ Ex H H' ∧ H' o = some (.lst (((rs.take i).map fun r => lineT r ++ [10]).map fun l => V.str (tx l)))) (fun H2 e2 => ⟨none, none, none, none, rfl, e1.trans e2, by rw [List.take_zero]; exact e2 _ _ h1⟩) (fun i σ' H' _ ⟨_, _, _, _, _, e, _⟩ => sq_of (e _ _ ha)) ?_ ?_
    · rintro i x σ' H' hx ⟨s2, s3, s4, s5, rfl, e', ho'⟩
      obtain ⟨r, hr, p, w, dn, rfl, c1, c2, c3⟩ := AllV.at hall hx
      have hmem := List.mem_of_getElem? hr
      obtain ⟨z1, z2⟩ := hsz r hmem
      have hi : i < us.length := (List.getElem?_eq_some_iff.mp hx).1
      refine ⟨p, _, rfl, st_of (e' _ _ c1), rfl, _, _, rfl, _, _, rfl, _, _, rfl, rfl, ?_⟩
      have hparts : nmL r.2.1 ++ r.2.2.map (fun c => V.str (tx (notW ++ [c]))) = (partsT r).map fun l => V.str (tx l) := by
        unfold partsT nmL
        rw [List.map_append, List.map_map, List.map_map]
        rfl
      have hp4 := (hbl r hmem).1
      refine q_asg (v := .str (tx (bodyT r))) (ev_joinL (s := [44, 32]) (ls := partsT r) (n := 5) (ev_is ev_c (by rw [zc])) (hparts ▸ el_catE (ev_var rfl) (e' _ _ c2) (el_map (as := r.2.2) (inj := nmV) (fun c => V.str (tx (notW ++ [c]))) (ei_L (K := K) (ev_var rfl) (sq_of (e' _ _ c3))) (by omega) (fun _ => rfl) (fun c _ H9 e9 => ev_is (ev_op ev_c (ev_var (v := .str (tx [c])) rfl) (rv_addS (by rw [not_eq, tx_len, tx_len]; show 4 + 1 ≤ sizeLine; decide))) (by rw [not_eq, tx_app]))) (by rw [nmL_len, List.length_map]; omega)) (partsT_len r) (by show (partsT r).length * 5 + (partsT r).length * 2 ≤ _; omega)) (fun H3 e3 => ?_)
      have hb28 := (hbl r hmem).2
      have hval : Ev (tOp rAddS' (tOp rAddS' (tVar 2) (tIf (tTest (tOp rNe (tVar 5) (tC (.str "")))) (tOp rAddS' (tC (.str " :- ")) (tVar 5)) (tC (.str "")))) (tC (.str ".\n"))) [some (.ref a), some (.ref o), some (nmV r.1), some (.ref w), some (.ref dn), some (.str (tx (bodyT r))), none] H3 (.str (tx (lineT r ++ [10]))) := by
        refine ev_is (ev_op (ev_op (ev_var (v := .str (tx [r.1])) rfl) (ev_if (v := .str (tx (if bodyT r = [] then [] else [32, 58, 45, 32] ++ bodyT r))) (b := decide (bodyT r ≠ [])) (et_is (et_test (ev_op (ev_var rfl) ev_c (rv_ne (by rfl)))) ?_) (fun h => ?_) (fun h => ?_)) (rv_addS ?_)) ev_c (rv_addS ?_)) ?_
        · rw [tx_nil, decide_not]
          congr 1
          rw [decide_eq_decide]
          constructor
          · intro h; exact tx_inj (V.str.inj h)
          · intro h; rw [h]
        · rw [if_neg (of_decide_eq_true h)]
          exact ev_is (ev_op ev_c (ev_var rfl) (rv_addS (by rw [za, tx_len, tx_len]; exact sz_of (by show 4 + _ ≤ _; omega)))) (by rw [za, tx_app])
        · rw [if_pos (Decidable.not_not.mp (of_decide_eq_false h))]
          exact ev_is ev_c (by rw [tx_nil])
        · rw [tx_len, tx_len]
          refine sz_of ?_
          split
          · simp
          · simp only [List.length_append, List.length_cons, List.length_nil]; omega
        · rw [tx_app, zd, tx_len, tx_len]
          refine sz_of ?_
          split
          · simp
          · simp only [List.length_append, List.length_cons, List.length_nil]; omega
        · rw [tx_app, zd, tx_app]
          unfold lineT
          rw [List.append_assoc ([r.1] ++ _) [46] [10]]
          rfl
      refine s_app (e3 _ _ ho') (ev_var rfl) hval (by rw [List.length_map, List.length_map, List.length_take]; omega) (fun H4 e4 => ⟨_, _, _, _, rfl, Ex.mut (e'.trans (e3.trans e4)) ho, ?_⟩)
      rw [upd_same, List.take_add_one, hr]
      show _ = some (HO.lst (((rs.take i ++ [r]).map _).map _))
      rw [List.map_append, List.map_append]
      rfl
    · rintro σ' H' ⟨s2, s3, s4, s5, rfl, e', ho'⟩
      rw [hul, List.take_length] at ho'
      have hfin : progT (rs.map lineT) = TL.joinL [] (rs.map fun r => lineT r ++ [10]) := by
        rw [joinL_flat]
        unfold progT
        rw [List.map_map]
        rfl
      rw [hfin] at k
      refine s_ret (ev_joinA (s := []) (n := 40) (ev_is ev_c (by rw [tx_nil])) (ev_var rfl) ho' (fun l hl => ?_) (by rw [List.length_map]; simp; omega)) (fun H2 e2 => k H2 (e'.trans e2))
      obtain ⟨r, hr, rfl⟩ := List.mem_map.mp hl
      exact hll r hr

end
end Tx
end
section
set_option Elab.async false
set_option linter.all false
set_option maxRecDepth 100000
set_option maxHeartbeats 4000000
namespace Tx
open PySem PySem.Spec PyProof.Rows L2 Evl Wk
section
variable {w : World} {K : PySem.W.Frag} {mg : Str → Option Value} {base : Heap}

def sp_subsets (K : PySem.W.Frag) : Sp := fun vs H Q _ => ∃ (a : Addr) (ns : List Nat), vs = [.ref a] ∧ SqL K H a (nmL ns) ∧ ns.length ≤ 10 ∧ ∀ p ys ss H', H p = none → Ex H H' → H' p = some (.lst ys) → ss.Perm (subN ns) → AllV TupN ss ys H' → Q (.ref p) H'
theorem sc_subsets : FnScope ["names", "found", "name", "row"] ["names"] (defScope s_subsets) := ⟨rfl, rfl, rfl, by decide +kernel, rfl, by decide +kernel, by decide +kernel⟩
theorem ok_subsets (Z : Zx K mg) : OkD prog w K mg base CX0 1 "subsets" ["names"] (sp_subsets K) := by
  obtain ⟨fd, F0⟩ := Z.fun_ 30
  have F : Fun K "subsets" "subsets" s_subsets (He.ga K "subsets") fd := Wk.fun_of F0
  have n_sorted := Z.free 69 (x := "sorted")
  refine ⟨fd, ?_, F.binds (ps := ["names"]) fun _ _ _ _ _ _ us hl => match us, hl with | [_], _ => rfl, Z.glo 23, F.kp⟩
  refine F.ok sc_subsets (fun vs H Q E h => ?_) (fun cdv A outer s H vs Q E hr h => ?_)
  · obtain ⟨a, ns, rfl, ha, hn, k⟩ := h
    rfl
  · obtain ⟨a, ns, rfl, ha, hn, k⟩ := h
    have hu64 := hr.units
    refine ⟨_, (pss_cons (ps_set (i := 1) sc_subsets.nd rfl (by first | exact Or.inl rfl | exact Or.inr rfl) (pe_lst (pa_cons (pe_tup pa_nil) pa_nil))) (pss_cons (ps_for PassesOwn.never rfl (pi_list (pv 0)) (pg_name (i := 2) sc_subsets.nd rfl (by first | exact Or.inl rfl | exact Or.inr rfl)) (pss_one (ps_set (i := 1) sc_subsets.nd rfl (by first | exact Or.inl rfl | exact Or.inr rfl) (pe_op op_cat (pv 1) (pe_lc (te := (tOp (rCatA K) (tVar 3) (tTup (tCons (tVar 2) tNil)))) (own := [("row", 3)]) rfl sc_subsets.nd (pi_list (pv 1)) (blkOk_by (own := [("row", 3)]) (N := ["names", "found", "name", "row"]) (sc := defScope s_subsets) (by decide +kernel)) (fun _ _ _ _ _ => pg_name (i := 3) sc_subsets.nd rfl (by first | exact Or.inl rfl | exact Or.inr rfl)) (fun _ _ _ _ _ => pts_nil) (fun _ _ _ _ _ => (pe_op op_catA (pv 3) (pe_tup (pa_cons (pv 2) pa_nil))))))))) (pss_one (ps_ret (pe_callB (TXT.cr_sortTx hu64) (by rfl) n_sorted (by decide +kernel) (pa_cons (pv 1) pa_nil)))))), ?_⟩
    have hpow : ∀ i, i ≤ 10 → 2 ^ i ≤ 1024 := fun i hi => Nat.pow_le_pow_right (by omega) (by omega : i ≤ 10)
    refine qx_asg (P := fun v H' => ∃ p ys, v = .ref p ∧ H' p = some (.lst ys) ∧ AllV TupN [[]] ys H') ((x_lst (x_one (P := TupN []) ((x_evU (eu_tup ea_nil (few5 rfl))).imp fun v H' ⟨p, h1, h2⟩ => ⟨p, h1, h2⟩)) ?_ ?_).imp ?_) ?_
    · rintro vs H1 H2 e ⟨v, rfl, h⟩
      exact ⟨v, rfl, (TupN.mn []).mo _ _ _ e h⟩
    · rintro vs H1 ⟨v, rfl, h⟩
      exact few5 rfl
    · rintro u H1 ⟨p, vs, rfl, hp, v, rfl, h⟩
      exact ⟨p, _, rfl, hp, AllV.cons h AllV.nil⟩
    rintro v H1 e1 ⟨p, ys, rfl, hp, hys⟩
    refine q_forLn (K := K) (xs := nmL ns) (ev_var rfl) (ex_l e1 ha) (fun i σ' H' => ∃ p ys s2 s3, σ' = [some (.ref a), some (.ref p), s2, s3] ∧ Ex H H' ∧ H' p = some (.lst ys) ∧ AllV TupN (subN (ns.take i)) ys H' ∧ (∃ y r, ys = y :: r ∧ TupN [] y H'))
      (fun H2 e2 => ⟨p, ys, none, none, rfl, e1.trans e2, e2 _ _ hp, AllV.mo (fun a => (TupN.mn a).mo) _ _ _ e2 hys, ?_⟩) (fun i σ' H' _ ⟨_, _, _, _, _, e, _⟩ => ex_l e ha) ?_ ?_
    · obtain ⟨y, r, rfl⟩ : ∃ y r, ys = y :: r := by
        cases ys with
        | nil => exact absurd hys.1 (by simp)
        | cons y r => exact ⟨y, r, rfl⟩
      exact ⟨y, r, rfl, (TupN.mn []).mo _ _ _ e2 hys.uncons.1⟩
    · rintro i x σ' H' hx ⟨p, ys, s2, s3, rfl, e', hp', hys', y0, r0, hy0, ht0⟩
      unfold nmL at hx
      rw [List.getElem?_map] at hx
      obtain ⟨c, hc, rfl⟩ := Option.map_eq_some_iff.mp hx
      have hi : i < ns.length := (List.getElem?_eq_some_iff.mp hc).1
      have hyl := hys'.1
      have hsl := subN_len (ns.take i)
      rw [List.length_take, Nat.min_eq_left (by omega)] at hsl
      have hp10 := hpow i (by omega)
      have hstep : subN (ns.take (i + 1)) = subN (ns.take i) ++ (subN (ns.take i)).map (· ++ [c]) := by rw [List.take_add_one, hc]; exact subN_snoc _ _
      refine sx_asg (P := fun v H2 => ∃ q zs, v = .ref q ∧ H2 q = some (.lst (ys ++ zs)) ∧ AllV TupN ((subN (ns.take i)).map (· ++ [c])) zs H2) ?_ ?_
      · refine x_catR (xs := ys) (PL := fun ws H2 => AllV TupN ((subN (ns.take i)).map (· ++ [c])) ws H2) (ev_var rfl) hp' ((x_lc (xs := ys) (fun j w H => ∃ s, (subN (ns.take i))[j]? = some s ∧ TupN (s ++ [c]) w H) (fun j w H H' n ⟨s, h1, h2⟩ => ⟨s, h1, TupN.mn _ _ _ _ n h2⟩) (ei_L (K := K) (ev_var rfl) (sq_of hp')) (by omega) (fun _ => rfl) (fun j x hx H2 e2 => ?_)).imp ?_) (fun ws H1 H2 e => AllV.mo (fun a => (TupN.mn a).mo) _ _ _ e) (fun ws H2 h => ?_)
        · obtain ⟨s, hs, q, rfl, hq⟩ := AllV.at hys' hx
          have hsl2 : s.length ≤ 10 := by
            have := (subN_mem _ _).mp (List.mem_of_getElem? hs)
            have := this.length_le
            rw [List.length_take] at this
            omega
          refine EvX.imp (x_catT (K := K) (xs := nmL s) (ys := [nmV c]) (ev_var rfl) (e2 _ _ hq) (eu_tup (ea_cons (ev_var rfl) ea_nil) (few5 rfl)) (by simp) (by rw [nmL_len]; show s.length + 1 ≤ _; omega)) ?_
          rintro v H3 ⟨o, rfl, h3⟩
          exact ⟨s, hs, o, rfl, by rw [h3]; unfold nmL; rw [List.map_append]; rfl⟩
        · rintro v H2 ⟨q, zs, rfl, _, hq, hl, h3⟩
          refine ⟨q, zs, rfl, hq, AllV.ofMap (by rw [hl, hyl]) fun j w s hw hs => ?_⟩
          obtain ⟨s', hs', h4⟩ := h3 j w hw
          rw [hs] at hs'
          cases hs'
          exact h4
        · have := h.1
          rw [List.length_map] at this
          omega
      · rintro v H2 e2 ⟨q, zs, rfl, hq, hz⟩
        refine ⟨q, ys ++ zs, _, _, rfl, e'.trans e2, hq, ?_, y0, r0 ++ zs, by rw [hy0]; rfl, (TupN.mn []).mo _ _ _ e2 ht0⟩
        rw [hstep]
        exact AllV.cat (AllV.mo (fun a => (TupN.mn a).mo) _ _ _ e2 hys') hz
    · rintro σ' H' ⟨p, ys, s2, s3, rfl, e', hp', hys', h0⟩
      rw [nmL_len, List.take_length] at hys'
      refine sx_ret (x_sortTx (K := K) (ev_var rfl) hp' hys' h0) ?_
      rintro v H2 e2 ⟨q, zs, ts, rfl, hq, hq2, pm, hz⟩
      exact k q zs ts H2 (fresh_back e' hq) (e'.trans e2) hq2 pm hz

end
end Tx
end
section
set_option Elab.async false
set_option linter.all false
set_option maxRecDepth 100000
set_option maxHeartbeats 4000000
namespace Tx
open PySem PySem.Spec PyProof.Rows L2 Evl Wk
section
variable {w : World} {K : PySem.W.Frag} {mg : Str → Option Value} {base : Heap}

def sp_worlds_of (K : PySem.W.Frag) : Sp := fun vs H Q _ => ∃ (a : Addr) (rs : List Rw), vs = [.ref a] ∧ RowsAt rs a H ∧ SzRs rs ∧ (namesOf rs).length ≤ 10 ∧ Lo (namesOf rs) ∧
  ∀ p ys ss H', H p = none → Ex H H' → H' p = some (.lst ys) → ss.Perm (wsOf rs) → AllV TupN ss ys H' → Q (.ref p) H'
theorem sc_worlds_of : FnScope ["rows", "row"] ["rows"] (defScope s_worlds_of) := ⟨rfl, rfl, rfl, by decide +kernel, rfl, by decide +kernel, by decide +kernel⟩
theorem ok_worlds_of (Z : Zx K mg) : OkD prog w K mg base CX0 2 "worlds_of" ["rows"] (sp_worlds_of K) := by
  obtain ⟨fd, F0⟩ := Z.fun_ 31
  have F : Fun K "worlds_of" "worlds_of" s_worlds_of (He.ga K "worlds_of") fd := Wk.fun_of F0
  obtain ⟨_, g_built_on, b_built_on, m_built_on, k_built_on⟩ := ok_built_on (w := w) (base := base) Z
  obtain ⟨_, g_names_of, b_names_of, m_names_of, k_names_of⟩ := ok_names_of (w := w) (base := base) Z
  obtain ⟨_, g_subsets, b_subsets, m_subsets, k_subsets⟩ := ok_subsets (w := w) (base := base) Z
  have n_list := Z.free 64 (x := "list")
  refine ⟨fd, ?_, F.binds (ps := ["rows"]) fun _ _ _ _ _ _ us hl => match us, hl with | [_], _ => rfl, Z.glo 24, F.kp⟩
  refine F.ok sc_worlds_of (fun vs H Q E h => ?_) (fun cdv A outer s H vs Q E hr h => ?_)
  · obtain ⟨a, rs, rfl, hrs, hsz, hn, hlo, k⟩ := h
    rfl
  · obtain ⟨a, rs, rfl, hrs, hsz, hn, hlo, k⟩ := h
    have hu64 := hr.units
    refine ⟨_, (pss_one (ps_ret (pe_lc (tt := (tTest (tOp (rEqD K) (tCall (sp_built_on K) [] (fun _ _ _ => False) (tCons (tVar 0) (tCons (tVar 1) tNil))) (tCB (rLstS K) (tCons (tVar 1) tNil))))) (own := [("row", 1)]) rfl sc_worlds_of.nd (pi_list (pe_call g_subsets (hr.mono (by decide)) (by rfl) m_subsets k_subsets b_subsets .nil pass0 (pa_cons (pe_call g_names_of (hr.mono (by decide)) (by rfl) m_names_of k_names_of b_names_of .nil pass0 (pa_cons (pv 0) pa_nil)) pa_nil))) (blkOk_by (own := [("row", 1)]) (N := ["rows", "row"]) (sc := defScope s_worlds_of) (by decide +kernel)) (fun _ _ _ _ _ => pg_name (i := 1) sc_worlds_of.nd rfl (by first | exact Or.inl rfl | exact Or.inr rfl)) (fun _ _ _ _ _ => pts_one (pt_cmpR (op_eqD hu64) (pe_call g_built_on (hr.mono (by decide)) (by rfl) m_built_on k_built_on b_built_on .nil pass0 (pa_cons (pv 0) (pa_cons (pv 1) pa_nil))) (pe_callTy call_list_of (by rfl) n_list (by decide +kernel) (pa_cons (pv 1) pa_nil)) (nomark _))) (fun _ _ _ _ _ => (pv 1))))), ?_⟩
    refine sx_ret (x_lcX (P := fun v H' => ∃ p ys ss, v = .ref p ∧ H p = none ∧ H' p = some (.lst ys) ∧ ss.Perm (subN (namesOf rs)) ∧ AllV TupN ss ys H') (R := fun v H' => ∃ p ys ss, v = .ref p ∧ H p = none ∧ H' p = some (.lst ys) ∧ ss.Perm (wsOf rs) ∧ AllV TupN ss ys H') (x_callX (x_one (x_evL (el_call (xs := nmL (namesOf rs)) (ea_cons (ev_var rfl) ea_nil) (fun H2 e2 Q2 q2 E2 => ⟨a, rs, rfl, hrs.ex e2, hsz, q2⟩)))) ?_) ?_) ?_
    · rintro vs H1 e1 ⟨v, rfl, p, rfl, hp, hp1⟩ Q1 q1 E1
      exact ⟨p, namesOf rs, rfl, sq_of hp1, hn, fun q ys ss H2 hq e2 h2 pm hy => q1 _ H2 e2 ⟨q, ys, ss, rfl, fresh_back e1 hq, h2, pm, hy⟩⟩
    · rintro v H1 e1 ⟨p, ys, ss, rfl, hp, hp1, pm, hys⟩
      have hsl : ss.length ≤ 1024 := by
        rw [pm.length_eq, subN_len]
        exact Nat.pow_le_pow_right (by omega) (by omega : (namesOf rs).length ≤ 10)
      have hmem : ∀ z, z ∈ ys.zip ss → z.2.Sublist (namesOf rs) := fun z hz => (subN_mem _ _).mp (pm.mem_iff.mp (by
        have := List.mem_map_of_mem (f := Prod.snd) hz
        rwa [hys.snd] at this))
      have hzip := hys.mem
      have hlc := el_lc (σ := L2.start ["rows", "row"] [V.ref a]) (H := H1) (te := tVar 1) (t := tTest (tOp (rEqD K) (tCall (sp_built_on K) [] (fun _ _ _ => False) (tCons (tVar 0) (tCons (tVar 1) tNil))) (tCB (rLstS K) (tCons (tVar 1) tNil)))) (wi := iList K (tC (.ref p))) (j := 1) (vs := [1]) (as := ys.zip ss) (inj := Prod.fst) (fun z => isW rs z.2) Prod.fst (by rw [hys.fst]; exact ei_L ev_c (sq_of hp1)) (by rw [hys.zlen]; omega) (fun _ => rfl) (fun z hz H2 e2 => ?_) (fun z hz H2 e2 _ => ev_var rfl)
      · intro H3 e3 Q3 q3
        refine hlc H3 e3 _ fun o H4 ho e4 h4 => q3 _ H4 e4 ⟨o, _, _, rfl, fresh_back (e1.trans e3) ho, h4, ?_, AllV.ofPairs _ fun z hz => (TupN.mn z.2).mo _ _ _ (e3.trans e4) (hzip z (List.mem_filter.mp hz).1)⟩
        have e := zip_fm (isW rs) (fun x => x) ys ss hys.1
        rw [List.map_id'] at e
        have e' : ((ys.zip ss).filter fun z => isW rs z.2).map Prod.snd = ss.filter (isW rs) := e
        rw [e']
        exact pm.filter _
      · obtain ⟨y, s⟩ := z
        obtain ⟨q, rfl, hq⟩ := hzip _ hz
        have hsub := hmem _ hz
        refine et_test (ev_eqNL (K := K) (el_call (ea_cons (ev_var rfl) (ea_cons (ev_var rfl) ea_nil)) (fun H3 e3 Q3 q3 E3 => ⟨a, q, rs, s, rfl, hrs.ex (e1.trans (e2.trans e3)), st_of ((e2.trans e3) _ _ hq), hsz, q3⟩)) (el_listT (ev_var rfl) (e2 _ _ hq)) hlo.fix (fun c hc => hlo c (hsub.subset hc)))
    · rintro v H2 e2 ⟨p, ys, ss, rfl, hp, hp2, pm, hys⟩
      exact k p ys ss H2 hp e2 hp2 pm hys

end
end Tx
end
section
set_option Elab.async false
set_option linter.all false
set_option maxRecDepth 100000
set_option maxHeartbeats 4000000
namespace Tx
open PySem PySem.Spec PyProof.Rows L2 Evl Wk
section
variable {w : World} {K : PySem.W.Frag} {mg : Str → Option Value} {base : Heap}

def ProgOk (ls : List (List Nat)) (rs : List Rw) : Prop := GoodP ls (rs.map clOf) ∧ rs.length ≤ 30 ∧ (∀ z, z ∈ rs.map clOf → z.2.length ≤ 100) ∧ SzRs rs ∧ (namesOf rs).length ≤ 10 ∧ Lo (namesOf rs)
theorem x_names {σ : L2.St} {H : Hp} {te : TE} {E : XK} {ls : List (List Nat)} {rs : List Rw} (h : Ev te σ H (.str (tx (progT ls)))) (hp : ProgOk ls rs) : EvX (tCall (sp_demand_names K) [] E (tCons te tNil)) σ H (fun v H' => ∃ p, v = .ref p ∧ H p = none ∧ RowsAt rs p H') :=
  x_call (ea_cons h ea_nil) fun H1 e1 Q1 q1 E1 => ⟨ls, rs.map clOf, rfl, hp.1, by rw [List.length_map]; exact hp.2.1, hp.2.2.1, .inl ⟨rs, rfl, hp.2.2.2.1, hp.2.2.2.2.1, fun p H' hn e h' => q1 _ H' e ⟨p, rfl, fresh_back e1 hn, h'⟩⟩⟩
theorem x_tupL {σ : L2.St} {H : Hp} {te : TE} {PL : List V → Hp → Prop} (hm : ∀ ys H H', Ex H H' → PL ys H → PL ys H') (h : EvX te σ H (fun v H' => ∃ p ys, v = .ref p ∧ H' p = some (.lst ys) ∧ PL ys H')) :
    EvX (tCB (fun xs H Q => ∃ p ys, xs = [.ref p] ∧ ((SqL K H p ys ∧ ∀ l, H l = none → Q (.ref l) (upd H l (.tup ys))) ∨ (SqT K H p ys ∧ Q (.ref p) H))) (tCons te tNil)) σ H (fun v H' => ∃ q ys, v = .ref q ∧ H q = none ∧ H' q = some (.tup ys) ∧ PL ys H') := fun H1 e Q q =>
  h H1 e _ fun v H2 e2 ⟨p, ys, ev, hp, pl⟩ => ⟨p, ys, by rw [ev], .inl ⟨sq_of hp, fun l hl => q _ _ (e2.trans (Ex.new hl)) ⟨l, ys, rfl, fresh_back (e.trans e2) hl, upd_same, hm _ _ _ (Ex.new hl) pl⟩⟩⟩
def sp_worlds (K : PySem.W.Frag) : Sp := fun vs H Q _ => ∃ (ls : List (List Nat)) (rs : List Rw), vs = [.str (tx (progT ls))] ∧ ProgOk ls rs ∧ ∀ p ys ss H', H p = none → Ex H H' → H' p = some (.tup ys) → ss.Perm (wsOf rs) → AllV TupN ss ys H' → Q (.ref p) H'
theorem sc_worlds : FnScope ["program"] ["program"] (defScope s_worlds) := ⟨rfl, rfl, rfl, by decide +kernel, rfl, by decide +kernel, by decide +kernel⟩
theorem ok_worlds (Z : Zx K mg) : OkD prog w K mg base (L2.CX prog w) 9 "worlds" ["program"] (sp_worlds K) := by
  obtain ⟨fd, F0⟩ := Z.fun_ 32
  have F : Fun K "worlds" "worlds" s_worlds (He.ga K "worlds") fd := Wk.fun_of F0
  have x_BadArgument := Z.bad
  have cBadArgument := Z.glo 54 (x := "BadArgument")
  obtain ⟨_, g_demand_names, b_demand_names, m_demand_names, k_demand_names⟩ := ok_demand_names (w := w) (base := base) Z
  obtain ⟨_, g_worlds_of, b_worlds_of, m_worlds_of, k_worlds_of⟩ := ok_worlds_of (w := w) (base := base) Z
  have n_tuple := Z.free 71 (x := "tuple")
  refine ⟨fd, ?_, F.binds (ps := ["program"]) fun _ _ _ _ _ _ us hl => match us, hl with | [_], _ => rfl, Z.glo 25, F.kp⟩
  refine F.okX sc_worlds (fun vs H Q E h => ?_) (fun cdv A outer s H vs Q E hr h => ?_)
  · obtain ⟨ls, rs, rfl, hp, k⟩ := h
    rfl
  · obtain ⟨ls, rs, rfl, hp, k⟩ := h
    refine ⟨_, (pss_one (ps_ret (pe_callTy call_tuple_of (by rfl) n_tuple (by decide +kernel) (pa_cons (pe_call g_worlds_of (hr.mono (by decide)) (by rfl) m_worlds_of k_worlds_of b_worlds_of .nil pass0 (pa_cons (pe_call g_demand_names (hr.mono (by decide)) (by rfl) m_demand_names k_demand_names b_demand_names .nil (passes_call (takes_of rfl rfl rfl rfl) (fun _ _ _ _ h => h)) (pa_cons (pv 0) pa_nil)) pa_nil)) pa_nil)))), ?_⟩
    refine sx_ret (x_tupL (K := K) (PL := fun ys H' => ∃ ss, ss.Perm (wsOf rs) ∧ AllV TupN ss ys H') (fun ys H1 H2 e ⟨ss, h1, h2⟩ => ⟨ss, h1, AllV.mo (fun a => (TupN.mn a).mo) _ _ _ e h2⟩) (x_callX (x_one (x_names (ev_var rfl) hp)) ?_)) ?_
    · rintro vs H1 e1 ⟨v, rfl, p, rfl, hp0, hrs⟩ Q1 q1 E1
      exact ⟨p, rs, rfl, hrs, hp.2.2.2.1, hp.2.2.2.2.1, hp.2.2.2.2.2, fun q ys ss H2 hq e2 h2 pm hy => q1 _ H2 e2 ⟨q, ys, rfl, h2, ss, pm, hy⟩⟩
    · rintro v H1 e1 ⟨q, ys, rfl, hq, hq1, ss, pm, hy⟩
      exact k q ys ss H1 hq e1 hq1 pm hy
def sp_is_world (K : PySem.W.Frag) : Sp := fun vs H Q _ => ∃ (ls : List (List Nat)) (rs : List Rw) (p : Addr) (s : List Nat), vs = [.str (tx (progT ls)), .ref p] ∧ ProgOk ls rs ∧ H p = some (.tup (nmL s)) ∧ s.length ≤ 10 ∧ Lo s ∧ ∀ H', Ex H H' → Q (.bl (isW rs s)) H'
theorem sc_is_world : FnScope ["program", "value", "rows", "name"] ["program", "value"] (defScope s_is_world) := ⟨rfl, rfl, rfl, by decide +kernel, rfl, by decide +kernel, by decide +kernel⟩
theorem ok_is_world (Z : Zx K mg) : OkD prog w K mg base (L2.CX prog w) 9 "is_world" ["program", "value"] (sp_is_world K) := by
  obtain ⟨fd, F0⟩ := Z.fun_ 33
  have F : Fun K "is_world" "is_world" s_is_world (He.ga K "is_world") fd := Wk.fun_of F0
  have x_BadArgument := Z.bad
  have cBadArgument := Z.glo 54 (x := "BadArgument")
  have c_MOST_NAMES := Z.int 83 (x := "MOST_NAMES")
  obtain ⟨_, g_built_on, b_built_on, m_built_on, k_built_on⟩ := ok_built_on (w := w) (base := base) Z
  obtain ⟨_, g_demand_names, b_demand_names, m_demand_names, k_demand_names⟩ := ok_demand_names (w := w) (base := base) Z
  obtain ⟨_, g_is_tuple, b_is_tuple, m_is_tuple, k_is_tuple⟩ := ok_is_tuple (w := w) (base := base) Z
  have n_all := Z.free 57 (x := "all")
  have n_isinstance := Z.free 62 (x := "isinstance")
  have n_list := Z.free 64 (x := "list")
  have n_str := Z.free 70 (x := "str")
  refine ⟨fd, ?_, F.binds (ps := ["program", "value"]) fun _ _ _ _ _ _ us hl => match us, hl with | [_, _], _ => rfl, Z.glo 26, F.kp⟩
  refine F.okX sc_is_world (fun vs H Q E h => ?_) (fun cdv A outer s H vs Q E hr h => ?_)
  · obtain ⟨ls, rs, p, s, rfl, hpo, hp, hsl, hlo, k⟩ := h
    rfl
  · obtain ⟨ls, rs, p, s, rfl, hpo, hp, hsl, hlo, k⟩ := h
    have hu64 := hr.units
    refine ⟨_, (pss_cons (ps_set (i := 2) sc_is_world.nd rfl (by first | exact Or.inl rfl | exact Or.inr rfl) (pe_call g_demand_names (hr.mono (by decide)) (by rfl) m_demand_names k_demand_names b_demand_names .nil (passes_call (takes_of rfl rfl rfl rfl) (fun _ _ _ _ h => h)) (pa_cons (pv 0) pa_nil))) (pss_cons (ps_if (pw_or (pt_not (pt_val (pe_call g_is_tuple (hr.mono (by decide)) (by rfl) m_is_tuple k_is_tuple b_is_tuple .nil pass0 (pa_cons (pv 1) (pa_cons pe_int (pa_cons (pe_gi c_MOST_NAMES) pa_nil)))))) (pw_or1 (pt_not (pt_val (pe_callB (cr_all rfl) (by rfl) n_all (by decide +kernel) (pa_cons (pe_lc (te := (tCB (rIsi K) (tCons (tVar 3) (tCons (tC (.ty "str")) tNil)))) (own := [("name", 3)]) rfl sc_is_world.nd (pi_tup (pv 1)) (blkOk_by (own := [("name", 3)]) (N := ["program", "value", "rows", "name"]) (sc := defScope s_is_world) (by decide +kernel)) (fun _ _ _ _ _ => pg_name (i := 3) sc_is_world.nd rfl (by first | exact Or.inl rfl | exact Or.inr rfl)) (fun _ _ _ _ _ => pts_nil) (fun _ _ _ _ _ => (pe_callB call_isi (by rfl) n_isinstance (by decide +kernel) (pa_cons (pv 3) (pa_cons (pe_bltn (v := .ty "str") (by rfl) n_str (by decide +kernel) rfl) pa_nil))))) pa_nil)))))).pt (pss_one (ps_ret pe_bl)) pss_nil) (pss_one (ps_ret (pe_cmpR (op_eqD hu64) (pe_callTy call_list_of (by rfl) n_list (by decide +kernel) (pa_cons (pv 1) pa_nil)) (pe_call g_built_on (hr.mono (by decide)) (by rfl) m_built_on k_built_on b_built_on .nil pass0 (pa_cons (pv 2) (pa_cons (pv 1) pa_nil))) (nomark _)))))), ?_⟩
    refine qx_asg (x_names (ev_var rfl) hpo) ?_
    rintro v H1 e1 ⟨q, rfl, hq, hrs⟩
    have hp1 := e1 _ _ hp
    refine q_when (b := false) (et_is (et_or (a := false) (b := false) (et_is (et_not (et_B (ev_call (z := .bl true) (ea_cons (ev_var rfl) (ea_cons ev_c (ea_cons ev_c ea_nil))) (fun H2 e2 Q2 q2 E2 => ⟨.ref p, 0, 10, rfl, .inl ⟨p, nmL s, rfl, e2 _ _ hp1, fun H3 e3 => ?_⟩⟩)))) rfl) (fun _ => et_is (et_not (et_B (ev_allc (K := K) (p := fun _ => true) (as := s) (inj := nmV) (ei_T (K := K) (ev_var rfl) (st_of hp1)) (by omega) (fun _ => rfl) (fun c _ H9 e9 => ?_)))) (by simp))) rfl) (fun h => absurd h (by decide)) (fun _ H2 e2 => ?_)
    · have e : (decide ((0 : Int) ≤ ((nmL s).length : Int)) && decide (((nmL s).length : Int) ≤ 10)) = true := by
        rw [nmL_len]
        simp
        omega
      rw [e]
      exact q2 H3 e3
    · intro H10 e10 Q10 q10
      exact ⟨nmV c, rfl, is_str (q10 H10 (Ex.refl _))⟩
    · refine s_ret (ev_is (ev_eqNL (K := K) (el_listT (ev_var rfl) (e2 _ _ hp1)) (el_call (xs := nmL (sortN (fixOf (okB s) rs))) (ea_cons (ev_var rfl) (ea_cons (ev_var rfl) ea_nil)) (fun H3 e3 Q3 q3 E3 => ⟨q, p, rs, s, rfl, hrs.ex (e2.trans e3), st_of ((e2.trans e3) _ _ hp1), hpo.2.2.2.1, q3⟩)) hlo hpo.2.2.2.2.2.fix) ?_) (fun H3 e3 => k H3 (e1.trans (e2.trans e3)))
      unfold isW
      congr 1
      rw [decide_eq_decide]
      exact eq_comm

end
end Tx
end
section
set_option Elab.async false
set_option linter.all false
set_option maxRecDepth 100000
set_option maxHeartbeats 4000000
namespace Tx
open PySem PySem.Spec PyProof.Rows L2 Evl Wk
section
variable {w : World} {K : PySem.W.Frag} {mg : Str → Option Value} {base : Heap}

def asmB (rs : List Rw) (ns : List Nat) : Bool := (decide (ns.length ≤ (namesOf rs).length) && ns.all fun c => decide (c ∈ namesOf rs)) && risB ns
/-- an argument of assumed names: good ones, others, what is no tuple -/
def AsmArg (K : PySem.W.Frag) (rs : List Rw) (v : V) (nm : Str) (H : Hp) (E : XK) (good : List Nat → Prop) : Prop :=
  (∃ p ns, v = .ref p ∧ H p = some (.tup (nmL ns)) ∧ ns.length ≤ 10 ∧ Lo ns ∧ ((asmB rs ns = true ∧ good ns) ∨ (asmB rs ns = false ∧ BadE K nm H E))) ∨ (∃ t, (∀ H', Ex H H' → TyX K H' v (.type t)) ∧ kitB t "tuple" = some false ∧ BadE K nm H E)
def sp_demand_assumed (K : PySem.W.Frag) : Sp := fun vs H Q E => ∃ (a : Addr) (v : V) (nm : Str) (rs : List Rw), vs = [.ref a, v, .str nm] ∧ RowsAt rs a H ∧ SzRs rs ∧ (namesOf rs).length ≤ 10 ∧ Lo (namesOf rs) ∧
  AsmArg K rs v nm H E fun ns => ∀ q H', H q = none → Ex H H' → H' q = some (.dK (dk ns)) → Q (.ref q) H'
theorem sc_demand_assumed : FnScope ["rows", "value", "name", "names", "own"] ["rows", "value", "name"] (defScope s_demand_assumed) := ⟨rfl, rfl, rfl, by decide +kernel, rfl, by decide +kernel, by decide +kernel⟩
theorem ok_demand_assumed (Z : Zx K mg) : OkD prog w K mg base (L2.CX prog w) 2 "demand_assumed" ["rows", "value", "name"] (sp_demand_assumed K) := by
  obtain ⟨fd, F0⟩ := Z.fun_ 41
  have F : Fun K "demand_assumed" "demand_assumed" s_demand_assumed (He.ga K "demand_assumed") fd := Wk.fun_of F0
  have x_BadArgument := Z.bad
  have cBadArgument := Z.glo 54 (x := "BadArgument")
  obtain ⟨_, g_demand, b_demand, m_demand, k_demand⟩ := ok_demand (w := w) (base := base) Z
  obtain ⟨_, g_is_tuple, b_is_tuple, m_is_tuple, k_is_tuple⟩ := ok_is_tuple (w := w) (base := base) Z
  obtain ⟨_, g_names_of, b_names_of, m_names_of, k_names_of⟩ := ok_names_of (w := w) (base := base) Z
  have n_all := Z.free 57 (x := "all")
  have n_dict := Z.free 59 (x := "dict")
  have n_len := Z.free 63 (x := "len")
  have n_list := Z.free 64 (x := "list")
  have n_set := Z.free 68 (x := "set")
  have n_sorted := Z.free 69 (x := "sorted")
  refine ⟨fd, ?_, F.binds (ps := ["rows", "value", "name"]) fun _ _ _ _ _ _ us hl => match us, hl with | [_, _, _], _ => rfl, Z.glo 31, F.kp⟩
  refine F.okX sc_demand_assumed (fun vs H Q E h => ?_) (fun cdv A outer s H vs Q E hr h => ?_)
  · obtain ⟨a, v, nm, rs, rfl, hrs, hsz, hn, hlo, h⟩ := h
    rfl
  · obtain ⟨a, v, nm, rs, rfl, hrs, hsz, hn, hlo, h⟩ := h
    have hu64 := hr.units
    refine ⟨_, (pss_cons (ps_set (i := 3) sc_demand_assumed.nd rfl (by first | exact Or.inl rfl | exact Or.inr rfl) (pe_call g_names_of (hr.mono (by decide)) (by rfl) m_names_of k_names_of b_names_of .nil pass0 (pa_cons (pv 0) pa_nil))) (pss_cons (ps_expr (pe_call g_demand (hr.mono (by decide)) (by rfl) m_demand k_demand b_demand .nil (passes_call (takes_of rfl rfl rfl rfl) (fun _ _ _ _ h => h)) (pa_cons (pe_and (pe_call g_is_tuple (hr.mono (by decide)) (by rfl) m_is_tuple k_is_tuple b_is_tuple .nil pass0 (pa_cons (pv 1) (pa_cons pe_int (pa_cons (pe_callB call_len_seq (by rfl) n_len (by decide +kernel) (pa_cons (pv 3) pa_nil)) pa_nil)))) (pe_one (pe_callB (cr_all rfl) (by rfl) n_all (by decide +kernel) (pa_cons (pe_lc (te := (tOp (rIn K false) (tVar 4) (tVar 3))) (own := [("own", 4)]) rfl sc_demand_assumed.nd (pi_tup (pv 1)) (blkOk_by (own := [("own", 4)]) (N := ["rows", "value", "name", "names", "own"]) (sc := defScope s_demand_assumed) (by decide +kernel)) (fun _ _ _ _ _ => pg_name (i := 4) sc_demand_assumed.nd rfl (by first | exact Or.inl rfl | exact Or.inr rfl)) (fun _ _ _ _ _ => pts_nil) (fun _ _ _ _ _ => (pe_cmpR op_in_seq (pv 4) (pv 3) rfl))) pa_nil)))) (pa_cons (pv 2) pa_nil)))) (pss_cons (ps_expr (pe_call g_demand (hr.mono (by decide)) (by rfl) m_demand k_demand b_demand .nil (passes_call (takes_of rfl rfl rfl rfl) (fun _ _ _ _ h => h)) (pa_cons (pe_cmpR (op_eqD hu64) (pe_callTy call_list_of (by rfl) n_list (by decide +kernel) (pa_cons (pv 1) pa_nil)) (pe_callB (TXS.cr_sortX rfl) (by rfl) n_sorted (by decide +kernel) (pa_cons (pe_callTy (TXS.cr_setX rfl) (by rfl) n_set (by decide +kernel) (pa_cons (pv 1) pa_nil)) pa_nil)) (nomark _)) (pa_cons (pv 2) pa_nil)))) (pss_one (ps_ret (pe_callTy (call_dictP rfl) (by rfl) n_dict (by decide +kernel) (pa_cons (pe_lc (own := [("own", 4)]) rfl sc_demand_assumed.nd (pi_tup (pv 1)) (blkOk_by (own := [("own", 4)]) (N := ["rows", "value", "name", "names", "own"]) (sc := defScope s_demand_assumed) (by decide +kernel)) (fun _ _ _ _ _ => pg_name (i := 4) sc_demand_assumed.nd rfl (by first | exact Or.inl rfl | exact Or.inr rfl)) (fun _ _ _ _ _ => pts_nil) (fun _ _ _ _ _ => (pe_tup (pa_cons (pv 4) (pa_cons pe_bl pa_nil))))) pa_nil))))))), ?_⟩
    refine q_asgL (xs := nmL (namesOf rs)) (el_call (ea_cons (ev_var rfl) ea_nil) (fun H1 e1 Q1 q1 E1 => ⟨a, rs, rfl, hrs.ex e1, hsz, q1⟩)) (fun o H1 ho e1 h1 => ?_)
    rcases h with ⟨p, ns, rfl, hp, hnl, hnlo, h⟩ | ⟨t, hty, hkit, hbad⟩
    · have hp1 := e1 _ _ hp
      refine q_dropC (vs := [.bl (decide (ns.length ≤ (namesOf rs).length) && ns.all fun c => decide (c ∈ namesOf rs)), .str nm]) (ea_cons (ev_andV (ev_call (z := .bl (decide (ns.length ≤ (namesOf rs).length))) (ea_cons (ev_var rfl) (ea_cons ev_c (ea_cons (ev_len (K := K) (ev_var rfl) (sq_of h1)) ea_nil))) (fun H2 e2 Q2 q2 E2 => ⟨.ref p, 0, _, rfl, .inl ⟨p, nmL ns, rfl, e2 _ _ hp1, fun H3 e3 => ?_⟩⟩)) (fun _ => ev_allc (K := K) (p := fun c => decide (c ∈ namesOf rs)) (as := ns) (inj := nmV) (ei_T (K := K) (ev_var rfl) (st_of hp1)) (by omega) (fun _ => rfl) (fun c _ H9 e9 => ev_inL (ev_var rfl) (ev_var rfl) (sq_of (e9 _ _ h1))))) (ea_cons (ev_var rfl) ea_nil)) (fun H3 e3 => ⟨_, nm, rfl, fun hb H4 e4 => ?_, fun hb => ?_⟩)
      · have e : (decide ((0 : Int) ≤ ((nmL ns).length : Int)) && decide (((nmL ns).length : Int) ≤ ((nmL (namesOf rs)).length : Int))) = decide (ns.length ≤ (namesOf rs).length) := by
          rw [nmL_len, nmL_len]
          by_cases c : ns.length ≤ (namesOf rs).length
          · simp [c]
          · simp [c]
        rw [e]
        exact q2 H3 e3
      · have hp4 := (e3.trans e4) _ _ hp1
        refine q_dropC (vs := [.bl (risB ns), .str nm]) (ea_cons (ev_is (ev_eqNL (K := K) (el_listT (ev_var rfl) hp4) (el_setA (K := K) (ev_var rfl) (.inl hp4) (by omega)) hnlo (fun c hc => hnlo c (riseOf_mem.mp hc))) (by rw [riseOf_eq])) (ea_cons (ev_var rfl) ea_nil)) (fun H5 e5 => ⟨_, nm, rfl, fun hb2 H6 e6 => ?_, fun hb2 => ?_⟩)
        · have e46 := e5.trans e6
          have hnd : ns.Nodup := ris_nodup (of_decide_eq_true hb2)
          rcases h with ⟨hg, k⟩ | ⟨hg, _⟩
          · refine sx_ret (x_dictP (K := K) (ns := ns) (EvX.imp (x_lc (xs := nmL ns) (fun i w H => ∃ c q, ns[i]? = some c ∧ w = V.ref q ∧ H q = some (.tup [nmV c, .bl true])) (fun i w H H' n ⟨c, q, h1, h2, h3⟩ => ⟨c, q, h1, h2, n.tu _ _ h3⟩) (ei_T (K := K) (ev_var rfl) (st_of (e46 _ _ hp4))) (by rw [nmL_len]; omega) (fun _ => rfl) (fun i x hx H7 e7 => ?_)) ?_) hnd) ?_
            · unfold nmL at hx
              rw [List.getElem?_map] at hx
              obtain ⟨c, hc, rfl⟩ := Option.map_eq_some_iff.mp hx
              refine (x_evU (eu_tup (ea_cons (ev_var rfl) (ea_cons ev_c ea_nil)) (few5 rfl))).imp ?_
              rintro v H8 ⟨q, rfl, h8⟩
              exact ⟨c, q, hc, rfl, h8⟩
            · rintro v H7 ⟨q, ys, rfl, _, h8, h9, h10⟩
              exact ⟨q, ys, rfl, h8, by rw [h9, nmL_len], h10⟩
            · rintro v H7 e7 ⟨q, rfl, hq, hq7⟩
              exact k q H7 (fresh_back (e1.trans (e3.trans (e4.trans e46))) hq) (e1.trans (e3.trans (e4.trans (e46.trans e7)))) hq7
          · exfalso
            unfold asmB at hg
            rw [hb, hb2] at hg
            cases hg
        · rcases h with ⟨hg, _⟩ | ⟨_, hbad⟩
          · exfalso
            unfold asmB at hg
            rw [hb2, Bool.and_false] at hg
            cases hg
          · exact hbad.mono (e1.trans (e3.trans (e4.trans e5)))
      · rcases h with ⟨hg, _⟩ | ⟨_, hbad⟩
        · exfalso
          unfold asmB at hg
          rw [hb, Bool.false_and] at hg
          cases hg
        · exact hbad.mono (e1.trans e3)
    · refine q_dropC (vs := [.bl (false && true), .str nm]) (ea_cons (ev_andV (ev_call (z := .bl false) (ea_cons (ev_var rfl) (ea_cons ev_c (ea_cons (ev_len (K := K) (ev_var rfl) (sq_of h1)) ea_nil))) (fun H2 e2 Q2 q2 E2 => ⟨v, 0, _, rfl, .inr ⟨t, hty _ (e1.trans e2), hkit, q2 H2 (Ex.refl _)⟩⟩)) (fun h => by cases h)) (ea_cons (ev_var rfl) ea_nil)) (fun H3 e3 => ⟨_, nm, rfl, fun hb => absurd hb (by decide), fun hb => hbad.mono (e1.trans e3)⟩)

end
end Tx
end
section
set_option Elab.async false
set_option linter.all false
set_option maxRecDepth 100000
set_option maxHeartbeats 4000000
namespace Tx
open PySem PySem.Spec PyProof.Rows L2 Evl Wk
section
variable {w : World} {K : PySem.W.Frag} {mg : Str → Option Value} {base : Heap}

theorem x_evP {σ : L2.St} {H : Hp} {te : TE} {v : V} {P : V → Hp → Prop} (h : Ev te σ H v) (hP : ∀ H', Ex H H' → P v H') : EvX te σ H P := fun H1 e Q q => h H1 e Q fun H2 e2 => q v H2 e2 (hP H2 (e.trans e2))
theorem AsmArg.go {rs : List Rw} {v : V} {nm : Str} {H H' : Hp} {E : XK} {g g' : List Nat → Prop} (e : Ex H H') (h : AsmArg K rs v nm H E g) (i : ∀ ns, asmB rs ns = true → ns.length ≤ 10 → g ns → g' ns) : AsmArg K rs v nm H' E g' := by
  rcases h with ⟨p, ns, rfl, hp, h1, h2, h | h⟩ | ⟨t, h1, h2, h3⟩
  · exact .inl ⟨p, ns, rfl, e _ _ hp, h1, h2, .inl ⟨h.1, i ns h.1 h1 h.2⟩⟩
  · exact .inl ⟨p, ns, rfl, e _ _ hp, h1, h2, .inr ⟨h.1, h.2.mono e⟩⟩
  · exact .inr ⟨t, fun H2 e2 => h1 H2 (e.trans e2), h2, h3.mono e⟩
theorem x_case {σ : L2.St} {H : Hp} {ta tb : TE} {E : XK} {t f : Addr} {ts fs : List Nat} (h1 : Ev ta σ H (.ref t)) (h2 : Ev tb σ H (.ref f)) (ht : H t = some (.dK (dk ts))) (hf : H f = some (.dK (dk fs))) :
    EvX (tMake (He.ga K "Case") (sp_Case_init K) [] E (tCons ta (tCons tb tNil))) σ H (CaseAt K ts fs) := by
  refine x_make (PA := fun us _ => us = [.ref t, .ref f]) (x_ofA (ea_cons h1 (ea_cons h2 ea_nil))) ?_
  rintro vs H5 x dx5 e5 rfl hx hdx hn Q4 q4 E4
  exact ⟨H5, x, dx5, .ref t, .ref f, rfl, hx, Ex.mut (Ex.new hdx) hx, upd_same, fun H6 e6 h6 => q4 H6 e6 ⟨x, dx5, t, f, rfl, h6, e6 _ _ (e5 _ _ ht), e6 _ _ (e5 _ _ hf)⟩⟩
/-- a program with an atom that has parts -/
def BadP (K : PySem.W.Frag) (ls : List (List Nat)) (H : Hp) (E : XK) : Prop := ∃ zs, GoodP ls zs ∧ zs.length ≤ 30 ∧ (∀ z, z ∈ zs → z.2.length ≤ 100) ∧ (∃ z, z ∈ zs ∧ ∃ t, t ∈ z.1 :: z.2.map Prod.fst ∧ t.length ≠ 1) ∧ BadE K "program" H E
def sp_cases (K : PySem.W.Frag) : Sp := fun vs H Q E => ∃ (ls : List (List Nat)) (wv dv : V), vs = [.str (tx (progT ls)), wv, dv] ∧ (BadP K ls H E ∨ ∃ rs, ProgOk ls rs ∧ (namesOf rs).length ≤ 5 ∧ AsmArg K rs wv "wanted" H E fun ts => AsmArg K rs dv "denied" H E fun fs =>
  (treeOf rs ts fs = none → ∀ H', Ex H H' → Q .non H') ∧ (∀ ns, treeOf rs ts fs = some ns → ∀ p us H', H p = none → Ex H H' → H' p = some (.tup us) → AllV NodeAt ns us H' → Q (.ref p) H'))
theorem sc_cases : FnScope ["program", "wanted", "denied", "rows", "true", "false", "found"] ["program", "wanted", "denied"] (defScope s_cases) := ⟨rfl, rfl, rfl, by decide +kernel, rfl, by decide +kernel, by decide +kernel⟩
theorem ok_cases (Z : Zx K mg) : OkD prog w K mg base (L2.CX prog w) 9 "cases" ["program", "wanted", "denied"] (sp_cases K) := by
  obtain ⟨fd, F0⟩ := Z.fun_ 43
  have F : Fun K "cases" "cases" s_cases (He.ga K "cases") fd := Wk.fun_of F0
  have x_BadArgument := Z.bad
  have cBadArgument := Z.glo 54 (x := "BadArgument")
  obtain ⟨_, g_case_tree, b_case_tree, m_case_tree, k_case_tree⟩ := ok_case_tree (w := w) (base := base) Z
  obtain ⟨_, g_demand_assumed, b_demand_assumed, m_demand_assumed, k_demand_assumed⟩ := ok_demand_assumed (w := w) (base := base) Z
  obtain ⟨_, g_demand_names, b_demand_names, m_demand_names, k_demand_names⟩ := ok_demand_names (w := w) (base := base) Z
  obtain ⟨_, g_Case, b_Case, m_Case, k_Case⟩ := ok_Case___init__ (w := w) (base := base) Z
  have n_tuple := Z.free 71 (x := "tuple")
  refine ⟨fd, ?_, F.binds (ps := ["program", "wanted", "denied"]) fun _ _ _ _ _ _ us hl => match us, hl with | [_, _, _], _ => rfl, Z.glo 33, F.kp⟩
  refine F.okX sc_cases (fun vs H Q E h => ?_) (fun cdv A outer s H vs Q E hr h => ?_)
  · obtain ⟨ls, wv, dv, rfl, h⟩ := h
    rfl
  · obtain ⟨ls, wv, dv, rfl, h⟩ := h
    refine ⟨_, (pss_cons (ps_set (i := 3) sc_cases.nd rfl (by first | exact Or.inl rfl | exact Or.inr rfl) (pe_call g_demand_names (hr.mono (by decide)) (by rfl) m_demand_names k_demand_names b_demand_names .nil (passes_call (takes_of rfl rfl rfl rfl) (fun _ _ _ _ h => h)) (pa_cons (pv 0) pa_nil))) (pss_cons (ps_set (i := 4) sc_cases.nd rfl (by first | exact Or.inl rfl | exact Or.inr rfl) (pe_call g_demand_assumed (hr.mono (by decide)) (by rfl) m_demand_assumed k_demand_assumed b_demand_assumed .nil (passes_call (takes_of rfl rfl rfl rfl) (fun _ _ _ _ h => h)) (pa_cons (pv 3) (pa_cons (pv 1) (pa_cons pe_str pa_nil))))) (pss_cons (ps_set (i := 5) sc_cases.nd rfl (by first | exact Or.inl rfl | exact Or.inr rfl) (pe_call g_demand_assumed (hr.mono (by decide)) (by rfl) m_demand_assumed k_demand_assumed b_demand_assumed .nil (passes_call (takes_of rfl rfl rfl rfl) (fun _ _ _ _ h => h)) (pa_cons (pv 3) (pa_cons (pv 2) (pa_cons pe_str pa_nil))))) (pss_cons (ps_set (i := 6) sc_cases.nd rfl (by first | exact Or.inl rfl | exact Or.inr rfl) (pe_call g_case_tree (hr.mono (by decide)) (by rfl) m_case_tree k_case_tree b_case_tree .nil pass0 (pa_cons (pv 3) (pa_cons (pe_make k_Case g_Case (hr.mono (by decide)) (by rfl) m_Case b_Case .nil pass0 (pa_cons (pv 4) (pa_cons (pv 5) pa_nil))) pa_nil)))) (pss_one (ps_ret (pe_ifExp (pt_cmpR op_isN (pv 6) pe_non (nomark _)) pe_non (pe_callTy call_tuple_of (by rfl) n_tuple (by decide +kernel) (pa_cons (pv 6) pa_nil))))))))), ?_⟩
    rcases h with ⟨zs, z1, z2, z3, z4, hbad⟩ | ⟨rs, hpo, hn5, hw⟩
    · exact q_asgC (ea_cons (ev_var rfl) ea_nil) (fun H1 e1 => ⟨ls, zs, rfl, z1, z2, z3, .inr ⟨z4, hbad.mono e1⟩⟩)
    refine qx_asg (x_names (ev_var rfl) hpo) ?_
    rintro v H1 e1 ⟨p, rfl, hp, hrs⟩
    refine q_asgC (vs := [.ref p, wv, .str "wanted"]) (ea_cons (ev_var rfl) (ea_cons (ev_var rfl) (ea_cons ev_c ea_nil))) (fun H2 e2 => ⟨p, wv, "wanted", rs, rfl, hrs.ex e2, hpo.2.2.2.1, hpo.2.2.2.2.1, hpo.2.2.2.2.2, hw.go (e1.trans e2) (fun ts hts htl hd t H3 ht e3 h3 => ?_)⟩)
    refine q_asgC (vs := [.ref p, dv, .str "denied"]) (ea_cons (ev_var rfl) (ea_cons (ev_var rfl) (ea_cons ev_c ea_nil))) (fun H4 e4 => ⟨p, dv, "denied", rs, rfl, hrs.ex (e2.trans (e3.trans e4)), hpo.2.2.2.1, hpo.2.2.2.2.1, hpo.2.2.2.2.2, hd.go (e1.trans (e2.trans (e3.trans e4))) (fun fs hfs hfl k f H5 hf e5 h5 => ?_)⟩)
    have e15 := e1.trans (e2.trans (e3.trans (e4.trans e5)))
    refine qx_asg (P := fun v H' => (treeOf rs ts fs = none ∧ v = .non) ∨ ∃ ns q us, treeOf rs ts fs = some ns ∧ v = .ref q ∧ H' q = some (.lst us) ∧ AllV NodeAt ns us H') (x_callX (x_cons (P := fun v H' => v = .ref p) (x_ev (ev_var rfl)) (fun _ _ _ _ h => h) (x_one (x_case (ev_var rfl) (ev_var rfl) ((e4.trans e5) _ _ h3) h5))) ?_) ?_
    · rintro vs H6 e6 ⟨v, r, rfl, rfl, c, rfl, hc⟩ Q6 q6 E6
      exact ⟨p, c, rs, ts, fs, rfl, hrs.ex (e2.trans (e3.trans (e4.trans (e5.trans e6)))), hc, hpo.2.2.2.1, SzCs_small htl hfl hpo.2.2.2.2.1, hn5, fun ho H7 e7 => q6 _ H7 e7 (.inl ⟨ho, rfl⟩), fun ns ho q us H7 hq e7 h7 h8 => q6 _ H7 e7 (.inr ⟨ns, q, us, ho, rfl, h7, h8⟩)⟩
    rintro v H6 e6 (⟨ho, rfl⟩ | ⟨ns, q, us, ho, rfl, hq, hus⟩)
    · exact s_ret (v := .non) (ev_if (b := true) (et_is (et_test (ev_op (ev_var rfl) ev_c (fun H6 e7 Q1 q1 => ⟨rfl, q1 H6 (Ex.refl _)⟩))) rfl) (fun _ => ev_c) (fun h => absurd h (by decide))) (fun H7 e7 => k.1 ho H7 (e15.trans (e6.trans e7)))
    · refine sx_ret (P := fun v H' => ∃ q ys, v = .ref q ∧ H6 q = none ∧ H' q = some (.tup ys) ∧ AllV NodeAt ns ys H') (x_if (b := false) (et_is (et_test (ev_op (ev_var rfl) ev_c (fun H6 e7 Q1 q1 => ⟨rfl, q1 H6 (Ex.refl _)⟩))) rfl) (fun h => absurd h (by decide)) (fun _ => x_tupL (K := K) (PL := fun ys H' => AllV NodeAt ns ys H') (fun ys H7 H8 e => AllV.mo (fun a => (NodeAt.mn a).mo) _ _ _ e) (x_evP (ev_var rfl) (fun H7 e7 => ⟨q, us, rfl, e7 _ _ hq, AllV.mo (fun a => (NodeAt.mn a).mo) _ _ _ e7 hus⟩)))) ?_
      rintro v H7 e7 ⟨o, ys, rfl, hoo, ho7, hys⟩
      exact k.2 ns ho o ys H7 (fresh_back (e15.trans e6) hoo) (e15.trans (e6.trans e7)) ho7 hys

end
end Tx
end
section
set_option Elab.async false
set_option linter.all false
set_option maxRecDepth 100000
set_option maxHeartbeats 4000000
namespace Tx
open PySem PySem.Spec PyProof.Rows L2 Evl Wk
section
variable {w : World} {K : PySem.W.Frag} {mg : Str → Option Value} {base : Heap}

def ValArg (K : PySem.W.Frag) (v : V) (H : Hp) (nodes : List (List Str)) : Prop := (∃ p us, v = .ref p ∧ H p = some (.tup us) ∧ AllV NodeS nodes us H ∧ us.length ≤ 1000 ∧ ∀ xs, xs ∈ nodes → okS xs = true ∧ xs.length ≤ 1000) ∨ (nodes = [] ∧ ∃ t, (∀ H', Ex H H' → TyX K H' v (.type t)) ∧ kitB t "tuple" = some false)
theorem ValArg.ex {v : V} {H H' : Hp} {nodes : List (List Str)} (e : Ex H H') (h : ValArg K v H nodes) : ValArg K v H' nodes := by
  rcases h with ⟨p, us, h1, h2, h3, h4⟩ | ⟨h1, t, h2, h3⟩
  · exact .inl ⟨p, us, h1, e _ _ h2, AllV.mo (fun a => (NodeS.mn a).mo) _ _ _ e h3, h4⟩
  · exact .inr ⟨h1, t, fun H2 e2 => h2 H2 (e.trans e2), h3⟩
def sp_is_case_row (K : PySem.W.Frag) : Sp := fun vs H Q _ => ∃ (a : Addr) (v : V) (rs : List Rw) (nodes : List (List Str)), vs = [.ref a, v] ∧ RowsAt rs a H ∧ SzRs rs ∧ ValArg K v H nodes ∧ ∀ H', Ex H H' → Q (.bl (rowB rs nodes)) H'
theorem rowB_size {rs : List Rw} {nodes : List (List Str)} (h : (decide (1 ≤ nodes.length) && decide (nodes.length ≤ 200)) = false) : rowB rs nodes = false := by unfold rowB; rw [h]; rfl
theorem rowB_bad {rs : List Rw} {nodes : List (List Str)} {xs : List Str} (hm : xs ∈ nodes) (h : ndB rs xs = false) : rowB rs nodes = false := by
  unfold rowB
  rw [show nodes.all (ndB rs) = false from List.all_eq_false.mpr ⟨xs, hm, by rw [h]; decide⟩, Bool.and_false]
theorem not_t {b : Bool} (h : (!b) = true) : b = false := by cases b with
  | true => cases h
  | false => rfl
theorem not_f {b : Bool} (h : (!b) = false) : b = true := by cases b with
  | true => rfl
  | false => cases h
theorem shut_ok : okS shutS = true := by decide +kernel
theorem sc_is_case_row : FnScope ["rows", "value", "names", "node", "is_split"] ["rows", "value"] (defScope s_is_case_row) := ⟨rfl, rfl, rfl, by decide +kernel, rfl, by decide +kernel, by decide +kernel⟩
theorem ok_is_case_row (Z : Zx K mg) : OkD prog w K mg base CX0 2 "is_case_row" ["rows", "value"] (sp_is_case_row K) := by
  obtain ⟨fd, F0⟩ := Z.fun_ 44
  have F : Fun K "is_case_row" "is_case_row" s_is_case_row (He.ga K "is_case_row") fd := Wk.fun_of F0
  have c_MOST_NODES := Z.int 84 (x := "MOST_NODES")
  have c_SHUT := Z.str 86 (x := "SHUT")
  have c_SPLIT := Z.str 85 (x := "SPLIT")
  obtain ⟨_, g_is_tuple, b_is_tuple, m_is_tuple, k_is_tuple⟩ := ok_is_tuple (w := w) (base := base) Z
  obtain ⟨_, g_names_of, b_names_of, m_names_of, k_names_of⟩ := ok_names_of (w := w) (base := base) Z
  refine ⟨fd, ?_, F.binds (ps := ["rows", "value"]) fun _ _ _ _ _ _ us hl => match us, hl with | [_, _], _ => rfl, Z.glo 34, F.kp⟩
  refine F.ok sc_is_case_row (fun vs H Q E h => ?_) (fun cdv A outer s H vs Q E hr h => ?_)
  · obtain ⟨a, v, rs, nodes, rfl, hrs, hsz, hv, k⟩ := h
    rfl
  · obtain ⟨a, v, rs, nodes, rfl, hrs, hsz, hv, k⟩ := h
    have hu64 := hr.units
    refine ⟨_, (pss_cons (ps_if (pt_not (pt_val (pe_call g_is_tuple (hr.mono (by decide)) (by rfl) m_is_tuple k_is_tuple b_is_tuple .nil pass0 (pa_cons (pv 1) (pa_cons pe_int (pa_cons (pe_gi c_MOST_NODES) pa_nil)))))) (pss_one (ps_ret pe_bl)) pss_nil) (pss_cons (ps_set (i := 2) sc_is_case_row.nd rfl (by first | exact Or.inl rfl | exact Or.inr rfl) (pe_call g_names_of (hr.mono (by decide)) (by rfl) m_names_of k_names_of b_names_of .nil pass0 (pa_cons (pv 0) pa_nil))) (pss_cons (ps_for PassesOwn.never rfl (pi_tup (pv 1)) (pg_name (i := 3) sc_is_case_row.nd rfl (by first | exact Or.inl rfl | exact Or.inr rfl)) (pss_cons (ps_set (i := 4) sc_is_case_row.nd rfl (by first | exact Or.inl rfl | exact Or.inr rfl) (pe_and (pe_call g_is_tuple (hr.mono (by decide)) (by rfl) m_is_tuple k_is_tuple b_is_tuple .nil pass0 (pa_cons (pv 3) (pa_cons pe_int (pa_cons pe_int pa_nil)))) (pe_and (pe_cmpR op_eq (pe_ix ix_tup (pv 3) pe_int (fun _ _ => rfl)) (pe_gs c_SPLIT) (nomark _)) (pe_one (pe_cmpR op_in_seq (pe_ix ix_tup (pv 3) pe_int (fun _ _ => rfl)) (pv 2) rfl))))) (pss_one (ps_if (pw_and (pt_not (pt_val (pv 4))) (pw_and1 (pt_cmpR (op_neD hu64) (pv 3) (pe_tup (pa_cons (pe_gs c_SHUT) pa_nil)) (nomark _)))).pt (pss_one (ps_ret pe_bl)) pss_nil)))) (pss_one (ps_ret pe_bl))))), ?_⟩
    rcases hv with ⟨p, us, rfl, hp, hall, hul, hok⟩ | ⟨rfl, t, hty, hkit⟩
    · have hnl := hall.1
      have hlen : (decide ((1 : Int) ≤ (us.length : Int)) && decide ((us.length : Int) ≤ 200)) = (decide (1 ≤ nodes.length) && decide (nodes.length ≤ 200)) := by
        rw [hnl]
        congr 1
        · rw [decide_eq_decide]; omega
        · rw [decide_eq_decide]; omega
      refine q_when (b := !(decide (1 ≤ nodes.length) && decide (nodes.length ≤ 200))) (et_not (et_B (ev_call (z := .bl (decide (1 ≤ nodes.length) && decide (nodes.length ≤ 200))) (ea_cons (ev_var rfl) (ea_cons ev_c (ea_cons ev_c ea_nil))) (fun H2 e2 Q2 q2 E2 => ⟨.ref p, 1, 200, rfl, .inl ⟨p, us, rfl, e2 _ _ hp, fun H3 e3 => by rw [hlen]; exact q2 H3 e3⟩⟩)))) (fun hb H1 e1 => ?_) (fun hb H1 e1 => ?_)
      · refine s_ret ev_c (fun H2 e2 => ?_)
        have := k H2 (e1.trans e2)
        rw [rowB_size (not_t hb)] at this
        exact this
      have hsize : (decide (1 ≤ nodes.length) && decide (nodes.length ≤ 200)) = true := not_f hb
      refine q_asgL (xs := nmL (namesOf rs)) (el_call (ea_cons (ev_var rfl) ea_nil) (fun H2 e2 Q2 q2 E2 => ⟨a, rs, rfl, hrs.ex (e1.trans e2), hsz, q2⟩)) (fun o H2 ho e2 h2 => ?_)
      have e12 := e1.trans e2
      refine q_forT (K := K) (xs := us) (ev_var rfl) (st_of (e12 _ _ hp)) (fun i σ' H' => ∃ s3 s4, σ' = [some (.ref a), some (.ref p), some (.ref o), s3, s4] ∧ Ex H2 H' ∧ ∀ xs, xs ∈ nodes.take i → ndB rs xs = true) (fun H3 e3 => ⟨none, none, rfl, e3, fun xs hx => by simp at hx⟩) (fun i σ' H' _ ⟨_, _, _, e, _⟩ => st_of (e _ _ (e12 _ _ hp))) ?_ ?_
      · rintro i x σ' H' hx ⟨s3, s4, rfl, e', hgood⟩
        obtain ⟨xs, hxs, q, rfl, hq⟩ := AllV.at hall hx
        have hmem := List.mem_of_getElem? hxs
        obtain ⟨ok1, ok2⟩ := hok xs hmem
        have hq' := e' _ _ (e12 _ _ hq)
        refine q_asg (v := .bl (splB rs xs)) (ev_is (ev_andV (a := decide (xs.length = 2)) (b := splB rs xs) (ev_call (z := .bl (decide (xs.length = 2))) (ea_cons (ev_var rfl) (ea_cons ev_c (ea_cons ev_c ea_nil))) (fun H3 e3 Q3 q3 E3 => ⟨.ref q, 2, 2, rfl, .inl ⟨q, _, rfl, e3 _ _ hq', fun H4 e4 => ?_⟩⟩)) (fun hl => ?_)) ?_) (fun H3 e3 => ?_)
        · have e : (decide ((2 : Int) ≤ ((xs.map V.str).length : Int)) && decide (((xs.map V.str).length : Int) ≤ 2)) = decide (xs.length = 2) := by
            rw [List.length_map, ← Bool.decide_and, decide_eq_decide]
            omega
          rw [e]
          exact q3 H4 e4
        · match xs, hl, hq' with
          | [x, y], _, hq' =>
            exact ev_andV (a := decide (x = ("split" : Str))) (b := decide (y ∈ (namesOf rs).map fun c => tx [c])) (ev_is (ev_op (ev_op (ev_var rfl) ev_c (rv_ixT (i := 0) (v := .str x) (st_of hq') rfl)) ev_c (rv_eq (by rfl))) (by
              congr 1
              rw [decide_eq_decide]
              exact ⟨fun h => V.str.inj h, fun h => by rw [h]⟩)) (fun _ => ev_inLS (K := K) (ev_op (ev_var rfl) ev_c (rv_ixT (i := 1) (v := .str y) (st_of hq') rfl)) (ev_var rfl) (sq_of (e' _ _ h2)))
        · congr 1
          match xs with
          | [] => rfl
          | [_] => rfl
          | [x, y] => simp [splB]
          | _ :: _ :: _ :: _ => simp [splB]
        · refine s_when (b := !(ndB rs xs)) (et_is (et_and (et_not (et_B (ev_var rfl))) (fun _ => et_test (ev_neTS (K := K) (ev_var rfl) (e3 _ _ hq') (eu_tup (vs := shutS.map V.str) (ea_cons ev_c ea_nil) (few5 rfl)) ok1 shut_ok))) ?_) (fun hb H4 e4 => ?_) (fun hb H4 e4 => ?_)
          · unfold ndB
            rw [Bool.not_or]
          · refine s_ret ev_c (fun H5 e5 => ?_)
            have := k H5 (e12.trans (e'.trans (e3.trans (e4.trans e5))))
            rw [rowB_bad hmem (not_t hb)] at this
            exact this
          · refine ⟨_, _, rfl, e'.trans (e3.trans e4), fun ys hy => ?_⟩
            rw [List.take_add_one, hxs, List.mem_append] at hy
            rcases hy with hy | hy
            · exact hgood ys hy
            · have : ys = xs := by simpa using hy
              rw [this]
              exact not_f hb
      · rintro σ' H' ⟨s3, s4, rfl, e', hgood⟩
        rw [hnl, List.take_length] at hgood
        refine s_ret ev_c (fun H3 e3 => ?_)
        have := k H3 (e12.trans (e'.trans e3))
        rw [show rowB rs nodes = true from by unfold rowB; rw [hsize, Bool.true_and, List.all_eq_true]; exact hgood] at this
        exact this
    · refine q_when (b := true) (et_is (et_not (et_B (ev_call (z := .bl false) (ea_cons (ev_var rfl) (ea_cons ev_c (ea_cons ev_c ea_nil))) (fun H2 e2 Q2 q2 E2 => ⟨v, 1, 200, rfl, .inr ⟨t, hty _ e2, hkit, q2 H2 (Ex.refl _)⟩⟩)))) rfl) (fun _ H1 e1 => s_ret ev_c (fun H2 e2 => k H2 (e1.trans e2))) (fun h => absurd h (by decide))

end
end Tx
end
section
set_option Elab.async false
set_option linter.all false
set_option maxRecDepth 100000
set_option maxHeartbeats 4000000
namespace Tx
open PySem PySem.Spec PyProof.Rows L2 Evl Wk
section
variable {w : World} {K : PySem.W.Frag} {mg : Str → Option Value} {base : Heap}

def sp_are_cases (K : PySem.W.Frag) : Sp := fun vs H Q E => ∃ (ls : List (List Nat)) (wv dv v : V) (nodes : List (List Str)) (rs : List Rw), vs = [.str (tx (progT ls)), wv, dv, v] ∧ ProgOk ls rs ∧ ValArg K v H nodes ∧
  AsmArg K rs wv "wanted" H E fun ts => AsmArg K rs dv "denied" H E fun fs => ∀ H', Ex H H' → Q (.bl (areB rs ts fs nodes)) H'
theorem judge_nil (rs : List Rw) (W : List (List Nat × List Nat)) : judge rs W [] = decide (W = []) := by
  cases W <;> simp [judge]
theorem SzCs.add {rs : List Rw} {t f : List Nat} {c : Nat} (hc : c ∈ namesOf rs) (h : SzCs rs t f) : SzCs rs (addN t c) f ∧ SzCs rs t (addN f c) := by
  obtain ⟨h1, h2⟩ := h
  have a := addN_cnt (f := t) hc
  have b := addN_cnt (f := f) hc
  exact ⟨⟨by omega, h2⟩, ⟨h1, by omega⟩⟩
theorem SzCs.grow {rs : List Rw} {t f : List Nat} (h : SzCs rs t f) : SzCs rs (growOf rs t f).1 (growOf rs t f).2 := by
  obtain ⟨h1, h2⟩ := h
  have a := growN_cnt rs (miss (namesOf rs) t + miss (namesOf rs) f + 1) t f
  unfold growOf
  exact ⟨by omega, by omega⟩
theorem x_lstN {σ : L2.St} {H : Hp} {tr : TA} {PA : List V → Hp → Prop} (h : EvAX tr σ H PA) (m : Mo PA) (hl : ∀ vs H, PA vs H → vs.length ≤ 100000) : EvX (tLst tr) σ H (fun v H' => ∃ p vs, v = .ref p ∧ H p = none ∧ H' p = some (.lst vs) ∧ PA vs H') := fun H1 e Q q =>
  h H1 e _ fun vs H2 e2 p => ⟨sz_of (hl vs H2 p), fun a ha => q _ _ (e2.trans (Ex.new ha)) ⟨a, vs, rfl, fresh_back (e.trans e2) ha, upd_same, m vs H2 _ (Ex.new ha) p⟩⟩
theorem sc_are_cases : FnScope ["program", "wanted", "denied", "value", "rows", "true", "false", "waiting", "node", "case"] ["program", "wanted", "denied", "value"] (defScope s_are_cases) := ⟨rfl, rfl, rfl, by decide +kernel, rfl, by decide +kernel, by decide +kernel⟩
theorem ok_are_cases (Z : Zx K mg) : OkD prog w K mg base (L2.CX prog w) 9 "are_cases" ["program", "wanted", "denied", "value"] (sp_are_cases K) := by
  obtain ⟨fd, F0⟩ := Z.fun_ 45
  have F : Fun K "are_cases" "are_cases" s_are_cases (He.ga K "are_cases") fd := Wk.fun_of F0
  have x_BadArgument := Z.bad
  have cBadArgument := Z.glo 54 (x := "BadArgument")
  have c_SHUT := Z.str 86 (x := "SHUT")
  obtain ⟨_, g_demand_assumed, b_demand_assumed, m_demand_assumed, k_demand_assumed⟩ := ok_demand_assumed (w := w) (base := base) Z
  obtain ⟨_, g_demand_names, b_demand_names, m_demand_names, k_demand_names⟩ := ok_demand_names (w := w) (base := base) Z
  obtain ⟨_, g_grown, b_grown, m_grown, k_grown⟩ := ok_grown (w := w) (base := base) Z
  obtain ⟨_, g_is_case_row, b_is_case_row, m_is_case_row, k_is_case_row⟩ := ok_is_case_row (w := w) (base := base) Z
  obtain ⟨_, g_Case, b_Case, m_Case, k_Case⟩ := ok_Case___init__ (w := w) (base := base) Z
  obtain ⟨_, g_Case_is_shut, b_Case_is_shut, c_Case_is_shut, m_Case_is_shut⟩ := ok_Case_is_shut (w := w) (base := base) Z
  obtain ⟨_, g_Case_put, b_Case_put, c_Case_put, m_Case_put⟩ := ok_Case_put (w := w) (base := base) Z
  have n_len := Z.free 63 (x := "len")
  have cl_Case := Z.cls 110 (x := "Case")
  refine ⟨fd, ?_, F.binds (ps := ["program", "wanted", "denied", "value"]) fun _ _ _ _ _ _ us hl => match us, hl with | [_, _, _, _], _ => rfl, Z.glo 35, F.kp⟩
  refine F.okX sc_are_cases (fun vs H Q E h => ?_) (fun cdv A outer s H vs Q E hr h => ?_)
  · obtain ⟨ls, wv, dv, v, nodes, rs, rfl, hpo, hv, hw⟩ := h
    rfl
  · obtain ⟨ls, wv, dv, v, nodes, rs, rfl, hpo, hv, hw⟩ := h
    have hu64 := hr.units
    refine ⟨_, (pss_cons (ps_set (i := 4) sc_are_cases.nd rfl (by first | exact Or.inl rfl | exact Or.inr rfl) (pe_call g_demand_names (hr.mono (by decide)) (by rfl) m_demand_names k_demand_names b_demand_names .nil (passes_call (takes_of rfl rfl rfl rfl) (fun _ _ _ _ h => h)) (pa_cons (pv 0) pa_nil))) (pss_cons (ps_set (i := 5) sc_are_cases.nd rfl (by first | exact Or.inl rfl | exact Or.inr rfl) (pe_call g_demand_assumed (hr.mono (by decide)) (by rfl) m_demand_assumed k_demand_assumed b_demand_assumed .nil (passes_call (takes_of rfl rfl rfl rfl) (fun _ _ _ _ h => h)) (pa_cons (pv 4) (pa_cons (pv 1) (pa_cons pe_str pa_nil))))) (pss_cons (ps_set (i := 6) sc_are_cases.nd rfl (by first | exact Or.inl rfl | exact Or.inr rfl) (pe_call g_demand_assumed (hr.mono (by decide)) (by rfl) m_demand_assumed k_demand_assumed b_demand_assumed .nil (passes_call (takes_of rfl rfl rfl rfl) (fun _ _ _ _ h => h)) (pa_cons (pv 4) (pa_cons (pv 2) (pa_cons pe_str pa_nil))))) (pss_cons (ps_if (pt_not (pt_val (pe_call g_is_case_row (hr.mono (by decide)) (by rfl) m_is_case_row k_is_case_row b_is_case_row .nil pass0 (pa_cons (pv 4) (pa_cons (pv 3) pa_nil))))) (pss_one (ps_ret pe_bl)) pss_nil) (pss_cons (ps_set (i := 7) sc_are_cases.nd rfl (by first | exact Or.inl rfl | exact Or.inr rfl) (pe_lst (pa_cons (pe_make k_Case g_Case (hr.mono (by decide)) (by rfl) m_Case b_Case .nil pass0 (pa_cons (pv 5) (pa_cons (pv 6) pa_nil))) pa_nil))) (pss_cons (ps_for (passes_of rfl) rfl (pi_tup (pv 3)) (pg_name (i := 8) sc_are_cases.nd rfl (by first | exact Or.inl rfl | exact Or.inr rfl)) (pss_cons (ps_if (pt_cmpR op_eq (pe_callB call_len_seq (by rfl) n_len (by decide +kernel) (pa_cons (pv 7) pa_nil)) pe_int (nomark _)) (pss_one (ps_ret pe_bl)) pss_nil) (pss_cons (ps_set (i := 9) sc_are_cases.nd rfl (by first | exact Or.inl rfl | exact Or.inr rfl) (pe_call g_grown (hr.mono (by decide)) (by rfl) m_grown k_grown b_grown .nil pass0 (pa_cons (pv 4) (pa_cons (pe_bm0 PySem.F.plainAttrs_list PySem.F.slot_list_pop PySem.F.type_list_pop mt_pop (pv 7)) pa_nil)))) (pss_one (ps_if (pt_cmpR (op_eqD hu64) (pv 8) (pe_tup (pa_cons (pe_gs c_SHUT) pa_nil)) (nomark _)) (pss_one (ps_if (pt_not (pt_val (pe_meth0 (pv 9) c_Case_is_shut m_Case_is_shut g_Case_is_shut (hr.mono (by decide)) b_Case_is_shut .nil pass0))) (pss_one (ps_ret pe_bl)) pss_nil)) (pss_one (ps_expr (pe_bm PySem.F.plainAttrs_list PySem.F.slot_list_extend PySem.F.type_list_extend mt_extend (pv 7) (pa_cons (pe_lst (pa_cons (pe_meth (pv 9) c_Case_put m_Case_put g_Case_put (hr.mono (by decide)) b_Case_put .nil pass0 (pa_cons (pe_ix ix_tup (pv 8) pe_int (fun _ _ => rfl)) (pa_cons pe_bl pa_nil))) (pa_cons (pe_meth (pv 9) c_Case_put m_Case_put g_Case_put (hr.mono (by decide)) b_Case_put .nil pass0 (pa_cons (pe_ix ix_tup (pv 8) pe_int (fun _ _ => rfl)) (pa_cons pe_bl pa_nil))) pa_nil))) pa_nil))))))))) (pss_one (ps_ret (pe_cmpR op_eq (pe_callB call_len_seq (by rfl) n_len (by decide +kernel) (pa_cons (pv 7) pa_nil)) pe_int (nomark _)))))))))), ?_⟩
    refine qx_asg (x_names (ev_var rfl) hpo) ?_
    rintro v1 H1 e1 ⟨a, rfl, ha, hrs⟩
    refine q_asgC (vs := [.ref a, wv, .str "wanted"]) (ea_cons (ev_var rfl) (ea_cons (ev_var rfl) (ea_cons ev_c ea_nil))) (fun H2 e2 => ⟨a, wv, "wanted", rs, rfl, hrs.ex e2, hpo.2.2.2.1, hpo.2.2.2.2.1, hpo.2.2.2.2.2, hw.go (e1.trans e2) (fun ts hts htl hd t H3 ht e3 h3 => ?_)⟩)
    refine q_asgC (vs := [.ref a, dv, .str "denied"]) (ea_cons (ev_var rfl) (ea_cons (ev_var rfl) (ea_cons ev_c ea_nil))) (fun H4 e4 => ⟨a, dv, "denied", rs, rfl, hrs.ex (e2.trans (e3.trans e4)), hpo.2.2.2.1, hpo.2.2.2.2.1, hpo.2.2.2.2.2, hd.go (e1.trans (e2.trans (e3.trans e4))) (fun fs hfs hfl k f H5 hf e5 h5 => ?_)⟩)
    have e15 := e1.trans (e2.trans (e3.trans (e4.trans e5)))
    have hrs5 := hrs.ex (e2.trans (e3.trans (e4.trans e5)))
    have hv5 := hv.ex e15
    refine q_when (b := !(rowB rs nodes)) (et_not (et_B (ev_call (z := .bl (rowB rs nodes)) (ea_cons (ev_var rfl) (ea_cons (ev_var rfl) ea_nil)) (fun H6 e6 Q6 q6 E6 => ⟨a, v, rs, nodes, rfl, hrs5.ex e6, hpo.2.2.2.1, hv5.ex e6, q6⟩)))) (fun hb H6 e6 => ?_) (fun hb H6 e6 => ?_)
    · refine s_ret ev_c (fun H7 e7 => ?_)
      have := k H7 (e15.trans (e6.trans e7))
      unfold areB at this
      rw [not_t hb, Bool.false_and] at this
      exact this
    have hrow := not_f hb
    have hall2 : ∀ xs, xs ∈ nodes → ndB rs xs = true := by
      unfold rowB at hrow
      rw [Bool.and_eq_true] at hrow
      exact List.all_eq_true.mp hrow.2
    have hnl200 : nodes.length ≤ 200 := by
      unfold rowB at hrow
      rw [Bool.and_eq_true, Bool.and_eq_true] at hrow
      exact of_decide_eq_true hrow.1.2
    obtain ⟨p, us, rfl, hp, hall, hul, hok⟩ : ∃ p us, v = .ref p ∧ H5 p = some (.tup us) ∧ AllV NodeS nodes us H5 ∧ us.length ≤ 1000 ∧ ∀ xs, xs ∈ nodes → okS xs = true ∧ xs.length ≤ 1000 := by
      rcases hv5 with h | ⟨rfl, _⟩
      · exact h
      · exact absurd hrow (by simp [rowB])
    have hkk : ∀ H', Ex H H' → Q (.bl (judge rs [(ts, fs)] (nodes.map ndOf))) H' := fun H' e' => by
      have := k H' e'
      unfold areB at this
      rw [hrow, Bool.true_and] at this
      exact this
    have hunl := hall.1
    refine qx_asg (P := fun v H' => ∃ w c, v = .ref w ∧ H6 w = none ∧ H' w = some (.lst [c]) ∧ CaseAt K ts fs c H') ((x_lstN (x_one (P := CaseAt K ts fs) (x_case (ev_var rfl) (ev_var rfl) (e6 _ _ ((e4.trans e5) _ _ h3)) (e6 _ _ h5))) ?_ ?_).imp ?_) ?_
    · rintro vs H8 H9 e ⟨c, rfl, hc⟩
      exact ⟨c, rfl, CaseAt.mo K _ _ _ _ _ e hc⟩
    · rintro vs H8 ⟨c, rfl, hc⟩
      exact few5 rfl
    · rintro u H8 ⟨q, vs, rfl, hq0, hq, c, rfl, hc⟩
      exact ⟨q, c, rfl, hq0, hq, hc⟩
    rintro v7 H7 e7 ⟨w, c0, rfl, hw0, hw7, hc7⟩
    have e17 := e15.trans (e6.trans e7)
    have e57 := e6.trans e7
    have hp7 := e57 _ _ hp
    have hall7 := AllV.mo (fun a => (NodeS.mn a).mo) _ _ _ e57 hall
    have hrs7 := hrs5.ex e57
    have hwH : H w = none := fresh_back (e15.trans e6) hw0
    have hnds : ∀ (i : Nat) xs, nodes[i]? = some xs → ∃ o, xs = nodeS o ∧ (nodes.map ndOf)[i]? = some o ∧ ∀ c, o = some c → c ∈ namesOf rs := fun i xs hx => by
      obtain ⟨h1, h2⟩ := ndB_back (hall2 xs (List.mem_of_getElem? hx))
      exact ⟨ndOf xs, h1, by rw [List.getElem?_map, hx]; rfl, h2⟩
    have hndl : (nodes.map ndOf).length = nodes.length := List.length_map _
    generalize hnd : nodes.map ndOf = nds at *
    have hsz0 : SzCs rs ts fs := SzCs_small htl hfl hpo.2.2.2.2.1
    have hsr := hpo.2.2.2.1
    have hn10 := hpo.2.2.2.2.1
    refine q_forT (K := K) (xs := us) (ev_var rfl) (st_of hp7) (fun i σ' H' => ∃ (Wt : List (List Nat × List Nat)) (wv' : List V) (s8 s9 : Option V), σ' = [some (.str (tx (progT ls))), some wv, some dv, some (.ref p), some (.ref a), some (.ref t), some (.ref f), some (.ref w), s8, s9] ∧ Ex H6 H' ∧ H' w = some (.lst wv') ∧
      AllV (fun c => CaseAt K c.1 c.2) Wt wv' H' ∧ (∀ c, c ∈ Wt → SzCs rs c.1 c.2) ∧ Wt.length ≤ i + 1 ∧ judge rs [(ts, fs)] nds = judge rs Wt.reverse (nds.drop i))
      (fun H8 e8 => ⟨[(ts, fs)], [c0], none, none, rfl, e7.trans e8, e8 _ _ hw7, AllV.cons (CaseAt.mo K _ _ _ _ _ e8 hc7) AllV.nil, fun c hc => by
        have : c = (ts, fs) := by simpa using hc
        rw [this]; exact hsz0, Nat.le_refl _, rfl⟩) (fun i σ' H' _ ⟨_, _, _, _, _, e, _⟩ => st_of (e _ _ (e6 _ _ hp))) ?_ ?_
    · rintro i x σ' H' hx ⟨Wt, wv', s8, s9, rfl, e', hw', hWt, hszc, hwl, hj⟩
      obtain ⟨xs, hxs, q, rfl, hq⟩ := AllV.at hall hx
      obtain ⟨o, rfl, hnd1, hnm⟩ := hnds i xs hxs
      obtain ⟨ok1, ok2⟩ := hok _ (List.mem_of_getElem? hxs)
      have hq' := e' _ _ (e6 _ _ hq)
      have hi : i < nodes.length := (List.getElem?_eq_some_iff.mp hxs).1
      have hdrop : nds.drop i = o :: nds.drop (i + 1) := Srt.drop_at nds i o hnd1
      rw [hdrop] at hj
      have hwvl := hWt.1
      refine q_when (b := decide (Wt = [])) (et_is (et_test (ev_op (ev_len (ev_var rfl) (sq_of hw')) ev_c (rv_eq (by rfl)))) ?_) (fun hb H8 e8 => ?_) (fun hb H8 e8 => ?_)
      · rw [hwvl, decide_eq_decide]
        constructor
        · intro h
          exact List.length_eq_zero_iff.mp (by have := V.int.inj h; omega)
        · intro h; rw [h]; rfl
      · refine s_ret ev_c (fun H9 e9 => ?_)
        have := hkk H9 (e15.trans (e6.trans (e'.trans (e8.trans e9))))
        rw [hj, of_decide_eq_true hb] at this
        cases o <;> exact this
      have hne := of_decide_eq_false hb
      obtain ⟨W0, c, rfl⟩ : ∃ W0 c, Wt = W0 ++ [c] := ⟨Wt.dropLast, Wt.getLast hne, (List.dropLast_concat_getLast hne).symm⟩
      obtain ⟨wv0, y, rfl, hW0, hcy⟩ := hWt.snoc
      have hrev : (W0 ++ [c]).reverse = c :: W0.reverse := by simp
      rw [hrev] at hj
      have hszk := hszc c (by simp)
      have hw0l := hW0.1
      rw [List.length_append, List.length_singleton] at hwl
      refine q_callPop (K := K) (xs := wv0 ++ [y]) (x := .ref a) (y := y) (ev_var rfl) (ev_var rfl) (e8 _ _ hw') (last_app _ _) (fun H9 e9 => ?_)
      rw [List.dropLast_concat]
      have e89 := e8.trans e9
      have hw9 := e89 _ _ hw'
      have n9 : Nl H' (upd H9 w (.lst wv0)) := (Nl.of e89).trans (.lst hw9)
      have E9 : Ex H6 (upd H9 w (.lst wv0)) := Ex.mut (e'.trans e89) hw0
      have hww : upd H9 w (.lst wv0) w = some (.lst wv0) := upd_same
      have hW9 := AllV.mn (CaseAt.mn2 K) _ _ _ n9 hW0
      have hc9 := CaseAt.mn K _ _ _ _ _ n9 hcy
      generalize upd H9 w (.lst wv0) = G9 at *
      have hgs := hszk.grow
      refine ⟨a, y, rs, c.1, c.2, rfl, (hrs5.ex e6).ex E9, hc9, hsr, hszk, by omega, fun u H10 e10 hu => ?_⟩
      try dsimp only at hu
      have hG : ∀ g, g = growOf rs c.1 c.2 → judge rs ((c.1, c.2) :: W0.reverse) (o :: nds.drop (i + 1)) = match o with
          | none => shutB g.1 g.2 && judge rs W0.reverse (nds.drop (i + 1))
          | some n => judge rs ((addN g.1 n, g.2) :: (g.1, addN g.2 n) :: W0.reverse) (nds.drop (i + 1)) := fun g e => by
        subst e
        cases o <;> rfl
      have hG2 := hG _ rfl
      generalize growOf rs c.1 c.2 = G at *
      obtain ⟨gt, gf⟩ := G
      try dsimp only at hu
      try dsimp only at hgs
      try dsimp only at hG2
      rw [show c = (c.1, c.2) from rfl, hG2] at hj
      obtain ⟨z1, z2⟩ := hgs
      have hu0 := hu
      obtain ⟨pc, dx, tc, fc, rfl, q1, q2, q3⟩ := hu
      have hq10 := e10 _ _ (E9 _ _ (e6 _ _ hq))
      refine s_if (b := decide (o = none)) (et_is (et_test (ev_eqTS (K := K) (ev_var rfl) hq10 (eu_tup (vs := shutS.map V.str) (ea_cons ev_c ea_nil) (few5 rfl)) ok1 shut_ok)) (by rw [decide_eq_decide]; exact nodeS_shut)) (fun hs H11 e11 => ?_) (fun hs H11 e11 => ?_)
      · have ho : o = none := of_decide_eq_true hs
        subst ho
        try dsimp only at hj
        refine s_when (b := !(shutB gt gf)) (et_not (et_B (ev_meth (ev_var rfl) (e11 _ _ q1) rfl ea_nil (fun H12 e12 Q12 q12 E12 => ⟨.ref pc, gt, gf, rfl, CaseAt.mo K _ _ _ _ _ (e11.trans e12) hu0, by omega, fun H13 e13 => q12 H13 e13⟩)))) (fun hb2 H12 e12 => ?_) (fun hb2 H12 e12 => ?_)
        · refine s_ret ev_c (fun H13 e13 => ?_)
          have := hkk H13 (e15.trans (e6.trans (E9.trans (e10.trans (e11.trans (e12.trans e13))))))
          rw [hj, not_t hb2, Bool.false_and] at this
          exact this
        · have e1012 := e10.trans (e11.trans e12)
          refine ⟨W0, wv0, _, _, rfl, E9.trans e1012, e1012 _ _ hww, AllV.mn (CaseAt.mn2 K) _ _ _ (Nl.of e1012) hW9, fun d hd => hszc d (List.mem_append_left _ hd), by omega, ?_⟩
          rw [hj, not_f hb2, Bool.true_and]
      · have ho : o ≠ none := of_decide_eq_false hs
        obtain ⟨nc, rfl⟩ : ∃ nc, o = some nc := Option.ne_none_iff_exists'.mp ho
        try dsimp only at hj
        have o1 := hnm nc rfl
        have cn1 := addN_cnt (f := gf) o1
        have cn2 := addN_cnt (f := gt) o1
        have e1011 := e10.trans e11
        have hw11 := e1011 _ _ hww
        have q1' := e11 _ _ q1
        have hu11 := CaseAt.mo K _ _ _ _ _ e11 hu0
        have hq11 := e11 _ _ hq10
        have hnm1 : ∀ (σ : L2.St) (H0 : Hp), Ex H11 H0 → σ[8]? = some (some (.ref q)) → Ev (tOp (rIxT K) (tVar 8) (tC (.int 1))) σ H0 (nmV nc) := fun σ H0 e0 hσ => ev_op (ev_var hσ) ev_c (rv_ixT (i := 1) (v := nmV nc) (st_of (e0 _ _ hq11)) rfl)
        refine s_extX (xs := wv0) (PL := fun zs H => ∃ x1 x2, zs = [x1, x2] ∧ CaseAt K gt (addN gf nc) x1 H ∧ CaseAt K (addN gt nc) gf x2 H) hw11 (ev_var rfl) ((x_lst (x_cons (P := CaseAt K gt (addN gf nc)) (x_meth (vs := [nmV nc, .bl false]) (ev_var rfl) q1' rfl (ea_cons (hnm1 _ _ (Ex.refl _) rfl) (ea_cons ev_c ea_nil)) (fun H12 e12 Q12 q12 E12 => ⟨.ref pc, gt, gf, nc, false, rfl, CaseAt.mo K _ _ _ _ _ e12 hu11, by omega, by omega, q12⟩)) (CaseAt.mo K _ _) (x_one (P := CaseAt K (addN gt nc) gf) (x_meth (vs := [nmV nc, .bl true]) (ev_var rfl) q1' rfl (ea_cons (hnm1 _ _ (Ex.refl _) rfl) (ea_cons ev_c ea_nil)) (fun H12 e12 Q12 q12 E12 => ⟨.ref pc, gt, gf, nc, true, rfl, CaseAt.mo K _ _ _ _ _ e12 hu11, by omega, by omega, q12⟩)))) ?_ ?_).imp ?_) ?_ ?_
        · rintro vs H12 H13 e13 ⟨x1, r, rfl, c1, x2, rfl, c2⟩
          exact ⟨x1, _, rfl, CaseAt.mo K _ _ _ _ _ e13 c1, x2, rfl, CaseAt.mo K _ _ _ _ _ e13 c2⟩
        · rintro vs H12 ⟨x1, r, rfl, c1, x2, rfl, c2⟩
          exact few5 rfl
        · rintro u H12 ⟨q', vs, rfl, hq12, x1, r, rfl, c1, x2, rfl, c2⟩
          exact ⟨q', _, rfl, hq12, x1, x2, rfl, c1, c2⟩
        · rintro zs H12 ⟨x1, x2, rfl, c1, c2⟩
          show wv0.length + 2 ≤ _
          omega
        · rintro zs H12 e12 ⟨x1, x2, rfl, c1, c2⟩
          have hw12 := e12 _ _ hw11
          have n12 : Nl H12 (upd H12 w (.lst (wv0 ++ [x1, x2]))) := .lst hw12
          have hrev2 : (W0 ++ [(gt, addN gf nc), (addN gt nc, gf)]).reverse = (addN gt nc, gf) :: (gt, addN gf nc) :: W0.reverse := by simp
          refine ⟨W0 ++ [(gt, addN gf nc), (addN gt nc, gf)], wv0 ++ [x1, x2], _, _, rfl, Ex.mut (E9.trans (e1011.trans e12)) hw0, upd_same, ?_, ?_, ?_, ?_⟩
          · have h1 := AllV.mn (CaseAt.mn2 K) _ _ _ ((Nl.of (e1011.trans e12)).trans n12) hW9
            have h2 := (h1.app (a := (gt, addN gf nc)) (CaseAt.mn K _ _ _ _ _ n12 c1)).app (a := (addN gt nc, gf)) (CaseAt.mn K _ _ _ _ _ n12 c2)
            rw [List.append_assoc, List.append_assoc] at h2
            exact h2
          · intro d hd
            rcases List.mem_append.mp hd with hd | hd
            · exact hszc d (List.mem_append_left _ hd)
            · simp only [List.mem_cons, List.not_mem_nil, or_false] at hd
              rcases hd with hd | hd
              · rw [hd]; exact ⟨(by show gt.length + miss (namesOf rs) gt ≤ 1000; omega), (by show (addN gf nc).length + miss (namesOf rs) (addN gf nc) ≤ 1000; omega)⟩
              · rw [hd]; exact ⟨(by show (addN gt nc).length + miss (namesOf rs) (addN gt nc) ≤ 1000; omega), (by show gf.length + miss (namesOf rs) gf ≤ 1000; omega)⟩
          · rw [List.length_append]
            show W0.length + 2 ≤ _
            omega
          · rw [hrev2, hj]
    · rintro σ' H' ⟨Wt, wv', s8, s9, rfl, e', hw', hWt, hszc, hwl, hj⟩
      rw [hunl, ← hndl, List.drop_length, judge_nil] at hj
      refine s_ret (v := .bl (judge rs [(ts, fs)] nds)) (ev_is (ev_op (ev_len (ev_var rfl) (sq_of hw')) ev_c (rv_eq (by rfl))) ?_) (fun H8 e8 => hkk H8 (e15.trans (e6.trans (e'.trans e8))))
      rw [hj, hWt.1]
      congr 1
      rw [decide_eq_decide]
      constructor
      · intro h
        have := List.length_eq_zero_iff.mp (by have := V.int.inj h; omega : Wt.length = 0)
        rw [this]; rfl
      · intro h
        have : Wt = [] := by simpa using h
        rw [this]; rfl

end
end Tx
end
section
set_option Elab.async false
set_option linter.all false
set_option maxRecDepth 100000
set_option maxHeartbeats 4000000
namespace Tx
open PySem PySem.Spec PyProof.Rows L2 Evl Wk
section
variable {w : World} {K : PySem.W.Frag} {mg : Str → Option Value} {base : Heap}

def fitB (ts fs s : List Nat) : Bool := (ts.all fun c => decide (c ∈ s)) && !(fs.any fun c => decide (c ∈ s))
def sp_world_with (K : PySem.W.Frag) : Sp := fun vs H Q E => ∃ (ls : List (List Nat)) (wv dv : V) (rs : List Rw), vs = [.str (tx (progT ls)), wv, dv] ∧ ProgOk ls rs ∧
  AsmArg K rs wv "wanted" H E fun ts => AsmArg K rs dv "denied" H E fun fs => (∀ s, s ∈ wsOf rs → fitB ts fs s = true → ∀ p H', Ex H H' → H' p = some (.tup (nmL s)) → Q (.ref p) H') ∧ ((∀ s, s ∈ wsOf rs → fitB ts fs s = false) → ∀ H', Ex H H' → Q .non H')
theorem sc_world_with : FnScope ["program", "wanted", "denied", "rows", "true", "false", "row", "name"] ["program", "wanted", "denied"] (defScope s_world_with) := ⟨rfl, rfl, rfl, by decide +kernel, rfl, by decide +kernel, by decide +kernel⟩
theorem ok_world_with (Z : Zx K mg) : OkD prog w K mg base (L2.CX prog w) 9 "world_with" ["program", "wanted", "denied"] (sp_world_with K) := by
  obtain ⟨fd, F0⟩ := Z.fun_ 46
  have F : Fun K "world_with" "world_with" s_world_with (He.ga K "world_with") fd := Wk.fun_of F0
  have x_BadArgument := Z.bad
  have cBadArgument := Z.glo 54 (x := "BadArgument")
  obtain ⟨_, g_demand_assumed, b_demand_assumed, m_demand_assumed, k_demand_assumed⟩ := ok_demand_assumed (w := w) (base := base) Z
  obtain ⟨_, g_demand_names, b_demand_names, m_demand_names, k_demand_names⟩ := ok_demand_names (w := w) (base := base) Z
  obtain ⟨_, g_worlds_of, b_worlds_of, m_worlds_of, k_worlds_of⟩ := ok_worlds_of (w := w) (base := base) Z
  have n_all := Z.free 57 (x := "all")
  have n_any := Z.free 58 (x := "any")
  refine ⟨fd, ?_, F.binds (ps := ["program", "wanted", "denied"]) fun _ _ _ _ _ _ us hl => match us, hl with | [_, _, _], _ => rfl, Z.glo 36, F.kp⟩
  refine F.okX sc_world_with (fun vs H Q E h => ?_) (fun cdv A outer s H vs Q E hr h => ?_)
  · obtain ⟨ls, wv, dv, rs, rfl, hpo, hw⟩ := h
    rfl
  · obtain ⟨ls, wv, dv, rs, rfl, hpo, hw⟩ := h
    refine ⟨_, (pss_cons (ps_set (i := 3) sc_world_with.nd rfl (by first | exact Or.inl rfl | exact Or.inr rfl) (pe_call g_demand_names (hr.mono (by decide)) (by rfl) m_demand_names k_demand_names b_demand_names .nil (passes_call (takes_of rfl rfl rfl rfl) (fun _ _ _ _ h => h)) (pa_cons (pv 0) pa_nil))) (pss_cons (ps_set (i := 4) sc_world_with.nd rfl (by first | exact Or.inl rfl | exact Or.inr rfl) (pe_call g_demand_assumed (hr.mono (by decide)) (by rfl) m_demand_assumed k_demand_assumed b_demand_assumed .nil (passes_call (takes_of rfl rfl rfl rfl) (fun _ _ _ _ h => h)) (pa_cons (pv 3) (pa_cons (pv 1) (pa_cons pe_str pa_nil))))) (pss_cons (ps_set (i := 5) sc_world_with.nd rfl (by first | exact Or.inl rfl | exact Or.inr rfl) (pe_call g_demand_assumed (hr.mono (by decide)) (by rfl) m_demand_assumed k_demand_assumed b_demand_assumed .nil (passes_call (takes_of rfl rfl rfl rfl) (fun _ _ _ _ h => h)) (pa_cons (pv 3) (pa_cons (pv 2) (pa_cons pe_str pa_nil))))) (pss_cons (ps_for (passes_of rfl) rfl (pi_list (pe_call g_worlds_of (hr.mono (by decide)) (by rfl) m_worlds_of k_worlds_of b_worlds_of .nil pass0 (pa_cons (pv 3) pa_nil))) (pg_name (i := 6) sc_world_with.nd rfl (by first | exact Or.inl rfl | exact Or.inr rfl)) (pss_one (ps_if (pw_and (pt_val (pe_lock (pe_callB (cr_all rfl) (by rfl) n_all (by decide +kernel) (pa_cons (pe_lc (te := (tOp (rIn K false) (tVar 7) (tVar 6))) (own := [("name", 7)]) rfl sc_world_with.nd (pi_keys (pv 4)) (blkOk_by (own := [("name", 7)]) (N := ["program", "wanted", "denied", "rows", "true", "false", "row", "name"]) (sc := defScope s_world_with) (by decide +kernel)) (fun _ _ _ _ _ => pg_name (i := 7) sc_world_with.nd rfl (by first | exact Or.inl rfl | exact Or.inr rfl)) (fun _ _ _ _ _ => pts_nil) (fun _ _ _ _ _ => (pe_cmpR op_in_seq (pv 7) (pv 6) rfl))) pa_nil)))) (pw_and1 (pt_not (pt_val (pe_lock (pe_callB (cr_any rfl) (by rfl) n_any (by decide +kernel) (pa_cons (pe_lc (te := (tOp (rIn K false) (tVar 7) (tVar 6))) (own := [("name", 7)]) rfl sc_world_with.nd (pi_keys (pv 5)) (blkOk_by (own := [("name", 7)]) (N := ["program", "wanted", "denied", "rows", "true", "false", "row", "name"]) (sc := defScope s_world_with) (by decide +kernel)) (fun _ _ _ _ _ => pg_name (i := 7) sc_world_with.nd rfl (by first | exact Or.inl rfl | exact Or.inr rfl)) (fun _ _ _ _ _ => pts_nil) (fun _ _ _ _ _ => (pe_cmpR op_in_seq (pv 7) (pv 6) rfl))) pa_nil))))))).pt (pss_one (ps_ret (pv 6))) pss_nil))) (pss_one (ps_ret pe_non)))))), ?_⟩
    refine qx_asg (x_names (ev_var rfl) hpo) ?_
    rintro v1 H1 e1 ⟨a, rfl, ha, hrs⟩
    refine q_asgC (vs := [.ref a, wv, .str "wanted"]) (ea_cons (ev_var rfl) (ea_cons (ev_var rfl) (ea_cons ev_c ea_nil))) (fun H2 e2 => ⟨a, wv, "wanted", rs, rfl, hrs.ex e2, hpo.2.2.2.1, hpo.2.2.2.2.1, hpo.2.2.2.2.2, hw.go (e1.trans e2) (fun ts hts htl hd t H3 ht e3 h3 => ?_)⟩)
    refine q_asgC (vs := [.ref a, dv, .str "denied"]) (ea_cons (ev_var rfl) (ea_cons (ev_var rfl) (ea_cons ev_c ea_nil))) (fun H4 e4 => ⟨a, dv, "denied", rs, rfl, hrs.ex (e2.trans (e3.trans e4)), hpo.2.2.2.1, hpo.2.2.2.2.1, hpo.2.2.2.2.2, hd.go (e1.trans (e2.trans (e3.trans e4))) (fun fs hfs hfl k f H5 hf e5 h5 => ?_)⟩)
    have e15 := e1.trans (e2.trans (e3.trans (e4.trans e5)))
    have hrs5 := hrs.ex (e2.trans (e3.trans (e4.trans e5)))
    have h35 := (e4.trans e5) _ _ h3
    refine q_forX (PL := fun p ys H' => ∃ ss, ss.Perm (wsOf rs) ∧ AllV TupN ss ys H') (x_call (vs := [.ref a]) (ea_cons (ev_var rfl) ea_nil) (fun H6 e6 Q6 q6 E6 => ⟨a, rs, rfl, hrs5.ex e6, hpo.2.2.2.1, hpo.2.2.2.2.1, hpo.2.2.2.2.2, fun p ys ss H7 hp e7 h7 pm hy => q6 _ H7 e7 ⟨p, ys, rfl, fresh_back e6 hp, h7, ss, pm, hy⟩⟩)) ?_
    rintro p ys H6 hp e6 hp6 ⟨ss, pm, hys⟩
    have hyl := hys.1
    refine ⟨fun i σ' H' => ∃ s6 s7, σ' = [some (.str (tx (progT ls))), some wv, some dv, some (.ref a), some (.ref t), some (.ref f), s6, s7] ∧ Ex H6 H' ∧ ∀ s, s ∈ ss.take i → fitB ts fs s = false, ⟨none, none, rfl, Ex.refl _, fun s hs => by simp at hs⟩, fun i σ' H' _ ⟨_, _, _, e, _⟩ => sq_of (e _ _ hp6), ?_, ?_⟩
    · rintro i x σ' H' hx ⟨s6, s7, rfl, e', hno⟩
      obtain ⟨s, hs, q, rfl, hq⟩ := AllV.at hys hx
      have hmem : s ∈ wsOf rs := pm.mem_iff.mp (List.mem_of_getElem? hs)
      have ht' := e' _ _ (e6 _ _ h35)
      have hf' := e' _ _ (e6 _ _ h5)
      have hq' := e' _ _ hq
      show tIfS _ _ _ _ _ _
      refine s_when (b := fitB ts fs s) (et_and (et_B (ev_lock (d := t) ht' trivial (fun od => ?_))) (fun _ => et_not (et_B (ev_lock (d := f) hf' trivial (fun od => ?_))))) (fun hb H7 e7 => ?_) (fun hb H7 e7 => ?_)
      · exact ev_allc (K := K) (p := fun c => decide (c ∈ s)) (as := ts) (inj := nmV) (ei_dk (ev_var rfl) upd_same) (by omega) (fun _ => rfl) (fun c _ H9 e9 => ev_inT (K := K) (ev_var rfl) (ev_var rfl) (st_of (e9 _ _ (by rw [upd_ne (fun x => by subst x; rw [ht'] at hq'; cases hq')]; exact hq'))))
      · exact ev_anyc (K := K) (p := fun c => decide (c ∈ s)) (as := fs) (inj := nmV) (ei_dk (ev_var rfl) upd_same) (by omega) (fun _ => rfl) (fun c _ H9 e9 => ev_inT (K := K) (ev_var rfl) (ev_var rfl) (st_of (e9 _ _ (by rw [upd_ne (fun x => by subst x; rw [hf'] at hq'; cases hq')]; exact hq'))))
      · exact s_ret (ev_var rfl) (fun H8 e8 => k.1 s hmem hb q H8 (e15.trans (e6.trans (e'.trans (e7.trans e8)))) ((e7.trans e8) _ _ hq'))
      · refine ⟨_, _, rfl, e'.trans e7, fun z hz => ?_⟩
        rw [List.take_add_one, hs, List.mem_append] at hz
        rcases hz with hz | hz
        · exact hno z hz
        · have : z = s := by simpa using hz
          rw [this]; exact hb
    · rintro σ' H' ⟨s6, s7, rfl, e', hno⟩
      rw [hyl, List.take_length] at hno
      exact s_ret ev_c (fun H7 e7 => k.2 (fun s hs => hno s (pm.mem_iff.mpr hs)) H7 (e15.trans (e6.trans (e'.trans e7))))

end
end Tx
end
section
set_option Elab.async false
set_option linter.all false
set_option maxRecDepth 100000
set_option maxHeartbeats 4000000
namespace Tx
open PySem PySem.Spec PyProof.Rows L2 Evl Wk
section
variable {w : World} {K : PySem.W.Frag} {mg : Str → Option Value} {base : Heap}

def sp_wt_all (K : PySem.W.Frag) : Sp := fun vs H Q _ => ∃ (a : Addr) (rs : List Rw), vs = [.ref a] ∧ RowsAt rs a H ∧ rs.length ≤ 7 ∧ (∀ r, r ∈ rs → r.2.1.length ≤ 2 ∧ r.2.2.length ≤ 2) ∧ RetL (nmL (namesOf rs)) H Q
def allNs (rs : List Rw) : List Nat := (rs.map rowNs).flatten
theorem allNs_rise (rs : List Rw) : riseOf (allNs rs) = namesOf rs := ris_unique (riseOf_ris _) (namesOf_ris rs) fun c => by
  rw [riseOf_mem, namesOf_mem]
  unfold allNs
  rw [List.mem_flatten]
  constructor
  · rintro ⟨l, hl, hc⟩
    obtain ⟨r, hr, rfl⟩ := List.mem_map.mp hl
    exact ⟨r, hr, hc⟩
  · rintro ⟨r, hr, hc⟩
    exact ⟨_, List.mem_map.mpr ⟨r, hr, rfl⟩, hc⟩
theorem allNs_take {rs : List Rw} {i : Nat} {r : Rw} (h : rs[i]? = some r) : allNs (rs.take (i + 1)) = allNs (rs.take i) ++ rowNs r := by
  unfold allNs
  rw [List.take_add_one, h, List.map_append, List.flatten_append]
  simp
theorem sc__law_wt_named_all : FnScope ["clauses", "found", "head", "wanted", "denied"] ["clauses"] (defScope s__law_wt_named_all) := ⟨rfl, rfl, rfl, by decide +kernel, rfl, by decide +kernel, by decide +kernel⟩
theorem ok__law_wt_named_all (Z : Zx K mg) : OkD prog w K mg base CX0 1 "_law_wt_named_all" ["clauses"] (sp_wt_all K) := by
  obtain ⟨fd, F0⟩ := Z.fun_ 52
  have F : Fun K "_law_wt_named_all" "_law_wt_named_all" s__law_wt_named_all (He.ga K "_law_wt_named_all") fd := Wk.fun_of F0
  have n_set := Z.free 68 (x := "set")
  have n_sorted := Z.free 69 (x := "sorted")
  refine ⟨fd, ?_, F.binds (ps := ["clauses"]) fun _ _ _ _ _ _ us hl => match us, hl with | [_], _ => rfl, Z.glo 42, F.kp⟩
  refine F.ok sc__law_wt_named_all (fun vs H Q E h => ?_) (fun cdv A outer s H vs Q E hr h => ?_)
  · obtain ⟨a, rs, rfl, ⟨us, ha, hall⟩, hn, hsz, k⟩ := h
    rfl
  · obtain ⟨a, rs, rfl, ⟨us, ha, hall⟩, hn, hsz, k⟩ := h
    refine ⟨_, (pss_cons (ps_set (i := 1) sc__law_wt_named_all.nd rfl (by first | exact Or.inl rfl | exact Or.inr rfl) (pe_lst pa_nil)) (pss_cons (ps_for PassesOwn.never rfl (pi_list (pv 0)) (pg_tup rfl (pgs_cons (pg_name (i := 2) sc__law_wt_named_all.nd rfl (by first | exact Or.inl rfl | exact Or.inr rfl)) (pgs_cons (pg_name (i := 3) sc__law_wt_named_all.nd rfl (by first | exact Or.inl rfl | exact Or.inr rfl)) (pgs_cons (pg_name (i := 4) sc__law_wt_named_all.nd rfl (by first | exact Or.inl rfl | exact Or.inr rfl)) pgs_nil)))) (pss_one (ps_expr (pe_bm PySem.F.plainAttrs_list PySem.F.slot_list_extend PySem.F.type_list_extend mt_extend (pv 1) (pa_cons (pe_op op_cat (pe_op op_cat (pe_lst (pa_cons (pv 2) pa_nil)) (pv 3)) (pv 4)) pa_nil))))) (pss_one (ps_ret (pe_callB (TXS.cr_sortX rfl) (by rfl) n_sorted (by decide +kernel) (pa_cons (pe_callTy (TXS.cr_setX rfl) (by rfl) n_set (by decide +kernel) (pa_cons (pv 1) pa_nil)) pa_nil)))))), ?_⟩
    have hul := hall.1
    refine q_asgL (xs := []) (el_lst ea_nil (few5 rfl)) (fun o H1 ho e1 h1 => ?_)
    refine q_forL (K := K) (xs := us) (ev_var rfl) (sq_of (e1 _ _ ha)) (fun i σ' H' => ∃ s2 s3 s4, σ' = [some (.ref a), some (.ref o), s2, s3, s4] ∧ Ex H H' ∧ H' o = some (.lst (nmL (allNs (rs.take i)))) ∧ (allNs (rs.take i)).length ≤ 5 * i) (fun H2 e2 => ⟨none, none, none, rfl, e1.trans e2, e2 _ _ h1, by simp [allNs]⟩) (fun i σ' H' _ ⟨_, _, _, _, e, _⟩ => sq_of (e _ _ ha)) ?_ ?_
    · rintro i x σ' H' hx ⟨s2, s3, s4, rfl, e', ho', hlen⟩
      obtain ⟨r, hr, p, w, dn, rfl, c1, c2, c3⟩ := AllV.at hall hx
      obtain ⟨z1, z2⟩ := hsz r (List.mem_of_getElem? hr)
      have hi : i < us.length := (List.getElem?_eq_some_iff.mp hx).1
      refine ⟨p, _, rfl, st_of (e' _ _ c1), rfl, _, _, rfl, _, _, rfl, _, _, rfl, rfl, ?_⟩
      have hrl : (rowNs r).length ≤ 5 := by unfold rowNs; rw [List.length_cons, List.length_append]; omega
      refine s_extX (xs := nmL (allNs (rs.take i))) (PL := fun zs H => zs = nmL (rowNs r)) ho' (ev_var rfl) ((x_evL (el_cat (el_cat (el_lst (ea_cons (ev_var rfl) ea_nil) (few5 rfl)) (ev_var rfl) (e' _ _ c2) (by rw [nmL_len]; show 1 + _ ≤ _; omega)) (ev_var rfl) (e' _ _ c3) (by rw [List.length_append, nmL_len, nmL_len]; show 1 + _ + _ ≤ _; omega))).imp ?_) ?_ ?_
      · rintro v H2 ⟨q, rfl, _, hq⟩
        refine ⟨q, _, rfl, hq, ?_⟩
        unfold nmL rowNs
        rw [List.map_cons, List.map_append]
        rfl
      · rintro zs H2 rfl
        rw [nmL_len, nmL_len]
        omega
      · rintro zs H2 e2 rfl
        refine ⟨_, _, _, rfl, Ex.mut (e'.trans e2) ho, ?_, by rw [allNs_take hr, List.length_append]; omega⟩
        rw [upd_same, allNs_take hr]
        unfold nmL
        rw [List.map_append]
    · rintro σ' H' ⟨s2, s3, s4, rfl, e', ho', hlen⟩
      rw [hul, List.take_length] at ho' hlen
      have := el_setA (K := K) (P := prog) (w := w) (σ := [some (.ref a), some (.ref o), s2, s3, s4]) (te := tVar 1) (ns := allNs rs) (ev_var rfl) (.inr ho') (by omega)
      rw [allNs_rise] at this
      exact s_retL this (fun p H2 hp e2 h2 => k p H2 (fresh_back e' hp) (e'.trans e2) h2)

end
end Tx
end
section
set_option Elab.async false
set_option linter.all false
set_option maxRecDepth 100000
set_option maxHeartbeats 4000000
namespace Tx
open PySem PySem.Spec PyProof.Rows L2 Evl Wk
section
variable {w : World} {K : PySem.W.Frag} {mg : Str → Option Value} {base : Heap}

def GrownL (B : Hp) (a b : Addr) (rs : List Rw) (ts fs t0 f0 : List Nat) (v : V) (H : Hp) : Prop := ∃ p t f ts' fs', v = .ref p ∧ H p = some (.tup [.ref t, .ref f]) ∧ H t = some (.lst (nmL ts')) ∧ H f = some (.lst (nmL fs')) ∧
  Eqm ts' (growOf rs t0 f0).1 ∧ Eqm fs' (growOf rs t0 f0).2 ∧ ts'.length ≤ ts.length + 154 ∧ fs'.length ≤ fs.length + 154 ∧ (t = a ∨ B t = none) ∧ (f = b ∨ B f = none)
def sp_law_grow (K : PySem.W.Frag) : Sp := fun vs H Q _ => ∃ (a n t f : Addr) (rs : List Rw) (ts fs t0 f0 : List Nat), vs = [.ref a, .ref n, .ref t, .ref f] ∧ RowsAt rs a H ∧ SzRs rs ∧ rs.length ≤ 7 ∧ (namesOf rs).length ≤ 7 ∧ H n = some (.lst (nmL (namesOf rs))) ∧
  H t = some (.lst (nmL ts)) ∧ H f = some (.lst (nmL fs)) ∧ Eqm ts t0 ∧ Eqm fs f0 ∧ ts.length ≤ 20000 ∧ fs.length ≤ 20000 ∧ ∀ v H', Ex H H' → GrownL H t f rs ts fs t0 f0 v H' → Q v H'
theorem q_catN {σ : L2.St} {H : Hp} {ta tb : TE} {a b : Addr} {xs ys : List Nat} (ha : Ev ta σ H (.ref a)) (h1 : H a = some (.lst (nmL xs))) (hb : Ev tb σ H (.ref b)) (h2 : H b = some (.lst (nmL ys))) (hz : xs.length + ys.length ≤ 100000) :
    EvX (tOp rCat ta tb) σ H (fun v H' => ∃ p, v = .ref p ∧ H p = none ∧ H' p = some (.lst (nmL (xs ++ ys)))) := fun H1 e Q q =>
  ha H1 e _ fun H2 e2 => hb H2 (e.trans e2) _ fun H3 e3 => ⟨a, b, nmL xs, nmL ys, rfl, rfl, ((e.trans e2).trans e3) _ _ h1, ((e.trans e2).trans e3) _ _ h2, sz_of (by rw [nmL_len, nmL_len]; exact hz), fun o ho => q _ _ ((e2.trans e3).trans (Ex.new ho)) ⟨o, rfl, fresh_back (e.trans (e2.trans e3)) ho, by rw [upd_same]; unfold nmL; rw [List.map_append]⟩⟩
theorem s_asgTupX {σ : L2.St} {H : Hp} {te : TE} {D : Ends} {i j : Nat} {P2 : V → V → Hp → Prop} (h : EvX te σ H (fun u H' => ∃ p x y, u = .ref p ∧ H' p = some (.tup [x, y]) ∧ P2 x y H')) (k : ∀ x y H1, Ex H H1 → P2 x y H1 → D.nx ((σ.set i (some x)).set j (some y)) H1) :
    tAsg te (gTup K 2 (gCons (gName i) (gCons (gName j) gNil))) D σ H := h H (Ex.refl H) _ fun u H1 e ⟨p, x, y, eu, hp, p2⟩ => by
  subst eu
  exact ⟨p, _, rfl, st_of hp, rfl, _, _, rfl, _, _, rfl, rfl, k x y H1 e p2⟩
theorem sc__law_grow : FnScope ["clauses", "names", "true", "false", "is_new", "name", "more", "head", "wanted", "denied", "high", "turn", "is_open", "less"] ["clauses", "names", "true", "false"] (defScope s__law_grow) := ⟨rfl, rfl, rfl, by decide +kernel, rfl, by decide +kernel, by decide +kernel⟩
theorem ok__law_grow (Z : Zx K mg) : OkD prog w K mg base CX0 1 "_law_grow" ["clauses", "names", "true", "false"] (sp_law_grow K) := by
  obtain ⟨fd, F0⟩ := Z.fun_ 53
  have F : Fun K "_law_grow" "_law_grow" s__law_grow (He.ga K "_law_grow") fd := Wk.fun_of F0
  have n_all := Z.free 57 (x := "all")
  have n_any := Z.free 58 (x := "any")
  have n_len := Z.free 63 (x := "len")
  have n_range := Z.free 67 (x := "range")
  refine ⟨fd, ?_, F.binds (ps := ["clauses", "names", "true", "false"]) fun _ _ _ _ _ _ us hl => match us, hl with | [_, _, _, _], _ => rfl, Z.glo 43, F.kp⟩
  refine F.ok sc__law_grow (fun vs H Q E h => ?_) (fun cdv A outer s H vs Q E hr h => ?_)
  · obtain ⟨a, n, t, f, rs, ts, fs, t0, f0, rfl, hrs, hsz, hr7, hn7, hn, ht, hf, q1, q2, hl1, hl2, k⟩ := h
    rfl
  · obtain ⟨a, n, t, f, rs, ts, fs, t0, f0, rfl, hrs, hsz, hr7, hn7, hn, ht, hf, q1, q2, hl1, hl2, k⟩ := h
    refine ⟨_, (pss_cons (ps_set (i := 4) sc__law_grow.nd rfl (by first | exact Or.inl rfl | exact Or.inr rfl) pe_bl) (pss_cons (ps_while PassesOwn.never (pw_and (pt_val (pv 4)) (pw_and1 (pt_not (pt_val (pe_callB (cr_any rfl) (by rfl) n_any (by decide +kernel) (pa_cons (pe_lc (te := (tOp (rIn K false) (tVar 5) (tVar 3))) (own := [("name", 5)]) rfl sc__law_grow.nd (pi_list (pv 2)) (blkOk_by (own := [("name", 5)]) (N := ["clauses", "names", "true", "false", "is_new", "name", "more", "head", "wanted", "denied", "high", "turn", "is_open", "less"]) (sc := defScope s__law_grow) (by decide +kernel)) (fun _ _ _ _ _ => pg_name (i := 5) sc__law_grow.nd rfl (by first | exact Or.inl rfl | exact Or.inr rfl)) (fun _ _ _ _ _ => pts_nil) (fun _ _ _ _ _ => (pe_cmpR op_in_seq (pv 5) (pv 3) rfl))) pa_nil)))))).pt (pss_cons (ps_set (i := 4) sc__law_grow.nd rfl (by first | exact Or.inl rfl | exact Or.inr rfl) pe_bl) (pss_cons (ps_set (i := 6) sc__law_grow.nd rfl (by first | exact Or.inl rfl | exact Or.inr rfl) (pe_lst pa_nil)) (pss_cons (ps_for PassesOwn.never rfl (pi_list (pv 0)) (pg_tup rfl (pgs_cons (pg_name (i := 7) sc__law_grow.nd rfl (by first | exact Or.inl rfl | exact Or.inr rfl)) (pgs_cons (pg_name (i := 8) sc__law_grow.nd rfl (by first | exact Or.inl rfl | exact Or.inr rfl)) (pgs_cons (pg_name (i := 9) sc__law_grow.nd rfl (by first | exact Or.inl rfl | exact Or.inr rfl)) pgs_nil)))) (pss_one (ps_if (pw_and (pt_val (pe_callB (cr_all rfl) (by rfl) n_all (by decide +kernel) (pa_cons (pe_lc (te := (tOp (rIn K false) (tVar 5) (tVar 2))) (own := [("name", 5)]) rfl sc__law_grow.nd (pi_list (pv 8)) (blkOk_by (own := [("name", 5)]) (N := ["clauses", "names", "true", "false", "is_new", "name", "more", "head", "wanted", "denied", "high", "turn", "is_open", "less"]) (sc := defScope s__law_grow) (by decide +kernel)) (fun _ _ _ _ _ => pg_name (i := 5) sc__law_grow.nd rfl (by first | exact Or.inl rfl | exact Or.inr rfl)) (fun _ _ _ _ _ => pts_nil) (fun _ _ _ _ _ => (pe_cmpR op_in_seq (pv 5) (pv 2) rfl))) pa_nil))) (pw_and1 (pt_val (pe_callB (cr_all rfl) (by rfl) n_all (by decide +kernel) (pa_cons (pe_lc (te := (tOp (rIn K false) (tVar 5) (tVar 3))) (own := [("name", 5)]) rfl sc__law_grow.nd (pi_list (pv 9)) (blkOk_by (own := [("name", 5)]) (N := ["clauses", "names", "true", "false", "is_new", "name", "more", "head", "wanted", "denied", "high", "turn", "is_open", "less"]) (sc := defScope s__law_grow) (by decide +kernel)) (fun _ _ _ _ _ => pg_name (i := 5) sc__law_grow.nd rfl (by first | exact Or.inl rfl | exact Or.inr rfl)) (fun _ _ _ _ _ => pts_nil) (fun _ _ _ _ _ => (pe_cmpR op_in_seq (pv 5) (pv 3) rfl))) pa_nil))))).pt (pss_one (ps_expr (pe_bm PySem.F.plainAttrs_list PySem.F.slot_list_extend PySem.F.type_list_extend mt_extend (pv 6) (pa_cons (pe_ifExp (pt_cmpR op_notIn_seq (pv 7) (pv 2) rfl) (pe_lst (pa_cons (pv 7) pa_nil)) (pe_lst pa_nil)) pa_nil)))) pss_nil))) (pss_cons (ps_set (i := 10) sc__law_grow.nd rfl (by first | exact Or.inl rfl | exact Or.inr rfl) (pe_lst pa_nil)) (pss_cons (ps_for PassesOwn.never rfl (pi_range1 (by rfl) n_range (pa_cons (pe_op op_add (pe_callB call_len_seq (by rfl) n_len (by decide +kernel) (pa_cons (pv 0) pa_nil)) pe_int) pa_nil)) (pg_name (i := 11) sc__law_grow.nd rfl (by first | exact Or.inl rfl | exact Or.inr rfl)) (pss_one (ps_for PassesOwn.never rfl (pi_list (pv 0)) (pg_tup rfl (pgs_cons (pg_name (i := 7) sc__law_grow.nd rfl (by first | exact Or.inl rfl | exact Or.inr rfl)) (pgs_cons (pg_name (i := 8) sc__law_grow.nd rfl (by first | exact Or.inl rfl | exact Or.inr rfl)) (pgs_cons (pg_name (i := 9) sc__law_grow.nd rfl (by first | exact Or.inl rfl | exact Or.inr rfl)) pgs_nil)))) (pss_cons (ps_set (i := 12) sc__law_grow.nd rfl (by first | exact Or.inl rfl | exact Or.inr rfl) (pe_and (pe_not (pe_callB (cr_any rfl) (by rfl) n_any (by decide +kernel) (pa_cons (pe_lc (te := (tOp (rIn K false) (tVar 5) (tVar 3))) (own := [("name", 5)]) rfl sc__law_grow.nd (pi_list (pv 8)) (blkOk_by (own := [("name", 5)]) (N := ["clauses", "names", "true", "false", "is_new", "name", "more", "head", "wanted", "denied", "high", "turn", "is_open", "less"]) (sc := defScope s__law_grow) (by decide +kernel)) (fun _ _ _ _ _ => pg_name (i := 5) sc__law_grow.nd rfl (by first | exact Or.inl rfl | exact Or.inr rfl)) (fun _ _ _ _ _ => pts_nil) (fun _ _ _ _ _ => (pe_cmpR op_in_seq (pv 5) (pv 3) rfl))) pa_nil))) (pe_one (pe_not (pe_callB (cr_any rfl) (by rfl) n_any (by decide +kernel) (pa_cons (pe_lc (te := (tOp (rIn K false) (tVar 5) (tVar 2))) (own := [("name", 5)]) rfl sc__law_grow.nd (pi_list (pv 9)) (blkOk_by (own := [("name", 5)]) (N := ["clauses", "names", "true", "false", "is_new", "name", "more", "head", "wanted", "denied", "high", "turn", "is_open", "less"]) (sc := defScope s__law_grow) (by decide +kernel)) (fun _ _ _ _ _ => pg_name (i := 5) sc__law_grow.nd rfl (by first | exact Or.inl rfl | exact Or.inr rfl)) (fun _ _ _ _ _ => pts_nil) (fun _ _ _ _ _ => (pe_cmpR op_in_seq (pv 5) (pv 2) rfl))) pa_nil)))))) (pss_one (ps_if (pw_and (pt_val (pv 12)) (pw_and (pt_cmpR op_notIn_seq (pv 7) (pv 10) rfl) (pw_and1 (pt_val (pe_callB (cr_all rfl) (by rfl) n_all (by decide +kernel) (pa_cons (pe_lc (te := (tOp (rIn K false) (tVar 5) (tVar 10))) (own := [("name", 5)]) rfl sc__law_grow.nd (pi_list (pv 8)) (blkOk_by (own := [("name", 5)]) (N := ["clauses", "names", "true", "false", "is_new", "name", "more", "head", "wanted", "denied", "high", "turn", "is_open", "less"]) (sc := defScope s__law_grow) (by decide +kernel)) (fun _ _ _ _ _ => pg_name (i := 5) sc__law_grow.nd rfl (by first | exact Or.inl rfl | exact Or.inr rfl)) (fun _ _ _ _ _ => pts_nil) (fun _ _ _ _ _ => (pe_cmpR op_in_seq (pv 5) (pv 10) rfl))) pa_nil)))))).pt (pss_one (ps_expr (pe_bm PySem.F.plainAttrs_list PySem.F.slot_list_append PySem.F.type_list_append mt_append (pv 10) (pa_cons (pv 7) pa_nil)))) pss_nil)))))) (pss_cons (ps_setLc (i := 13) (tt := (tAnd (tTest (tOp (rIn K true) (tVar 5) (tVar 10))) (tTest (tOp (rIn K true) (tVar 5) (tVar 3))))) (own := [("name", 5)]) rfl sc__law_grow.nd rfl rfl (sw_true rfl rfl rfl (by decide +kernel)) (pi_list (pv 1)) (blkOk_by (own := [("name", 5)]) (N := ["clauses", "names", "true", "false", "is_new", "name", "more", "head", "wanted", "denied", "high", "turn", "is_open", "less"]) (sc := defScope s__law_grow) (by decide +kernel)) (fun _ _ _ _ _ => pg_name (i := 5) sc__law_grow.nd rfl (by first | exact Or.inl rfl | exact Or.inr rfl)) (fun _ _ _ _ _ => pts_one (pw_and (pt_cmpR op_notIn_seq (pv 5) (pv 10) rfl) (pw_and1 (pt_cmpR op_notIn_seq (pv 5) (pv 3) rfl))).pt) (fun _ _ _ _ _ => (pv 5))) (pss_cons (ps_set (i := 4) sc__law_grow.nd rfl (by first | exact Or.inl rfl | exact Or.inr rfl) (pe_cmpR op_gt (pe_op op_add (pe_callB call_len_seq (by rfl) n_len (by decide +kernel) (pa_cons (pv 6) pa_nil)) (pe_callB call_len_seq (by rfl) n_len (by decide +kernel) (pa_cons (pv 13) pa_nil))) pe_int (nomark _))) (pss_one (ps_asg (pe_tup (pa_cons (pe_op op_cat (pv 2) (pv 6)) (pa_cons (pe_op op_cat (pv 3) (pv 13)) pa_nil))) (pg_tup rfl (pgs_cons (pg_name (i := 2) sc__law_grow.nd rfl (by first | exact Or.inl rfl | exact Or.inr rfl)) (pgs_cons (pg_name (i := 3) sc__law_grow.nd rfl (by first | exact Or.inl rfl | exact Or.inr rfl)) pgs_nil))))))))))))) (pss_one (ps_ret (pe_tup (pa_cons (pv 2) (pa_cons (pv 3) pa_nil))))))), ?_⟩
    obtain ⟨us, ha, hall⟩ := hrs
    have hul := hall.1
    have hm1 : miss (namesOf rs) t0 ≤ 7 := Nat.le_trans (List.length_filter_le _ _) hn7
    have hm2 : miss (namesOf rs) f0 ≤ 7 := Nat.le_trans (List.length_filter_le _ _) hn7
    refine q_asg ev_c (fun H1 e1 => ?_)
    obtain ⟨W, hW⟩ : ∃ W : Nat → L2.St → Hp → Prop, W = fun m σ' H' => ∃ (t' f' : Addr) (ts' fs' t1 f1 : List Nat) (new : Bool) (s6 s7 s8 s9 s10 s11 s12 s13 : Option V), σ' = [some (.ref a), some (.ref n), some (.ref t'), some (.ref f'), some (.bl new), none, s6, s7, s8, s9, s10, s11, s12, s13] ∧ Ex H H' ∧ H' t' = some (.lst (nmL ts')) ∧ H' f' = some (.lst (nmL fs')) ∧ Eqm ts' t1 ∧ Eqm fs' f1 ∧ ((t' = t ∨ H t' = none) ∧ (f' = f ∨ H f' = none)) ∧
      ts'.length + 7 * m ≤ ts.length + 154 ∧ fs'.length + 7 * m ≤ fs.length + 154 ∧
      (new = true → ∃ j, m = j + 1 ∧ miss (namesOf rs) t1 + miss (namesOf rs) f1 + 1 ≤ j ∧ growOf rs t0 f0 = growN rs j t1 f1) ∧ (new = false → m = 0 ∧ growOf rs t0 f0 = (t1, f1)) := ⟨_, rfl⟩
    refine q_while W (miss (namesOf rs) t0 + miss (namesOf rs) f0 + 2) (by
      rw [hW]
      exact ⟨t, f, ts, fs, t0, f0, true, none, none, none, none, none, none, none, none, rfl, e1, e1 _ _ ht, e1 _ _ hf, q1, q2, ⟨.inl rfl, .inl rfl⟩, by omega, by omega, fun _ => ⟨_, rfl, Nat.le_refl _, rfl⟩, fun h => by cases h⟩) ?_
    intro m σ' H' hw
    rw [hW] at hw
    obtain ⟨t', f', ts', fs', t1, f1, new, s6, s7, s8, s9, s10, s11, s12, s13, rfl, e', ht', hf', p1, p2, pf, b1, b2, w1, w2⟩ := hw
    refine ⟨new && !shutB t1 f1, et_is (et_and (et_B (ev_var rfl)) (fun _ => et_not (et_B (ev_anyc (K := K) (p := fun c => decide (c ∈ fs')) (as := ts') (inj := nmV) (ei_L (K := K) (ev_var rfl) (sq_of ht')) (by omega) (fun _ => rfl) (fun c _ H9 e9 => ev_inL (K := K) (ev_var rfl) (ev_var rfl) (sq_of (e9 _ _ hf'))))))) (by rw [← shut_eqm p1 p2]; rfl), fun hb H3 e3 => ?_, fun hb H3 e3 => ?_⟩
    · obtain ⟨hb1, hb2⟩ := Bool.and_eq_true_iff.mp hb
      subst hb1
      have hns : ¬ shutB t1 f1 = true := by rw [not_t hb2]; decide
      obtain ⟨j, rfl, hj1, hfix⟩ := w1 rfl
      obtain ⟨j, rfl⟩ : ∃ j', j = j' + 1 := ⟨j - 1, by omega⟩
      have hstep : growN rs (j + 1) t1 f1 = if shutB t1 f1 = true then (t1, f1) else
        if forcedT rs t1 f1 = [] ∧ forcedF rs t1 f1 = [] then (t1, f1) else growN rs j (addAll t1 (forcedT rs t1 f1)) (addAll f1 (forcedF rs t1 f1)) := rfl
      rw [hstep, if_neg hns] at hfix
      have qT : forcedT rs ts' fs' = forcedT rs t1 f1 := forcedT_eqm p1 p2
      have qF : forcedF rs ts' fs' = forcedF rs t1 f1 := forcedF_eqm p1 p2
      have lT : (forcedT rs ts' fs').length ≤ 7 := Nat.le_trans (forcedT_len rs ts' fs') hr7
      have lF : (forcedF rs ts' fs').length ≤ 7 := Nat.le_trans (List.length_filter_le _ _) hn7
      refine ⟨fun σ2 H4 => ∃ m', m' < j + 1 + 1 ∧ W m' σ2 H4, fun _ _ h => h, ?_⟩
      refine q_asg ev_c (fun H4 e4 => ?_)
      refine q_asgL (xs := []) (el_lst ea_nil (few5 rfl)) (fun mo H5 hmo e5 h5 => ?_)
      have e05 := e'.trans (e3.trans (e4.trans e5))
      have e35 := e3.trans (e4.trans e5)
      have ht5 := e35 _ _ ht'
      have hf5 := e35 _ _ hf'
      have hmo0 : H mo = none := fresh_back (e'.trans (e3.trans e4)) hmo
      have hmt : mo ≠ t' := ne_new ((e3.trans e4) _ _ ht') hmo |>.symm
      have hmf : mo ≠ f' := ne_new ((e3.trans e4) _ _ hf') hmo |>.symm
      refine q_forL (K := K) (xs := us) (ev_var rfl) (sq_of (e05 _ _ ha)) (fun i σ' H6 => ∃ s7 s8 s9, σ' = [some (.ref a), some (.ref n), some (.ref t'), some (.ref f'), some (.bl false), none, some (.ref mo), s7, s8, s9, s10, s11, s12, s13] ∧ Ex (del H5 mo) H6 ∧ H6 mo = some (.lst (nmL (forcedT (rs.take i) ts' fs'))))
        (fun H6 e6 => ⟨s7, s8, s9, rfl, (ex_del H5 mo).trans e6, e6 _ _ h5⟩) (fun i σ' H6 _ ⟨_, _, _, _, e, _⟩ => sq_of (e _ _ (by rw [del_ne (fun x => by subst x; rw [ha] at hmo0; cases hmo0)]; exact e05 _ _ ha))) ?_ ?_
      · rintro i x σ' H6 hx ⟨s7, s8, s9, rfl, e6, ho6⟩
        obtain ⟨r, hr, pr, wa, dn, rfl, c1, c2, c3⟩ := AllV.at hall hx
        obtain ⟨z1, z2⟩ := hsz.2.1 r (List.mem_of_getElem? hr)
        have back : ∀ b o, H b = some o → H6 b = some o := fun b o h => e6 _ _ (by rw [del_ne (fun x => by subst x; rw [h] at hmo0; cases hmo0)]; exact e05 _ _ h)
        have ht6 : H6 t' = some (.lst (nmL ts')) := e6 _ _ (by rw [del_ne hmt.symm]; exact ht5)
        have hf6 : H6 f' = some (.lst (nmL fs')) := e6 _ _ (by rw [del_ne hmf.symm]; exact hf5)
        have c2 := back _ _ c2
        have c3 := back _ _ c3
        refine ⟨pr, _, rfl, st_of (back _ _ c1), rfl, _, _, rfl, _, _, rfl, _, _, rfl, rfl, ?_⟩
        have hft := forcedT_len (rs.take i) ts' fs'
        rw [List.length_take] at hft
        refine s_when (b := (r.2.1.all (fun c => decide (c ∈ ts')) && r.2.2.all (fun c => decide (c ∈ fs')))) (et_and (et_B (ev_allc (K := K) (p := fun c => decide (c ∈ ts')) (as := r.2.1) (inj := nmV) (ei_L (K := K) (ev_var rfl) (sq_of c2)) (by omega) (fun _ => rfl) (fun c _ H9 e9 => ev_inL (K := K) (ev_var rfl) (ev_var rfl) (sq_of (e9 _ _ ht6))))) (fun _ => et_B (ev_allc (K := K) (p := fun c => decide (c ∈ fs')) (as := r.2.2) (inj := nmV) (ei_L (K := K) (ev_var rfl) (sq_of c3)) (by omega) (fun _ => rfl) (fun c _ H9 e9 => ev_inL (K := K) (ev_var rfl) (ev_var rfl) (sq_of (e9 _ _ hf6)))))) (fun hb H7 e7 => ?_) (fun hb H7 e7 => ?_)
        · refine s_extX (xs := nmL (forcedT (rs.take i) ts' fs')) (PL := fun zs H => zs = nmL (if r.1 ∈ ts' then [] else [r.1])) (e7 _ _ ho6) (ev_var rfl) (x_if (b := !decide (r.1 ∈ ts')) (et_test (ev_niL (K := K) (ev_var rfl) (ev_var rfl) (sq_of (e7 _ _ ht6)))) (fun hc => (x_evL (el_lst (ea_cons (ev_var rfl) ea_nil) (few5 rfl))).imp ?_) (fun hc => (x_evL (el_lst ea_nil (few5 rfl))).imp ?_)) ?_ ?_
          · rintro v H8 ⟨q, rfl, _, hq⟩
            exact ⟨q, _, rfl, hq, by rw [if_neg (of_decide_eq_false (not_t hc))]; rfl⟩
          · rintro v H8 ⟨q, rfl, _, hq⟩
            exact ⟨q, _, rfl, hq, by rw [if_pos (of_decide_eq_true (not_f hc))]; rfl⟩
          · rintro zs H8 rfl
            rw [nmL_len, nmL_len]
            split <;> simp <;> omega
          · rintro zs H8 e8 rfl
            refine ⟨_, _, _, rfl, Ex.mut (e6.trans (e7.trans e8)) del_same, ?_⟩
            rw [upd_same, forcedT_take hr]
            have : okF ts' fs' r = !decide (r.1 ∈ ts') := by unfold okF; rw [hb, Bool.true_and]
            rw [this]
            unfold nmL
            rw [List.map_append]
            by_cases hc : r.1 ∈ ts' <;> simp [hc]
        · refine ⟨_, _, _, rfl, e6.trans e7, ?_⟩
          have : okF ts' fs' r = false := by unfold okF; rw [hb, Bool.false_and]
          rw [forcedT_take hr, this, if_neg (by decide), List.append_nil]
          exact e7 _ _ ho6
      rintro σ' H6 ⟨s7', s8', s9', rfl, e6, ho6⟩
      rw [hul, List.take_length] at ho6
      have back6 : ∀ b o, H b = some o → H6 b = some o := fun b o h => e6 _ _ (by rw [del_ne (fun x => by subst x; rw [h] at hmo0; cases hmo0)]; exact e05 _ _ h)
      have ht6 : H6 t' = some (.lst (nmL ts')) := e6 _ _ (by rw [del_ne hmt.symm]; exact ht5)
      have hf6 : H6 f' = some (.lst (nmL fs')) := e6 _ _ (by rw [del_ne hmf.symm]; exact hf5)
      have E6 : Ex H H6 := fun b o h => back6 b o h
      refine q_asgL (xs := []) (el_lst ea_nil (few5 rfl)) (fun hi H7 hhi e7 h7 => ?_)
      have hhi0 : H hi = none := fresh_back E6 hhi
      have E7 := E6.trans e7
      refine q_forR1 (n := ((rs.length + 1 : Nat) : Int)) (ea_cons (ev_is (ev_op (ev_len (ev_var rfl) (sq_of (E7 _ _ ha))) ev_c rv_I0) (by rw [hul]; rfl)) ea_nil) (by omega) (fun i σ' H8 => ∃ s7 s8 s9 s11 s12, σ' = [some (.ref a), some (.ref n), some (.ref t'), some (.ref f'), some (.bl false), none, some (.ref mo), s7, s8, s9, some (.ref hi), s11, s12, s13] ∧ Ex (del H7 hi) H8 ∧ H8 hi = some (.lst (nmL (itN (okH ts' fs') rs i))))
        (fun H8 e8 => ⟨s7', s8', s9', s11, s12, rfl, (ex_del H7 hi).trans e8, e8 _ _ h7⟩) ?_ ?_
      · rintro i σ' H8 hi2 ⟨s7, s8, s9, s11, s12, rfl, e8, ho8⟩
        have back8 : ∀ b o, b ≠ hi → H7 b = some o → H8 b = some o := fun b o hn h => e8 _ _ (by rw [del_ne hn]; exact h)
        have E8 : Ex H H8 := fun b o h => back8 b o (fun x => by subst x; rw [h] at hhi0; cases hhi0) (E7 _ _ h)
        have ht8 : H8 t' = some (.lst (nmL ts')) := back8 _ _ (ne_new ht6 hhi) (e7 _ _ ht6)
        have hf8 : H8 f' = some (.lst (nmL fs')) := back8 _ _ (ne_new hf6 hhi) (e7 _ _ hf6)
        have hc0 := itN_cnt (okH ts' fs') rs i
        refine s_forL (K := K) (xs := us) (ev_var rfl) (sq_of (E8 _ _ ha)) (fun q σ' H9 => ∃ s7 s8 s9 s12, σ' = [some (.ref a), some (.ref n), some (.ref t'), some (.ref f'), some (.bl false), none, some (.ref mo), s7, s8, s9, some (.ref hi), some (.int (i : Int)), s12, s13] ∧ Ex (del H8 hi) H9 ∧ H9 hi = some (.lst (nmL ((rs.take q).foldl (pStep (okH ts' fs')) (itN (okH ts' fs') rs i, false)).1)))
          (fun H9 e9 => ⟨s7, s8, s9, s12, rfl, (ex_del H8 hi).trans e9, e9 _ _ ho8⟩) (fun q σ' H9 _ ⟨_, _, _, _, _, e, _⟩ => sq_of (e _ _ (by rw [del_ne (fun x => by subst x; rw [ha] at hhi0; cases hhi0)]; exact E8 _ _ ha))) ?_ ?_
        · rintro q x σ' H9 hx ⟨s7, s8, s9, s12, rfl, e9, ho9⟩
          obtain ⟨r, hr, pr, wa, dn, rfl, c1, c2, c3⟩ := AllV.at hall hx
          have hrm := List.mem_of_getElem? hr
          obtain ⟨z1, z2⟩ := hsz.2.1 r hrm
          have back9 : ∀ b o, b ≠ hi → H8 b = some o → H9 b = some o := fun b o hn h => e9 _ _ (by rw [del_ne hn]; exact h)
          have back : ∀ b o, H b = some o → H9 b = some o := fun b o h => back9 b o (fun x => by subst x; rw [h] at hhi0; cases hhi0) (E8 _ _ h)
          have ht9 := back9 _ _ (ne_new ht6 hhi) ht8
          have hf9 := back9 _ _ (ne_new hf6 hhi) hf8
          have c2 := back _ _ c2
          have c3 := back _ _ c3
          have hcn := fold_cnt (ok := okH ts' fs') (all := rs) (rs.take q) (itN (okH ts' fs') rs i, false) (fun r hr => List.mem_of_mem_take hr) hc0
          refine ⟨pr, _, rfl, st_of (back _ _ c1), rfl, _, _, rfl, _, _, rfl, _, _, rfl, rfl, ?_⟩
          rw [pass_take hr, pStep_fst]
          generalize ((rs.take q).foldl (pStep (okH ts' fs')) (itN (okH ts' fs') rs i, false)) = S at *
          obtain ⟨g, nw⟩ := S
          dsimp only at ho9 hcn ⊢
          refine q_asg (v := .bl (okH ts' fs' r)) (ev_is (ev_andV (ev_notV (ev_anyc (K := K) (p := fun c => decide (c ∈ fs')) (as := r.2.1) (inj := nmV) (ei_L (K := K) (ev_var rfl) (sq_of c2)) (by omega) (fun _ => rfl) (fun c _ H10 e10 => ev_inL (K := K) (ev_var rfl) (ev_var rfl) (sq_of (e10 _ _ hf9))))) (fun _ => ev_notV (ev_anyc (K := K) (p := fun c => decide (c ∈ ts')) (as := r.2.2) (inj := nmV) (ei_L (K := K) (ev_var rfl) (sq_of c3)) (by omega) (fun _ => rfl) (fun c _ H10 e10 => ev_inL (K := K) (ev_var rfl) (ev_var rfl) (sq_of (e10 _ _ ht9)))))) (by unfold okH; rw [Bool.not_or])) (fun H10 e10 => ?_)
          refine s_when (b := okH ts' fs' r && (decide (r.1 ∉ g) && r.2.1.all fun c => decide (c ∈ g))) (et_is (et_and (et_B (ev_var rfl)) (fun _ => et_and (et_test (ev_niL (K := K) (ev_var rfl) (ev_var rfl) (sq_of (e10 _ _ ho9)))) (fun _ => et_B (ev_allc (K := K) (p := fun c => decide (c ∈ g)) (as := r.2.1) (inj := nmV) (ei_L (K := K) (ev_var rfl) (sq_of (e10 _ _ c2))) (by omega) (fun _ => rfl) (fun c _ H11 e11 => ev_inL (K := K) (ev_var rfl) (ev_var rfl) (sq_of (e11 _ _ (e10 _ _ ho9)))))))) (by rw [decide_not])) (fun hb H11 e11 => ?_) (fun hb H11 e11 => ?_)
          · rw [if_pos hb]
            refine s_app (xs := nmL g) ((e10.trans e11) _ _ ho9) (ev_var rfl) (ev_var (v := nmV r.1) rfl) (by rw [nmL_len]; omega) (fun H12 e12 => ⟨_, _, _, _, rfl, Ex.mut (e9.trans (e10.trans (e11.trans e12))) del_same, ?_⟩)
            rw [upd_same]
            unfold nmL
            rw [List.map_append]
            rfl
          · rw [if_neg (by rw [hb]; decide)]
            exact ⟨_, _, _, _, rfl, e9.trans (e10.trans e11), (e10.trans e11) _ _ ho9⟩
        · rintro σ' H9 ⟨s7, s8, s9, s12, rfl, e9, ho9⟩
          rw [hul, List.take_length] at ho9
          refine ⟨_, _, _, _, _, rfl, fun b o h => ?_, ho9⟩
          have hb : b ≠ hi := fun x => by subst x; rw [del_same] at h; cases h
          exact e9 _ _ (by rw [del_ne hb]; exact e8 _ _ h)
      rintro σ' H8 ⟨s7, s8, s9, s11', s12', rfl, e8, ho8⟩
      rw [show ((rs.length + 1 : Nat) : Int).toNat = rs.length + 1 from rfl, itN_fix] at ho8
      have back8 : ∀ b o, b ≠ hi → H7 b = some o → H8 b = some o := fun b o hn h => e8 _ _ (by rw [del_ne hn]; exact h)
      have hth : t' ≠ hi := ne_new ht6 hhi
      have hfh : f' ≠ hi := ne_new hf6 hhi
      have hmh : mo ≠ hi := ne_new ho6 hhi
      have ht8 := back8 _ _ hth (e7 _ _ ht6)
      have hf8 := back8 _ _ hfh (e7 _ _ hf6)
      have hm8 := back8 _ _ hmh (e7 _ _ ho6)
      have E8 : Ex H H8 := fun b o h => back8 b o (fun x => by subst x; rw [h] at hhi0; cases hhi0) (E7 _ _ h)
      have hn8 := E8 _ _ hn
      refine q_asgL (xs := nmL (forcedF rs ts' fs')) (el_lc (as := namesOf rs) (inj := nmV) (fun c => !decide (c ∈ fixOf (okH ts' fs') rs) && !decide (c ∈ fs')) nmV (ei_L (K := K) (ev_var rfl) (sq_of hn8)) (by omega) (fun _ => rfl)
          (fun c _ H9 e9 => et_and (et_test (ev_niL (K := K) (ev_var rfl) (ev_var rfl) (sq_of (e9 _ _ ho8)))) (fun _ => et_test (ev_niL (K := K) (ev_var rfl) (ev_var rfl) (sq_of (e9 _ _ hf8))))) (fun c _ H9 e9 _ => ev_var rfl)) (fun le H9 hle e9 h9 => ?_)
      refine q_asg (v := .bl (decide (¬ (forcedT rs ts' fs' = [] ∧ forcedF rs ts' fs' = [])))) (ev_is (ev_op (ev_op (ev_len (ev_var rfl) (sq_of (e9 _ _ hm8))) (ev_len (ev_var rfl) (sq_of h9)) rv_I0) ev_c rv_I0) ?_) (fun H10 e10 => ?_)
      · rw [nmL_len, nmL_len]
        congr 1
        rw [decide_eq_decide]
        show (0 : Int) < _ ↔ _
        rw [← List.length_eq_zero_iff, ← List.length_eq_zero_iff]
        omega
      have e810 := e9.trans e10
      refine s_asgTupX (P2 := fun x y H => ∃ t f, x = .ref t ∧ y = .ref f ∧ H10 t = none ∧ H10 f = none ∧ H t = some (.lst (nmL (ts' ++ forcedT rs ts' fs'))) ∧ H f = some (.lst (nmL (fs' ++ forcedF rs ts' fs')))) (EvX.imp (x_tup (x_cons (P := fun v H' => ∃ p, v = .ref p ∧ H10 p = none ∧ H' p = some (.lst (nmL (ts' ++ forcedT rs ts' fs')))) (q_catN (ev_var rfl) (e810 _ _ ht8) (ev_var rfl) (e810 _ _ hm8) (by omega)) (fun v H1 H2 e ⟨p, h1, h0, h2⟩ => ⟨p, h1, h0, e _ _ h2⟩) (x_one (P := fun v H' => ∃ p, v = .ref p ∧ H10 p = none ∧ H' p = some (.lst (nmL (fs' ++ forcedF rs ts' fs')))) (q_catN (ev_var rfl) (e810 _ _ hf8) (ev_var rfl) (e10 _ _ h9) (by omega)))) ?_ ?_) ?_) ?_
      · rintro vs H11 H12 e ⟨v, r, rfl, ⟨p, rfl, i1, h1⟩, v2, rfl, q, rfl, i2, h2⟩
        exact ⟨_, _, rfl, ⟨p, rfl, i1, e _ _ h1⟩, _, rfl, q, rfl, i2, e _ _ h2⟩
      · rintro vs H11 ⟨v, r, rfl, ⟨p, rfl, i1, h1⟩, v2, rfl, q, rfl, i2, h2⟩
        exact few5 rfl
      · rintro u H11 ⟨o, vs, rfl, ho, v, r, rfl, ⟨p, rfl, i1, h1⟩, v2, rfl, q, rfl, i2, h2⟩
        exact ⟨o, _, _, rfl, ho, p, q, rfl, rfl, i1, i2, h1, h2⟩
      rintro x y H11 e11 ⟨t2, f2, rfl, rfl, i1, i2, g1, g2⟩
      refine ⟨if forcedT rs t1 f1 = [] ∧ forcedF rs t1 f1 = [] then 0 else j + 1, by split <;> omega, ?_⟩
      rw [hW]
      refine ⟨t2, f2, _, _, addAll t1 (forcedT rs t1 f1), addAll f1 (forcedF rs t1 f1), _, _, _, _, _, _, _, _, _, rfl, E8.trans (e810.trans e11), g1, g2, by rw [← qT]; exact p1.app, by rw [← qF]; exact p2.app, ⟨.inr (fresh_back (E8.trans e810) i1), .inr (fresh_back (E8.trans e810) i2)⟩, ?_, ?_, fun h => ?_, fun h => ?_⟩
      · rw [List.length_append]
        split <;> omega
      · rw [List.length_append]
        split <;> omega
      · have h' := of_decide_eq_true h
        rw [qT, qF] at h'
        rw [if_neg h'] at hfix ⊢
        have := grow_lt h'
        exact ⟨j, rfl, by omega, hfix⟩
      · have h' := Decidable.not_not.mp (of_decide_eq_false h)
        rw [qT, qF] at h'
        rw [if_pos h'] at hfix ⊢
        refine ⟨rfl, ?_⟩
        rw [hfix, h'.1, h'.2]
        rfl
    · have hres : growOf rs t0 f0 = (t1, f1) := by
        cases new with
        | false => exact (w2 rfl).2
        | true =>
          obtain ⟨j, rfl, hj, hfix⟩ := w1 rfl
          obtain ⟨j, rfl⟩ : ∃ j', j = j' + 1 := ⟨j - 1, by omega⟩
          have hs : shutB t1 f1 = true := by
            rw [Bool.true_and] at hb
            exact not_f hb
          rw [hfix]
          unfold growN
          rw [if_pos hs]
      refine s_retU (xs := [.ref t', .ref f']) (eu_tup (ea_cons (ev_var rfl) (ea_cons (ev_var rfl) ea_nil)) (few5 rfl)) (fun p H4 hp e4 h4 => k _ H4 (e'.trans (e3.trans e4)) ⟨p, t', f', ts', fs', rfl, h4, (e3.trans e4) _ _ ht', (e3.trans e4) _ _ hf', by rw [hres]; exact p1, by rw [hres]; exact p2, by omega, by omega, pf.1, pf.2⟩)

end
end Tx
end
section
set_option Elab.async false
set_option linter.all false
set_option maxRecDepth 100000
set_option maxHeartbeats 4000000
namespace Tx
open PySem PySem.Spec PyProof.Rows L2 Evl Wk
section
variable {w : World} {K : PySem.W.Frag} {mg : Str → Option Value} {base : Heap}

def ItemE (B : Nat) (c : List Nat × List Nat) (v : V) (H : Hp) : Prop := ∃ p x y ts fs, v = .ref p ∧ H p = some (.tup [.ref x, .ref y]) ∧ (H x = some (.tup (nmL ts)) ∨ H x = some (.lst (nmL ts))) ∧ (H y = some (.tup (nmL fs)) ∨ H y = some (.lst (nmL fs))) ∧ Eqm ts c.1 ∧ Eqm fs c.2 ∧ ts.length ≤ B ∧ fs.length ≤ B
theorem ItemE.mo (B : Nat) (c : List Nat × List Nat) : Mo (ItemE B c) := fun v H H' e ⟨p, x, y, ts, fs, h1, h2, h3, h4, h5⟩ => ⟨p, x, y, ts, fs, h1, e _ _ h2, h3.imp (e _ _) (e _ _), h4.imp (e _ _) (e _ _), h5⟩
theorem ItemE.le {B B' : Nat} {c : List Nat × List Nat} {v : V} {H : Hp} (hb : B ≤ B') (h : ItemE B c v H) : ItemE B' c v H := by
  obtain ⟨p, x, y, ts, fs, h1, h2, h3, h4, h5, h6, h7, h8⟩ := h
  exact ⟨p, x, y, ts, fs, h1, h2, h3, h4, h5, h6, by omega, by omega⟩
theorem AllV.imp {α : Type} {P Q : α → V → Hp → Prop} {as : List α} {vs : List V} {H : Hp} (h : AllV P as vs H) (i : ∀ a v, P a v H → Q a v H) : AllV Q as vs H := ⟨h.1, fun j v a h1 h2 => i a v (h.2 j v a h1 h2)⟩
theorem el_listA {σ : L2.St} {H : Hp} {te : TE} {xs : List V} {p : Addr} (h : Ev te σ H (.ref p)) (hp : H p = some (.tup xs) ∨ H p = some (.lst xs)) : EvL (tCB (rLstS K) (tCons te tNil)) σ H xs := fun H1 e Q q => h H1 e _ fun H2 e2 => ⟨p, xs, rfl, by
  rcases hp with hp | hp
  · exact .inr (st_of ((e.trans e2) _ _ hp))
  · exact .inl (sq_of ((e.trans e2) _ _ hp)), fun l hl => q l _ (fresh_back e2 hl) (e2.trans (Ex.new hl)) upd_same⟩
/-- x, y = l.pop() -/
theorem q_popTup {σ : L2.St} {H : Hp} {ta : TE} {D : Ends} {tz : TS} {l p : Addr} {i j : Nat} {xs : List V} {x y : V} (hl : H l = some (.lst xs)) (ha : Ev ta σ H (.ref l)) (hy : xs[xs.length - 1]? = some (.ref p)) (hp : H p = some (.tup [x, y])) (k : ∀ H1, Ex H H1 → tz D ((σ.set i (some x)).set j (some y)) (upd H1 l (.lst xs.dropLast))) :
    tSeq (tAsg (tBM0 K "list" rPop ta) (gTup K 2 (gCons (gName i) (gCons (gName j) gNil)))) tz D σ H :=
  ha H (Ex.refl H) _ fun H1 e1 => ⟨Or.inl ⟨rfl, xs, sq_of (e1 l _ hl)⟩, l, xs, .ref p, rfl, rfl, e1 _ _ hl, hy, p, _, rfl, st_of (by rw [upd_ne (fun e => by subst e; rw [hl] at hp; cases hp)]; exact e1 _ _ hp), rfl, _, _, rfl, _, _, rfl, rfl, k H1 e1⟩
def sp_law_judged (K : PySem.W.Frag) : Sp := fun vs H Q _ => ∃ (a n st p : Addr) (rs : List Rw) (nds : List Nd) (us : List V) (c : List Nat × List Nat), vs = [.ref a, .ref n, .ref st, .ref p] ∧ RowsAt rs a H ∧ SzRs rs ∧ rs.length ≤ 7 ∧ (namesOf rs).length ≤ 7 ∧ H n = some (.lst (nmL (namesOf rs))) ∧
  ItemE 20 c (.ref st) H ∧ H p = some (.tup us) ∧ AllV NodeAt nds us H ∧ nds.length ≤ 100 ∧ (∀ m, some m ∈ nds → m < 1000) ∧ ∀ H', Ex H H' → Q (.bl (judge rs [c] nds)) H'
theorem okS_node {o : Nd} (h : ∀ m, o = some m → m < 1000) : okS (nodeS o) = true := by
  cases o with
  | none => exact shut_ok
  | some m =>
    have h1 : okS [("split" : Str)] = true := by decide +kernel
    have h2 := okS_nm (ns := [m]) (fun c hc => by rw [List.mem_singleton.mp hc]; exact h m rfl)
    show okS (("split" : Str) :: [tx [m]]) = true
    unfold okS at h1 h2 ⊢
    rw [List.all_cons] at h1 ⊢
    rw [Bool.and_eq_true] at h1 ⊢
    exact ⟨h1.1, h2⟩
theorem sc__law_judged : FnScope ["clauses", "names", "start", "value", "waiting", "node", "true", "false", "is_shut", "name"] ["clauses", "names", "start", "value"] (defScope s__law_judged) := ⟨rfl, rfl, rfl, by decide +kernel, rfl, by decide +kernel, by decide +kernel⟩
theorem ok__law_judged (Z : Zx K mg) : OkD prog w K mg base CX0 2 "_law_judged" ["clauses", "names", "start", "value"] (sp_law_judged K) := by
  obtain ⟨fd, F0⟩ := Z.fun_ 54
  have F : Fun K "_law_judged" "_law_judged" s__law_judged (He.ga K "_law_judged") fd := Wk.fun_of F0
  obtain ⟨_, g__law_grow, b__law_grow, m__law_grow, k__law_grow⟩ := ok__law_grow (w := w) (base := base) Z
  have n_any := Z.free 58 (x := "any")
  have n_len := Z.free 63 (x := "len")
  have n_list := Z.free 64 (x := "list")
  refine ⟨fd, ?_, F.binds (ps := ["clauses", "names", "start", "value"]) fun _ _ _ _ _ _ us hl => match us, hl with | [_, _, _, _], _ => rfl, Z.glo 44, F.kp⟩
  refine F.ok sc__law_judged (fun vs H Q E h => ?_) (fun cdv A outer s H vs Q E hr h => ?_)
  · obtain ⟨a, n, st, p, rs, nds, us, c0, rfl, hrs, hsz, hr7, hn7, hn, hst, hp, hall, hnl, hlo, k⟩ := h
    rfl
  · obtain ⟨a, n, st, p, rs, nds, us, c0, rfl, hrs, hsz, hr7, hn7, hn, hst, hp, hall, hnl, hlo, k⟩ := h
    have hu64 := hr.units
    refine ⟨_, (pss_cons (ps_set (i := 4) sc__law_judged.nd rfl (by first | exact Or.inl rfl | exact Or.inr rfl) (pe_lst (pa_cons (pv 2) pa_nil))) (pss_cons (ps_for PassesOwn.never rfl (pi_tup (pv 3)) (pg_name (i := 5) sc__law_judged.nd rfl (by first | exact Or.inl rfl | exact Or.inr rfl)) (pss_cons (ps_if (pt_cmpR op_eq (pe_callB call_len_seq (by rfl) n_len (by decide +kernel) (pa_cons (pv 4) pa_nil)) pe_int (nomark _)) (pss_one (ps_ret pe_bl)) pss_nil) (pss_cons (ps_asg (pe_bm0 PySem.F.plainAttrs_list PySem.F.slot_list_pop PySem.F.type_list_pop mt_pop (pv 4)) (pg_tup rfl (pgs_cons (pg_name (i := 6) sc__law_judged.nd rfl (by first | exact Or.inl rfl | exact Or.inr rfl)) (pgs_cons (pg_name (i := 7) sc__law_judged.nd rfl (by first | exact Or.inl rfl | exact Or.inr rfl)) pgs_nil)))) (pss_cons (ps_asg (pe_call g__law_grow (hr.mono (by decide)) (by rfl) m__law_grow k__law_grow b__law_grow .nil pass0 (pa_cons (pv 0) (pa_cons (pv 1) (pa_cons (pe_callTy call_list_of (by rfl) n_list (by decide +kernel) (pa_cons (pv 6) pa_nil)) (pa_cons (pe_callTy call_list_of (by rfl) n_list (by decide +kernel) (pa_cons (pv 7) pa_nil)) pa_nil))))) (pg_tup rfl (pgs_cons (pg_name (i := 6) sc__law_judged.nd rfl (by first | exact Or.inl rfl | exact Or.inr rfl)) (pgs_cons (pg_name (i := 7) sc__law_judged.nd rfl (by first | exact Or.inl rfl | exact Or.inr rfl)) pgs_nil)))) (pss_cons (ps_set (i := 8) sc__law_judged.nd rfl (by first | exact Or.inl rfl | exact Or.inr rfl) (pe_callB (cr_any rfl) (by rfl) n_any (by decide +kernel) (pa_cons (pe_lc (te := (tOp (rIn K false) (tVar 9) (tVar 7))) (own := [("name", 9)]) rfl sc__law_judged.nd (pi_list (pv 6)) (blkOk_by (own := [("name", 9)]) (N := ["clauses", "names", "start", "value", "waiting", "node", "true", "false", "is_shut", "name"]) (sc := defScope s__law_judged) (by decide +kernel)) (fun _ _ _ _ _ => pg_name (i := 9) sc__law_judged.nd rfl (by first | exact Or.inl rfl | exact Or.inr rfl)) (fun _ _ _ _ _ => pts_nil) (fun _ _ _ _ _ => (pe_cmpR op_in_seq (pv 9) (pv 7) rfl))) pa_nil))) (pss_one (ps_if (pt_cmpR (op_eqD hu64) (pv 5) (pe_tup (pa_cons pe_str pa_nil)) (nomark _)) (pss_one (ps_if (pt_not (pt_val (pv 8))) (pss_one (ps_ret pe_bl)) pss_nil)) (pss_one (ps_expr (pe_bm PySem.F.plainAttrs_list PySem.F.slot_list_extend PySem.F.type_list_extend mt_extend (pv 4) (pa_cons (pe_lst (pa_cons (pe_tup (pa_cons (pv 6) (pa_cons (pe_op op_cat (pv 7) (pe_lst (pa_cons (pe_ix ix_tup (pv 5) pe_int (fun _ _ => rfl)) pa_nil))) pa_nil))) (pa_cons (pe_tup (pa_cons (pe_op op_cat (pv 6) (pe_lst (pa_cons (pe_ix ix_tup (pv 5) pe_int (fun _ _ => rfl)) pa_nil))) (pa_cons (pv 7) pa_nil))) pa_nil))) pa_nil))))))))))) (pss_one (ps_ret (pe_cmpR op_eq (pe_callB call_len_seq (by rfl) n_len (by decide +kernel) (pa_cons (pv 4) pa_nil)) pe_int (nomark _)))))), ?_⟩
    have hunl := hall.1
    refine q_asgL (xs := [.ref st]) (el_lst (ea_cons (ev_var rfl) ea_nil) (few5 rfl)) (fun w H1 hw e1 h1 => ?_)
    refine q_forT (K := K) (xs := us) (ev_var rfl) (st_of (e1 _ _ hp)) (fun i σ' H' => ∃ (Wt : List (List Nat × List Nat)) (wv : List V) (s5 s6 s7 s8 : Option V), σ' = [some (.ref a), some (.ref n), some (.ref st), some (.ref p), some (.ref w), s5, s6, s7, s8, none] ∧ Ex H H' ∧ H' w = some (.lst wv) ∧
      AllV (ItemE (20 + 155 * i)) Wt wv (del H' w) ∧ Wt.length ≤ i + 1 ∧ judge rs [c0] nds = judge rs Wt.reverse (nds.drop i))
      (fun H2 e2 => ⟨[c0], [.ref st], none, none, none, none, rfl, e1.trans e2, e2 _ _ h1, AllV.cons (ItemE.mo _ _ _ _ _ (fun b o h => by rw [del_ne (fun x => by subst x; rw [h] at hw; cases hw)]; exact (e1.trans e2) _ _ h) hst) AllV.nil, Nat.le_refl _, rfl⟩) (fun i σ' H' _ ⟨_, _, _, _, _, _, _, e, _⟩ => st_of (e _ _ hp)) ?_ ?_
    · rintro i x σ' H' hx ⟨Wt, wv, s5, s6, s7, s8, rfl, e', hw', hWt, hwl, hj⟩
      obtain ⟨o, ho, hno⟩ := AllV.at hall hx
      obtain ⟨q, rfl, hq⟩ := hno.s
      have ok1 : okS (nodeS o) = true := okS_node fun m hm => hlo m (hm ▸ List.mem_of_getElem? ho)
      have hi : i < nds.length := (List.getElem?_eq_some_iff.mp ho).1
      have hdrop : nds.drop i = o :: nds.drop (i + 1) := Srt.drop_at nds i o ho
      rw [hdrop] at hj
      have hwvl := hWt.1
      refine q_when (b := decide (Wt = [])) (et_is (et_test (ev_op (ev_len (ev_var rfl) (sq_of hw')) ev_c (rv_eq (by rfl)))) ?_) (fun hb H2 e2 => ?_) (fun hb H2 e2 => ?_)
      · rw [hwvl, decide_eq_decide]
        constructor
        · intro h
          exact List.length_eq_zero_iff.mp (by have := V.int.inj h; omega)
        · intro h; rw [h]; rfl
      · refine s_ret ev_c (fun H3 e3 => ?_)
        have := k H3 (e'.trans (e2.trans e3))
        rw [hj, of_decide_eq_true hb] at this
        cases o <;> exact this
      have hne := of_decide_eq_false hb
      obtain ⟨W0, c, rfl⟩ : ∃ W0 c, Wt = W0 ++ [c] := ⟨Wt.dropLast, Wt.getLast hne, (List.dropLast_concat_getLast hne).symm⟩
      obtain ⟨wv0, y, rfl, hW0, hcy⟩ := hWt.snoc
      have hrev : (W0 ++ [c]).reverse = c :: W0.reverse := by simp
      rw [hrev] at hj
      have hw0l := hW0.1
      rw [List.length_append, List.length_singleton] at hwl
      obtain ⟨pc, xa, ya, ts, fs, rfl, g1, g2, g3, m1, m2, b1, b2⟩ := hcy
      have hdH : ∀ b o, del H' w b = some o → H' b = some o ∧ b ≠ w := fun b o h => by
        have hb : b ≠ w := fun x => by subst x; rw [del_same] at h; cases h
        exact ⟨by rw [del_ne hb] at h; exact h, hb⟩
      refine q_popTup (K := K) (xs := wv0 ++ [.ref pc]) (x := .ref xa) (y := .ref ya) (e2 _ _ hw') (ev_var rfl) (last_app _ _) (e2 _ _ (hdH _ _ g1).1) (fun H3 e3 => ?_)
      rw [List.dropLast_concat]
      have e23 := e2.trans e3
      have hww : upd H3 w (.lst wv0) w = some (.lst wv0) := upd_same
      have E3 : Ex H (upd H3 w (.lst wv0)) := Ex.mut (e'.trans e23) hw
      have F3 : Ex (del H' w) (upd H3 w (.lst wv0)) := fun b o h => by
        obtain ⟨h1, h2⟩ := hdH b o h
        rw [upd_ne h2]; exact e23 _ _ h1
      have g2 := g2.imp (F3 _ _) (F3 _ _)
      have g3 := g3.imp (F3 _ _) (F3 _ _)
      have hW3 : AllV (ItemE (20 + 155 * i)) W0 wv0 (del (upd H3 w (.lst wv0)) w) := AllV.mo (fun a => ItemE.mo _ a) _ _ _ (fun b o h => by
        obtain ⟨h1, h2⟩ := hdH b o h
        rw [del_ne h2, upd_ne h2]; exact e23 _ _ h1) hW0
      generalize upd H3 w (.lst wv0) = G3 at *
      refine q_asgTupX (K := K) (P2 := fun x y H' => ∃ t f ts' fs', x = .ref t ∧ y = .ref f ∧ H' t = some (.lst (nmL ts')) ∧ H' f = some (.lst (nmL fs')) ∧ Eqm ts' (growOf rs c.1 c.2).1 ∧ Eqm fs' (growOf rs c.1 c.2).2 ∧ ts'.length ≤ ts.length + 154 ∧ fs'.length ≤ fs.length + 154 ∧ G3 t = none ∧ G3 f = none)
        (x_callX (x_cons (P := fun v _ => v = .ref a) (x_ev (ev_var rfl)) (fun _ _ _ _ h => h) (x_cons (P := fun v _ => v = .ref n) (x_ev (ev_var rfl)) (fun _ _ _ _ h => h) (x_cons (P := fun v H' => ∃ q, v = .ref q ∧ G3 q = none ∧ H' q = some (.lst (nmL ts))) (x_evL (el_listA (ev_var rfl) g2)) (fun v H1 H2 e ⟨q, h1, h2, h3⟩ => ⟨q, h1, h2, e _ _ h3⟩) (x_one (P := fun v H' => ∃ q, v = .ref q ∧ G3 q = none ∧ H' q = some (.lst (nmL fs))) (x_evL (el_listA (ev_var rfl) g3)))))) ?_) ?_
      · rintro vs H4 e4 ⟨v1, r1, rfl, rfl, v2, r2, rfl, rfl, v3, r3, rfl, ⟨q1, rfl, z1, y1⟩, v4, rfl, q2, rfl, z2, y2⟩ Q4 q4 E4
        refine ⟨a, n, q1, q2, rs, ts, fs, c.1, c.2, rfl, hrs.ex (E3.trans e4), hsz, hr7, hn7, (E3.trans e4) _ _ hn, y1, y2, m1, m2, by omega, by omega, fun v H5 e5 hg => q4 _ H5 e5 ?_⟩
        obtain ⟨p5, t5, f5, ts', fs', rfl, i1, i2, i3, i4, i5, i6, i7, i8, i9⟩ := hg
        exact ⟨p5, _, _, rfl, i1, t5, f5, ts', fs', rfl, rfl, i2, i3, i4, i5, i6, i7, by rcases i8 with h | h; exact h ▸ z1; exact fresh_back e4 h, by rcases i9 with h | h; exact h ▸ z2; exact fresh_back e4 h⟩
      rintro x y H4 e4 ⟨t4, f4, ts', fs', rfl, rfl, i2, i3, i4, i5, i6, i7, i8, i9⟩
      have hG : judge rs (c :: W0.reverse) (o :: nds.drop (i + 1)) = match o with
          | none => shutB (growOf rs c.1 c.2).1 (growOf rs c.1 c.2).2 && judge rs W0.reverse (nds.drop (i + 1))
          | some m => judge rs ((addN (growOf rs c.1 c.2).1 m, (growOf rs c.1 c.2).2) :: ((growOf rs c.1 c.2).1, addN (growOf rs c.1 c.2).2 m) :: W0.reverse) (nds.drop (i + 1)) := by
        cases o <;> rfl
      rw [hG] at hj
      generalize growOf rs c.1 c.2 = G at *
      obtain ⟨gt, gf⟩ := G
      dsimp only at i4 i5
      have ht4w : t4 ≠ w := fun x => by subst x; rw [hww] at i8; cases i8
      have hf4w : f4 ≠ w := fun x => by subst x; rw [hww] at i9; cases i9
      refine q_asg (v := .bl (shutB gt gf)) (ev_is (ev_anyc (K := K) (p := fun c => decide (c ∈ fs')) (as := ts') (inj := nmV) (ei_L (K := K) (ev_var rfl) (sq_of i2)) (by omega) (fun _ => rfl) (fun c _ H9 e9 => ev_inL (K := K) (ev_var rfl) (ev_var rfl) (sq_of (e9 _ _ i3)))) (by rw [← shut_eqm i4 i5]; rfl)) (fun H5 e5 => ?_)
      have e45 := e4.trans e5
      have hq5 := e45 _ _ (E3 _ _ hq)
      refine s_if (b := decide (o = none)) (et_is (et_test (ev_eqTS (K := K) (ev_var rfl) hq5 (eu_tup (vs := shutS.map V.str) (ea_cons ev_c ea_nil) (few5 rfl)) ok1 shut_ok)) (by rw [decide_eq_decide]; exact nodeS_shut)) (fun hs H6 e6 => ?_) (fun hs H6 e6 => ?_)
      · have ho : o = none := of_decide_eq_true hs
        subst ho
        try dsimp only at hj
        refine s_when (b := !(shutB gt gf)) (et_not (et_B (ev_var rfl))) (fun hb2 H7 e7 => ?_) (fun hb2 H7 e7 => ?_)
        · refine s_ret ev_c (fun H8 e8 => ?_)
          have := k H8 (E3.trans (e45.trans (e6.trans (e7.trans e8))))
          rw [hj, not_t hb2, Bool.false_and] at this
          exact this
        · have e47 := e45.trans (e6.trans e7)
          refine ⟨W0, wv0, _, _, _, _, rfl, E3.trans e47, e47 _ _ hww, AllV.imp (AllV.mo (fun a => ItemE.mo _ a) _ _ _ (ex_deldel e47) hW3) (fun a v h => h.le (by omega)), by omega, ?_⟩
          rw [hj, not_f hb2, Bool.true_and]
      · have ho : o ≠ none := of_decide_eq_false hs
        obtain ⟨m, rfl⟩ : ∃ m, o = some m := Option.ne_none_iff_exists'.mp ho
        try dsimp only at hj
        have e46 := e45.trans e6
        have hw6 := e46 _ _ hww
        have ht6 := (e5.trans e6) _ _ i2
        have hf6 := (e5.trans e6) _ _ i3
        have hq6 := e6 _ _ hq5
        have hnm1 : ∀ (σ : L2.St) (H0 : Hp), Ex H6 H0 → σ[5]? = some (some (.ref q)) → Ev (tOp (rIxT K) (tVar 5) (tC (.int 1))) σ H0 (nmV m) := fun σ H0 e0 hσ => ev_op (ev_var hσ) ev_c (rv_ixT (i := 1) (v := nmV m) (st_of (e0 _ _ hq6)) rfl)
        have hsnoc : ∀ l : List Nat, nmL l ++ [nmV m] = nmL (l ++ [m]) := fun l => by unfold nmL; rw [List.map_append]; rfl
        have hl1 : ∀ (σ : L2.St) (j : Nat) (u : Addr) (l : List Nat), σ[j]? = some (some (.ref u)) → σ[5]? = some (some (.ref q)) → H6 u = some (.lst (nmL l)) → l.length ≤ 40000 → EvL (tOp rCat (tVar j) (tLst (tCons (tOp (rIxT K) (tVar 5) (tC (.int 1))) tNil))) σ H6 (nmL (l ++ [m])) := fun σ j u l hσ h5 hu hl => by
          rw [← hsnoc]
          exact el_catE (ev_var hσ) hu (el_lst (ea_cons (hnm1 _ _ (Ex.refl _) h5) ea_nil) (few5 rfl)) (by rw [nmL_len]; show l.length + 1 ≤ _; omega)
        have hB1 : (fs' ++ [m]).length ≤ 20 + 155 * (i + 1) := by rw [List.length_append]; show fs'.length + 1 ≤ _; omega
        have hB2 : (ts' ++ [m]).length ≤ 20 + 155 * (i + 1) := by rw [List.length_append]; show ts'.length + 1 ≤ _; omega
        refine s_extX (xs := wv0) (PL := fun zs H' => ∃ p1 o1 p2 o2, zs = [.ref p1, .ref p2] ∧ (H' p1 = some (.tup [.ref t4, .ref o1]) ∧ H6 o1 = none ∧ H' o1 = some (.lst (nmL (fs' ++ [m])))) ∧ (H' p2 = some (.tup [.ref o2, .ref f4]) ∧ H6 o2 = none ∧ H' o2 = some (.lst (nmL (ts' ++ [m]))))) hw6 (ev_var rfl) (EvX.imp (x_lst (x_cons (P := fun v H' => ∃ p' o', v = .ref p' ∧ H' p' = some (.tup [.ref t4, .ref o']) ∧ H6 o' = none ∧ H' o' = some (.lst (nmL (fs' ++ [m])))) (EvX.imp (x_tup (x_cons (P := fun v _ => v = .ref t4) (x_ev (ev_var rfl)) (fun _ _ _ _ h => h) (x_one (x_evL (hl1 _ _ f4 fs' rfl rfl hf6 (by omega))))) ?_ ?_) ?_) ?_
          (x_one (P := fun v H' => ∃ p' o', v = .ref p' ∧ H' p' = some (.tup [.ref o', .ref f4]) ∧ H6 o' = none ∧ H' o' = some (.lst (nmL (ts' ++ [m])))) (EvX.imp (x_tup (x_cons (P := fun v H' => ∃ o', v = .ref o' ∧ H6 o' = none ∧ H' o' = some (.lst (nmL (ts' ++ [m])))) (x_evL (hl1 _ _ t4 ts' rfl rfl ht6 (by omega))) (fun v H1 H2 e ⟨o', h1, h2, h3⟩ => ⟨o', h1, h2, e _ _ h3⟩) (x_one (P := fun v _ => v = .ref f4) (x_ev (ev_var rfl)))) ?_ ?_) ?_))) ?_ ?_) ?_) ?_ ?_
        · rintro vs H7 H8 e ⟨v, r, rfl, rfl, v2, rfl, o', rfl, h1, h2⟩
          exact ⟨_, _, rfl, rfl, _, rfl, o', rfl, h1, e _ _ h2⟩
        · rintro vs H7 ⟨v, r, rfl, rfl, v2, rfl, o', rfl, h1, h2⟩
          exact few5 rfl
        · rintro u H7 ⟨p', vs, rfl, hp', v, r, rfl, rfl, v2, rfl, o', rfl, h1, h2⟩
          exact ⟨p', o', rfl, hp', h1, h2⟩
        · rintro v H7 H8 e ⟨p', o', h1, h2, h3, h4⟩
          exact ⟨p', o', h1, e _ _ h2, h3, e _ _ h4⟩
        · rintro vs H7 H8 e ⟨v, r, rfl, ⟨o', rfl, h1, h2⟩, v2, rfl, rfl⟩
          exact ⟨_, _, rfl, ⟨o', rfl, h1, e _ _ h2⟩, _, rfl, rfl⟩
        · rintro vs H7 ⟨v, r, rfl, ⟨o', rfl, h1, h2⟩, v2, rfl, rfl⟩
          exact few5 rfl
        · rintro u H7 ⟨p', vs, rfl, hp', v, r, rfl, ⟨o', rfl, h1, h2⟩, v2, rfl, rfl⟩
          exact ⟨p', o', rfl, hp', h1, h2⟩
        · rintro vs H7 H8 e ⟨v, r, rfl, ⟨p1, o1, rfl, a1, a2, a3⟩, v2, rfl, p2, o2, rfl, b1, b2, b3⟩
          exact ⟨_, _, rfl, ⟨p1, o1, rfl, e _ _ a1, a2, e _ _ a3⟩, _, rfl, p2, o2, rfl, e _ _ b1, b2, e _ _ b3⟩
        · rintro vs H7 ⟨v, r, rfl, ⟨p1, o1, rfl, a1, a2, a3⟩, v2, rfl, p2, o2, rfl, b1, b2, b3⟩
          exact few5 rfl
        · rintro u H7 ⟨q', vs, rfl, hq', v, r, rfl, ⟨p1, o1, rfl, a1, a2, a3⟩, v2, rfl, p2, o2, rfl, b1, b2, b3⟩
          exact ⟨q', _, rfl, hq', p1, o1, p2, o2, rfl, ⟨a1, a2, a3⟩, b1, b2, b3⟩
        · rintro zs H7 ⟨p1, o1, p2, o2, rfl, _⟩
          show wv0.length + 2 ≤ _
          omega
        · rintro zs H7 e7 ⟨p1, o1, p2, o2, rfl, ⟨a1, a2, a3⟩, b1', b2', b3'⟩
          have hw7 := e7 _ _ hw6
          have n1 : p1 ≠ w := fun x => by subst x; rw [hw7] at a1; cases a1
          have n2 : p2 ≠ w := fun x => by subst x; rw [hw7] at b1'; cases b1'
          have n3 : o1 ≠ w := fun x => by subst x; rw [hw6] at a2; cases a2
          have n4 : o2 ≠ w := fun x => by subst x; rw [hw6] at b2'; cases b2'
          have hrev2 : (W0 ++ [(gt, addN gf m), (addN gt m, gf)]).reverse = (addN gt m, gf) :: (gt, addN gf m) :: W0.reverse := by simp
          refine ⟨W0 ++ [(gt, addN gf m), (addN gt m, gf)], wv0 ++ [.ref p1, .ref p2], _, _, _, _, rfl, Ex.mut (E3.trans (e46.trans e7)) hw, upd_same, ?_, ?_, ?_⟩
          · rw [del_upd]
            have r1 := AllV.imp (AllV.mo (fun a => ItemE.mo _ a) _ _ _ (ex_deldel (e46.trans e7)) hW3) (fun a v h => h.le (by omega : 20 + 155 * i ≤ 20 + 155 * (i + 1)))
            have r2 := (r1.app (a := (gt, addN gf m)) (v := .ref p1) ⟨p1, t4, o1, ts', fs' ++ [m], rfl, by rw [del_ne n1]; exact a1, .inr (by rw [del_ne ht4w]; exact e7 _ _ ht6), .inr (by rw [del_ne n3]; exact a3), i4, i5.addN, by omega, hB1⟩).app (a := (addN gt m, gf)) (v := .ref p2) ⟨p2, o2, f4, ts' ++ [m], fs', rfl, by rw [del_ne n2]; exact b1', .inr (by rw [del_ne n4]; exact b3'), .inr (by rw [del_ne hf4w]; exact e7 _ _ hf6), i4.addN, i5, hB2, by omega⟩
            rw [List.append_assoc, List.append_assoc] at r2
            exact r2
          · rw [List.length_append]
            show W0.length + 2 ≤ _
            omega
          · rw [hrev2, hj]
    · rintro σ' H' ⟨Wt, wv, s5, s6, s7, s8, rfl, e', hw', hWt, hwl, hj⟩
      rw [hunl, List.drop_length, judge_nil] at hj
      refine s_ret (v := .bl (judge rs [c0] nds)) (ev_is (ev_op (ev_len (ev_var rfl) (sq_of hw')) ev_c (rv_eq (by rfl))) ?_) (fun H2 e2 => k H2 (e'.trans e2))
      rw [hj, hWt.1]
      congr 1
      rw [decide_eq_decide]
      constructor
      · intro h
        have := List.length_eq_zero_iff.mp (by have := V.int.inj h; omega : Wt.length = 0)
        rw [this]; rfl
      · intro h
        have : Wt = [] := by simpa using h
        rw [this]; rfl

end
end Tx
end
section
set_option Elab.async false
set_option linter.all false
set_option maxRecDepth 100000
set_option maxHeartbeats 4000000
namespace Tx
open PySem PySem.Spec PyProof.Rows L2 Evl Wk
section
variable {w : World} {K : PySem.W.Frag} {mg : Str → Option Value} {base : Heap}

def TN (A : List Nd → Prop) (v : V) (H : Hp) : Prop := ∃ nds p us, A nds ∧ v = .ref p ∧ H p = some (.tup us) ∧ AllV NodeAt nds us H
theorem tu_ed {k : Nat} {d : Addr} {H H' : Hp} (hk : DiceAt k d H) (e : Ed d H H') : Tu H H' := fun p xs h => e.at h (fun x => by
  subst x
  obtain ⟨b, m, c, _, _, _, _, h5⟩ := hk
  rw [h] at h5
  cases h5)
theorem nodes_tu {nds : List Nd} {us : List V} {H H' : Hp} (t : Tu H H') (h : AllV NodeAt nds us H) : AllV NodeAt nds us H' := ⟨h.1, fun i v a x y => let ⟨p, h1, h2⟩ := h.2 i v a x y; ⟨p, h1, t _ _ h2⟩⟩
theorem TN.tu {A : List Nd → Prop} {v : V} {H H' : Hp} (t : Tu H H') (h : TN A v H) : TN A v H' := let ⟨nds, p, us, h1, h2, h3, h4⟩ := h; ⟨nds, p, us, h1, h2, t _ _ h3, nodes_tu t h4⟩
section
variable {σ : L2.St} {H : Hp} {d : Addr} {ta tb te : TE} {D : Ends} {c1 c2 : Nat} {A B : List Nd → Prop} {P : V → Hp → Prop}
theorem ed_X (h : ∀ H1, Ed d H H1 → (∃ k, DiceAt k d H1) → EvX te σ H1 P) : ED te σ d H 0 P := fun k H1 e hk hc Q q => h H1 e ⟨k, hk⟩ H1 (Ex.refl _) Q fun v H2 e2 p => q v H2 (Ed.of e2) (hk.ex e2) p
theorem sd_ret {c k : Nat} (h : ED te σ d H c P) (hk : DiceAt k d H) (hc : k + c ≤ 90000) (kk : ∀ v H1, Ed d H H1 → DiceAt (k + c) d H1 → P v H1 → D.rt v H1) : tRet te D σ H := h k H (Ed.refl d H) hk hc _ kk
/-- t + u of two tuples -/
theorem ed_cat (h1 : ED ta σ d H c1 (TN A)) (h2 : ED tb σ d H c2 (TN B)) (hz : ∀ a b, A a → B b → a.length + b.length ≤ 1000) : ED (tOp (rCatA K) ta tb) σ d H (c1 + c2) (TN fun n => ∃ a b, A a ∧ B b ∧ n = a ++ b) := fun k H1 e hk hc Q q =>
  h1 k H1 e hk (by omega) _ fun v1 H2 e2 hk2 p1 => h2 (k + c1) H2 (e.trans e2) hk2 (by omega) _ fun v2 H3 e3 hk3 p2 => by
    obtain ⟨a, pa, ua, a1, rfl, a3, a4⟩ := p1.tu (tu_ed hk2 e3)
    obtain ⟨b, pb, ub, b1, rfl, b3, b4⟩ := p2
    have e23 := e2.trans e3
    have hk3' : DiceAt (k + (c1 + c2)) d H3 := hk3.mono (by omega)
    have l1 := a4.1
    have l2 := b4.1
    have hz' := hz a b a1 b1
    refine ⟨pa, pb, ua, ub, rfl, rfl, st_of a3, st_of b3, sz_of (by omega), fun hx => ?_, fun hx hy => ?_, fun hx hy o ho => ?_⟩
    · subst hx
      have : a = [] := List.length_eq_zero_iff.mp l1.symm
      subst this
      exact q _ H3 e23 hk3' ⟨b, pb, ub, ⟨[], b, a1, b1, rfl⟩, rfl, b3, b4⟩
    · subst hy
      have : b = [] := List.length_eq_zero_iff.mp l2.symm
      subst this
      exact q _ H3 e23 hk3' ⟨a, pa, ua, ⟨a, [], a1, b1, (List.append_nil a).symm⟩, rfl, a3, a4⟩
    · have t := Tu.of (Ex.new (o := .tup (ua ++ ub)) ho)
      exact q _ _ (e23.trans (Ed.of (Ex.new ho))) (hk3'.ex (Ex.new ho)) ⟨a ++ b, o, ua ++ ub, ⟨a, b, a1, b1, rfl⟩, rfl, upd_same, AllV.cat (nodes_tu t a4) (nodes_tu t b4)⟩
end
theorem AllV.take {α : Type} {P : α → V → Hp → Prop} {as : List α} {vs : List V} {H : Hp} (h : AllV P as vs H) (n : Nat) : AllV P (as.take n) (vs.take n) H := ⟨by rw [List.length_take, List.length_take, h.1], fun i v a hv ha => by
  by_cases c : i < n
  · rw [List.getElem?_take_of_lt c] at hv ha
    exact h.2 i v a hv ha
  · rw [List.getElem?_take_eq_none (by omega)] at hv
    cases hv⟩
theorem AllV.drop {α : Type} {P : α → V → Hp → Prop} {as : List α} {vs : List V} {H : Hp} (h : AllV P as vs H) (n : Nat) : AllV P (as.drop n) (vs.drop n) H := ⟨by rw [List.length_drop, List.length_drop, h.1], fun i v a hv ha => by
  rw [List.getElem?_drop] at hv ha
  exact h.2 _ v a hv ha⟩
theorem cutV_to (xs : List V) {n : Nat} (h : n ≤ xs.length) : cutV xs none (some (n : Int)) = xs.take n := by
  unfold cutV
  rw [HT.sIx_none, HT.sIx_nat, Nat.min_eq_left h, List.drop_zero, Nat.sub_zero]
theorem cutV_from (xs : List V) {n : Nat} (h : n ≤ xs.length) : cutV xs (some (n : Int)) none = xs.drop n := by
  unfold cutV
  rw [HT.sIx_none, HT.sIx_nat, Nat.min_eq_left h, List.take_of_length_le (by rw [List.length_drop]; omega)]
theorem x_slA {σ : L2.St} {H : Hp} {te : TE} {tl th : TO} {p : Addr} {xs : List V} {lo hi : Option Int} (h : Ev te σ H (.ref p)) (h1 : EvO tl σ H lo) (h2 : EvO th σ H hi) (hp : H p = some (.tup xs)) : EvX (tSl (rSlA K) te tl th) σ H (fun v H' => ∃ q, v = .ref q ∧ H' q = some (.tup (cutV xs lo hi))) := fun H1 e Q q =>
  h H1 e _ fun H2 e2 => h1 H2 (e.trans e2) _ fun H3 e3 => h2 H3 (e.trans (e2.trans e3)) _ fun H4 e4 => by
    have e14 := e2.trans (e3.trans e4)
    have hp4 := (e.trans e14) _ _ hp
    refine ⟨p, xs, rfl, st_of hp4, fun hw => ?_, fun hw o ho => q _ _ (e14.trans (Ex.new ho)) ⟨o, rfl, upd_same⟩⟩
    refine q _ H4 e14 ⟨p, rfl, ?_⟩
    have : cutV xs lo hi = xs := by
      unfold cutV
      rw [hw.1, hw.2, List.drop_zero, Nat.sub_zero, List.take_length]
    rw [this]
    exact hp4
/-- a tuple of one node -/
theorem x_node1 {σ : L2.St} {H : Hp} {tr : TA} {o : Nd} (h : EvA tr σ H (nodeL o)) : EvX (tTup (tCons (tTup tr) tNil)) σ H (TN (· = [o])) := by
  refine EvX.imp (x_tup (x_one (P := NodeAt o) (EvX.imp (x_evU (eu_tup h (by cases o <;> exact few5 rfl))) (fun v H' ⟨p, h1, h2⟩ => ⟨p, h1, h2⟩))) (fun vs H1 H2 e ⟨v, h1, h2⟩ => ⟨v, h1, (NodeAt.mn o).mo _ _ _ e h2⟩) (fun vs H1 ⟨v, h1, h2⟩ => by rw [h1]; exact few5 rfl)) ?_
  rintro v H1 ⟨p, vs, rfl, hp, x, rfl, hx⟩
  exact ⟨[o], p, [x], rfl, rfl, hp, AllV.cons hx AllV.nil⟩
def sp_spoilt : Sp := fun vs H Q _ => ∃ (d p n : Addr) (k : Nat) (nds : List Nd) (us : List V) (ns : List Nat), vs = [.ref d, .ref p, .ref n] ∧ DiceAt k d H ∧ k ≤ 80000 ∧ H p = some (.tup us) ∧ AllV NodeAt nds us H ∧ nds ≠ [] ∧ nds.length ≤ 90 ∧ H n = some (.lst (nmL ns)) ∧ n ≠ d ∧ ns ≠ [] ∧ ns.length ≤ 100 ∧
  ∀ v H', Ed d H H' → DiceAt (k + 3) d H' → TN (fun nds' => nds'.length ≤ nds.length + 1 ∧ ∀ m, some m ∈ nds' → some m ∈ nds ∨ m ∈ ns) v H' → Q v H'
theorem sc__law_spoilt : FnScope ["dice", "value", "names", "at", "what"] ["dice", "value", "names"] (defScope s__law_spoilt) := ⟨rfl, rfl, rfl, by decide +kernel, rfl, by decide +kernel, by decide +kernel⟩
theorem ok__law_spoilt (Z : Zx K mg) : OkD prog w K mg base CX0 3 "_law_spoilt" ["dice", "value", "names"] (sp_spoilt) := by
  obtain ⟨fd, F0⟩ := Z.fun_ 55
  have F : Fun K "_law_spoilt" "_law_spoilt" s__law_spoilt (He.ga K "_law_spoilt") fd := Wk.fun_of F0
  obtain ⟨_, g__law_pick, b__law_pick, m__law_pick, k__law_pick⟩ := ok__law_pick (w := w) (base := base) Z
  obtain ⟨_, g__law_roll, b__law_roll, m__law_roll, k__law_roll⟩ := ok__law_roll (w := w) (base := base) Z
  have n_len := Z.free 63 (x := "len")
  refine ⟨fd, ?_, F.binds (ps := ["dice", "value", "names"]) fun _ _ _ _ _ _ us hl => match us, hl with | [_, _, _], _ => rfl, Z.glo 45, F.kp⟩
  refine F.ok sc__law_spoilt (fun vs H Q E h => ?_) (fun cdv A outer s H vs Q E hr h => ?_)
  · obtain ⟨d, p, n, k, nds, us, ns, rfl, hk, hk2, hp, hall, hne, hl90, hn, hnd, hnne, hnl, q⟩ := h
    rfl
  · obtain ⟨d, p, n, k, nds, us, ns, rfl, hk, hk2, hp, hall, hne, hl90, hn, hnd, hnne, hnl, q⟩ := h
    refine ⟨_, (pss_cons (ps_set (i := 3) sc__law_spoilt.nd rfl (by first | exact Or.inl rfl | exact Or.inr rfl) (pe_call g__law_roll (hr.mono (by decide)) (by rfl) m__law_roll k__law_roll b__law_roll .nil pass0 (pa_cons (pv 0) (pa_cons (pe_callB call_len_seq (by rfl) n_len (by decide +kernel) (pa_cons (pv 1) pa_nil)) pa_nil)))) (pss_cons (ps_set (i := 4) sc__law_spoilt.nd rfl (by first | exact Or.inl rfl | exact Or.inr rfl) (pe_call g__law_roll (hr.mono (by decide)) (by rfl) m__law_roll k__law_roll b__law_roll .nil pass0 (pa_cons (pv 0) (pa_cons pe_int pa_nil)))) (pss_cons (ps_if (pt_cmpR op_eq (pv 4) pe_int (nomark _)) (pss_one (ps_ret (pe_op op_catA (pe_slice sl_tupA (pv 1) po_none (po_some (pv 3))) (pe_slice sl_tupA (pv 1) (po_some (pe_op op_add (pv 3) pe_int)) po_none)))) pss_nil) (pss_cons (ps_if (pt_cmpR op_eq (pv 4) pe_int (nomark _)) (pss_one (ps_ret (pe_op op_catA (pe_op op_catA (pe_slice sl_tupA (pv 1) po_none (po_some (pv 3))) (pe_tup (pa_cons (pe_tup (pa_cons pe_str pa_nil)) pa_nil))) (pe_slice sl_tupA (pv 1) (po_some (pv 3)) po_none)))) pss_nil) (pss_cons (ps_if (pt_cmpR op_eq (pv 4) pe_int (nomark _)) (pss_one (ps_ret (pe_op op_catA (pe_op op_catA (pe_slice sl_tupA (pv 1) po_none (po_some (pv 3))) (pe_tup (pa_cons (pe_tup (pa_cons pe_str (pa_cons (pe_call g__law_pick (hr.mono (by decide)) (by rfl) m__law_pick k__law_pick b__law_pick .nil pass0 (pa_cons (pv 0) (pa_cons (pv 2) pa_nil))) pa_nil))) pa_nil))) (pe_slice sl_tupA (pv 1) (po_some (pe_op op_add (pv 3) pe_int)) po_none)))) pss_nil) (pss_one (ps_ret (pe_op op_catA (pv 1) (pe_tup (pa_cons (pe_tup (pa_cons pe_str pa_nil)) pa_nil)))))))))), ?_⟩
    have hul := hall.1
    have hpos := List.length_pos_iff.mpr hne
    have hpd : p ≠ d := fun x => by
      subst x
      obtain ⟨b, m, c, _, _, _, _, h5⟩ := hk
      rw [hp] at h5
      cases h5
    refine qd_asg (k := k) (c := 1) (d := d) (d_roll (n := nds.length) (ev_var rfl) (by rw [← hul]; exact ev_lenT (K := K) (ev_var rfl) (st_of (by rw [del_ne hpd]; exact hp))) hpos (by omega)) hk (by omega) ?_
    rintro v1 H1 e1 hk1 ⟨i, hi, rfl⟩
    refine qd_asg (k := k + 1) (c := 1) (d := d) (d_roll (n := 4) (ev_var rfl) ev_c (by decide) (by decide)) hk1 (by omega) ?_
    rintro v2 H2 e2 hk2' ⟨j, hj, rfl⟩
    have e12 := e1.trans e2
    have hp2 := e12.at hp hpd
    have hall2 := nodes_tu (tu_ed hk e12) hall
    have hn2 := e12.at hn hnd
    have fin : ∀ c v H3, Ed d H2 H3 → DiceAt c d H3 → c ≤ k + 3 → TN (fun nds' => nds'.length ≤ nds.length + 1 ∧ ∀ m, some m ∈ nds' → some m ∈ nds ∨ m ∈ ns) v H3 → Q v H3 := fun c v H3 e3 hk3 hc hT => q v H3 (e12.trans e3) (hk3.mono hc) hT
    have hsl1 : ∀ G, Ed d H2 G → ED (tSl (rSlA K) (tVar 1) tNoPart (tPart (tVar 3))) [some (.ref d), some (.ref p), some (.ref n), some (.int (i : Int)), some (.int (j : Int))] d G 0 (TN (· = nds.take i)) := fun G eG => ed_X fun H3 e3 ⟨kk, hk3⟩ => fun H4 e4 Q4 q4 => x_slA (lo := none) (hi := some (i : Int)) (ev_var rfl) eo_none (eo_some (ev_var rfl)) ((eG.trans e3).at hp2 hpd) H4 e4 Q4 (fun v H5 e5 ⟨r, h1, h2⟩ => q4 v H5 e5 ⟨nds.take i, r, _, rfl, h1, by rw [h2, cutV_to us (by omega)], AllV.take (nodes_tu ((tu_ed hk2' (eG.trans e3)).trans (Tu.of (e4.trans e5))) hall2) i⟩)
    have hsl2 : ∀ G, Ed d H2 G → ∀ (te : TE) (m : Nat), (∀ H0, Ev te [some (.ref d), some (.ref p), some (.ref n), some (.int (i : Int)), some (.int (j : Int))] H0 (.int (m : Int))) → m ≤ nds.length → ED (tSl (rSlA K) (tVar 1) (tPart te) tNoPart) [some (.ref d), some (.ref p), some (.ref n), some (.int (i : Int)), some (.int (j : Int))] d G 0 (TN (· = nds.drop m)) := fun G eG te m hm hml => ed_X fun H3 e3 ⟨kk, hk3⟩ => fun H4 e4 Q4 q4 => x_slA (lo := some (m : Int)) (hi := none) (ev_var rfl) (eo_some (hm _)) eo_none ((eG.trans e3).at hp2 hpd) H4 e4 Q4 (fun v H5 e5 ⟨r, h1, h2⟩ => q4 v H5 e5 ⟨nds.drop m, r, _, rfl, h1, by rw [h2, cutV_from us (by omega)], AllV.drop (nodes_tu ((tu_ed hk2' (eG.trans e3)).trans (Tu.of (e4.trans e5))) hall2) m⟩)
    have hi1 : ∀ H0, Ev (tOp (rI0 fun i j => .int (i + j)) (tVar 3) (tC (.int 1))) [some (.ref d), some (.ref p), some (.ref n), some (.int (i : Int)), some (.int (j : Int))] H0 (.int ((i + 1 : Nat) : Int)) := fun H0 => ev_op (ev_var rfl) ev_c rv_I0
    have hshut : ∀ G, ED (tTup (tCons (tTup (tCons (tC (.str "shut")) tNil)) tNil)) [some (.ref d), some (.ref p), some (.ref n), some (.int (i : Int)), some (.int (j : Int))] d G 0 (TN (· = [none])) := fun G => ed_X fun H3 e3 _ => x_node1 (o := none) (ea_cons ev_c ea_nil)
    have hmt : ∀ (x : Nd), x ∈ nds.take i → x ∈ nds := fun x h => List.mem_of_mem_take h
    have hmd : ∀ (m : Nat) (x : Nd), x ∈ nds.drop m → x ∈ nds := fun m x h => List.mem_of_mem_drop h
    refine q_when (b := decide (j = 0)) (et_is (et_test (ev_op (ev_var rfl) ev_c (rv_eq (by rfl)))) ?_) (fun hb H3 e3 => ?_) (fun hb H3 e3 => ?_)
    · rw [decide_eq_decide]
      exact ⟨fun h => by have := V.int.inj h; omega, fun h => by rw [h]; rfl⟩
    · refine sd_ret (k := k + 1 + 1) (c := 0 + 0) (ed_cat (hsl1 _ (Ed.of e3)) (hsl2 _ (Ed.of e3) _ (i + 1) hi1 (by omega)) (fun a b h1 h2 => by rw [h1, h2, List.length_take, List.length_drop]; omega)) (hk2'.ex e3) (by omega) (fun v H4 e4 hk4 hT => fin _ v H4 ((Ed.of e3).trans e4) hk4 (by omega) ?_)
      obtain ⟨nds', r, vs, ⟨a, b, rfl, rfl, rfl⟩, h⟩ := hT
      refine ⟨_, r, vs, ⟨by rw [List.length_append, List.length_take, List.length_drop]; omega, fun m hm => .inl ?_⟩, h⟩
      rcases List.mem_append.mp hm with h | h
      · exact hmt _ h
      · exact hmd _ _ h
    refine q_when (b := decide (j = 1)) (et_is (et_test (ev_op (ev_var rfl) ev_c (rv_eq (by rfl)))) ?_) (fun hb H4 e4 => ?_) (fun hb H4 e4 => ?_)
    · rw [decide_eq_decide]
      exact ⟨fun h => by have := V.int.inj h; omega, fun h => by rw [h]; rfl⟩
    · have e34 := Ed.of (d := d) (e3.trans e4)
      refine sd_ret (k := k + 1 + 1) (c := 0 + 0 + 0) (ed_cat (ed_cat (hsl1 _ e34) (hshut _) (fun a b h1 h2 => by rw [h1, h2, List.length_take]; show _ + 1 ≤ _; omega)) (hsl2 _ e34 _ i (fun _ => ev_var rfl) (by omega)) ?_) (hk2'.ex (e3.trans e4)) (by omega) (fun v H5 e5 hk5 hT => fin _ v H5 (e34.trans e5) hk5 (by omega) ?_)
      · rintro a b ⟨a1, a2, rfl, rfl, rfl⟩ rfl
        rw [List.length_append, List.length_take, List.length_drop]
        show _ + 1 + _ ≤ _
        omega
      obtain ⟨nds', r, vs, ⟨a, b, ⟨a1, a2, rfl, rfl, rfl⟩, rfl, rfl⟩, h⟩ := hT
      refine ⟨_, r, vs, ⟨by rw [List.length_append, List.length_append, List.length_take, List.length_drop]; show _ + 1 + _ ≤ _; omega, fun m hm => .inl ?_⟩, h⟩
      rcases List.mem_append.mp hm with h | h
      · rcases List.mem_append.mp h with h | h
        · exact hmt _ h
        · simp at h
      · exact hmd _ _ h
    refine q_when (b := decide (j = 2)) (et_is (et_test (ev_op (ev_var rfl) ev_c (rv_eq (by rfl)))) ?_) (fun hb H5 e5 => ?_) (fun hb H5 e5 => ?_)
    · rw [decide_eq_decide]
      exact ⟨fun h => by have := V.int.inj h; omega, fun h => by rw [h]; rfl⟩
    · have e35 := Ed.of (d := d) (e3.trans (e4.trans e5))
      have hpick : ED (tTup (tCons (tTup (tCons (tC (.str "split")) (tCons (tCall (sp_pick K) [] (fun _ _ _ => False) (tCons (tVar 0) (tCons (tVar 2) tNil))) tNil))) tNil)) [some (.ref d), some (.ref p), some (.ref n), some (.int (i : Int)), some (.int (j : Int))] d H5 1 (TN (fun nds' => ∃ m, m ∈ ns ∧ nds' = [some m])) := by
        intro k2 H6 e6 hk6 hc Q6 q6
        refine d_pick (K := K) (H := H5) (xs := nmL ns) (a := n) (ev_var rfl) (ev_var rfl) (by rw [del_ne hnd]; exact e35.at hn2 hnd) (by cases ns with
          | nil => exact absurd rfl hnne
          | cons c r => simp [nmL]) (by rw [nmL_len]; omega) k2 H6 e6 hk6 hc _ (fun v H7 e7 hk7 hv => ?_)
        obtain ⟨m, hm, rfl⟩ := List.mem_map.mp hv
        refine ⟨few5' rfl, fun r hr => ⟨few5' rfl, fun o ho => ?_⟩⟩
        exact q6 _ _ (e7.trans (Ed.of ((Ex.new hr).trans (Ex.new ho)))) (hk7.ex ((Ex.new hr).trans (Ex.new ho))) ⟨[some m], o, [.ref r], ⟨m, hm, rfl⟩, rfl, upd_same, AllV.cons ⟨r, rfl, by rw [upd_ne (fun x => by subst x; rw [upd_same] at ho; cases ho), upd_same]; rfl⟩ AllV.nil⟩
      refine sd_ret (k := k + 1 + 1) (c := 0 + 1 + 0) (ed_cat (ed_cat (hsl1 _ e35) hpick ?_) (hsl2 _ e35 _ (i + 1) hi1 (by omega)) ?_) (hk2'.ex (e3.trans (e4.trans e5))) (by omega) (fun v H6 e6 hk6 hT => fin _ v H6 (e35.trans e6) hk6 (by omega) ?_)
      · rintro a b rfl ⟨m, hm, rfl⟩
        rw [List.length_take]
        show _ + 1 ≤ _
        omega
      · rintro a b ⟨a1, a2, rfl, ⟨m, hm, rfl⟩, rfl⟩ rfl
        rw [List.length_append, List.length_take, List.length_drop]
        show _ + 1 + _ ≤ _
        omega
      obtain ⟨nds', r, vs, ⟨a, b, ⟨a1, a2, rfl, ⟨m, hm, rfl⟩, rfl⟩, rfl, rfl⟩, h⟩ := hT
      refine ⟨_, r, vs, ⟨by rw [List.length_append, List.length_append, List.length_take, List.length_drop]; show _ + 1 + _ ≤ _; omega, fun x hx => ?_⟩, h⟩
      rcases List.mem_append.mp hx with h | h
      · rcases List.mem_append.mp h with h | h
        · exact .inl (hmt _ h)
        · have : x = m := by simpa using h
          rw [this]; exact .inr hm
      · exact .inl (hmd _ _ h)
    have e35 := Ed.of (d := d) (e3.trans (e4.trans e5))
    refine sd_ret (k := k + 1 + 1) (c := 0 + 0) (ed_cat (A := (· = nds)) (ed_X fun H6 e6 ⟨kk, hk6⟩ => x_evP (ev_var rfl) (fun H7 e7 => ⟨nds, p, us, rfl, rfl, e7 _ _ ((e35.trans e6).at hp2 hpd), nodes_tu ((tu_ed hk2' (e35.trans e6)).trans (Tu.of e7)) hall2⟩)) (hshut _) (fun a b h1 h2 => by rw [h1, h2]; show _ + 1 ≤ _; omega)) (hk2'.ex (e3.trans (e4.trans e5))) (by omega) (fun v H6 e6 hk6 hT => fin _ v H6 (e35.trans e6) hk6 (by omega) ?_)
    obtain ⟨nds', r, vs, ⟨a, b, rfl, rfl, rfl⟩, h⟩ := hT
    refine ⟨_, r, vs, ⟨by rw [List.length_append]; exact Nat.le_refl _, fun m hm => .inl ?_⟩, h⟩
    rcases List.mem_append.mp hm with h | h
    · exact h
    · simp at h

end
end Tx
end
section
set_option Elab.async false
set_option linter.all false
set_option maxRecDepth 100000
set_option maxHeartbeats 4000000
/-! what is written is read as it was meant -/
namespace Tx
open PySem PySem.Spec PyProof.Rows L2 Evl Wk
theorem abc_al : ∀ c, c ∈ abc → (isAl c = true ∧ goodW [c] = true ∧ c ≠ 110) ∧ c ≠ 10 ∧ c ∉ great := by decide +kernel
def ends : List Nat := [44, 46, 32]
theorem ends_al : ∀ d, d ∈ ends → isAl d = false ∧ d ≠ 40 := by decide +kernel
theorem word_one {c d : Nat} {r : List Nat} (hc : c ∈ abc) (hd : d ∈ ends) : wordOf (c :: d :: r) = [c] := by
  obtain ⟨⟨a1, a2, _⟩, _⟩ := abc_al c hc
  have b := (ends_al d hd).1
  have e : alen 9 (c :: d :: r) = 1 := by
    show (if isAl c = true then (if isAl d = true then alen 7 r + 1 else 0) + 1 else 0) = 1
    rw [if_pos a1, if_neg (by rw [b]; decide)]
  have e2 : wd (c :: d :: r) = [c] := by
    unfold wd
    rw [e]
    rfl
  rw [wordOf_eq, e2, if_pos a2]
theorem readT_one {l r : List Nat} {s c d : Nat} (hc : c ∈ abc) (hd : d ∈ ends) (h : l.drop s = c :: d :: r) : readT l s = some (t1 c, s + 1) := by
  have hw : wordOf (l.drop s) = [c] := by rw [h]; exact word_one hc hd
  have hat : l[s + 1]? = some d := by
    have : (l.drop s)[1]? = some d := by rw [h]; rfl
    rwa [List.getElem?_drop] at this
  have hP : putW l ⟨s, [], [], []⟩ = ⟨s + 1, [([c], 0)], [], []⟩ := by
    unfold putW
    show (⟨s + (wordOf (l.drop s)).length, [] ++ [(wordOf (l.drop s), 0)], [], []⟩ : RS) = _
    rw [hw]
    rfl
  have hG : goOn l ⟨s + 1, [([c], 0)], [], []⟩ = (⟨s + 1, [([c], 0)], [], []⟩, some false) := by
    unfold goOn
    rw [if_neg (by
      show ¬ l[s + 1]? = some 40
      rw [hat]
      intro x
      exact (ends_al d hd).2 (Option.some.inj x))]
    rfl
  unfold readT
  have e : readLoop l (l.length - s + 1) ⟨s, [], [], []⟩ = some ⟨s + 1, [([c], 0)], [], []⟩ := by
    unfold readLoop
    rw [if_neg (by show ¬ wordOf (l.drop s) = []; rw [hw]; simp), hP, hG]
  rw [e]
  rfl
theorem depth_one (c : Nat) : ¬ depthOf (t1 c) > 4 := by
  have : depthOf (t1 c) = 1 := rfl
  rw [this]
  decide
def ptT (p : Bool × Nat) : List Nat := if p.1 = true then notW ++ [p.2] else [p.2]
def ptL (p : Bool × Nat) : Lt := (t1 p.2, p.1)
theorem readLit_one {l r : List Nat} {s d : Nat} {p : Bool × Nat} (hc : p.2 ∈ abc) (hd : d ∈ ends) (h : l.drop s = ptT p ++ d :: r) : readLit l s = some (ptL p, s + (ptT p).length) := by
  obtain ⟨b, c⟩ := p
  unfold readLit
  cases b with
  | true =>
    have h' : l.drop s = 110 :: 111 :: 116 :: 32 :: c :: d :: r := h
    have hn : isNot l s = true := by unfold isNot; rw [h']; rfl
    have h4 : l.drop (s + 4) = c :: d :: r := by rw [← List.drop_drop, h']; rfl
    rw [hn, if_pos rfl, readT_one hc hd h4]
    dsimp only
    rw [if_neg (depth_one c)]
    rfl
  | false =>
    have h' : l.drop s = c :: d :: r := h
    have hn : isNot l s = false := by
      unfold isNot
      rw [h']
      refine decide_eq_false fun x => ?_
      have x' : c :: (d :: r).take 3 = 110 :: [111, 116, 32] := x
      exact (abc_al c hc).1.2.2 (List.cons.inj x').1
    rw [hn, if_neg (by decide), Nat.add_zero, readT_one hc hd h']
    dsimp only
    rw [if_neg (depth_one c)]
    rfl
def restT (ah : List Nat) (ps : List (Bool × Nat)) : List Nat := if ps = [] then [46] else ah ++ (TL.joinL [44, 32] (ps.map ptT) ++ [46])
theorem joinL_more (p : Bool × Nat) (ps : List (Bool × Nat)) : TL.joinL [44, 32] ((p :: ps).map ptT) ++ [46] = ptT p ++ restT [44, 32] ps := by
  cases ps with
  | nil => rfl
  | cons q ps =>
    show (ptT p ++ ([44, 32] ++ TL.joinL [44, 32] (ptT q :: ps.map ptT))) ++ [46] = _
    unfold restT
    rw [if_neg (by simp), List.append_assoc, List.append_assoc]
    rfl
theorem restT_head (ps : List (Bool × Nat)) : ∃ d r, d ∈ ends ∧ restT [44, 32] ps = d :: r := by
  unfold restT
  split
  · exact ⟨46, [], by decide, rfl⟩
  · exact ⟨44, _, by decide, rfl⟩
theorem body_read {l : List Nat} : ∀ (ps : List (Bool × Nat)) (n pl : Nat) (ah : List Nat) (bs : List Lt), (ah = [32, 58, 45, 32] ∨ ah = [44, 32]) → l.drop pl = restT ah ps → (∀ p, p ∈ ps → p.2 ∈ abc) → ps.length < n → bs.length + ps.length ≤ 4 →
    bodyLoop l n ah pl bs = some (bs ++ ps.map ptL)
  | ps, 0, _, _, _, _, _, _, h, _ => absurd h (Nat.not_lt_zero _)
  | [], n + 1, pl, ah, bs, _, hd, _, _, _ => by
    unfold bodyLoop
    rw [if_pos (by rw [hd]; rfl)]
    simp
  | p :: ps, n + 1, pl, ah, bs, ha, hd, hm, hn, hb => by
    have hd2 : l.drop pl = ah ++ (ptT p ++ restT [44, 32] ps) := by
      rw [hd]
      unfold restT
      rw [if_neg (by simp), joinL_more]
      rfl
    have hne : ¬ l.drop pl = [46] := by
      rw [hd2]
      rcases ha with x | x <;> rw [x] <;> simp
    have htk : (l.drop pl).take ah.length = ah := by rw [hd2]; simp
    have hd3 : l.drop (pl + ah.length) = ptT p ++ restT [44, 32] ps := by rw [← List.drop_drop, hd2]; simp
    obtain ⟨d, r, h1, h2⟩ := restT_head ps
    rw [List.length_cons] at hn hb
    have hlit := readLit_one (l := l) (s := pl + ah.length) (p := p) (hm p List.mem_cons_self) h1 (by rw [hd3, h2])
    have hd4 : l.drop (pl + ah.length + (ptT p).length) = restT [44, 32] ps := by rw [← List.drop_drop, hd3]; simp
    unfold bodyLoop
    rw [if_neg hne, if_neg (by rw [htk]; rintro (x | x); exact x rfl; omega), hlit]
    dsimp only
    rw [body_read ps n _ [44, 32] (bs ++ [ptL p]) (.inr rfl) hd4 (fun q hq => hm q (List.mem_cons_of_mem _ hq)) (by omega) (by rw [List.length_append]; show bs.length + 1 + _ ≤ _; omega)]
    simp
def ptsOf (r : Rw) : List (Bool × Nat) := r.2.1.map (fun c => (false, c)) ++ r.2.2.map fun c => (true, c)
theorem ptsOf_T (r : Rw) : (ptsOf r).map ptT = r.2.1.map (fun c => [c]) ++ r.2.2.map (fun c => notW ++ [c]) := by
  unfold ptsOf
  rw [List.map_append, List.map_map, List.map_map]
  rfl
theorem ptsOf_L (r : Rw) : (ptsOf r).map ptL = r.2.1.map (fun c => (t1 c, false)) ++ r.2.2.map (fun c => (t1 c, true)) := by
  unfold ptsOf
  rw [List.map_append, List.map_map, List.map_map]
  rfl
theorem line_rest (r : Rw) : lineT r = r.1 :: restT [32, 58, 45, 32] (ptsOf r) := by
  have hb : bodyT r = TL.joinL [44, 32] ((ptsOf r).map ptT) := by rw [ptsOf_T]; rfl
  unfold lineT restT
  rw [hb]
  cases hp : ptsOf r with
  | nil => rfl
  | cons p ps =>
    have hne : ¬ TL.joinL [44, 32] ((p :: ps).map ptT) = [] := by
      intro x
      have := joinL_more p ps
      rw [x] at this
      have h2 := congrArg List.length this
      rw [List.length_append] at h2
      have h3 : 1 ≤ (ptT p).length := by unfold ptT; split <;> simp
      obtain ⟨d, q, _, h4⟩ := restT_head ps
      rw [h4] at h2
      simp at h2
      omega
    rw [if_neg hne, if_neg (by simp)]
    simp
theorem GoodR1 {r : Rw} (h : r.1 ∈ abc ∧ r.2.1.length ≤ 2 ∧ r.2.2.length ≤ 2 ∧ (∀ c, c ∈ r.2.1 → c ∈ abc) ∧ ∀ c, c ∈ r.2.2 → c ∈ abc) : (∀ p, p ∈ ptsOf r → p.2 ∈ abc) ∧ (ptsOf r).length ≤ 4 := by
  unfold ptsOf
  refine ⟨fun p hp => ?_, by rw [List.length_append, List.length_map, List.length_map]; omega⟩
  rcases List.mem_append.mp hp with x | x
  · obtain ⟨c, hc, rfl⟩ := List.mem_map.mp x
    exact h.2.2.2.1 c hc
  · obtain ⟨c, hc, rfl⟩ := List.mem_map.mp x
    exact h.2.2.2.2 c hc
theorem joinL_signs : ∀ (ps : List (Bool × Nat)), (∀ p, p ∈ ps → p.2 ∈ abc) → (∀ c, c ∈ TL.joinL [44, 32] (ps.map ptT) → c ≠ 10 ∧ c ∉ great) ∧ (TL.joinL [44, 32] (ps.map ptT)).length ≤ 7 * ps.length
  | [], _ => ⟨fun c hc => (by simp [TL.joinL] at hc), by simp [TL.joinL]⟩
  | p :: ps, h => by
    have hp : (∀ c, c ∈ ptT p → c ≠ 10 ∧ c ∉ great) ∧ (ptT p).length ≤ 5 := by
      obtain ⟨b, c⟩ := p
      have hc := (abc_al c (h (b, c) List.mem_cons_self)).2
      have hn : ∀ c, c ∈ notW → c ≠ 10 ∧ c ∉ great := by decide +kernel
      cases b with
      | true =>
        refine ⟨fun x hx => ?_, Nat.le_refl _⟩
        rcases List.mem_append.mp (show x ∈ notW ++ [c] from hx) with y | y
        · exact hn x y
        · rw [List.mem_singleton.mp y]; exact hc
      | false => exact ⟨fun x hx => by rw [List.mem_singleton.mp (show x ∈ [c] from hx)]; exact hc, (by decide : 1 ≤ 5)⟩
    obtain ⟨i1, i2⟩ := joinL_signs ps fun q hq => h q (List.mem_cons_of_mem _ hq)
    cases ps with
    | nil => exact ⟨fun x hx => hp.1 x hx, Nat.le_trans hp.2 (by simp)⟩
    | cons q ps =>
      have hs : ∀ c, c ∈ [44, 32] → c ≠ 10 ∧ c ∉ great := by decide +kernel
      have e : TL.joinL [44, 32] ((p :: q :: ps).map ptT) = ptT p ++ ([44, 32] ++ TL.joinL [44, 32] ((q :: ps).map ptT)) := rfl
      rw [e]
      refine ⟨fun x hx => ?_, ?_⟩
      · rcases List.mem_append.mp hx with y | y
        · exact hp.1 x y
        · rcases List.mem_append.mp y with y | y
          · exact hs x y
          · exact i1 x y
      · rw [List.length_append, List.length_append]
        rw [List.length_cons] at i2 ⊢
        simp only [List.length_cons, List.length_nil] at i2 ⊢
        omega
theorem line_ok {r : Rw} (h : r.1 ∈ abc ∧ r.2.1.length ≤ 2 ∧ r.2.2.length ≤ 2 ∧ (∀ c, c ∈ r.2.1 → c ∈ abc) ∧ ∀ c, c ∈ r.2.2 → c ∈ abc) : readCl (lineT r) = some (clOf r) ∧ (∀ c, c ∈ lineT r → c ≠ 10 ∧ c ∉ great) ∧ (lineT r).length ≤ 100 := by
  obtain ⟨g1, g2⟩ := GoodR1 h
  obtain ⟨i1, i2⟩ := joinL_signs (ptsOf r) g1
  have hlen : (lineT r).length ≤ 100 := by
    rw [line_rest, List.length_cons]
    unfold restT
    split
    · decide
    · simp only [List.length_append, List.length_cons, List.length_nil]
      omega
  refine ⟨?_, fun c hc => ?_, hlen⟩
  · have hrest : ∃ d q, d ∈ ends ∧ restT [32, 58, 45, 32] (ptsOf r) = d :: q := by
      unfold restT
      split
      · exact ⟨46, [], by decide, rfl⟩
      · exact ⟨32, _, by decide, rfl⟩
    obtain ⟨d, q, h1, h2⟩ := hrest
    have hlit := readLit_one (l := lineT r) (s := 0) (p := (false, r.1)) (r := q) (d := d) h.1 h1 (by rw [List.drop_zero, line_rest, h2]; rfl)
    unfold readCl
    rw [hlit]
    dsimp only [ptL]
    rw [if_neg (by
      rintro (x | x)
      · cases x
      · omega)]
    have hb := body_read (l := lineT r) (ptsOf r) ((lineT r).length + 1) (0 + (ptT (false, r.1)).length) [32, 58, 45, 32] [] (.inl rfl) (by
      rw [line_rest]
      rfl) g1 (by
      have : (ptsOf r).length ≤ (lineT r).length := by
        rw [line_rest, List.length_cons]
        unfold restT
        split
        · rename_i e; rw [e]; simp
        · simp only [List.length_append, List.length_cons, List.length_nil]
          omega
      omega) (by simpa using g2)
    rw [hb]
    show some (t1 r.1, [] ++ (ptsOf r).map ptL) = some (clOf r)
    rw [List.nil_append, ptsOf_L]
    rfl
  · rw [line_rest] at hc
    have hs : ∀ c, c ∈ [46] → c ≠ 10 ∧ c ∉ great := by decide +kernel
    have hs2 : ∀ c, c ∈ [32, 58, 45, 32] → c ≠ 10 ∧ c ∉ great := by decide +kernel
    rcases List.mem_cons.mp hc with x | x
    · rw [x]; exact (abc_al r.1 h.1).2
    · unfold restT at x
      split at x
      · exact hs c x
      · rcases List.mem_append.mp x with x | x
        · exact hs2 c x
        · rcases List.mem_append.mp x with x | x
          · exact i1 c x
          · exact hs c x
theorem names_abc {rs : List Rw} (h : GoodR' rs) : ∀ c, c ∈ namesOf rs → c ∈ abc := fun c hc => by
  obtain ⟨r, hr, hm⟩ := namesOf_mem.mp hc
  obtain ⟨h1, h2, h3, h4, h5⟩ := h r hr
  rcases List.mem_cons.mp hm with x | x
  · rw [x]; exact h1
  · rcases List.mem_append.mp x with x | x
    · exact h4 c x
    · exact h5 c x
theorem names_5 {rs : List Rw} (h : GoodR' rs) : (namesOf rs).length ≤ 5 := by
  have e : namesOf rs = abc.filter fun c => decide (c ∈ namesOf rs) := by
    refine ris_unique (namesOf_ris rs) (List.Pairwise.sublist List.filter_sublist (by decide)) fun c => ?_
    rw [List.mem_filter, decide_eq_true_eq]
    exact ⟨fun hc => ⟨names_abc h c hc, hc⟩, fun hc => hc.2⟩
  rw [e]
  exact List.length_filter_le _ abc
theorem progT_len : ∀ ls : List (List Nat), (∀ l, l ∈ ls → l.length ≤ 100) → (progT ls).length ≤ ls.length * 101
  | [], _ => Nat.le_refl _
  | l :: ls, h => by
    have ih := progT_len ls fun m hm => h m (List.mem_cons_of_mem _ hm)
    have h1 := h l List.mem_cons_self
    have e : progT (l :: ls) = (l ++ [10]) ++ progT ls := rfl
    rw [e, List.length_append, List.length_append, List.length_cons]
    simp only [List.length_cons, List.length_nil]
    omega
theorem prog_ok {rs : List Rw} (h : GoodR rs) : ProgOk (rs.map lineT) rs := by
  obtain ⟨h7, hg⟩ := h
  have hok : ∀ r, r ∈ rs → readCl (lineT r) = some (clOf r) ∧ (∀ c, c ∈ lineT r → c ≠ 10 ∧ c ∉ great) ∧ (lineT r).length ≤ 100 := fun r hr => line_ok (hg r hr)
  have hl : ∀ l, l ∈ rs.map lineT → l.length ≤ 100 := fun l hl => by
    obtain ⟨r, hr, rfl⟩ := List.mem_map.mp hl
    exact (hok r hr).2.2
  have hpl := progT_len (rs.map lineT) hl
  rw [List.length_map] at hpl
  have hn5 := names_5 hg
  refine ⟨⟨by omega, by rw [List.length_map]; omega, fun l hm => ?_, ?_⟩, by omega, fun z hz => ?_, ⟨by omega, fun r hr => ?_, ?_⟩, by omega, fun c hc => ?_⟩
  · have := hl l hm
    obtain ⟨r, hr, rfl⟩ := List.mem_map.mp hm
    exact ⟨fun hc => ((hok r hr).2.1 10 hc).1 rfl, fun c hc => ((hok r hr).2.1 c hc).2, by omega⟩
  · rw [List.map_map, List.map_map]
    exact List.map_congr_left fun r hr => (hok r hr).1
  · obtain ⟨r, hr, rfl⟩ := List.mem_map.mp hz
    obtain ⟨_, a, b, _⟩ := hg r hr
    show ((r.2.1.map fun c => (t1 c, false)) ++ r.2.2.map fun c => (t1 c, true)).length ≤ _
    rw [List.length_append, List.length_map, List.length_map]
    omega
  · obtain ⟨_, a, b, _⟩ := hg r hr
    exact ⟨by omega, by omega⟩
  · have := (sortN_perm (keysOf rs)).length_eq
    have e : namesOf rs = sortN (keysOf rs) := rfl
    rw [← e] at this
    omega
  · have := names_abc hg c hc
    have h2 : ∀ c, c ∈ abc → c < 1000 := by decide
    exact h2 c this
/-- names that are wanted or denied: some of all -/
theorem asm_filter (rs : List Rw) (g : Nat → Bool) : asmB rs ((namesOf rs).filter g) = true := by
  unfold asmB
  rw [Bool.and_eq_true, Bool.and_eq_true]
  refine ⟨⟨decide_eq_true (List.length_filter_le _ _), List.all_eq_true.mpr fun c hc => decide_eq_true (List.mem_filter.mp hc).1⟩, ?_⟩
  unfold risB
  exact decide_eq_true (List.Pairwise.sublist List.filter_sublist (namesOf_ris rs))
theorem fitB_iff {t f s : List Nat} : fitB t f s = true ↔ Fit t f s := by
  unfold fitB Fit
  rw [Bool.and_eq_true, List.all_eq_true, Bool.not_eq_true', List.any_eq_false]
  exact ⟨fun h => ⟨fun c hc => of_decide_eq_true (h.1 c hc), fun c hc x => h.2 c hc (decide_eq_true x)⟩, fun h => ⟨fun c hc => decide_eq_true (h.1 c hc), fun c hc x => h.2 c hc (of_decide_eq_true x)⟩⟩
end Tx
end
section
set_option Elab.async false
set_option linter.all false
set_option maxRecDepth 100000
set_option maxHeartbeats 4000000
namespace Tx
open PySem PySem.Spec PyProof.Rows L2 Evl Wk
section
variable {w : World} {K : PySem.W.Frag} {mg : Str → Option Value} {base : Heap}

section
variable {σ : L2.St} {H : Hp} {ta tb te tl tc : TE} {t : TT} {tu tw tz : TS} {D : Ends} {d : Addr}
/-- [c for c in ns if roll] -/
theorem d_lcF {j c N : Nat} {vs : List Nat} {ns : List Nat} {a : Addr} (hl : Ev tl σ (del H d) (.ref a)) (ha : (del H d) a = some (.lst (nmL ns))) (hN : ns.length ≤ N) (hN2 : N ≤ 100) (hw : ∀ x, wipe ((wipe σ vs).set j (some x)) vs = wipe σ vs)
    (hj : ∀ x, ((wipe σ vs).set j (some x))[j]? = some (some x)) (ht : ∀ (m : Nat) H1, Ed d H H1 → ED tc ((wipe σ vs).set j (some (nmV m))) d H1 c (fun v _ => ∃ b, v = .bl b)) :
    ED (tLc (iList K tl) (gName j) (tTest tc) (tVar j) vs) σ d H (N * c) (fun v H' => ∃ p ms, v = .ref p ∧ H p = none ∧ p ≠ d ∧ H' p = some (.lst (nmL ms)) ∧ ms.Sublist ns) := fun k H1 e hk hlt Q q =>
  hl H1 e _ fun H2 e2 => by
    have hmul : ∀ i, i ≤ ns.length → i * c ≤ N * c := fun i hi => Nat.mul_le_mul_right _ (Nat.le_trans hi hN)
    have had : a ≠ d := fun x => by subst x; rw [del_same] at ha; cases ha
    have ha2 : H2 a = some (.lst (nmL ns)) := e2 _ _ (e _ _ ha)
    have hk2 := hk.ex e2
    refine ⟨a, rfl, ⟨_, sq_of ha2⟩, fun Dl hD => ?_⟩
    have hDd : Dl ≠ d := dice_ne hk2 hD
    have haD : a ≠ Dl := ne_new ha2 hD
    refine lc_it (walk_list (K := K) (a := a) (xs := nmL ns)) (fun i H' => Ed d H2 H' ∧ DiceAt (k + i * c) d H' ∧ ∃ ms, H' Dl = some (.lst (nmL ms)) ∧ ms.Sublist (ns.take i)) ⟨Ed.of (Ex.new hD), by rw [Nat.zero_mul]; exact dice_upd hk2 hDd, [], upd_same, List.nil_sublist _⟩ (fun i H' hi p => sq_of (p.1.at ha2 had)) ?_ ?_
    · rintro i x H' H'' hi ⟨p1, p2, ms, p3, p4⟩ ⟨rfl, hx⟩
      rw [nmL_len] at hi
      have hx' : (nmL ns)[i]? = some x := hx
      unfold nmL at hx'
      rw [List.getElem?_map] at hx'
      obtain ⟨m, hm, rfl⟩ := Option.map_eq_some_iff.mp hx'
      have h1 := hmul (i + 1) hi
      rw [Nat.add_mul, Nat.one_mul] at h1
      have htk : ns.take (i + 1) = ns.take i ++ [m] := by rw [List.take_add_one, hm]; rfl
      refine ⟨hw _, ?_⟩
      refine ht m H'' ((Ed.of (d := d) (e2)) |> fun e3 => Ed.trans e (e3.trans p1)) (k + i * c) H'' (Ed.refl d H'') p2 (by omega) _ fun u H4 e4 hk4 ⟨b, eb⟩ => ?_
      subst eb
      refine ⟨b, rfl, ?_⟩
      have hD4 := e4.at p3 hDd
      have hk5 : DiceAt (k + (i + 1) * c) d H4 := by rw [Nat.add_mul, Nat.one_mul, ← Nat.add_assoc]; exact hk4
      cases b with
      | true =>
        refine ⟨nmV m, hj _, nmL ms, hD4, sz_lt (by rw [nmL_len]; have := p4.length_le; rw [List.length_take] at this; omega), Ex.mut (p1.trans e4) (del_none hD), dice_upd hk5 hDd, ms ++ [m], ?_, ?_⟩
        · rw [upd_same]; unfold nmL; rw [List.map_append]; rfl
        · rw [htk]; exact p4.append (List.Sublist.refl _)
      | false => exact ⟨p1.trans e4, hk5, ms, hD4, by rw [htk]; exact p4.trans (List.sublist_append_left _ _)⟩
    · rintro H' ⟨p1, p2, ms, p3, p4⟩
      rw [nmL_len] at p2 p4
      rw [List.take_length] at p4
      have h1 := hmul ns.length (Nat.le_refl _)
      refine q _ H' ((Ed.of e2).trans p1) (p2.mono (by omega)) ⟨Dl, ms, rfl, ?_, hDd, p3, p4⟩
      cases hh : H Dl with
      | none => rfl
      | some o =>
        have := (Ed.trans e (Ed.of e2)).at hh hDd
        rw [hD] at this
        cases this
theorem ed_tup {c : Nat} {A : List Nat → Prop} (h : ED te σ d H c (fun v H' => ∃ p ms, v = .ref p ∧ H' p = some (.lst (nmL ms)) ∧ A ms)) :
    ED (tCB (fun xs H Q => ∃ p ys, xs = [.ref p] ∧ ((SqL K H p ys ∧ ∀ l, H l = none → Q (.ref l) (upd H l (.tup ys))) ∨ (SqT K H p ys ∧ Q (.ref p) H))) (tCons te tNil)) σ d H c (fun v H' => ∃ q ms, v = .ref q ∧ H' q = some (.tup (nmL ms)) ∧ A ms) := fun k H1 e hk hc Q q =>
  h k H1 e hk hc _ fun v H2 e2 hk2 ⟨p, ms, ev, hp, ha⟩ => ⟨p, nmL ms, by rw [ev], .inl ⟨sq_of hp, fun l hl => q _ _ (e2.trans (Ed.of (Ex.new hl))) (hk2.ex (Ex.new hl)) ⟨l, ms, rfl, upd_same, ha⟩⟩⟩
theorem q_when2 {b : Bool} (P : L2.St → Hp → Prop) (h : EvT t σ H b) (h1 : b = true → ∀ H1, Ex H H1 → ∀ N : L2.St → Hp → Prop, (∀ σ' H', P σ' H' → N σ' H') → tu { D with nx := N } σ H1) (h2 : b = false → ∀ H1, Ex H H1 → P σ H1) (k : ∀ σ' H', P σ' H' → tz D σ' H') : tSeq (tIfS t tu tNext) tz D σ H :=
  q_when h (fun hb H1 e1 => h1 hb H1 e1 (tz D) k) (fun hb H1 e1 => k _ _ (h2 hb H1 e1))
theorem q_if2 {b : Bool} (P : L2.St → Hp → Prop) (h : EvT t σ H b) (h1 : b = true → ∀ H1, Ex H H1 → ∀ N : L2.St → Hp → Prop, (∀ σ' H', P σ' H' → N σ' H') → tu { D with nx := N } σ H1) (h2 : b = false → ∀ H1, Ex H H1 → ∀ N : L2.St → Hp → Prop, (∀ σ' H', P σ' H' → N σ' H') → tw { D with nx := N } σ H1) (k : ∀ σ' H', P σ' H' → tz D σ' H') : tSeq (tIfS t tu tw) tz D σ H :=
  q_if h (fun hb H1 e1 => h1 hb H1 e1 (tz D) k) (fun hb H1 e1 => h2 hb H1 e1 (tz D) k)
end
theorem rows_ed {k : Nat} {d a : Addr} {H H' : Hp} {rs : List Rw} (hk : DiceAt k d H) (e : Ed d H H') (h : RowsAt rs a H) : RowsAt rs a H' := by
  obtain ⟨vs, h1, h2⟩ := h
  obtain ⟨b, m, c, _, _, _, _, h5⟩ := hk
  have key : ∀ x o, H x = some o → o ≠ .lst [.int b, .int m, .int (c : Int)] → H' x = some o := fun x o ho hn => e.at ho (fun y => by subst y; rw [h5] at ho; exact hn (Option.some.inj ho).symm)
  have hv : HO.lst vs ≠ .lst [.int b, .int m, .int (c : Int)] := fun x => by
    have x' := HO.lst.inj x
    obtain ⟨r, _, p, w, dn, e1, _⟩ := AllV.at h2 (i := 0) (v := .int b) (by rw [x']; rfl)
    cases e1
  refine ⟨vs, key _ _ h1 hv, h2.1, fun i v r x y => ?_⟩
  obtain ⟨p, w, dn, g1, g2, g3, g4⟩ := h2.2 i v r x y
  exact ⟨p, w, dn, g1, key _ _ g2 (by intro h; cases h), key _ _ g3 nm_dice, key _ _ g4 nm_dice⟩
theorem AllV.map {α β : Type} {P : α → V → Hp → Prop} {R : β → V → Hp → Prop} {f : α → β} {as : List α} {vs : List V} {H : Hp} (h : AllV P as vs H) (i : ∀ a v, P a v H → R (f a) v H) : AllV R (as.map f) vs H := ⟨by rw [List.length_map, h.1], fun j v b hv hb => by
  rw [List.getElem?_map] at hb
  obtain ⟨a, ha, rfl⟩ := Option.map_eq_some_iff.mp hb
  exact i a v (h.2 j v a hv ha)⟩
theorem asm_sub {rs : List Rw} {ms : List Nat} (h : ms.Sublist (namesOf rs)) : asmB rs ms = true := by
  unfold asmB
  rw [Bool.and_eq_true, Bool.and_eq_true]
  refine ⟨⟨decide_eq_true h.length_le, List.all_eq_true.mpr fun c hc => decide_eq_true (h.subset hc)⟩, ?_⟩
  unfold risB
  exact decide_eq_true ((namesOf_ris rs).sublist h)
/-- an argument that is good -/
theorem asm_ok {rs : List Rw} {ms : List Nat} {nm : Str} {p : Addr} {H : Hp} {E : XK} {g : List Nat → Prop} (h : ms.Sublist (namesOf rs)) (hl : (namesOf rs).length ≤ 10) (hlo : Lo (namesOf rs)) (hp : H p = some (.tup (nmL ms))) (k : g ms) : AsmArg K rs (.ref p) nm H E g :=
  .inl ⟨p, ms, rfl, hp, Nat.le_trans h.length_le hl, fun c hc => hlo c (h.subset hc), .inl ⟨asm_sub h, k⟩⟩
theorem areB_eq {rs : List Rw} {ts fs : List Nat} {nds : List Nd} (hl : nds.length ≤ 200) (hn : ∀ c, some c ∈ nds → c ∈ namesOf rs) : areB rs ts fs (nds.map nodeS) = (decide (0 < nds.length) && judge rs [(ts, fs)] nds) := by
  unfold areB rowB
  have e1 : (nds.map nodeS).map ndOf = nds := by
    rw [List.map_map]
    exact (List.map_congr_left fun o _ => ndOf_S o).trans (List.map_id _)
  have e2 : (nds.map nodeS).all (ndB rs) = true := List.all_eq_true.mpr fun xs hx => by
    obtain ⟨o, ho, rfl⟩ := List.mem_map.mp hx
    exact ndB_of fun c hc => hn c (hc ▸ ho)
  rw [e1, e2, Bool.and_true, List.length_map, decide_eq_true hl, Bool.and_true]
  rfl
theorem val_ok {nds : List Nd} {us : List V} {p : Addr} {H : Hp} (hp : H p = some (.tup us)) (h : AllV NodeAt nds us H) (hl : nds.length ≤ 200) (hn : ∀ c, some c ∈ nds → c < 1000) : ValArg K (.ref p) H (nds.map nodeS) :=
  .inl ⟨p, us, rfl, hp, AllV.map h (fun a v x => x.s), by rw [h.1]; omega, fun xs hx => by
    obtain ⟨o, ho, rfl⟩ := List.mem_map.mp hx
    exact ⟨okS_node fun m hm => hn m (hm ▸ ho), by
      cases o with
      | none => exact (by decide : 1 ≤ 1000)
      | some c => exact (by decide : 2 ≤ 1000)⟩⟩

end
end Tx
end
section
set_option Elab.async false
set_option linter.all false
set_option maxRecDepth 100000
set_option maxHeartbeats 4000000
namespace Tx
open PySem PySem.Spec PyProof.Rows L2 Evl Wk
section
variable {w : World} {K : PySem.W.Frag} {mg : Str → Option Value} {base : Heap}

theorem units65 {k : Nat} {A : Around} (r : Room k A) : A.units + 65 < cLine := by have := r.un; omega
theorem ev_ofX {σ : L2.St} {H : Hp} {te : TE} {v : V} (h : EvX te σ H (fun x _ => x = v)) : Ev te σ H v := fun H1 e Q q => h H1 e Q fun x H2 e2 hx => by rw [hx]; exact q H2 e2
theorem ed_eq0 {σ : L2.St} {H : Hp} {te : TE} {d : Addr} {c n : Nat} (h : ED te σ d H c (fun v _ => ∃ i : Nat, i < n ∧ v = .int (i : Int))) : ED (tOp rEq te (tC (.int 0))) σ d H c (fun v _ => ∃ b, v = .bl b) := fun k H1 e hk hc Q q =>
  h k H1 e hk hc _ fun v H2 e2 hk2 ⟨i, hi, ev⟩ => by
    subst ev
    exact rv_eq (x := .int (i : Int)) (y := .int 0) (by rfl) H2 (Ex.refl H2) Q fun H3 e3 => q _ H3 (e2.trans (Ed.of e3)) (hk2.ex e3) ⟨_, rfl⟩
theorem dp_rows {H : Hp} : ∀ (ms : List (List Nat)) (zs : List V), AllV TupN ms zs H → DpAll K H zs (ms.map fun m => PyData.tuple (datN m))
  | [], [], _ => .nil
  | [], z :: zs, h => absurd h.1 (by simp)
  | m :: ms, [], h => absurd h.1 (by simp)
  | m :: ms, z :: zs, h => by
    obtain ⟨⟨p, e, hp⟩, h2⟩ := h.uncons
    subst e
    exact .cons (.tup (st_of hp) (dpN m)) (dp_rows ms zs h2)
theorem sh_rows : ∀ ms : List (List Nat), (∀ m, m ∈ ms → Lo m) → PyData.canLayAll0 (ms.map fun m => PyData.tuple (datN m)) = true ∧ PyData.depthAll (ms.map fun m => PyData.tuple (datN m)) ≤ 1
  | [], _ => ⟨by simp [PyData.canLayAll0], by simp [PyData.depthAll]⟩
  | m :: ms, h => by
    obtain ⟨i1, i2⟩ := sh_rows ms fun x hx => h x (List.mem_cons_of_mem _ hx)
    have h1 := shS_t (okS_nm (h m List.mem_cons_self))
    rw [← datN_S] at h1
    refine ⟨?_, ?_⟩
    · rw [List.map_cons, PyData.canLayAll0, i1, Bool.and_true]
      exact SeqAt.canLay_of_shaped h1
    · rw [List.map_cons, PyData.depthAll, PyData.depth, datN_S, depthS]
      omega
theorem ev_inRows {σ : L2.St} {H : Hp} {ta tb : TE} {q r : Addr} {s : List Nat} {ms : List (List Nat)} {zs : List V} (h1 : Ev ta σ H (.ref q)) (hq : H q = some (.tup (nmL s))) (h2 : Ev tb σ H (.ref r)) (hr : H r = some (.lst zs)) (hz : AllV TupN ms zs H) (hs : s ∈ ms) (hlo : ∀ m, m ∈ ms → Lo m) :
    Ev (tOp (rInD K) ta tb) σ H (.bl true) := fun H1 e Q k => h1 H1 e _ fun H2 e2 => h2 H2 (e.trans e2) _ fun H3 e3 => by
  have e03 := e.trans (e2.trans e3)
  obtain ⟨i1, i2⟩ := sh_rows ms hlo
  have hsh := shS_t (okS_nm (hlo s hs))
  rw [← datN_S] at hsh
  refine ⟨.tuple (datN s), ms.map fun m => PyData.tuple (datN m), .tup (st_of (e03 _ _ hq)) (dpN s), .lst (sq_of (e03 _ _ hr)) (dp_rows ms zs (AllV.mo (fun a => (TupN.mn a).mo) _ _ _ e03 hz)), hsh, ?_, ?_⟩
  · unfold SeqAt.shaped
    rw [PyData.canLay0, i1, PyData.depth, Bool.true_and]
    exact decide_eq_true (by omega)
  · have e : ((ms.map fun m => PyData.tuple (datN m)).any fun z => PyData.eqv z (PyData.tuple (datN s))) = true := by
      rw [List.any_eq_true]
      refine ⟨_, List.mem_map.mpr ⟨s, hs, rfl⟩, ?_⟩
      rw [PyData.eqv, eqvN]
      exact decide_eq_true rfl
    rw [e]
    exact k H3 (e2.trans e3)
def sp_law_one (K : PySem.W.Frag) : Sp := fun vs H Q _ => ∃ (d : Addr), vs = [.ref d] ∧ DiceAt 0 d H ∧ ∀ H', Ed d H H' → Q (.bl true) H'
theorem sc__law_one : FnScope ["dice", "clauses", "text", "names", "good", "turn", "wanted", "name", "denied", "rows", "row", "own", "tree", "more", "value", "told"] ["dice"] (defScope s__law_one) := ⟨rfl, rfl, rfl, by decide +kernel, rfl, by decide +kernel, by decide +kernel⟩
theorem ok__law_one (Z : Zx K mg) : OkD prog w K mg base CX0 10 "_law_one" ["dice"] (sp_law_one K) := by
  obtain ⟨fd, F0⟩ := Z.fun_ 56
  have F : Fun K "_law_one" "_law_one" s__law_one (He.ga K "_law_one") fd := Wk.fun_of F0
  obtain ⟨_, g__law_judged, b__law_judged, m__law_judged, k__law_judged⟩ := ok__law_judged (w := w) (base := base) Z
  obtain ⟨_, g__law_roll, b__law_roll, m__law_roll, k__law_roll⟩ := ok__law_roll (w := w) (base := base) Z
  obtain ⟨_, g__law_spoilt, b__law_spoilt, m__law_spoilt, k__law_spoilt⟩ := ok__law_spoilt (w := w) (base := base) Z
  obtain ⟨_, g__law_wt_named, b__law_wt_named, m__law_wt_named, k__law_wt_named⟩ := ok__law_wt_named (w := w) (base := base) Z
  obtain ⟨_, g__law_wt_named_all, b__law_wt_named_all, m__law_wt_named_all, k__law_wt_named_all⟩ := ok__law_wt_named_all (w := w) (base := base) Z
  obtain ⟨_, g__law_wt_named_text, b__law_wt_named_text, m__law_wt_named_text, k__law_wt_named_text⟩ := ok__law_wt_named_text (w := w) (base := base) Z
  obtain ⟨_, g_are_cases, b_are_cases, m_are_cases, k_are_cases⟩ := ok_are_cases (w := w) (base := base) Z
  obtain ⟨_, g_cases, b_cases, m_cases, k_cases⟩ := ok_cases (w := w) (base := base) Z
  obtain ⟨_, g_is_world, b_is_world, m_is_world, k_is_world⟩ := ok_is_world (w := w) (base := base) Z
  obtain ⟨_, g_world_with, b_world_with, m_world_with, k_world_with⟩ := ok_world_with (w := w) (base := base) Z
  obtain ⟨_, g_worlds, b_worlds, m_worlds, k_worlds⟩ := ok_worlds (w := w) (base := base) Z
  have n_all := Z.free 57 (x := "all")
  have n_any := Z.free 58 (x := "any")
  have n_len := Z.free 63 (x := "len")
  have n_range := Z.free 67 (x := "range")
  have n_tuple := Z.free 71 (x := "tuple")
  refine ⟨fd, ?_, F.binds (ps := ["dice"]) fun _ _ _ _ _ _ us hl => match us, hl with | [_], _ => rfl, Z.glo 46, F.kp⟩
  refine F.ok sc__law_one (fun vs H Q E h => ?_) (fun cdv A outer s H vs Q E hr h => ?_)
  · obtain ⟨d, rfl, hk, q⟩ := h
    rfl
  · obtain ⟨d, rfl, hk, q⟩ := h
    have hu65 := units65 hr
    refine ⟨_, (pss_cons (ps_set (i := 1) sc__law_one.nd rfl (by first | exact Or.inl rfl | exact Or.inr rfl) (pe_call g__law_wt_named (hr.mono (by decide)) (by rfl) m__law_wt_named k__law_wt_named b__law_wt_named .nil pass0 (pa_cons (pv 0) pa_nil))) (pss_cons (ps_par (i := 2) (j := 3) rfl sc__law_one.nd rfl rfl (by decide) rfl rfl (pa_cons (pe_call g__law_wt_named_text (hr.mono (by decide)) (by rfl) m__law_wt_named_text k__law_wt_named_text b__law_wt_named_text .nil pass0 (pa_cons (pv 1) pa_nil)) (pa_cons (pe_call g__law_wt_named_all (hr.mono (by decide)) (by rfl) m__law_wt_named_all k__law_wt_named_all b__law_wt_named_all .nil pass0 (pa_cons (pv 1) pa_nil)) pa_nil)) (by rfl)) (pss_cons (ps_set (i := 4) sc__law_one.nd rfl (by first | exact Or.inl rfl | exact Or.inr rfl) (pe_call g_worlds (hr.mono (by decide)) (by rfl) m_worlds k_worlds b_worlds .nil passL (pa_cons (pv 2) pa_nil))) (pss_cons (ps_for PassesOwn.never rfl (pi_range1 (by rfl) n_range (pa_cons pe_int pa_nil)) (pg_name (i := 5) sc__law_one.nd rfl (by first | exact Or.inl rfl | exact Or.inr rfl)) (pss_cons (ps_set (i := 6) sc__law_one.nd rfl (by first | exact Or.inl rfl | exact Or.inr rfl) (pe_callTy call_tuple_of (by rfl) n_tuple (by decide +kernel) (pa_cons (pe_lc (own := [("name", 7)]) rfl sc__law_one.nd (pi_list (pv 3)) (blkOk_by (own := [("name", 7)]) (N := ["dice", "clauses", "text", "names", "good", "turn", "wanted", "name", "denied", "rows", "row", "own", "tree", "more", "value", "told"]) (sc := defScope s__law_one) (by decide +kernel)) (fun _ _ _ _ _ => pg_name (i := 7) sc__law_one.nd rfl (by first | exact Or.inl rfl | exact Or.inr rfl)) (fun _ _ _ _ _ => pts_one (pt_cmpR op_eq (pe_call g__law_roll (hr.mono (by decide)) (by rfl) m__law_roll k__law_roll b__law_roll .nil pass0 (pa_cons (pv 0) (pa_cons pe_int pa_nil))) pe_int (nomark _))) (fun _ _ _ _ _ => (pv 7))) pa_nil))) (pss_cons (ps_set (i := 8) sc__law_one.nd rfl (by first | exact Or.inl rfl | exact Or.inr rfl) (pe_callTy call_tuple_of (by rfl) n_tuple (by decide +kernel) (pa_cons (pe_lc (own := [("name", 7)]) rfl sc__law_one.nd (pi_list (pv 3)) (blkOk_by (own := [("name", 7)]) (N := ["dice", "clauses", "text", "names", "good", "turn", "wanted", "name", "denied", "rows", "row", "own", "tree", "more", "value", "told"]) (sc := defScope s__law_one) (by decide +kernel)) (fun _ _ _ _ _ => pg_name (i := 7) sc__law_one.nd rfl (by first | exact Or.inl rfl | exact Or.inr rfl)) (fun _ _ _ _ _ => pts_one (pt_cmpR op_eq (pe_call g__law_roll (hr.mono (by decide)) (by rfl) m__law_roll k__law_roll b__law_roll .nil pass0 (pa_cons (pv 0) (pa_cons pe_int pa_nil))) pe_int (nomark _))) (fun _ _ _ _ _ => (pv 7))) pa_nil))) (pss_cons (ps_if (pt_cmpR op_eq (pv 5) pe_int (nomark _)) (pss_one (ps_asg (pe_tup (pa_cons (pe_tup pa_nil) (pa_cons (pe_tup pa_nil) pa_nil))) (pg_tup rfl (pgs_cons (pg_name (i := 6) sc__law_one.nd rfl (by first | exact Or.inl rfl | exact Or.inr rfl)) (pgs_cons (pg_name (i := 8) sc__law_one.nd rfl (by first | exact Or.inl rfl | exact Or.inr rfl)) pgs_nil))))) pss_nil) (pss_cons (ps_setLc (i := 9) (tt := (tB (tCB (rAll K) (tCons (tLc (iTup K (tVar 6)) (gName 7) tYes (tOp (rIn K false) (tVar 7) (tVar 10)) [7]) tNil)))) (own := [("row", 10)]) rfl sc__law_one.nd rfl rfl (sw_true rfl rfl rfl (by decide +kernel)) (pi_tup (pv 4)) (blkOk_by (own := [("row", 10)]) (N := ["dice", "clauses", "text", "names", "good", "turn", "wanted", "name", "denied", "rows", "row", "own", "tree", "more", "value", "told"]) (sc := defScope s__law_one) (by decide +kernel)) (fun _ _ _ _ _ => pg_name (i := 10) sc__law_one.nd rfl (by first | exact Or.inl rfl | exact Or.inr rfl)) (fun _ _ _ _ _ => pts_one (pt_val (pe_callB (cr_all rfl) (by rfl) n_all (by decide +kernel) (pa_cons (pe_lc (te := (tOp (rIn K false) (tVar 7) (tVar 10))) (own := [("name", 7)]) rfl sc__law_one.nd (pi_tup (pv 6)) (blkOk_by (own := [("name", 7)]) (N := ["dice", "clauses", "text", "names", "good", "turn", "wanted", "name", "denied", "rows", "row", "own", "tree", "more", "value", "told"]) (sc := { kind := ScopeKind.function, names := [(Str.ofString ".0", NameKind.local), (Str.ofString "row", NameKind.cell), (Str.ofString "all", NameKind.globalImplicit), (Str.ofString "wanted", NameKind.cell)], isGenerator := false, isCoroutine := false }) (by decide +kernel)) (fun _ _ _ _ _ => pg_name (i := 7) sc__law_one.nd rfl (by first | exact Or.inl rfl | exact Or.inr rfl)) (fun _ _ _ _ _ => pts_nil) (fun _ _ _ _ _ => (pe_cmpR op_in_seq (pv 7) (pv 10) rfl))) pa_nil)))) (fun _ _ _ _ _ => (pv 10))) (pss_cons (ps_setLc (i := 9) (tt := (tNot (tB (tCB (rAny K) (tCons (tLc (iTup K (tVar 8)) (gName 7) tYes (tOp (rIn K false) (tVar 7) (tVar 10)) [7]) tNil))))) (own := [("row", 10)]) rfl sc__law_one.nd rfl rfl (sw_true rfl rfl rfl (by decide +kernel)) (pi_list (pv 9)) (blkOk_by (own := [("row", 10)]) (N := ["dice", "clauses", "text", "names", "good", "turn", "wanted", "name", "denied", "rows", "row", "own", "tree", "more", "value", "told"]) (sc := defScope s__law_one) (by decide +kernel)) (fun _ _ _ _ _ => pg_name (i := 10) sc__law_one.nd rfl (by first | exact Or.inl rfl | exact Or.inr rfl)) (fun _ _ _ _ _ => pts_one (pt_not (pt_val (pe_callB (cr_any rfl) (by rfl) n_any (by decide +kernel) (pa_cons (pe_lc (te := (tOp (rIn K false) (tVar 7) (tVar 10))) (own := [("name", 7)]) rfl sc__law_one.nd (pi_tup (pv 8)) (blkOk_by (own := [("name", 7)]) (N := ["dice", "clauses", "text", "names", "good", "turn", "wanted", "name", "denied", "rows", "row", "own", "tree", "more", "value", "told"]) (sc := { kind := ScopeKind.function, names := [(Str.ofString ".0", NameKind.local), (Str.ofString "row", NameKind.cell), (Str.ofString "any", NameKind.globalImplicit), (Str.ofString "denied", NameKind.cell)], isGenerator := false, isCoroutine := false }) (by decide +kernel)) (fun _ _ _ _ _ => pg_name (i := 7) sc__law_one.nd rfl (by first | exact Or.inl rfl | exact Or.inr rfl)) (fun _ _ _ _ _ => pts_nil) (fun _ _ _ _ _ => (pe_cmpR op_in_seq (pv 7) (pv 10) rfl))) pa_nil))))) (fun _ _ _ _ _ => (pv 10))) (pss_cons (ps_par (i := 11) (j := 12) rfl sc__law_one.nd rfl rfl (by decide) rfl rfl (pa_cons (pe_call g_world_with (hr.mono (by decide)) (by rfl) m_world_with k_world_with b_world_with .nil passL (pa_cons (pv 2) (pa_cons (pv 6) (pa_cons (pv 8) pa_nil)))) (pa_cons (pe_call g_cases (hr.mono (by decide)) (by rfl) m_cases k_cases b_cases .nil passL (pa_cons (pv 2) (pa_cons (pv 6) (pa_cons (pv 8) pa_nil)))) pa_nil)) (by rfl)) (pss_cons (ps_if (pt_not (pw_and (pt_cmpR op_eq (pe_cmpR op_isN (pv 11) pe_non (nomark _)) (pe_cmpR op_eq (pe_callB call_len_seq (by rfl) n_len (by decide +kernel) (pa_cons (pv 9) pa_nil)) pe_int (nomark _)) (nomark _)) (pw_and1 (pt_cmpR op_eq (pe_cmpR op_isN (pv 12) pe_non (nomark _)) (pe_cmpR op_gt (pe_callB call_len_seq (by rfl) n_len (by decide +kernel) (pa_cons (pv 9) pa_nil)) pe_int (nomark _)) (nomark _)))).pt) (pss_one (ps_ret pe_bl)) pss_nil) (pss_cons (ps_if (pt_cmpR op_notN (pv 11) pe_non (nomark _)) (pss_cons (ps_if (pt_not (pw_and (pt_cmpR (op_inD hu65) (pv 11) (pv 9) rfl) (pw_and1 (pt_val (pe_call g_is_world (hr.mono (by decide)) (by rfl) m_is_world k_is_world b_is_world .nil passL (pa_cons (pv 2) (pa_cons (pv 11) pa_nil)))))).pt) (pss_one (ps_ret pe_bl)) pss_nil) (pss_cons (ps_set (i := 12) sc__law_one.nd rfl (by first | exact Or.inl rfl | exact Or.inr rfl) (pe_tup (pa_cons (pe_tup (pa_cons pe_str pa_nil)) pa_nil))) (pss_one (ps_if (pt_not (pt_not (pt_val (pe_call g_are_cases (hr.mono (by decide)) (by rfl) m_are_cases k_are_cases b_are_cases .nil passL (pa_cons (pv 2) (pa_cons (pv 6) (pa_cons (pv 8) (pa_cons (pv 12) pa_nil)))))))) (pss_one (ps_ret pe_bl)) pss_nil)))) (pss_one (ps_if (pt_not (pw_and (pt_val (pe_call g_are_cases (hr.mono (by decide)) (by rfl) m_are_cases k_are_cases b_are_cases .nil passL (pa_cons (pv 2) (pa_cons (pv 6) (pa_cons (pv 8) (pa_cons (pv 12) pa_nil)))))) (pw_and1 (pt_val (pe_call g__law_judged (hr.mono (by decide)) (by rfl) m__law_judged k__law_judged b__law_judged .nil pass0 (pa_cons (pv 1) (pa_cons (pv 3) (pa_cons (pe_tup (pa_cons (pv 6) (pa_cons (pv 8) pa_nil))) (pa_cons (pv 12) pa_nil)))))))).pt) (pss_one (ps_ret pe_bl)) pss_nil))) (pss_one (ps_for PassesOwn.never rfl (pi_range1 (by rfl) n_range (pa_cons pe_int pa_nil)) (pg_name (i := 13) sc__law_one.nd rfl (by first | exact Or.inl rfl | exact Or.inr rfl)) (pss_cons (ps_set (i := 14) sc__law_one.nd rfl (by first | exact Or.inl rfl | exact Or.inr rfl) (pe_call g__law_spoilt (hr.mono (by decide)) (by rfl) m__law_spoilt k__law_spoilt b__law_spoilt .nil pass0 (pa_cons (pv 0) (pa_cons (pv 12) (pa_cons (pv 3) pa_nil))))) (pss_cons (ps_set (i := 15) sc__law_one.nd rfl (by first | exact Or.inl rfl | exact Or.inr rfl) (pe_and (pe_cmpR op_gt (pe_callB call_len_seq (by rfl) n_len (by decide +kernel) (pa_cons (pv 14) pa_nil)) pe_int (nomark _)) (pe_one (pe_call g__law_judged (hr.mono (by decide)) (by rfl) m__law_judged k__law_judged b__law_judged .nil pass0 (pa_cons (pv 1) (pa_cons (pv 3) (pa_cons (pe_tup (pa_cons (pv 6) (pa_cons (pv 8) pa_nil))) (pa_cons (pv 14) pa_nil)))))))) (pss_cons (ps_if (pt_not (pt_cmpR op_eq (pe_call g_are_cases (hr.mono (by decide)) (by rfl) m_are_cases k_are_cases b_are_cases .nil passL (pa_cons (pv 2) (pa_cons (pv 6) (pa_cons (pv 8) (pa_cons (pv 14) pa_nil))))) (pv 15) (nomark _))) (pss_one (ps_ret pe_bl)) pss_nil) (pss_one (ps_if (pt_not (pw_or (pt_not (pt_val (pv 15))) (pw_or1 (pt_cmpR op_eq (pe_callB call_len_seq (by rfl) n_len (by decide +kernel) (pa_cons (pv 9) pa_nil)) pe_int (nomark _)))).pt) (pss_one (ps_ret pe_bl)) pss_nil)))))))))))))))) (pss_one (ps_ret pe_bl)))))), ?_⟩
    refine q_asgC (vs := [.ref d]) (ea_cons (ev_var rfl) ea_nil) (fun H1 e1 => ⟨d, 0, rfl, hk.ex e1, by omega, fun a rs H2 ha e2 hk2 hrs hg hne => ?_⟩)
    have hpo := prog_ok hg
    have hn5 := names_5 hg.2
    have hlo := hpo.2.2.2.2.2
    have hszR := hpo.2.2.2.1
    have hr7 : rs.length ≤ 7 := hg.1
    have hnne : namesOf rs ≠ [] := by
      cases rs with
      | nil => exact absurd rfl hne
      | cons r rs =>
        intro h
        have := (rows_names (rs := r :: rs) (r := r) List.mem_cons_self).1
        rw [h] at this
        cases this
    refine q_parX (P := fun v _ => v = .str (tx (progT (rs.map lineT)))) (R := fun H v H' => ∃ n, v = .ref n ∧ H n = none ∧ H' n = some (.lst (nmL (namesOf rs)))) (x_ev (ev_call (ea_cons (ev_var rfl) ea_nil) (fun H3 e3 Q3 q3 E3 => ⟨a, rs, rfl, hrs.ex e3, hr7, fun r hr => ⟨(hg.2 r hr).2.1, (hg.2 r hr).2.2.1⟩, q3⟩))) (fun H3 e3 => x_evL (el_call (ea_cons (ev_var rfl) ea_nil) (fun H4 e4 Q4 q4 E4 => ⟨a, rs, rfl, hrs.ex (e3.trans e4), hr7, fun r hr => ⟨(hg.2 r hr).2.1, (hg.2 r hr).2.2.1⟩, q4⟩))) ?_
    rintro v1 v2 H3 H4 e3 rfl e4 ⟨n, rfl, hn0, hn4⟩
    refine qx_asg (P := fun v H' => ∃ p ys ss, v = .ref p ∧ H' p = some (.tup ys) ∧ ss.Perm (wsOf rs) ∧ AllV TupN ss ys H') (x_call (ea_cons (ev_var rfl) ea_nil) (fun H5 e5 Q5 q5 E5 => ⟨rs.map lineT, rs, rfl, hpo, fun p ys ss H6 hp e6 h6 pm hy => q5 _ H6 e6 ⟨p, ys, ss, rfl, h6, pm, hy⟩⟩)) ?_
    rintro v3 G e5 ⟨gd, ys, ss, rfl, hgd, pm, hys⟩
    have e25 := e3.trans (e4.trans e5)
    have hkG : DiceAt 60 d G := (hk2.mono (by omega)).ex e25
    have hrsG := hrs.ex e25
    have hnG := e5 _ _ hn4
    have hEG : Ed d H G := (Ed.of e1).trans (e2.trans (Ed.of e25))
    have hnd : n ≠ d := fun x => by
      subst x
      obtain ⟨b, m, c, _, _, _, _, h5⟩ := hkG
      rw [hnG] at h5
      exact nm_dice (Option.some.inj h5)
    have keep : ∀ H', Ed d G H' → RowsAt rs a H' ∧ H' n = some (.lst (nmL (namesOf rs))) ∧ H' gd = some (.tup ys) ∧ AllV TupN ss ys H' := fun H' e => by
      have t := tu_ed hkG e
      refine ⟨rows_ed hkG e hrsG, e.at hnG hnd, t _ _ hgd, hys.1, fun j v s h1 h2 => ?_⟩
      obtain ⟨p, h3, h4⟩ := hys.2 j v s h1 h2
      exact ⟨p, h3, t _ _ h4⟩
    have hsl : ss.length ≤ 32 := by
      rw [pm.length_eq]
      refine Nat.le_trans (List.length_filter_le _ _) ?_
      rw [subN_len]
      exact Nat.pow_le_pow_right (by omega) (by omega : (namesOf rs).length ≤ 5)
    have hws : ∀ s, s ∈ ss → s ∈ wsOf rs := fun s hs => pm.mem_iff.mp hs
    refine q_forR1 (n := 3) (ea_cons ev_c ea_nil) (by decide) (fun i σ' H' => ∃ s5 s6 s8 s9 s11 s12 s13 s14 s15, σ' = [some (.ref d), some (.ref a), some (.str (tx (progT (rs.map lineT)))), some (.ref n), some (.ref gd), s5, s6, none, s8, s9, none, s11, s12, s13, s14, s15] ∧ Ed d G H' ∧ DiceAt (60 + 19 * i) d H')
      (fun H6 e6 => ⟨none, none, none, none, none, none, none, none, none, rfl, Ed.of e6, hkG.ex e6⟩) ?_ (fun σ' H6 ⟨_, _, _, _, _, _, _, _, _, ho, e6, _⟩ => by
      subst ho
      exact s_ret ev_c (fun H7 e7 => q H7 (hEG.trans (e6.trans (Ed.of e7)))))
    rintro i σ' H6 hi ⟨s5, s6, s8, s9, s11, s12, s13, s14, s15, rfl, e6, hk6⟩
    obtain ⟨k1, k2, k3, k4⟩ := keep H6 e6
    have hi3 : i < 3 := by omega
    have hcomp : ∀ (σ : L2.St) (H7 : Hp) (kk : Nat), Ed d H6 H7 → σ[0]? = some (some (.ref d)) → σ[3]? = some (some (.ref n)) → (∀ x, wipe ((wipe σ [7]).set 7 (some x)) [7] = wipe σ [7]) → (∀ x, ((wipe σ [7]).set 7 (some x))[7]? = some (some x)) → (∀ x, ((wipe σ [7]).set 7 (some x))[0]? = some (some (.ref d))) →
        ED (tCB (fun xs H Q => ∃ p ys, xs = [.ref p] ∧ ((SqL K H p ys ∧ ∀ l, H l = none → Q (.ref l) (upd H l (.tup ys))) ∨ (SqT K H p ys ∧ Q (.ref p) H))) (tCons (tLc (iList K (tVar 3)) (gName 7) (tTest (tOp rEq (tCall sp_roll [] (fun _ _ _ => False) (tCons (tVar 0) (tCons (tC (.int 4)) tNil))) (tC (.int 0)))) (tVar 7) [7]) tNil)) σ d H7 (5 * 1) (fun v H' => ∃ q ms, v = .ref q ∧ H' q = some (.tup (nmL ms)) ∧ ms.Sublist (namesOf rs)) := fun σ H7 kk e7 h0 h3 hw hj hd0 =>
      ed_tup (ED.imp (d_lcF (N := 5) (c := 1) (ns := namesOf rs) (a := n) (ev_var h3) (by rw [del_ne hnd]; exact (keep H7 (e6.trans e7)).2.1) hn5 (by decide) hw hj (fun m H8 e8 => ed_eq0 (d_roll (n := 4) (ev_var (hd0 _)) ev_c (by decide) (by decide)))) (fun v H' ⟨p, ms, h1, _, _, h2, h3⟩ => ⟨p, ms, h1, h2, h3⟩))
    refine qd_asg (k := 60 + 19 * i) (c := 5 * 1) (d := d) (hcomp _ H6 0 (Ed.refl d H6) rfl rfl (fun _ => rfl) (fun _ => rfl) (fun _ => rfl)) hk6 (by omega) ?_
    rintro v7 H7 e7 hk7 ⟨pw0, ts0, rfl, hpw0, hts0⟩
    refine qd_asg (k := 60 + 19 * i + 5 * 1) (c := 5 * 1) (d := d) (hcomp _ H7 0 e7 rfl rfl (fun _ => rfl) (fun _ => rfl) (fun _ => rfl)) hk7 (by omega) ?_
    rintro v8 H8 e8 hk8 ⟨pd0, fs0, rfl, hpd0, hfs0⟩
    have hpw8 := (tu_ed hk7 e8) _ _ hpw0
    refine q_when2 (b := decide (i = 0)) (fun σ' H' => ∃ pw pd ts fs, σ' = [some (.ref d), some (.ref a), some (.str (tx (progT (rs.map lineT)))), some (.ref n), some (.ref gd), some (.int (i : Int)), some (.ref pw), none, some (.ref pd), s9, none, s11, s12, s13, s14, s15] ∧ Ex H8 H' ∧ H' pw = some (.tup (nmL ts)) ∧ H' pd = some (.tup (nmL fs)) ∧ ts.Sublist (namesOf rs) ∧ fs.Sublist (namesOf rs))
      (et_is (et_test (ev_op (ev_var rfl) ev_c (rv_eq (by rfl)))) (by
        rw [decide_eq_decide]
        exact ⟨fun h => by have := V.int.inj h; omega, fun h => by rw [h]; rfl⟩)) (fun _ H9 e9 N hN => ?_) (fun _ H9 e9 => ⟨pw0, pd0, ts0, fs0, rfl, e9, e9 _ _ hpw8, e9 _ _ hpd0, hts0, hfs0⟩) ?_
    · refine s_asgTupX (P2 := fun x y H' => ∃ pw pd, x = .ref pw ∧ y = .ref pd ∧ H' pw = some (.tup []) ∧ H' pd = some (.tup [])) (EvX.imp (x_tup (x_cons (P := fun v H' => ∃ p, v = .ref p ∧ H' p = some (.tup [])) (x_evU (eu_tup ea_nil (few5 rfl))) (fun v H1 H2 e ⟨p, h1, h2⟩ => ⟨p, h1, e _ _ h2⟩) (x_one (P := fun v H' => ∃ p, v = .ref p ∧ H' p = some (.tup [])) (x_evU (eu_tup ea_nil (few5 rfl))))) ?_ ?_) ?_) ?_
      · rintro vs H1 H2 e ⟨v, r, rfl, ⟨p, rfl, h1⟩, v2, rfl, p2, rfl, h2⟩
        exact ⟨_, _, rfl, ⟨p, rfl, e _ _ h1⟩, _, rfl, p2, rfl, e _ _ h2⟩
      · rintro vs H1 ⟨v, r, rfl, ⟨p, rfl, h1⟩, v2, rfl, p2, rfl, h2⟩
        exact few5 rfl
      · rintro u H1 ⟨o, vs, rfl, ho, v, r, rfl, ⟨p, rfl, h1⟩, v2, rfl, p2, rfl, h2⟩
        exact ⟨o, _, _, rfl, ho, p, p2, rfl, rfl, h1, h2⟩
      · rintro x y H10 e10 ⟨pw, pd, rfl, rfl, h1, h2⟩
        exact hN _ _ ⟨pw, pd, [], [], rfl, e9.trans e10, h1, h2, List.nil_sublist _, List.nil_sublist _⟩
    rintro σ9 H9 ⟨pw, pd, ts, fs, rfl, e9, hpw, hpd, hts, hfs⟩
    have hk9 : DiceAt (60 + 19 * i + 10) d H9 := (hk8.mono (by omega)).ex e9
    have e69 : Ed d G H9 := e6.trans (e7.trans (e8.trans (Ed.of e9)))
    have hkeep : ∀ H', Ex H9 H' → RowsAt rs a H' ∧ H' n = some (.lst (nmL (namesOf rs))) ∧ H' gd = some (.tup ys) ∧ AllV TupN ss ys H' := fun H' e => keep H' (e69.trans (Ed.of e))
    obtain ⟨j1, j2, j3, j4⟩ := hkeep H9 (Ex.refl _)
    have htsl := hts.length_le
    have hfsl := hfs.length_le
    have hzl : (ys.zip ss).length ≤ 32 := by rw [j4.zlen]; exact hsl
    have hzm := j4.mem
    refine q_asgL (xs := (((ys.zip ss).filter fun (z : V × List Nat) => ts.all fun c => decide (c ∈ z.2)).map Prod.fst)) (el_lc (te := tVar 10) (t := tB (tCB (rAll K) (tCons (tLc (iTup K (tVar 6)) (gName 7) tYes (tOp (rIn K false) (tVar 7) (tVar 10)) [7]) tNil))) (j := 10) (vs := [10]) (as := ys.zip ss) (inj := Prod.fst) (fun z => ts.all fun c => decide (c ∈ z.2)) Prod.fst (by rw [j4.fst]; exact ei_T (K := K) (ev_var rfl) (st_of j3)) (by omega) (fun _ => rfl) (fun z hz H10 e10 => ?_) (fun z hz H10 e10 _ => ev_var rfl)) (fun r1 H10 hr1 e10 h10 => ?_)
    · obtain ⟨y, s⟩ := z
      obtain ⟨o, rfl, ho⟩ := hzm _ hz
      exact et_B (ev_allc (K := K) (p := fun c => decide (c ∈ s)) (as := ts) (inj := nmV) (ei_T (K := K) (ev_var rfl) (st_of (e10 _ _ hpw))) (by omega) (fun _ => rfl) (fun c _ H11 e11 => ev_inT (K := K) (ev_var rfl) (ev_var rfl) (st_of ((e10.trans e11) _ _ ho))))
    generalize hL1 : ((ys.zip ss).filter fun (z : V × List Nat) => ts.all fun c => decide (c ∈ z.2)) = L1 at h10
    have hL1m : ∀ z, z ∈ L1 → z ∈ ys.zip ss ∧ (ts.all fun c => decide (c ∈ z.2)) = true := fun z hz => by rw [← hL1] at hz; exact List.mem_filter.mp hz
    have hL1l : L1.length ≤ 32 := by rw [← hL1]; exact Nat.le_trans (List.length_filter_le _ _) hzl
    refine q_asgL (xs := ((L1.filter fun (z : V × List Nat) => !(fs.any fun c => decide (c ∈ z.2))).map Prod.fst)) (el_lc (te := tVar 10) (t := tNot (tB (tCB (rAny K) (tCons (tLc (iTup K (tVar 8)) (gName 7) tYes (tOp (rIn K false) (tVar 7) (tVar 10)) [7]) tNil)))) (j := 10) (vs := [10]) (as := L1) (inj := Prod.fst) (fun (z : V × List Nat) => !(fs.any fun c => decide (c ∈ z.2))) Prod.fst (ei_L (K := K) (ev_var rfl) (sq_of h10)) (by omega) (fun _ => rfl) (fun z hz H11 e11 => ?_) (fun z hz H11 e11 _ => ev_var rfl)) (fun r2 H11 hr2 e11 h11 => ?_)
    · obtain ⟨y, s⟩ := z
      obtain ⟨o, rfl, ho⟩ := hzm _ (hL1m _ hz).1
      exact et_not (et_B (ev_anyc (K := K) (p := fun c => decide (c ∈ s)) (as := fs) (inj := nmV) (ei_T (K := K) (ev_var rfl) (st_of ((e10.trans e11) _ _ hpd))) (by omega) (fun _ => rfl) (fun c _ H12 e12 => ev_inT (K := K) (ev_var rfl) (ev_var rfl) (st_of ((e10.trans (e11.trans e12)) _ _ ho)))))
    generalize hL2 : (L1.filter fun (z : V × List Nat) => !(fs.any fun c => decide (c ∈ z.2))) = L2' at h11
    have hL2m : ∀ z, z ∈ L2' → z ∈ ys.zip ss ∧ fitB ts fs z.2 = true := fun z hz => by
      rw [← hL2] at hz
      obtain ⟨h1, h2⟩ := List.mem_filter.mp hz
      obtain ⟨h3, h4⟩ := hL1m z h1
      refine ⟨h3, ?_⟩
      unfold fitB
      rw [h4, h2]
      rfl
    have hL2l : L2'.length ≤ 32 := by rw [← hL2]; exact Nat.le_trans (List.length_filter_le _ _) hL1l
    have hL2a : ∀ s, s ∈ ss → fitB ts fs s = true → s ∈ L2'.map Prod.snd := fun s hs hf => by
      rw [← j4.snd] at hs
      obtain ⟨z, hz, rfl⟩ := List.mem_map.mp hs
      unfold fitB at hf
      rw [Bool.and_eq_true] at hf
      refine List.mem_map.mpr ⟨z, ?_, rfl⟩
      rw [← hL2, ← hL1]
      exact List.mem_filter.mpr ⟨List.mem_filter.mpr ⟨hz, hf.1⟩, hf.2⟩
    have hL2s : ∀ z, z ∈ L2' → z.2 ∈ wsOf rs := fun z hz => hws _ (by
      have := List.mem_map_of_mem (f := Prod.snd) (hL2m z hz).1
      rwa [j4.snd] at this)
    have hL2all : AllV TupN (L2'.map Prod.snd) (L2'.map Prod.fst) H9 := AllV.ofPairs _ fun z hz => hzm z (hL2m z hz).1
    have e911 := e10.trans e11
    have hpw11 := e911 _ _ hpw
    have hpd11 := e911 _ _ hpd
    have hn10 : (namesOf rs).length ≤ 10 := by omega
    refine q_parX (P := fun v H' => (∃ s o, s ∈ wsOf rs ∧ fitB ts fs s = true ∧ v = .ref o ∧ H' o = some (.tup (nmL s))) ∨ ((∀ s, s ∈ wsOf rs → fitB ts fs s = false) ∧ v = .non)) (R := fun _ v H' => (treeOf rs ts fs = none ∧ v = .non) ∨ ∃ nds o us, treeOf rs ts fs = some nds ∧ v = .ref o ∧ H' o = some (.tup us) ∧ AllV NodeAt nds us H')
      (x_call (ea_cons (ev_var rfl) (ea_cons (ev_var rfl) (ea_cons (ev_var rfl) ea_nil))) (fun H12 e12 Q12 q12 E12 => ⟨rs.map lineT, .ref pw, .ref pd, rs, rfl, hpo, asm_ok hts hn10 hlo (e12 _ _ hpw11) (asm_ok hfs hn10 hlo (e12 _ _ hpd11) ⟨fun s hs hf p H13 e13 h13 => q12 _ H13 e13 (.inl ⟨s, p, hs, hf, rfl, h13⟩), fun hno H13 e13 => q12 _ H13 e13 (.inr ⟨hno, rfl⟩)⟩)⟩))
      (fun H12 e12 => x_call (ea_cons (ev_var rfl) (ea_cons (ev_var rfl) (ea_cons (ev_var rfl) ea_nil))) (fun H13 e13 Q13 q13 E13 => ⟨rs.map lineT, .ref pw, .ref pd, rfl, .inr ⟨rs, hpo, hn5, asm_ok hts hn10 hlo ((e12.trans e13) _ _ hpw11) (asm_ok hfs hn10 hlo ((e12.trans e13) _ _ hpd11) ⟨fun ho H14 e14 => q13 _ H14 e14 (.inl ⟨ho, rfl⟩), fun nds ho p us H14 hp e14 h14 h15 => q13 _ H14 e14 (.inr ⟨nds, p, us, ho, rfl, h14, h15⟩)⟩)⟩⟩)) ?_
    rintro vo vt H12 H13 e12 hvo e13 hvt
    have hD : (∃ s o, s ∈ wsOf rs ∧ fitB ts fs s = true ∧ vo = .ref o ∧ H13 o = some (.tup (nmL s)) ∧ vt = .non ∧ L2' ≠ []) ∨ (∃ nds o us, treeOf rs ts fs = some nds ∧ vt = .ref o ∧ H13 o = some (.tup us) ∧ AllV NodeAt nds us H13 ∧ vo = .non ∧ L2' = []) := by
      rcases hvo with ⟨s, o, h1, h2, h3, h4⟩ | ⟨h1, h2⟩
      · left
        refine ⟨s, o, h1, h2, h3, e13 _ _ h4, ?_, fun h => ?_⟩
        · rcases hvt with ⟨_, h5⟩ | ⟨nds, o2, us, h5, _⟩
          · exact h5
          · exact absurd (fitB_iff.mp h2) (judge_sound (wsOf_isW h1) nds _ (treeOf_some h5).1 _ List.mem_cons_self)
        · have := hL2a s (pm.mem_iff.mpr h1) h2
          rw [h] at this
          cases this
      · right
        have hL : L2' = [] := List.eq_nil_iff_forall_not_mem.mpr fun z hz => by
          have := h1 z.2 (hL2s z hz)
          rw [(hL2m z hz).2] at this
          cases this
        rcases hvt with ⟨h5, _⟩ | ⟨nds, o2, us, h5, h6, h7, h8⟩
        · obtain ⟨s, s1, s2⟩ := treeOf_none (fun c hc => hts.subset hc) h5
          have := h1 s s1
          rw [fitB_iff.mpr s2] at this
          cases this
        · exact ⟨nds, o2, us, h5, h6, h7, h8, h2, hL⟩
    clear hvo hvt
    have e913 : Ex H9 H13 := e911.trans (e12.trans e13)
    have h13r : H13 r2 = some (.lst (L2'.map Prod.fst)) := (e12.trans e13) _ _ h11
    have e6H : ∀ H', Ex H13 H' → Ed d G H' := fun H' e => e69.trans (Ed.of (e913.trans e))
    have hjud : ∀ (E : XK) (σ : L2.St) (H' : Hp) (j : Nat) (o : Addr) (us : List V) (nds : List Nd), Ed d G H' → H' pw = some (.tup (nmL ts)) → H' pd = some (.tup (nmL fs)) → σ[1]? = some (some (.ref a)) → σ[3]? = some (some (.ref n)) → σ[6]? = some (some (.ref pw)) → σ[8]? = some (some (.ref pd)) → σ[j]? = some (some (.ref o)) → H' o = some (.tup us) → AllV NodeAt nds us H' → nds.length ≤ 100 → (∀ c, some c ∈ nds → c ∈ namesOf rs) →
        Ev (tCall (sp_law_judged K) [] E (tCons (tVar 1) (tCons (tVar 3) (tCons (tTup (tCons (tVar 6) (tCons (tVar 8) tNil))) (tCons (tVar j) tNil))))) σ H' (.bl (judge rs [(ts, fs)] nds)) := fun E σ H' j o us nds eG g1 g2 v1 v3 v6 v8 vj go gn gl gm => by
      obtain ⟨m1, m2, m3, m4⟩ := keep H' eG
      refine ev_ofX (x_callX (x_cons (P := fun v _ => v = .ref a) (x_ev (ev_var v1)) (fun _ _ _ _ h => h) (x_cons (P := fun v _ => v = .ref n) (x_ev (ev_var v3)) (fun _ _ _ _ h => h) (x_cons (P := fun v H' => ∃ st, v = .ref st ∧ H' st = some (.tup [.ref pw, .ref pd])) (x_evU (eu_tup (ea_cons (ev_var v6) (ea_cons (ev_var v8) ea_nil)) (few5 rfl))) (fun v H1 H2 e ⟨st, h1, h2⟩ => ⟨st, h1, e _ _ h2⟩) (x_one (P := fun v _ => v = .ref o) (x_ev (ev_var vj)))))) ?_)
      rintro vs H1 e1 ⟨w1, r1, rfl, rfl, w2, r2, rfl, rfl, w3, r3, rfl, ⟨st, rfl, hst⟩, w4, rfl, rfl⟩ Q1 q1 E1
      exact ⟨a, n, st, o, rs, nds, us, (ts, fs), rfl, m1.ex e1, hszR, hr7, by omega, e1 _ _ m2, ⟨st, pw, pd, ts, fs, rfl, hst, .inl (e1 _ _ g1), .inl (e1 _ _ g2), Eqm.refl _, Eqm.refl _, by omega, by omega⟩, e1 _ _ go, AllV.mo (fun a => (NodeAt.mn a).mo) _ _ _ e1 gn, gl, fun m hm => hlo m (gm m hm), fun H2 e2 => q1 _ H2 e2 rfl⟩
    have hare : ∀ (E : XK) (σ : L2.St) (H' : Hp) (j : Nat) (o : Addr) (us : List V) (nds : List Nd), H' pw = some (.tup (nmL ts)) → H' pd = some (.tup (nmL fs)) → σ[2]? = some (some (.str (tx (progT (rs.map lineT))))) → σ[6]? = some (some (.ref pw)) → σ[8]? = some (some (.ref pd)) → σ[j]? = some (some (.ref o)) → H' o = some (.tup us) → AllV NodeAt nds us H' → nds.length ≤ 100 → (∀ c, some c ∈ nds → c ∈ namesOf rs) →
        Ev (tCall (sp_are_cases K) [] E (tCons (tVar 2) (tCons (tVar 6) (tCons (tVar 8) (tCons (tVar j) tNil))))) σ H' (.bl (decide (0 < nds.length) && judge rs [(ts, fs)] nds)) := fun E σ H' j o us nds g1 g2 v2 v6 v8 vj go gn gl gm => by
      rw [← areB_eq (by omega) gm]
      exact ev_call (ea_cons (ev_var v2) (ea_cons (ev_var v6) (ea_cons (ev_var v8) (ea_cons (ev_var vj) ea_nil)))) (fun H1 e1 Q1 q1 E1 => ⟨rs.map lineT, .ref pw, .ref pd, .ref o, nds.map nodeS, rs, rfl, hpo, val_ok (e1 _ _ go) (AllV.mo (fun a => (NodeAt.mn a).mo) _ _ _ e1 gn) (by omega) (fun c hc => hlo c (gm c hc)), asm_ok hts hn10 hlo (e1 _ _ g1) (asm_ok hfs hn10 hlo (e1 _ _ g2) q1)⟩)
    have hpw13 := e913 _ _ hpw
    have hpd13 := e913 _ _ hpd
    have hlen2 : (L2'.map Prod.fst).length = L2'.length := List.length_map _
    refine q_when (b := false) (et_is (et_not (et_and (et_test (ev_op (ev_op (ev_var rfl) ev_c (fun H6 e7 Q1 q1 => ⟨rfl, q1 H6 (Ex.refl _)⟩)) (ev_op (ev_len (ev_var rfl) (sq_of h13r)) ev_c (rv_eq (by rfl))) (rv_eq (by rfl)))) (fun _ => et_test (ev_op (ev_op (ev_var rfl) ev_c (fun H6 e7 Q1 q1 => ⟨rfl, q1 H6 (Ex.refl _)⟩)) (ev_op (ev_len (ev_var rfl) (sq_of h13r)) ev_c rv_I0) (rv_eq (by rfl)))))) ?_) (fun h => absurd h (by decide)) (fun _ H14 e14 => ?_)
    · rw [hlen2]
      rcases hD with ⟨s, o, _, _, h1, _, h2, hL⟩ | ⟨nds, o, us, _, h1, _, _, h2, hL⟩
      · have := List.length_pos_iff.mpr hL
        have hne : ¬ (V.int (L2'.length : Int) = V.int 0) := fun h => by have := V.int.inj h; omega
        have hgt : (L2'.length : Int) > 0 := by omega
        rw [h1, h2]
        simp only [hne, hgt, decide_true, decide_false]
        rfl
      · rw [h1, h2, hL]
        rfl
    have hgd2 : ∀ c, c ∈ namesOf rs → c < 1000 := hlo
    refine q_if2 (b := decide (¬ vo = .non)) (fun σ' H' => ∃ o nds us, σ' = [some (.ref d), some (.ref a), some (.str (tx (progT (rs.map lineT)))), some (.ref n), some (.ref gd), some (.int (i : Int)), some (.ref pw), none, some (.ref pd), some (.ref r2), none, some vo, some (.ref o), s13, s14, s15] ∧ Ex H13 H' ∧ H' o = some (.tup us) ∧ AllV NodeAt nds us H' ∧ nds ≠ [] ∧ nds.length ≤ 63 ∧ ∀ c, some c ∈ nds → c ∈ namesOf rs)
      (et_is (et_test (ev_op (ev_var rfl) ev_c (fun H6 e7 Q1 q1 => ⟨rfl, q1 H6 (Ex.refl _)⟩))) (by rw [decide_not])) (fun hb H15 e15 N hN => ?_) (fun hb H15 e15 N hN => ?_) ?_
    · have hne := of_decide_eq_true hb
      obtain ⟨s, o, w1, w2, rfl, w3, rfl, hL⟩ : ∃ s o, s ∈ wsOf rs ∧ fitB ts fs s = true ∧ vo = .ref o ∧ H13 o = some (.tup (nmL s)) ∧ vt = .non ∧ L2' ≠ [] := by
        rcases hD with h | ⟨nds, o, us, _, _, _, _, h, _⟩
        · exact h
        · exact absurd h hne
      have e1315 := e14.trans e15
      have hsub := wsOf_sub w1
      have hsl5 := hsub.length_le
      refine q_when (b := false) (et_is (et_not (et_and (et_test (ev_inRows (s := s) (ms := L2'.map Prod.snd) (ev_var rfl) (e1315 _ _ w3) (ev_var rfl) (e1315 _ _ h13r) (AllV.mo (fun a => (TupN.mn a).mo) _ _ _ (e913.trans e1315) hL2all) (hL2a s (pm.mem_iff.mpr w1) w2) (fun m hm => by
        obtain ⟨z, hz, rfl⟩ := List.mem_map.mp hm
        exact fun c hc => hlo c ((wsOf_sub (hL2s z hz)).subset hc)))) (fun _ => et_B (ev_call (z := .bl true) (ea_cons (ev_var rfl) (ea_cons (ev_var rfl) ea_nil)) (fun H16 e16 Q16 q16 E16 => ⟨rs.map lineT, rs, o, s, rfl, hpo, (e1315.trans e16) _ _ w3, by omega, fun c hc => hlo c (hsub.subset hc), fun H17 e17 => by rw [wsOf_isW w1]; exact q16 H17 e17⟩))))) rfl) (fun h => absurd h (by decide)) (fun _ H16 e16 => ?_)
      refine qx_asg (x_node1 (o := none) (ea_cons ev_c ea_nil)) ?_
      rintro v H17 e17 ⟨nds, o2, us, rfl, rfl, h17, hn17⟩
      have e1317 := e1315.trans (e16.trans e17)
      have hj : judge rs [(ts, fs)] [none] = false := by
        cases hq : judge rs [(ts, fs)] [none] with
        | false => rfl
        | true => exact absurd (fitB_iff.mp w2) (judge_sound (wsOf_isW w1) _ _ hq _ List.mem_cons_self)
      refine s_when (b := false) (et_is (et_not (et_not (et_B (hare _ _ H17 12 o2 us [none] (e1317 _ _ hpw13) (e1317 _ _ hpd13) rfl rfl rfl rfl h17 hn17 (by decide) (fun c hc => by simp at hc))))) (by rw [hj]; rfl)) (fun h => absurd h (by decide)) (fun _ H18 e18 => hN _ _ ⟨o2, [none], us, rfl, e1317.trans e18, e18 _ _ h17, AllV.mo (fun a => (NodeAt.mn a).mo) _ _ _ e18 hn17, by simp, by decide, fun c hc => by simp at hc⟩)
    · have hno : vo = .non := Decidable.not_not.mp (of_decide_eq_false hb)
      obtain ⟨nds, o, us, w1, rfl, w2, w3, _, hL⟩ : ∃ nds o us, treeOf rs ts fs = some nds ∧ vt = .ref o ∧ H13 o = some (.tup us) ∧ AllV NodeAt nds us H13 ∧ vo = .non ∧ L2' = [] := by
        rcases hD with ⟨s, o, _, _, h, _⟩ | h
        · rw [hno] at h; cases h
        · exact h
      have e1315 := e14.trans e15
      obtain ⟨t1', t2, t3, t4⟩ := treeOf_some w1
      have huo : uo rs ts fs ≤ 5 := Nat.le_trans (List.length_filter_le _ _) hn5
      have hpow : 2 ^ (uo rs ts fs + 1) ≤ 64 := Nat.pow_le_pow_right (by omega) (by omega : uo rs ts fs + 1 ≤ 6)
      have hpos := List.length_pos_iff.mpr t3
      have w2' := e1315 _ _ w2
      have w3' := AllV.mo (fun a => (NodeAt.mn a).mo) _ _ _ e1315 w3
      refine s_when (b := false) (et_is (et_not (et_and (et_B (hare _ _ H15 12 o us nds (e1315 _ _ hpw13) (e1315 _ _ hpd13) rfl rfl rfl rfl w2' w3' (by omega) t4)) (fun _ => et_B (hjud _ _ H15 12 o us nds (e6H H15 e1315) (e1315 _ _ hpw13) (e1315 _ _ hpd13) rfl rfl rfl rfl rfl w2' w3' (by omega) t4)))) (by rw [t1', decide_eq_true hpos]; rfl)) (fun h => absurd h (by decide)) (fun _ H16 e16 => hN _ _ ⟨o, nds, us, rfl, e1315.trans e16, e16 _ _ w2', AllV.mo (fun a => (NodeAt.mn a).mo) _ _ _ e16 w3', t3, by omega, t4⟩)
    rintro σ15 H15 ⟨o, nds, us, rfl, e1315, ho, hnds, hnne2, hnl, hnm⟩
    have hk15 : DiceAt (60 + 19 * i + 10) d H15 := hk9.ex (e913.trans e1315)
    have e15G := e6H H15 e1315
    have hL20 : judge rs [(ts, fs)] = judge rs [(ts, fs)] := rfl
    have hsound : ∀ nds', judge rs [(ts, fs)] nds' = true → L2' = [] := fun nds' hj => by
      rcases hD with ⟨s, o, w1, w2, _⟩ | ⟨_, _, _, _, _, _, _, _, hL⟩
      · exact absurd (fitB_iff.mp w2) (judge_sound (wsOf_isW w1) _ _ hj _ List.mem_cons_self)
      · exact hL
    have h15r := e1315 _ _ h13r
    have hr2d : r2 ≠ d := dice_ne (hk9.ex e10) hr2
    refine s_forR1 (n := 3) (ea_cons ev_c ea_nil) (by decide) (fun j σ' H' => ∃ s13 s14 s15, σ' = [some (.ref d), some (.ref a), some (.str (tx (progT (rs.map lineT)))), some (.ref n), some (.ref gd), some (.int (i : Int)), some (.ref pw), none, some (.ref pd), some (.ref r2), none, some vo, some (.ref o), s13, s14, s15] ∧ Ed d H15 H' ∧ DiceAt (60 + 19 * i + 10 + 3 * j) d H')
      (fun H16 e16 => ⟨s13, s14, s15, rfl, Ed.of e16, hk15.ex e16⟩) ?_ (fun σ' H16 ⟨_, _, _, hσ, e16, hk16⟩ => by
        subst hσ
        exact ⟨_, _, _, _, _, _, _, _, _, rfl, e15G.trans e16, hk16.mono (by show 60 + 19 * i + 10 + 3 * 3 ≤ 60 + 19 * (i + 1); omega)⟩)
    rintro j σ' H16 hj ⟨s13, s14, s15, rfl, e16, hk16⟩
    have hj3 : j < 3 := by omega
    have t16 := tu_ed hk15 e16
    have h16o := t16 _ _ ho
    have h16n := nodes_tu t16 hnds
    have e16G := e15G.trans e16
    obtain ⟨m1, m2, m3, m4⟩ := keep H16 e16G
    refine q_asgC (vs := [.ref d, .ref o, .ref n]) (ea_cons (ev_var rfl) (ea_cons (ev_var rfl) (ea_cons (ev_var rfl) ea_nil))) (fun H17 e17 => ⟨d, o, n, 60 + 19 * i + 10 + 3 * j, nds, us, namesOf rs, rfl, hk16.ex e17, by omega, e17 _ _ h16o, AllV.mo (fun a => (NodeAt.mn a).mo) _ _ _ e17 h16n, hnne2, by omega, e17 _ _ m2, hnd, hnne, by omega, fun v H18 e18 hk18 hT => ?_⟩)
    obtain ⟨nds', o2, us', ⟨g1, g2⟩, rfl, h18, hn18⟩ := hT
    have e1518 : Ed d H15 H18 := e16.trans ((Ed.of e17).trans e18)
    have t18 := tu_ed hk15 e1518
    have hpw18 := t18 _ _ (e1315 _ _ hpw13)
    have hpd18 := t18 _ _ (e1315 _ _ hpd13)
    have hr18 : H18 r2 = some (.lst (L2'.map Prod.fst)) := e1518.at h15r hr2d
    have hm18 : ∀ c, some c ∈ nds' → c ∈ namesOf rs := fun c hc => by
      rcases g2 c hc with x | x
      · exact hnm c x
      · exact x
    have hl18 : nds'.length ≤ 100 := by omega
    have hul18 := hn18.1
    refine q_asg (v := .bl (decide (0 < nds'.length) && judge rs [(ts, fs)] nds')) (ev_andV (ev_is (ev_op (ev_lenT (K := K) (ev_var rfl) (st_of h18)) ev_c rv_I0) (by
      rw [hul18]
      congr 1
      rw [decide_eq_decide]
      show (0 : Int) < _ ↔ _
      omega)) (fun _ => hjud _ _ H18 14 o2 us' nds' (e15G.trans e1518) hpw18 hpd18 rfl rfl rfl rfl rfl h18 hn18 hl18 hm18)) (fun H19 e19 => ?_)
    refine q_when (b := false) (et_is (et_not (et_test (ev_op (hare _ _ H19 14 o2 us' nds' (e19 _ _ hpw18) (e19 _ _ hpd18) rfl rfl rfl rfl (e19 _ _ h18) (AllV.mo (fun a => (NodeAt.mn a).mo) _ _ _ e19 hn18) hl18 hm18) (ev_var rfl) (rv_eq (by rfl))))) (by rw [decide_eq_true rfl]; rfl)) (fun h => absurd h (by decide)) (fun _ H20 e20 => ?_)
    refine s_when (b := false) (et_is (et_not (et_or (et_not (et_B (ev_var rfl))) (fun _ => et_test (ev_op (ev_len (ev_var rfl) (sq_of ((e19.trans e20) _ _ hr18))) ev_c (rv_eq (by rfl)))))) ?_) (fun h => absurd h (by decide)) (fun _ H21 e21 => ?_)
    · cases hq : judge rs [(ts, fs)] nds' with
      | false => rw [Bool.and_false]; rfl
      | true =>
        rw [hsound nds' hq]
        have : decide (V.int ((([] : List (V × List Nat)).map Prod.fst).length : Int) = V.int 0) = true := decide_eq_true rfl
        rw [this, Bool.or_true]
        rfl
    · exact ⟨_, _, _, rfl, e1518.trans (Ed.of (e19.trans (e20.trans e21))), (hk18.mono (by omega)).ex (e19.trans (e20.trans e21))⟩

end
end Tx
end
section
set_option Elab.async false
set_option linter.all false
set_option maxRecDepth 100000
set_option maxHeartbeats 4000000
namespace Tx
open PySem PySem.Spec PyProof.Rows L2 Evl Wk
section
variable {w : World} {K : PySem.W.Frag} {mg : Str → Option Value} {base : Heap}

theorem sc__law_refused : FnScope ["call", "e"] ["call"] (defScope s__law_refused) := ⟨rfl, rfl, rfl, by decide +kernel, rfl, by decide +kernel, by decide +kernel⟩
/-- the parameter that is refused, none: "" -/
def TTref (C : Addr) : (XK → Hp → VK → Prop) → Hp → VK → Prop := fun tl H Q =>
  tl (fun cls d H' => cls = .ref C ∧ ∃ dd z, d = some dd ∧ H' dd = some (.xd [("name", .str z)]) ∧ Q (.str z) H') H (fun _ H' => Q (.str "") H')
/-- a local, where the slots are as many as they are -/
def tVarL (i n : Nat) : TE := fun σ H Q => σ.length = n → tVar i σ H Q
theorem pe_varL {X : Cx} {i n : Nat} {e : Expr} (hn : X.N.length = n) (h : PE X e (tVar i)) : PE X e (tVarL i n) := ⟨fun pins s σ H Q I q => h.run pins s σ H Q I (q (I.len.trans hn))⟩
theorem ref_gives {X : Cx} {g : Addr} {cdg : Value} {q : Str} {C : Addr} (gC : X.mg "BadArgument" = some (.ref C)) (he : PySem.W.exmOne X.K (.ref C) (.ref C) = some true) (T : XfC X.K C) (hno : PySem.W.findIn X.K (.ref C) "name" = some none) :
    LamX.GivesTo X ["call", "e"] "_law_refused" (defScope s__law_refused) g cdg (defBody s__law_refused) "call" q (TTref C) := by
  intro f c' s H Q tl act hc h
  refine ⟨_, pss_cons (ps_try_as (i := 1) (n := "e") (c := .ref C) (X := (cxOf C8.CX0 X.prog X.w X.K X.mg X.base ["call", "e"] "_law_refused" (defScope s__law_refused) g cdg X.A X.stack s H C8.E0).nox) (Wout := fun _ _ _ _ => False)
      (tb := fun W D σ H => ∃ Ech : XK, (∀ cls d σ' H', Ech cls d H' → W cls d σ' H') ∧ σ[0]? = some (some (.ref f)) ∧ H c' = some (LamX.CodeO c' q) ∧ tl Ech H (fun _ H' => D.nx σ H'))
      rfl rfl sc__law_refused.nd rfl rfl ⟨rfl, by decide, .inl gC⟩ LamX.takes0 (fun W pn xe tk _ => ?_) (fun a oe cls d pn hz hf => pss_one (ps_ret (pe_xf (C := C) T hno hz hf (pe_varL (i := 1) (n := 2) rfl (pv 1)))))) (pss_one (ps_ret pe_str)), ?_⟩
  · refine ⟨fun pins s' σ H' D I h' => ?_⟩
    obtain ⟨Ech, hW, h1, h2, h3⟩ := h'
    exact (pss_one (ps_expr (act W pn xe Ech _ _ tk hW))).run pins s' σ H' D I ⟨h1, h2, h3⟩
  · refine ⟨fun cls d H' => cls = .ref C ∧ ∃ dd z, d = some dd ∧ H' dd = some (.xd [("name", .str z)]) ∧ Q (.str z) H', fun cls d σ' H' hq => ?_, rfl, hc, ?_⟩
    · obtain ⟨rfl, dd, z, rfl, hx, hq⟩ := hq
      refine ⟨true, he, fun _ a ha hl => ⟨.ref a, ?_, rfl, rfl, dd, _, .str z, rfl, hx, rfl, hq⟩, fun h => absurd h (by decide)⟩
      rw [List.length_set] at hl
      exact List.getElem?_set_self (by omega)
    · exact h
theorem pe_refcall {X : Cx} {C c P : Addr} {fdR : FuncData} {params : Arguments} {body : Expr} {scope : Scope} {lpos p pos : Pos} {t : XK → TE} (FR : Fun X.K "_law_refused" "_law_refused" s__law_refused (He.ga X.K "_law_refused") fdR) (bR : L2.Binds X.K fdR ["call"] []) (gR : X.mg "_law_refused" = some (.ref (He.ga X.K "_law_refused"))) (hg : Gl X "_law_refused")
    (gC : X.mg "BadArgument" = some (.ref C)) (he : PySem.W.exmOne X.K (.ref C) (.ref C) = some true) (T : XfC X.K C) (hno : PySem.W.findIn X.K (.ref C) "name" = some none) (TB : LamX.TabB X.base X.mg c P) (hcode : X.env.code = .ref c) (hr : Room 11 X.A) (L : LamX.LamS X.env.scope scope)
    (hdef : defaultsOf params X.env = ([], [])) (hbind : ∀ (q : Str) (cl : List (Str × Addr)) (pm cv ctv : Value), bindArgs (PySem.W.kla_fn "<lambda>" q params body scope cl pm cv ctv) ⟨[], []⟩ = pure [])
    (hbody : ∀ (A : Around) (outer : List Env) (s : Shared) (H : Hp) (E : XK) (f c' : Addr), Room 9 (A.deeper (LamX.lamEnv X scope s.heap.objs.size f c')) → PE (LamX.lamCx X A outer s H E scope f c') body (t E)) :
    PE X (.Call (.Name "_law_refused" p) [.Lambda params body scope lpos] [] pos) (LamX.tLam [(P, X.env.qual ++ "<lambda>")] (TTref C) t) := by
  obtain ⟨⟨oc, od, kV, doc, pm, an, cdv, ct, osl, rfl, lk, hcd⟩, kp⟩ := FR
  exact LamX.pe_lamcall (T := [(P, X.env.qual ++ "<lambda>")]) (a := "call") (Ng := ["call", "e"]) (k := 9) hg gR kp lk hcd bR sc__law_refused rfl (Or.inl rfl) (ref_gives gC he T hno) TB hcode (List.mem_singleton.mpr rfl) (fun p hp _ => by rw [List.mem_singleton.mp hp]) hr L hdef hbind hbody

end
end Tx
end
section
set_option Elab.async false
set_option linter.all false
set_option maxRecDepth 100000
set_option maxHeartbeats 4000000
namespace Tx
open PySem PySem.Spec PyProof.Rows L2 Evl Wk
section
variable {w : World} {K : PySem.W.Frag} {mg : Str → Option Value} {base : Heap}

theorem fun_okC {P : Program} {x qual : Str} {st : Stmt} {fd : FuncData} {N ps : List Str} {k : Nat} {sp : Sp} {p : He.Defn} (F : Fun K x qual st (He.fAd K p) fd) (S : FnScope N ps (defScope st)) (len : ∀ vs H Q E, sp vs H Q E → vs.length = ps.length)
    (hbody : ∀ (A : Around) (outer : List Env) (s : Shared) (H : Hp) (vs : List V) (Q : VK) (E : XK), Room k (A.deeper (envOfC qual (defScope st) s.heap.objs.size (He.fAd K p) (.ref (He.cT K p).1))) → sp vs H Q E →
      ∃ t, PSs (cxOf CX0 P w K mg base N qual (defScope st) (He.fAd K p) (.ref (He.cT K p).1) A outer s H E).nox (defBody st) t ∧ t { nx := fun _ H' => Q .non H', rt := Q } (L2.start N vs) H) : FnOk P w K mg base CX0 (k + 1) (He.fAd K p) fd ps sp := by
  obtain ⟨oc, od, kV, doc, pm, an, cdv, ct, osl, rfl, lk, hcd⟩ := F.ex
  obtain ⟨c, rfl⟩ := He.codeIn_ref hcd
  have e : (He.cT K p).1 = c := He.codeOf_eq lk rfl
  rw [e] at hbody
  refine fn_of lk hcd S len fun A outer s H vs Q E hr hsp => ?_
  obtain ⟨t, h, q⟩ := hbody A outer s H vs Q E hr hsp
  exact ⟨t, h.nox, q⟩
def sp_law (K : PySem.W.Frag) : Sp := fun vs H Q _ => ∃ (a : Addr) (ns : List Int), vs = [.ref a] ∧ SqL K H a (ns.map V.int) ∧ ns.length ≤ 63 ∧ H (He.cT K ("law", none)).2 = some (.tbl #[]) ∧ ∀ H', Q (.bl true) H'
/-! the written programs -/
abbrev rA : List Rw := [(97, [], [])]
abbrev rB : List Rw := [(97, [98], [])]
abbrev rN : List Rw := [(97, [], [97])]
abbrev r0 : List Rw := []
theorem tA : ("a.\n" : Str) = tx (progT (rA.map lineT)) := by decide +kernel
theorem tB' : ("a :- b.\n" : Str) = tx (progT (rB.map lineT)) := by decide +kernel
theorem tN : ("a :- not a.\n" : Str) = tx (progT (rN.map lineT)) := by decide +kernel
theorem t0 : ("" : Str) = tx (progT (r0.map lineT)) := by decide +kernel
def lP : List (List Nat) := [[112, 40, 97, 41, 46]]
theorem tP : ("p(a).\n" : Str) = tx (progT lP) := by decide +kernel
theorem gA : GoodR rA := ⟨by decide, fun r hr => by rw [List.mem_singleton.mp hr]; decide⟩
theorem gB : GoodR rB := ⟨by decide, fun r hr => by rw [List.mem_singleton.mp hr]; decide⟩
theorem gN : GoodR rN := ⟨by decide, fun r hr => by rw [List.mem_singleton.mp hr]; decide⟩
theorem g0 : GoodR r0 := ⟨by decide, fun r hr => by cases hr⟩
theorem readP : readCl [112, 40, 97, 41, 46] = some ([([112], 1), ([97], 0)], []) := by decide +kernel
theorem bad_P {H : Hp} {E : XK} (h : BadE K "program" H E) : BadP K lP H E :=
  ⟨[([([112], 1), ([97], 0)], [])], ⟨by decide, by decide, fun l hl => by
    rw [List.mem_singleton.mp hl]
    refine ⟨by decide, ?_, by decide⟩
    show ∀ c, c ∈ [112, 40, 97, 41, 46] → c ∉ great
    decide +kernel, by
    show [readCl [112, 40, 97, 41, 46]] = _
    rw [readP]
    rfl⟩, by decide, fun z hz => by rw [List.mem_singleton.mp hz]; decide, ⟨_, List.mem_singleton.mpr rfl, _, List.mem_cons_self, by decide⟩, h⟩
theorem asm_no {rs : List Rw} {ms : List Nat} {nm : Str} {p : Addr} {H : Hp} {E : XK} {g : List Nat → Prop} (h : asmB rs ms = false) (hl : ms.length ≤ 10) (hlo : Lo ms) (hp : H p = some (.tup (nmL ms))) (k : BadE K nm H E) : AsmArg K rs (.ref p) nm H E g :=
  .inl ⟨p, ms, rfl, hp, hl, hlo, .inr ⟨h, k⟩⟩
theorem asm_nil {rs : List Rw} {nm : Str} {p : Addr} {H : Hp} {E : XK} {g : List Nat → Prop} (hp : H p = some (.tup [])) (k : g []) : AsmArg K rs (.ref p) nm H E g :=
  .inl ⟨p, [], rfl, hp, by decide, (fun c hc => by cases hc), .inl ⟨asm_sub (List.nil_sublist _), k⟩⟩
theorem nm_ab : [V.str "b"] = nmL [98] ∧ [V.str "b", V.str "a"] = nmL [98, 97] ∧ [V.str "a"] = nmL [97] := by
  have ha : ("a" : Str) = tx [97] := by decide +kernel
  have hb : ("b" : Str) = tx [98] := by decide +kernel
  rw [ha, hb]
  exact ⟨rfl, rfl, rfl⟩
theorem asm_b : asmB rA [98] = false := by decide +kernel
theorem asm_ba : asmB rB [98, 97] = false := by
  unfold asmB
  rw [show risB [98, 97] = false from by decide, Bool.and_false]
theorem tree_N : treeOf rN [] [] = some [some 97, none, none] := by decide +kernel
theorem tree_A : treeOf rA [] [97] = some [none] := by decide +kernel
theorem tree_0 : treeOf r0 [] [] = none := by decide +kernel
theorem asm_a : asmB rA [97] = true := by decide +kernel
theorem ws_0 : wsOf r0 = [[]] := by decide +kernel
theorem x_args3 {σ : L2.St} {H : Hp} {z : Str} {ta tb : TE} {xs ys : List V} (h1 : EvU ta σ H xs) (h2 : EvU tb σ H ys) : EvAX (tCons (tC (.str z)) (tCons ta (tCons tb tNil))) σ H (fun vs H' => ∃ p q, vs = [.str z, .ref p, .ref q] ∧ H' p = some (.tup xs) ∧ H' q = some (.tup ys)) := fun H1 e Q q =>
  (x_cons (P := fun v _ => v = .str z) (x_ev ev_c) (fun _ _ _ _ h => h) (x_cons (P := fun v H' => ∃ p, v = .ref p ∧ H' p = some (.tup xs)) (x_evU h1) (fun v H1 H2 e ⟨p, a, b⟩ => ⟨p, a, e _ _ b⟩) (x_one (x_evU h2)))) H1 e Q (fun vs H2 e2 ⟨v, r, ev, hv, v2, r2, ev2, ⟨p, hp1, hp2⟩, v3, ev3, o, ho1, ho2⟩ => q vs H2 e2 ⟨p, o, by rw [ev, ev2, ev3, hv, hp1, ho1], hp2, ho2⟩)
theorem s_refused {T : List (Addr × Str)} {C : Addr} {t : XK → TE} {z : Str} {D : Ends} {tu tz : TS} {σ : L2.St} {H : Hp} (hT : LamX.Tabs T H) (ht : ∀ (H1 : Hp) (E : XK) (Qn : VK), (∀ d H2, Ex H1 H2 → H2 d = some (.xd [("name", .str z)]) → E (.ref C) (some d) H2) → t E σ H1 Qn) (k : ∀ H1, LamX.Tabs T H1 → tz D σ H1) :
    tSeq (tIfS (tNot (tTest (tOp rEq (LamX.tLam T (TTref C) t) (tC (.str z))))) tu tNext) tz D σ H :=
  ⟨hT, fun H1 eN T1 => ht H1 _ _ fun d H2 e2 hd => ⟨rfl, d, z, rfl, hd, by
    refine (ev_c (σ := σ) (H := H2) (v := .str z)) H2 (Ex.refl H2) _ (fun H3 e3 => ?_)
    refine rv_eq (x := .str z) (y := .str z) (by rfl) H3 (Ex.refl H3) _ (fun H4 e4 => ⟨_, rfl, ?_⟩)
    have e : (!decide (V.str z = V.str z)) = false := by rw [decide_eq_true rfl]; rfl
    show (if (!decide (V.str z = V.str z)) = true then _ else _)
    rw [e]
    exact k H4 (T1.ext fun b o h => (e2.trans (e3.trans e4)) b o h)⟩⟩
theorem x_consAll {σ : L2.St} {H : Hp} {te : TE} {tr : TA} {P : V → Hp → Prop} (h : EvX te σ H P) (m : Mo P) (hr : EvAX tr σ H (fun vs H' => ∀ v, v ∈ vs → P v H')) : EvAX (tCons te tr) σ H (fun vs H' => ∀ v, v ∈ vs → P v H') := fun H1 e Q q =>
  x_cons h m hr H1 e Q (fun vs H2 e2 ⟨v, r, ev, hv, hr⟩ => q vs H2 e2 (fun u hu => by
    rw [ev] at hu
    rcases List.mem_cons.mp hu with x | x
    · rw [x]; exact hv
    · exact hr u x))
theorem q_forTX {σ : L2.St} {H : Hp} {te : TE} {g : TG} {tu tz : TS} {D : Ends} {P : V → Hp → Prop} (h : EvX te σ H P) (k : ∀ v H1, Ex H H1 → P v H1 → tSeq (tFor (iTup K (tC v)) g tu) tz D σ H1) : tSeq (tFor (iTup K te) g tu) tz D σ H := h H (Ex.refl H) _ k
/-- no tree of cases -/
def NoTree (K : PySem.W.Frag) (v : V) (H : Hp) : Prop := ∃ nodes, ValArg K v H nodes ∧ rowB rN nodes = false
theorem NoTree.mo : Mo (NoTree K) := fun v H H' e ⟨n, h1, h2⟩ => ⟨n, h1.ex e, h2⟩
/-- a tuple of rows of texts -/
theorem x_rows {σ : L2.St} {H : Hp} {tr : TA} {nodes : List (List Str)} (h : EvAX tr σ H (fun vs H' => AllV NodeS nodes vs H')) (hl : nodes.length ≤ 1000) (hok : ∀ xs, xs ∈ nodes → okS xs = true ∧ xs.length ≤ 1000) (hr : rowB rN nodes = false) : EvX (tTup tr) σ H (NoTree K) :=
  EvX.imp (x_tup h (fun vs H1 H2 e a => AllV.mo (fun a => (NodeS.mn a).mo) _ _ _ e a) (fun vs H1 a => by rw [a.1]; omega)) (fun v H' ⟨p, vs, ev, hp, a⟩ => ⟨nodes, .inl ⟨p, vs, ev, hp, a, by rw [a.1]; exact hl, hok⟩, hr⟩)
theorem xn_nil {σ : L2.St} {H : Hp} : EvAX tNil σ H (fun vs H' => AllV NodeS [] vs H') := fun H1 e Q q => q [] H1 (Ex.refl _) AllV.nil
theorem xn_cons {σ : L2.St} {H : Hp} {te : TE} {tr : TA} {xs : List Str} {nodes : List (List Str)} (h : EvU te σ H (xs.map V.str)) (hr : EvAX tr σ H (fun vs H' => AllV NodeS nodes vs H')) : EvAX (tCons te tr) σ H (fun vs H' => AllV NodeS (xs :: nodes) vs H') := fun H1 e Q q =>
  x_cons (P := NodeS xs) (EvX.imp (x_evU h) (fun v H' ⟨p, h1, h2⟩ => ⟨p, h1, h2⟩)) (NodeS.mn xs).mo hr H1 e Q (fun vs H2 e2 ⟨v, r, ev, hv, hr⟩ => q vs H2 e2 (by rw [ev]; exact AllV.cons hv hr))
theorem okS_all : (∀ xs, xs ∈ [[("shut" : Str), ("a" : Str)], [("split" : Str)], [("split" : Str), ("b" : Str)], [("shut" : Str)], []] → okS xs = true ∧ xs.length ≤ 1000) := by decide +kernel
theorem row_no : rowB rN [[("shut" : Str), ("a" : Str)]] = false ∧ rowB rN [[("split" : Str)]] = false ∧ rowB rN [[("split" : Str), "b"], [("shut" : Str)], [("shut" : Str)]] = false ∧ rowB rN [[]] = false ∧ rowB rN [] = false := by decide +kernel
theorem ev_opX {σ : L2.St} {H : Hp} {ta tb : TE} {r : R2} {z : V} {Pa Pb : V → Hp → Prop} (ha : EvX ta σ H Pa) (m : Mo Pa) (hb : EvX tb σ H Pb) (hr : ∀ x y H1, Ex H H1 → Pa x H1 → Pb y H1 → ∀ Q : VK, Q z H1 → r x y H1 Q) : Ev (tOp r ta tb) σ H z := fun H1 e Q q =>
  ha H1 e _ fun x H2 e2 px => hb H2 (e.trans e2) _ fun y H3 e3 py => hr x y H3 ((e.trans e2).trans e3) (m x H2 H3 e3 px) py Q (q H3 (e2.trans e3))
/-- members told and counted -/
theorem x_consC {σ : L2.St} {H : Hp} {te : TE} {tr : TA} {P : V → Hp → Prop} {n : Nat} (h : EvX te σ H P) (m : Mo P) (hr : EvAX tr σ H (fun vs H' => vs.length ≤ n ∧ ∀ v, v ∈ vs → P v H')) : EvAX (tCons te tr) σ H (fun vs H' => vs.length ≤ n + 1 ∧ ∀ v, v ∈ vs → P v H') := fun H1 e Q q =>
  x_cons h m hr H1 e Q (fun vs H2 e2 ⟨v, r, ev, hv, hl, hr⟩ => q vs H2 e2 ⟨by rw [ev]; exact Nat.succ_le_succ hl, fun u hu => by
    rw [ev] at hu
    rcases List.mem_cons.mp hu with x | x
    · rw [x]; exact hv
    · exact hr u x⟩)
theorem x_nilC {σ : L2.St} {H : Hp} {P : V → Hp → Prop} : EvAX tNil σ H (fun vs H' => vs.length ≤ 0 ∧ ∀ v, v ∈ vs → P v H') := fun H1 e Q q => q [] H1 (Ex.refl _) ⟨Nat.le_refl _, fun v hv => by cases hv⟩
theorem shut_eq : [V.str "shut"] = ([("shut" : Str)].map V.str) := rfl
def dShut : PyData := .tuple [.tuple [.str "shut"]]
theorem dShut_ok : SeqAt.shaped dShut = true ∧ PyData.eqv dShut dShut = true ∧ SeqAt.shaped (.tuple []) = true ∧ PyData.eqv (.tuple []) (.tuple []) = true := by decide +kernel
theorem dp_shut {H : Hp} {p q : Addr} (hp : H p = some (.tup [.ref q])) (hq : H q = some (.tup [.str "shut"])) : Dp K H (.ref p) dShut := .tup (st_of hp) (.cons (.tup (st_of hq) (.cons (.str _) .nil)) .nil)
theorem x_3N {σ : L2.St} {H : Hp} {z : Str} {ta tb : TE} {xs ys : List V} {sp : Sp} {E : XK} {P : V → Hp → Prop} (h1 : EvU ta σ H xs) (h2 : EvU tb σ H ys) (hs : ∀ p q H1, Ex H H1 → H1 p = some (.tup xs) → H1 q = some (.tup ys) → ∀ Q : VK, (∀ v H2, Ex H1 H2 → P v H2 → Q v H2) → ∀ E, sp [.str z, .ref p, .ref q] H1 Q E) : EvX (tCall sp [] E (tCons (tC (.str z)) (tCons ta (tCons tb tNil)))) σ H P :=
  x_callX (x_args3 h1 h2) (fun vs H1 e ⟨p, q, ev, hp, hq⟩ Q k E => by rw [ev]; exact hs p q H1 e hp hq Q k E)
theorem x_lst1 {σ : L2.St} {H : Hp} {te : TE} {xs : List V} (h : EvU te σ H xs) : EvX (tLst (tCons te tNil)) σ H (fun v H' => ∃ p q, v = .ref p ∧ H' p = some (.lst [.ref q]) ∧ H' q = some (.tup xs)) := fun H1 e Q k =>
  h H1 e _ fun q H2 hq e2 h2 => ⟨sz_of (few5 rfl), fun p hp => k _ _ (e2.trans (Ex.new hp)) ⟨p, q, rfl, upd_same, (Ex.new hp) _ _ h2⟩⟩

theorem sc_law : FnScope ["script", "spot", "value"] ["script"] (defScope s_law) := ⟨rfl, rfl, rfl, by decide +kernel, rfl, by decide +kernel, by decide +kernel⟩
theorem ok_law {fd : FuncData} (Z : Zx K mg) (hy : exY K = true) (F : Fun K "law" "law" s_law (He.fAd K ("law", none)) fd) (TBl : LamX.TabB base mg (He.cT K ("law", none)).1 (He.cT K ("law", none)).2) : FnOk prog w K mg base CX0 12 (He.fAd K ("law", none)) fd ["script"] (sp_law K) := by
  obtain ⟨_, g__law_dice, b__law_dice, m__law_dice, k__law_dice⟩ := ok__law_dice (w := w) (base := base) Z
  obtain ⟨_, g__law_one, b__law_one, m__law_one, k__law_one⟩ := ok__law_one (w := w) (base := base) Z
  obtain ⟨_, g_are_cases, b_are_cases, m_are_cases, k_are_cases⟩ := ok_are_cases (w := w) (base := base) Z
  obtain ⟨_, g_cases, b_cases, m_cases, k_cases⟩ := ok_cases (w := w) (base := base) Z
  obtain ⟨_, g_world_with, b_world_with, m_world_with, k_world_with⟩ := ok_world_with (w := w) (base := base) Z
  have n_len := Z.free 63 (x := "len")
  have n_max := Z.free 65 (x := "max")
  have n_min := Z.free 66 (x := "min")
  have n_range := Z.free 67 (x := "range")
  obtain ⟨fdR, FR0⟩ := Z.fun_ 57
  have FR : Fun K "_law_refused" "_law_refused" s__law_refused (He.ga K "_law_refused") fdR := Wk.fun_of FR0
  have bR : L2.Binds K fdR ["call"] [] := FR.binds (ps := ["call"]) fun _ _ _ _ _ _ us hl => match us, hl with | [_], _ => rfl
  have gR := Z.glo 47 (x := "_law_refused")
  have gC := Z.glo 54 (x := "BadArgument")
  obtain ⟨hy1, hy2⟩ := Bool.and_eq_true_iff.mp hy
  obtain ⟨hy2, hy3⟩ := Bool.and_eq_true_iff.mp hy2
  have heB := of_decide_eq_true hy1
  have xfB1 := xfB_ok hy2
  have hnoB := of_decide_eq_true hy3
  refine fun_okC F sc_law (fun vs H Q E h => ?_) (fun A outer s H vs Q E hr h => ?_)
  · obtain ⟨a, ns, rfl, _⟩ := h
    rfl
  · obtain ⟨a, ns, rfl, hs, hn, hP, q⟩ := h
    have hu64 := hr.units
    refine ⟨_, (pss_cons (ps_for PassesOwn.never rfl (pi_range1 (by rfl) n_range (pa_cons (pe_callB (call_max2 rfl) (by rfl) n_max (by decide +kernel) (pa_cons pe_int (pa_cons (pe_callB (call_min2 rfl) (by rfl) n_min (by decide +kernel) (pa_cons pe_int (pa_cons (pe_callB call_len_seq (by rfl) n_len (by decide +kernel) (pa_cons (pv 0) pa_nil)) pa_nil))) pa_nil))) pa_nil)) (pg_name (i := 1) sc_law.nd rfl (by first | exact Or.inl rfl | exact Or.inr rfl)) (pss_one (ps_if (pt_not (pt_val (pe_call g__law_one (hr.mono (by decide)) (by rfl) m__law_one k__law_one b__law_one .nil pass0 (pa_cons (pe_call g__law_dice (hr.mono (by decide)) (by rfl) m__law_dice k__law_dice b__law_dice .nil pass0 (pa_cons (pv 0) (pa_cons (pv 1) pa_nil))) pa_nil)))) (pss_one (ps_ret pe_bl)) pss_nil))) (pss_cons (ps_if (pt_not (pt_cmpR op_eq (pe_refcall FR bR gR rfl gC heB xfB1 hnoB TBl rfl hr (LamX.lamS_by (sc := defScope s_law) (by decide +kernel)) rfl (fun _ _ _ _ _ => rfl) (fun A outer s H E f c' hrL => (pe_call g_cases (hrL.mono (by decide)) (by rfl) m_cases k_cases b_cases .nil (passes_call (takes_of rfl rfl rfl rfl) (fun _ _ _ _ h => h)) (pa_cons pe_str (pa_cons (pe_tup pa_nil) (pa_cons (pe_tup pa_nil) pa_nil)))))) pe_str (nomark _))) (pss_one (ps_ret pe_bl)) pss_nil) (pss_cons (ps_if (pt_not (pt_cmpR op_eq (pe_refcall FR bR gR rfl gC heB xfB1 hnoB TBl rfl hr (LamX.lamS_by (sc := defScope s_law) (by decide +kernel)) rfl (fun _ _ _ _ _ => rfl) (fun A outer s H E f c' hrL => (pe_call g_cases (hrL.mono (by decide)) (by rfl) m_cases k_cases b_cases .nil (passes_call (takes_of rfl rfl rfl rfl) (fun _ _ _ _ h => h)) (pa_cons pe_str (pa_cons (pe_tup (pa_cons pe_str pa_nil)) (pa_cons (pe_tup pa_nil) pa_nil)))))) pe_str (nomark _))) (pss_one (ps_ret pe_bl)) pss_nil) (pss_cons (ps_if (pt_not (pt_cmpR op_eq (pe_refcall FR bR gR rfl gC heB xfB1 hnoB TBl rfl hr (LamX.lamS_by (sc := defScope s_law) (by decide +kernel)) rfl (fun _ _ _ _ _ => rfl) (fun A outer s H E f c' hrL => (pe_call g_world_with (hrL.mono (by decide)) (by rfl) m_world_with k_world_with b_world_with .nil (passes_call (takes_of rfl rfl rfl rfl) (fun _ _ _ _ h => h)) (pa_cons pe_str (pa_cons (pe_tup (pa_cons pe_str (pa_cons pe_str pa_nil))) (pa_cons (pe_tup pa_nil) pa_nil)))))) pe_str (nomark _))) (pss_one (ps_ret pe_bl)) pss_nil) (pss_cons (ps_if (pt_not (pt_cmpR op_eq (pe_refcall FR bR gR rfl gC heB xfB1 hnoB TBl rfl hr (LamX.lamS_by (sc := defScope s_law) (by decide +kernel)) rfl (fun _ _ _ _ _ => rfl) (fun A outer s H E f c' hrL => (pe_call g_are_cases (hrL.mono (by decide)) (by rfl) m_are_cases k_are_cases b_are_cases .nil (passes_call (takes_of rfl rfl rfl rfl) (fun _ _ _ _ h => h)) (pa_cons pe_str (pa_cons (pe_tup pa_nil) (pa_cons (pe_lst (pa_cons pe_str pa_nil)) (pa_cons (pe_tup pa_nil) pa_nil))))))) pe_str (nomark _))) (pss_one (ps_ret pe_bl)) pss_nil) (pss_cons (ps_for PassesOwn.never rfl (pi_tup (pe_tup (pa_cons pe_int (pa_cons (pe_tup pa_nil) (pa_cons (pe_lst (pa_cons (pe_tup (pa_cons pe_str pa_nil)) pa_nil)) (pa_cons (pe_tup (pa_cons (pe_tup (pa_cons pe_str (pa_cons pe_str pa_nil))) pa_nil)) (pa_cons (pe_tup (pa_cons (pe_tup (pa_cons pe_str pa_nil)) pa_nil)) (pa_cons (pe_tup (pa_cons (pe_tup (pa_cons pe_str (pa_cons pe_str pa_nil))) (pa_cons (pe_tup (pa_cons pe_str pa_nil)) (pa_cons (pe_tup (pa_cons pe_str pa_nil)) pa_nil)))) (pa_cons (pe_tup (pa_cons (pe_tup pa_nil) pa_nil)) pa_nil))))))))) (pg_name (i := 2) sc_law.nd rfl (by first | exact Or.inl rfl | exact Or.inr rfl)) (pss_one (ps_if (pt_val (pe_call g_are_cases (hr.mono (by decide)) (by rfl) m_are_cases k_are_cases b_are_cases .nil passL (pa_cons pe_str (pa_cons (pe_tup pa_nil) (pa_cons (pe_tup pa_nil) (pa_cons (pv 2) pa_nil)))))) (pss_one (ps_ret pe_bl)) pss_nil))) (pss_cons (ps_if (pt_not (pw_and (pt_cmpR op_notN (pe_call g_cases (hr.mono (by decide)) (by rfl) m_cases k_cases b_cases .nil passL (pa_cons pe_str (pa_cons (pe_tup pa_nil) (pa_cons (pe_tup pa_nil) pa_nil)))) pe_non (nomark _)) (pw_and1 (pt_cmpR (op_eqD hu64) (pe_call g_cases (hr.mono (by decide)) (by rfl) m_cases k_cases b_cases .nil passL (pa_cons pe_str (pa_cons (pe_tup pa_nil) (pa_cons (pe_tup (pa_cons pe_str pa_nil)) pa_nil)))) (pe_tup (pa_cons (pe_tup (pa_cons pe_str pa_nil)) pa_nil)) (nomark _)))).pt) (pss_one (ps_ret pe_bl)) pss_nil) (pss_one (ps_ret (pe_and (pe_cmpR op_isN (pe_call g_cases (hr.mono (by decide)) (by rfl) m_cases k_cases b_cases .nil passL (pa_cons pe_str (pa_cons (pe_tup pa_nil) (pa_cons (pe_tup pa_nil) pa_nil)))) pe_non (nomark _)) (pe_one (pe_cmpR (op_eqD hu64) (pe_call g_world_with (hr.mono (by decide)) (by rfl) m_world_with k_world_with b_world_with .nil passL (pa_cons pe_str (pa_cons (pe_tup pa_nil) (pa_cons (pe_tup pa_nil) pa_nil)))) (pe_tup pa_nil) (nomark _))))))))))))), ?_⟩
    obtain ⟨m, hm, hm0, hm1⟩ : ∃ m : Int, m = (if (if ((ns.map V.int).length : Int) < 3 then ((ns.map V.int).length : Int) else 3) > 1 then (if ((ns.map V.int).length : Int) < 3 then ((ns.map V.int).length : Int) else 3) else 1) ∧ 0 ≤ m ∧ m ≤ 3 := ⟨_, rfl, by split <;> (try split) <;> omega, by split <;> (try split) <;> omega⟩
    have hTabs : ∀ H', Ex H H' → LamX.Tabs [((He.cT K ("law", none)).2, "law" ++ ".<locals>." ++ "<lambda>")] H' := fun H' e p hp => by
      rw [List.mem_singleton.mp hp]
      exact LamX.TabS.nil (e _ _ hP)
    refine q_forR1 (n := m) (ea_cons (ev_cb (ea_cons ev_c (ea_cons (ev_cb (ea_cons ev_c (ea_cons (ev_len (ev_var rfl) hs) ea_nil)) (fun H1 e1 Q q => ⟨_, _, rfl, q H1 (Ex.refl _)⟩)) ea_nil)) (fun H1 e1 Q q => ⟨_, _, rfl, by rw [← hm]; exact q H1 (Ex.refl _)⟩)) ea_nil) (by omega) (fun i σ' H' => ∃ s1 s2, σ' = [some (.ref a), s1, s2] ∧ Ex H H') (fun H1 e1 => ⟨none, none, rfl, e1⟩) ?_ ?_
    · rintro i σ' H' hi ⟨s1, s2, rfl, e'⟩
      refine s_when (b := false) (et_is (et_not (et_B (b := true) (fun H1 e1 Q1 q1 => ?_))) rfl) (fun h => absurd h (by decide)) (fun _ H1 e1 => ⟨_, _, rfl, e'.trans e1⟩)
      refine x_call (H := H1) (P := fun v H' => ∃ d, v = .ref d ∧ H1 d = none ∧ DiceAt 0 d H') (vs := [.ref a, .int (i : Int)]) (ea_cons (ev_var rfl) (ea_cons (ev_var rfl) ea_nil)) (fun H2 e2 Q2 q2 E2 => ⟨a, ns, i, rfl, ex_l ((e'.trans e1).trans e2) hs, by omega, by omega, fun d H3 hd e3 h3 => q2 _ H3 e3 ⟨d, rfl, fresh_back e2 hd, h3⟩⟩) H1 (Ex.refl _) _ (fun v H2 e2 ⟨d, ev, hd, hdice⟩ => ?_)
      subst ev
      refine ⟨d, rfl, hdice, fun H3 e3 => q1 H3 fun b o hb => ?_⟩
      have hbd : b ≠ d := fun x => by subst x; rw [hb] at hd; cases hd
      exact e3.at (e2 _ _ hb) hbd
    rintro σ1 H1 ⟨s1, s2, rfl, e1⟩
    refine s_refused (hTabs H1 e1) (fun H2 E2 Q2 hE => ?_) (fun H2 T2 => ?_)
    · exact x_args3 (eu_tup ea_nil (few5 rfl)) (eu_tup ea_nil (few5 rfl)) H2 (Ex.refl _) _ (fun vs H3 e3 ⟨p, o, ev, hp, ho⟩ => by
        subst ev
        exact ⟨lP, .ref p, .ref o, by rw [← tP]; rfl, .inl (bad_P fun d H4 e4 h4 => hE d H4 (e3.trans e4) h4)⟩)
    refine s_refused T2 (fun H3 E3 Q3 hE => ?_) (fun H3 T3 => ?_)
    · exact x_args3 (xs := [.str "b"]) (eu_tup (ea_cons ev_c ea_nil) (few5 rfl)) (eu_tup ea_nil (few5 rfl)) H3 (Ex.refl _) _ (fun vs H4 e4 ⟨p, o, ev, hp, ho⟩ => by
        subst ev
        rw [nm_ab.1] at hp
        exact ⟨rA.map lineT, .ref p, .ref o, by rw [← tA]; rfl, .inr ⟨rA, prog_ok gA, names_5 gA.2, asm_no asm_b (by decide) (fun c hc => by rw [List.mem_singleton.mp hc]; decide) hp (fun d H5 e5 h5 => hE d H5 (e4.trans e5) h5)⟩⟩)
    refine s_refused T3 (fun H4 E4 Q4 hE => ?_) (fun H4 T4 => ?_)
    · exact x_args3 (xs := [.str "b", .str "a"]) (eu_tup (ea_cons ev_c (ea_cons ev_c ea_nil)) (few5 rfl)) (eu_tup ea_nil (few5 rfl)) H4 (Ex.refl _) _ (fun vs H5 e5 ⟨p, o, ev, hp, ho⟩ => by
        subst ev
        rw [nm_ab.2.1] at hp
        exact ⟨rB.map lineT, .ref p, .ref o, rB, by rw [← tB']; rfl, prog_ok gB, asm_no asm_ba (by decide) (fun c hc => by
          have : ∀ c, c ∈ [98, 97] → c < 1000 := by decide
          exact this c hc) hp (fun d H6 e6 h6 => hE d H6 (e5.trans e6) h6)⟩)
    refine s_refused T4 (fun H5 E5 Q5 hE => ?_) (fun H5 T5 => ?_)
    · exact (x_cons (P := fun v _ => v = .str "a.\n") (x_ev ev_c) (fun _ _ _ _ h => h) (x_cons (P := fun v H' => ∃ p, v = .ref p ∧ H' p = some (.tup [])) (x_evU (eu_tup ea_nil (few5 rfl))) (fun v H1 H2 e ⟨p, a, b⟩ => ⟨p, a, e _ _ b⟩) (x_cons (P := fun v H' => ∃ p, v = .ref p ∧ H' p = some (.lst [.str "a"])) (EvX.imp (x_evL (el_lst (ea_cons ev_c ea_nil) (few5 rfl))) (fun v H' ⟨p, h1, _, h2⟩ => ⟨p, h1, h2⟩)) (fun v H1 H2 e ⟨p, a, b⟩ => ⟨p, a, e _ _ b⟩) (x_one (x_evU (eu_tup ea_nil (few5 rfl))))))) H5 (Ex.refl _) _ (fun vs H6 e6 ⟨v, r, ev, hv, v2, r2, ev2, ⟨p, hp1, hp2⟩, v3, r3, ev3, ⟨l, hl1, hl2⟩, v4, ev4, o, ho1, ho2⟩ => by
        subst ev; subst ev2; subst ev3; subst ev4; subst hv; subst hp1; subst hl1; subst ho1
        exact ⟨rA.map lineT, .ref p, .ref l, .ref o, [], rA, by rw [← tA]; rfl, prog_ok gA, .inl ⟨o, [], rfl, ho2, AllV.nil, by decide, fun xs hx => by cases hx⟩, asm_nil hp2 (.inr ⟨"list", fun H7 e7 => .base (.lst (e7 _ _ hl2)), by decide +kernel, fun d H7 e7 h7 => hE d H7 (e6.trans e7) h7⟩)⟩)
    refine q_forTX (P := fun v H' => ∃ p us, v = .ref p ∧ H' p = some (.tup us) ∧ ∀ u, u ∈ us → NoTree K u H') (EvX.imp (x_tup (PA := fun vs H' => vs.length ≤ 7 ∧ ∀ v, v ∈ vs → NoTree K v H') ?_ (fun vs H1 H2 e ⟨a, b⟩ => ⟨a, fun v hv => NoTree.mo _ _ _ e (b v hv)⟩) (fun vs H1 ⟨a, b⟩ => by omega)) (fun v H' ⟨p, vs, ev, hp, a⟩ => ⟨p, vs, ev, hp, a.2⟩)) ?_
    · have hm : Mo (NoTree K) := NoTree.mo
      refine x_consC (EvX.imp (x_ev ev_c) (fun v H' hv => by rw [hv]; exact ⟨[], .inr ⟨rfl, "int", fun _ _ => .base (.int _), by decide +kernel⟩, row_no.2.2.2.2⟩)) hm ?_
      refine x_consC (x_rows xn_nil (by decide) (fun xs hx => by cases hx) row_no.2.2.2.2) hm ?_
      refine x_consC (EvX.imp (x_lst1 (eu_tup (ea_cons ev_c ea_nil) (few5 rfl))) (fun v H' ⟨p, q, hv, hp, hq⟩ => ⟨[], .inr ⟨rfl, "list", fun H7 e7 => by rw [hv]; exact .base (.lst (e7 _ _ hp)), by decide +kernel⟩, row_no.2.2.2.2⟩)) hm ?_
      refine x_consC (x_rows (xn_cons (xs := ["shut", "a"]) (eu_tup (ea_cons ev_c (ea_cons ev_c ea_nil)) (few5 rfl)) xn_nil) (by decide) (fun xs hx => okS_all xs (by rw [List.mem_singleton.mp hx]; simp)) row_no.1) hm ?_
      refine x_consC (x_rows (xn_cons (xs := ["split"]) (eu_tup (ea_cons ev_c ea_nil) (few5 rfl)) xn_nil) (by decide) (fun xs hx => okS_all xs (by rw [List.mem_singleton.mp hx]; simp)) row_no.2.1) hm ?_
      refine x_consC (x_rows (xn_cons (xs := ["split", "b"]) (eu_tup (ea_cons ev_c (ea_cons ev_c ea_nil)) (few5 rfl)) (xn_cons (xs := ["shut"]) (eu_tup (ea_cons ev_c ea_nil) (few5 rfl)) (xn_cons (xs := ["shut"]) (eu_tup (ea_cons ev_c ea_nil) (few5 rfl)) xn_nil))) (by decide) (fun xs hx => okS_all xs (by
        rcases List.mem_cons.mp hx with x | x
        · rw [x]; simp
        rcases List.mem_cons.mp x with x | x
        · rw [x]; simp
        · rw [List.mem_singleton.mp x]; simp)) row_no.2.2.1) hm ?_
      exact x_consC (x_rows (xn_cons (xs := []) (eu_tup ea_nil (few5 rfl)) xn_nil) (by decide) (fun xs hx => okS_all xs (by rw [List.mem_singleton.mp hx]; simp)) row_no.2.2.2.1) hm x_nilC
    rintro v6 H6 e6 ⟨p, us, rfl, hp, hus⟩
    refine q_forT (K := K) (xs := us) ev_c (st_of hp) (fun i σ' H' => ∃ s1 s2, σ' = [some (.ref a), s1, s2] ∧ Ex H6 H') (fun H7 e7 => ⟨_, _, rfl, e7⟩) (fun i σ' H' _ ⟨_, _, _, e⟩ => st_of (e _ _ hp)) ?_ ?_
    · rintro i x σ' H' hx ⟨s1, s2, rfl, e'⟩
      obtain ⟨nodes, hv, hrow⟩ := hus x (List.mem_of_getElem? hx)
      refine s_when (b := false) (et_B (ev_ofX (x_callX (x_cons (P := fun v _ => v = .str "a :- not a.\n") (x_ev ev_c) (fun _ _ _ _ h => h) (x_cons (P := fun v H' => ∃ p, v = .ref p ∧ H' p = some (.tup [])) (x_evU (eu_tup ea_nil (few5 rfl))) (fun v H1 H2 e ⟨p, a, b⟩ => ⟨p, a, e _ _ b⟩) (x_cons (P := fun v H' => ∃ p, v = .ref p ∧ H' p = some (.tup [])) (x_evU (eu_tup ea_nil (few5 rfl))) (fun v H1 H2 e ⟨p, a, b⟩ => ⟨p, a, e _ _ b⟩) (x_one (P := fun v _ => v = x) (x_ev (ev_var rfl)))))) ?_))) (fun h => absurd h (by decide)) (fun _ H7 e7 => ⟨_, _, rfl, e'.trans e7⟩)
      rintro vs H7 e7 ⟨v, r, rfl, rfl, v2, r2, rfl, ⟨p2, rfl, hp2⟩, v3, r3, rfl, ⟨p3, rfl, hp3⟩, v4, ev4, hv4⟩ Q7 q7 E7
      rw [hv4] at ev4
      subst ev4
      refine ⟨rN.map lineT, .ref p2, .ref p3, x, nodes, rN, by rw [← tN], prog_ok gN, hv.ex (e'.trans e7), asm_nil hp2 (asm_nil hp3 fun H8 e8 => q7 _ H8 e8 ?_)⟩
      unfold areB
      rw [hrow, Bool.false_and]
    rintro σ7 H7 ⟨s1, s2, rfl, e67⟩
    refine q_when (b := false) (et_is (et_not (et_and (a := true) (b := true) (et_test (ev_opX (Pa := fun v _ => ∃ p, v = .ref p) (x_3N (eu_tup ea_nil (few5 rfl)) (eu_tup ea_nil (few5 rfl)) ?_) (fun _ _ _ _ h => h) (x_ev ev_c) ?_)) (fun _ => et_test (ev_opX (Pa := fun v H' => ∃ p q, v = .ref p ∧ H' p = some (.tup [.ref q]) ∧ H' q = some (.tup [.str "shut"])) (Pb := fun v H' => ∃ p q, v = .ref p ∧ H' p = some (.tup [.ref q]) ∧ H' q = some (.tup [.str "shut"])) (x_3N (ys := [.str "a"]) (eu_tup ea_nil (few5 rfl)) (eu_tup (ea_cons ev_c ea_nil) (few5 rfl)) ?_) (fun v H1 H2 e ⟨p, q, h1, h2, h3⟩ => ⟨p, q, h1, e _ _ h2, e _ _ h3⟩) ?_ ?_)))) rfl) (fun h => absurd h (by decide)) (fun _ H8 e8 => ?_)
    · intro p q H1 e1 hp hq Q k E
      refine ⟨rN.map lineT, .ref p, .ref q, by rw [← tN], .inr ⟨rN, prog_ok gN, names_5 gN.2, asm_nil hp (asm_nil hq ⟨fun h => ?_, fun ns hns p2 us H2 h2 e2 h3 h4 => k _ H2 e2 ⟨p2, rfl⟩⟩)⟩⟩
      rw [tree_N] at h
      cases h
    · rintro x y H1 e1 ⟨p, rfl⟩ rfl Q q
      exact ⟨rfl, q⟩
    · intro p q H1 e1 hp hq Q k E
      rw [nm_ab.2.2] at hq
      refine ⟨rA.map lineT, .ref p, .ref q, by rw [← tA], .inr ⟨rA, prog_ok gA, names_5 gA.2, asm_nil hp (.inl ⟨q, [97], rfl, hq, by decide, (fun c hc => by rw [List.mem_singleton.mp hc]; decide), .inl ⟨asm_a, ⟨fun h => ?_, fun ns hns p2 us H2 h2 e2 h3 h4 => ?_⟩⟩⟩)⟩⟩
      · rw [tree_A] at h
        cases h
      · rw [tree_A] at hns
        cases hns
        obtain ⟨u, rfl⟩ := List.length_eq_one_iff.mp h4.1
        obtain ⟨o, rfl, ho⟩ := h4.2 0 u none rfl rfl
        exact k _ H2 e2 ⟨p2, o, rfl, h3, ho⟩
    · exact EvX.imp (x_tup (PA := fun vs H' => ∃ v, vs = [v] ∧ ∃ q, v = .ref q ∧ H' q = some (.tup [.str "shut"])) (x_one (x_evU (eu_tup (ea_cons ev_c ea_nil) (few5 rfl)))) (fun vs H1 H2 e ⟨v, h1, q, h2, h3⟩ => ⟨v, h1, q, h2, e _ _ h3⟩) (fun vs H1 ⟨v, h1, _⟩ => by rw [h1]; exact few5 rfl)) (fun v H' ⟨p, vs, hv, hp, u, hu, q, hq, hqq⟩ => by
        subst hu; subst hq
        exact ⟨p, q, hv, hp, hqq⟩)
    · rintro x y H1 e1 ⟨p, p2, rfl, h1, h2⟩ ⟨q, q2, rfl, h3, h4⟩ Q k
      exact ⟨dShut, dShut, dp_shut h1 h2, dp_shut h3 h4, dShut_ok.1, dShut_ok.1, by rw [dShut_ok.2.1]; exact k⟩
    refine s_ret (v := .bl true) (ev_is (ev_andV (a := true) (b := true) (ev_opX (Pa := fun v _ => v = .non) (x_3N (eu_tup ea_nil (few5 rfl)) (eu_tup ea_nil (few5 rfl)) ?_) (fun _ _ _ _ h => h) (x_ev ev_c) ?_) (fun _ => ev_opX (Pa := fun v H' => ∃ p, v = .ref p ∧ H' p = some (.tup [])) (x_3N (eu_tup ea_nil (few5 rfl)) (eu_tup ea_nil (few5 rfl)) ?_) (fun v H1 H2 e ⟨p, h1, h2⟩ => ⟨p, h1, e _ _ h2⟩) (x_evU (eu_tup ea_nil (few5 rfl))) ?_)) rfl) (fun H9 e9 => q H9)
    · intro p q H1 e1 hp hq Q k E
      refine ⟨r0.map lineT, .ref p, .ref q, by rw [← t0], .inr ⟨r0, prog_ok g0, names_5 g0.2, asm_nil hp (asm_nil hq ⟨fun h H2 e2 => k _ H2 e2 rfl, fun ns hns => ?_⟩)⟩⟩
      rw [tree_0] at hns
      cases hns
    · rintro x y H1 e1 rfl rfl Q k
      exact ⟨rfl, k⟩
    · intro p q H1 e1 hp hq Q k E
      refine ⟨r0.map lineT, .ref p, .ref q, r0, by rw [← t0], prog_ok g0, asm_nil hp (asm_nil hq ⟨fun s hs hf p2 H2 e2 h2 => ?_, fun h => ?_⟩)⟩
      · rw [ws_0] at hs
        rw [List.mem_singleton.mp hs] at h2
        exact k _ H2 e2 ⟨p2, rfl, h2⟩
      · have := h [] (by rw [ws_0]; exact List.mem_singleton.mpr rfl)
        exact absurd this (by decide)
    · rintro x y H1 e1 ⟨p, rfl, h1⟩ ⟨q, rfl, h2⟩ Q k
      exact ⟨.tuple [], .tuple [], .tup (st_of h1) .nil, .tup (st_of h2) .nil, dShut_ok.2.2.1, dShut_ok.2.2.1, by rw [dShut_ok.2.2.2]; exact k⟩

end
end Tx
end
section
set_option Elab.async false
set_option linter.all false
set_option maxRecDepth 100000
set_option maxHeartbeats 0
namespace Tx
open PySem PySem.Spec PyProof.Rows L2
theorem law_at {w : World} {mg : Str → Option Value} {fa0 : Addr} {h : Heap} {K : PySem.W.Frag} (KX : K.In h) (G : h.Ns mainGlobals mg) (hfa : mg ("law" : Str) = some (.ref fa0)) (c : SaysY h K) :
    LamX.LawAtS PySem.Challenge.rw_whytables_k13_whole_cases w K (L2.CX0) 12 63 "script" mg fa0 h := by
  have Z : Zx K mg := ⟨⟨h, KX, G⟩, c.says⟩
  obtain ⟨fd, F0⟩ := Z.fun_ 58
  have F : Fun K "law" "law" s_law (He.fAd K ("law", none)) fd := Wk.fun_of F0
  have e := hfa.symm.trans (Z.glo 48 (x := "law"))
  cases e
  have b := FunD.bindsA (ps := ["script"]) F0 fun _ _ _ _ _ _ us hl => match us, hl with | [_], _ => rfl
  refine ⟨fd, [He.cT K ("law", none)], sp_law K, fun p hp => ?_, fun p hp => ?_, fun p hp => ?_, fun s u => b s [u] rfl, fun H a ns hl _ hT hS => ⟨a, ns, rfl, hS, hl, hT _ List.mem_cons_self, fun _ => rfl⟩, fun base hb Gb TB => ok_law Z c.exy F (TB _ List.mem_cons_self)⟩
  · rw [List.mem_singleton.mp hp]; exact c.empty
  · rw [List.mem_singleton.mp hp]; exact c.out
  · rw [List.mem_singleton.mp hp]; exact PySem.W.codeHd_of_K KX c.hd
end Tx
open PySem PySem.W PySem.Calls PyProof.Rows
theorem PySem.Challenge.cw_whytables_k13_whole_cases_holds : PySem.Challenge.rw_whytables_k13_whole_cases.Holds := by
  w_on; o_law
  refine HandSHeadRun.head_any (r := OpenLaw.row PySem.Challenge.rw_whytables_k13_whole_cases) (q := view (OpenLaw.row PySem.Challenge.rw_whytables_k13_whole_cases).prog [77]) (H := Tx.hkY) (ob := Tx.obY) (M := 20000) (loose := Tx.lo) (d := HandSHeadRun.topDef (OpenLaw.row PySem.Challenge.rw_whytables_k13_whole_cases).prog 77) (kwd := []) Tx.obY_eq
    (by kernel_rfl) (fun s => by kernel_rfl) Tx.runY (by kernel_rfl) (by kernel_rfl) (by kernel_rfl) (by rfl) (by first | assumption | decide +kernel) (by decide +kernel) ⟨rfl, rfl, rfl, rfl, rfl, by decide +kernel⟩ ?hw ?hc
  case hw => w_witness2
  case hc =>
    refine LamX.walk_ofTsE (l := PySem.Challenge.rw_whytables_k13_whole_cases) (n := 63) (k := 12) (x := "script") (CX := fun _ => L2.CX0) rfl (by decide) (by kernel_rfl) ⟨rfl, by decide, by decide⟩ ?F (fun _ _ _ _ _ z => z)
    intro w mg fa0 h Y G hmg0
    obtain ⟨K, KX, c⟩ := Y
    have hmg : mg ("law" : PySem.Str) = some (.ref fa0) := by
      have e : (HandSHeadRun.topDef (OpenLaw.row PySem.Challenge.rw_whytables_k13_whole_cases).prog 77).name = ("law" : PySem.Str) := by kernel_rfl
      rw [← e]
      exact hmg0
    exact ⟨K, KX, Tx.law_at KX G hmg c⟩
end
