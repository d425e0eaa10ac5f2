import PyProof.Rows.All
import Wide.All
import OpenK.AllK
import Wide.FinOn
import PyProof.EqAt
import PyProof.EqKinds
import PyProof.TupleCall
import KE.KExcSuper
import KE.KIsAll
import KE.KTryMore
import KE.KExcIs
import HandS.IsInst
import HandS.ForMost
import HandS.Exc
import HandS.ExcIs
import HandS.ExcField
import HandS.ExcValue
import HandS.ExcSuper
import HandS.HeadWalk
import HandS.Lambda
import HandS.Codes
import HandS.TryOnly
import KE.KDflt
import HandS.Flow
import HandS.Walk
import HandS.StrMore
import HandS.Text
import HandS.DictComp
import HandS.Words
import HandS.Defaults
import KE.GoesEnum
import PyProof.ListStr
import HandS.Deep
import HandS.Conv
import HandS.TupLe
import HandS.Zip
import HandS.TupAny
import HandS.TupSets
import HandS.SortOrd
import KE.LtData
import PySem.Challenge.RW_pulledplug_k93_whole_fences_by_all_block
import HandS.Iter
import KE.KStateDown
import HandS.Sort
import HandS.Style
import HandS.HeadHook4
import HandS.Head2
import HandS.Head0
import HandS.Head1
set_option Elab.async false
set_option linter.all false
set_option maxRecDepth 100000
set_option maxHeartbeats 4000000
/-! # Own errors with one field f whose __init__ calls super().__init__(f) and stores self.f = f; over ValueError, by own classes. -/
namespace PlugX
open PySem PySem.W PySem.Calls PyProof.Rows PySem.HandSPX

/-- the words of __init__, its places left open -/
abbrev PPs := Nat → Pos
def iArgs (f : Str) (p : PPs) : Arguments := { posonlyargs := [], args := [{ arg := "self", annotation := none, pos := p 0 }, { arg := f, annotation := none, pos := p 1 }], vararg := none, kwonlyargs := [], kw_defaults := [], kwarg := none, defaults := [] }
def iBody (f : Str) (p : PPs) : List Stmt :=
  [.Expr (.Call (.Attribute (.Call (.Name "super" (p 2)) [] [] (p 3)) "__init__" (p 4)) [.Name f (p 5)] [] (p 6)) (p 7),
   .Assign [.Attribute (.Name "self" (p 8)) f (p 9)] (.Name f (p 10)) (p 11)]
def iScope (f : Str) : Scope := { kind := .function, names := [(PySem.Str.ofString "self", .local), (f, .local), (PySem.Str.ofString "__class__", .free), (PySem.Str.ofString "super", .globalImplicit)], isGenerator := false, isCoroutine := false, more := [] }

/-- what the written part says of the class named x at C, whose field is f -/
structure ExT (P : Program) (K : Frag) (mg : Str → Option Value) (x f : Str) (C fI cda cc : Addr) : Prop where
  gC : mg x = some (.ref C)
  gS : mg "super" = none
  cls : ∃ nm q N bs bm sn sub ab col dd k0 k1 k2 k3 k5, K.lookup C = some (excClassObj nm q C N bs bm true sn sub ab col dd k0 k1 k2 k3 k5 "ValueError.__new__") ∧ refsVE bm = true
  sa : findIn K (.ref C) "__setattr__" = some (some (.builtin "object.__setattr__"))
  noF : findIn K (.ref C) f = some none
  iC : findIn K (.ref C) "__init__" = some (some (.ref fI))
  tC : typeIn K (.ref fI) = some (.type "function")
  kC : keepIn K (.ref C) = true
  exC : subIn K (.ref C) (.type "BaseException") = some true
  veC : subIn K (.ref C) (.type "ValueError") = some true
  tyC : typeIn K (.ref C) = some (.type "type")
  sup : ks_superIn K C C "__init__" = some (some (.builtin "ValueError.__init__"))
  own : mroIn K C (.ref C) = some true
  opq : nsIn K cStatics "thirdparty.any" = some none
  top : (P.main.scope.names.lookup ("super" : Str)).isSome = false
  fn : ∃ (q : Str) (oc : Value) (od : Option Addr) (kV doc pm : Value) (an : Option Addr) (ct : Value) (osl : Array (Option Value)) (p : PPs),
    K.lookup fI = some ⟨oc, od, .func (ksFn "__init__" q (iArgs f p) (iBody f p) (iScope f) .none kV doc pm an (.ref cda) ct cc), osl⟩ ∧ codeIn K (.ref cda) q = true ∧ ((p 4).endLine == (p 6).line) = true
  code : ∃ (ccl : Value) (cdd : Option Addr) (vs : Array Value) (ccs : Array (Option Value)) (file : Str) (tf : Tok), K.lookup cda = some ⟨ccl, cdd, .fields vs, ccs⟩ ∧ vs[2]? = some (.str file tf) ∧ ((P.main.file : Str) == file) = true
  cell : ∃ (cl : Value) (cld : Option Addr) (csl : Array (Option Value)), K.lookup cc = some ⟨cl, cld, .cell (some (.ref C)), csl⟩

/-- what __init__ leaves of a fresh exception at x -/
structure InitEnd (h h' : Heap) (x C dx t1 : Addr) (f : Str) (v : Value) : Prop where
  keep : ∀ b o, b ≠ x → h.get? b = some o → h'.get? b = some o
  obj : h'.get? x = some { cls := .ref C, dict := some dx, data := .fields #[.ref t1, .none, .none, .none, .bool false, .none] }
  dbig : h.objs.size ≤ dx
  dne : dx ≠ x
  ns : h'.Ns1 dx (fun y => if y = f then some v else none)
structure OwnMade (h h' : Heap) (e C d : Addr) (f : Str) (v : Value) : Prop where
  keep : ∀ b o, h.get? b = some o → h'.get? b = some o
  new : h.objs.size ≤ e
  obj : ∃ oe vs, h'.get? e = some oe ∧ oe.cls = .ref C ∧ oe.dict = some d ∧ oe.data = .fields vs ∧ vs[1]? = some .none
  dbig : h.objs.size ≤ d
  dne : d ≠ e
  ns : h'.Ns1 d (fun y => if y = f then some v else none)
/-- the field's name is none of the names that __init__ uses -/
structure FOk (f : Str) : Prop where
  s : (f == ("self" : Str)) = false
  c : (f == ("__class__" : Str)) = false
  u : (f == ("super" : Str)) = false
  d : (f == ("__debug__" : Str)) = false
  b : ∀ (q : Str) (p : PPs) (kV doc pm : Value) (an : Option Addr) (cd ct : Value) (cc : Addr) (u v : Value),
    bindArgs (ksFn "__init__" q (iArgs f p) (iBody f p) (iScope f) .none kV doc pm an cd ct cc) ⟨[u, v], []⟩ = pure [(("self" : Str), u), (f, v)]
theorem one_size (v : Value) : [v].length ≤ sizeLine := by
  rw [sizeLine_eq]
  exact (by decide : 1 ≤ 16777216)

section
variable {P : Program} {w : World} {A : Around} {R : Result → Shared → Prop} {s : Shared} {K : Frag} {mg mb : Str → Option Value} {x f : Str} {C fI cda cc : Addr}
theorem look_f (fo : FOk f) {α : Type} (a b c d : α) : List.lookup f [(PySem.Str.ofString "self", a), (f, b), (PySem.Str.ofString "__class__", c), (PySem.Str.ofString "super", d)] = some b := by
  have h1 : (f == PySem.Str.ofString "self") = false := fo.s
  simp [List.lookup, h1]
theorem look_c (fo : FOk f) {α : Type} (a b c d : α) : List.lookup ("__class__" : Str) [(PySem.Str.ofString "self", a), (f, b), (PySem.Str.ofString "__class__", c), (PySem.Str.ofString "super", d)] = some c := by
  have h1 : (("__class__" : Str) == PySem.Str.ofString "self") = false := by decide +kernel
  have h2 : (("__class__" : Str) == f) = false := by
    have q := fo.c
    rw [Bool.eq_false_iff] at q ⊢
    exact fun z => q (beq_iff_eq.mpr (beq_iff_eq.mp z).symm)
  have h3 : (("__class__" : Str) == PySem.Str.ofString "__class__") = true := by decide +kernel
  simp only [List.lookup, h1, h2, h3]
theorem look_u (fo : FOk f) {α : Type} (a b c d : α) : List.lookup ("super" : Str) [(PySem.Str.ofString "self", a), (f, b), (PySem.Str.ofString "__class__", c), (PySem.Str.ofString "super", d)] = some d := by
  have h1 : (("super" : Str) == PySem.Str.ofString "self") = false := by decide +kernel
  have h2 : (("super" : Str) == f) = false := by
    have q := fo.u
    rw [Bool.eq_false_iff] at q ⊢
    exact fun z => q (beq_iff_eq.mpr (beq_iff_eq.mp z).symm)
  have h3 : (("super" : Str) == PySem.Str.ofString "__class__") = false := by decide +kernel
  have h4 : (("super" : Str) == PySem.Str.ofString "super") = true := by decide +kernel
  simp only [List.lookup, h1, h2, h3, h4]
theorem look_s {α : Type} (a b c d : α) : List.lookup ("self" : Str) [(PySem.Str.ofString "self", a), (f, b), (PySem.Str.ofString "__class__", c), (PySem.Str.ofString "super", d)] = some a := by
  have h1 : (("self" : Str) == PySem.Str.ofString "self") = true := by decide +kernel
  simp only [List.lookup, h1]

theorem plug_init (T : ExT P K mg x f C fI cda cc) (fo : FOk f) {y t0 : Addr} {v : Value} (X : K.In s.heap) (hg : s.heap.Ns mainGlobals mg) (hb : s.heap.Ns builtinsNs mb) (hbs : mb "super" = some (.type "super"))
    (hlim : s.heap.NoLimit) (hx : s.heap.get? y = some (excO C t0)) (hnx : K.lookup y = none) (hroom : A.depth < recursionLimit)
    (hq : ∀ h' tk dx t1, InitEnd s.heap h' y C dx t1 f v → R (.ok (.ret .none)) { s with heap := h', toks := tk }) :
    codeAny (model P w) A (.call (.ref fI) ⟨[.ref y, v], []⟩) R s := by
  obtain ⟨q, oc, od, kV, doc, pm, an, ct, osl, p, hfI, hcd, hline⟩ := T.fn
  obtain ⟨ccl, cdd, vs, ccs, file, tf, hcda, hvs, hfile⟩ := T.code
  obtain ⟨cl, cld, csl, hcc⟩ := T.cell
  obtain ⟨nm, q', N, bs, bm, sn, sub, ab, col, dd, k0, k1, k2, k3, k5, hC, hbm⟩ := T.cls
  have hcl : clsIn K C = some { name := nm, bases := bs, mro := .ref C :: bm, ns := N, qualname := q', hasDict := true, slotNames := sn, subclasses := sub, abstract := ab, collection := col, hasDel := false } := by unfold clsIn; rw [hC] <;> rfl
  have lf := fun (α : Type) (a b c d : α) => look_f fo a b c d
  refine ks_codeAny_call_defAt (fd := ksFn "__init__" q (iArgs f p) (iBody f p) (iScope f) .none kV doc pm an (.ref cda) ct cc) (body := iBody f p) (binds := [("self", .ref y), (f, v)]) hroom (X _ _ hfI) rfl hlim (codeRec_of X hcd) rfl
    (BindsTo.of_eq (fo.b _ _ _ _ _ _ _ _ _ _ _)) (fun z hz => ?_) (fun z hz => ?_) (fun h₁ hns hk₁ => ?_)
  · have e : z.2 = .local ∨ z.2 = .free ∨ z.2 = .globalImplicit := by
      rcases List.mem_cons.mp hz with e | hz
      · exact .inl (by rw [e])
      rcases List.mem_cons.mp hz with e | hz
      · exact .inl (by rw [e])
      rcases List.mem_cons.mp hz with e | hz
      · exact .inr (.inl (by rw [e]))
      rcases List.mem_cons.mp hz with e | hz
      · exact .inr (.inr (by rw [e]))
      · cases hz
    rcases e with e | e | e <;> (rw [e]; decide)
  · rcases List.mem_cons.mp hz with e | hz
    · rw [e]; exact look_s _ _ _ _
    rcases List.mem_cons.mp hz with e | hz
    · rw [e]; exact lf _ _ _ _ _
    · cases hz
  · have X₁ : K.In h₁ := X.keeps hk₁
    have hx₁ := hk₁ _ _ hx
    have hg₁ := hg.keeps hk₁
    have hb₁ := hb.keeps hk₁
    have ms : (fun z => ([("self", Value.ref y), (f, v)] : List (Str × Value)).reverse.lookup z) "self" = some (.ref y) := by
      have h1 : (("self" : Str) == f) = false := by
        have q := fo.s
        rw [Bool.eq_false_iff] at q ⊢
        exact fun z => q (beq_iff_eq.mpr (beq_iff_eq.mp z).symm)
      have h2 : (("self" : Str) == ("self" : Str)) = true := by decide +kernel
      simp only [List.reverse_cons, List.reverse_nil, List.nil_append, List.cons_append, List.lookup, h1, h2]
    have mf : (fun z => ([("self", Value.ref y), (f, v)] : List (Str × Value)).reverse.lookup z) f = some v := by
      simp [List.lookup]
    refine ks_wpAt_execs_cons (ks_wpAt_Expr_any (ks_wpAt_MethodCall (pl := L2.plainOf (.Call (.Name "super" (p 2)) [] [] (p 3)) (callEnv (ksFn "__init__" q (iArgs f p) (iBody f p) (iScope f) .none kV doc pm an (.ref cda) ct cc) s.heap.objs.size fI)) ?_ (he := ?_)))
    rotate_left
    · rw [arm_eval_Call]
      simp only [L2.mcall_line (show methodCallForm ([Expr.Name f (p 5)].length + ([] : List Keyword).length) (backTo (p 6) (starEach [Expr.Name f (p 5)] _)) (backToKw (p 6) (keywordEach [] _)) = true from rfl) hline]
      rfl
    refine ks_wpAt_super_base (hat := by decide +kernel) (hfu := rfl) (hf := X₁ _ _ hfI) (hfd := rfl) (hp := rfl) (hco := rfl) (hcc := X₁ _ _ hcda) (hoc := rfl) (hvs := hvs) (hfile := hfile) (htop := T.top) (hks := look_u fo _ _ _ _) (hkc := look_c fo _ _ _ _) ?_
    refine ks_loadName_global rfl (look_u fo _ _ _ _) (loadGlobal_builtin hg₁ T.gS hb₁ hbs ⟨rfl, ?_⟩)
    refine wpAny_loadName_free rfl (look_c fo _ _ _ _) (by first | rfl | decide +kernel) ⟨_, X₁ _ _ hcc, rfl⟩ ?_
    refine wpAny_loadName_local rfl (look_s _ _ _ _) hns ms ?_
    have hC₁ := X₁ _ _ hC
    refine ks_wpAny_isType_cls hC₁ rfl ⟨rfl, ?_⟩
    refine ks_wpAny_call_super hC₁ rfl hx₁ rfl (fun c e => by cases e) (looks_mroIn X₁ T.own) (fun h₂ hso hk₂ => ?_)
    have X₂ : K.In h₂ := X₁.keeps hk₂
    have hx₂ := hk₂ _ _ hx₁
    have I₂ : InstAt h₂ y (excO C t0) C none := ⟨hx₂, rfl, rfl, trivial⟩
    have hI₂ : Looks (model P w) h₂ (isInstance (.ref y) (.type "ValueError")) true := I₂.type.andThen (looks_subIn X₂ T.veC)
    have hal := T.sup
    unfold ks_superIn at hal
    rw [hcl] at hal
    refine kxs_getMethod kxs_ValueError hso (looks_opaque X₂ T.opq) (l₀ := .ref C :: bm) ((looks_clsIn X₂ hcl).andThen .now) rfl X₂ hal hI₂ (ks_ne X₂ I₂ hcl) (by decide +kernel) ?_
    have FB := F.excBase_ValueError
    have hu : (h₂.push (kxs_mw "ValueError.__init__" y)).get? h₂.objs.size = some (kxs_mw "ValueError.__init__" y) := Heap.get?_push_at rfl rfl
    have hk₃ : ∀ b o, h₂.get? b = some o → (h₂.push (kxs_mw "ValueError.__init__" y)).get? b = some o := fun b o e => Heap.get?_push_of_some _ e
    generalize hh₃ : h₂.push (kxs_mw "ValueError.__init__" y) = h₃ at hu hk₃
    have hx₃ := hk₃ _ _ hx₂
    have hC₃ := hk₃ _ _ (hk₂ _ _ hC₁)
    have k₁₃ : ∀ b o, h₁.get? b = some o → h₃.get? b = some o := fun b o e => hk₃ b o (hk₂ b o e)
    have hns₃ := hns.keeps k₁₃
    refine kxs_callWith (i := "ValueError.__init__") (x := y) rfl (evalArgs_plain (Calls.spliced_cons ?_))
    refine wpAny_Name (wpAny_loadName_local rfl (lf _ _ _ _ _) hns₃ mf ?_) fo.d
    refine Calls.spliced_nil ⟨hu, ?_⟩
    refine wpAny_call (codeAny_of_tree ?_)
    show wpAny _ _ (callAny (.ref h₂.objs.size) ⟨[v], []⟩) _ _ _
    simp only [callAny]
    refine wpAny_bind (wpAny_load hu ?_)
    have e0 : (Value.type "method-wrapper" == Value.type "method") = false := by decide
    have e1 : (Value.type "method-wrapper" == Value.type "method" || Value.type "method-wrapper" == Value.type "builtin_function_or_method" || Value.type "method-wrapper" == Value.type "method-wrapper") = true := by decide
    simp only [kxs_mw, e1, if_true]
    refine KFB.if_so (by decide) (wpAny_bind (check_bound_init FB.toExcCallFacts hC₃ hx₃ rfl ?_))
    refine wpAny_bind (wpAny_pure (wpAny_pure ⟨plainId_quiet FB.init.plain _, codeAny_builtin FB.initEntry ?_⟩))
    refine exc_init_tree (cls := .ref C) (t0 := t0) (dv := none) (c2 := .none) (c3 := .none) (b4 := .bool false) hx₃ (one_size v) fun h₄ hk₄ hx₄ ht₄ => ?_
    have yL : s.heap.objs.size ≠ y := Nat.ne_of_gt (Heap.lt_size hx)
    have k₁₄ : ∀ b o, b ≠ y → h₁.get? b = some o → h₄.get? b = some o := fun b o hb e => hk₄ b o hb (k₁₃ b o e)
    have hKy : K.lookup y = none := hnx
    have X₄ : K.In h₄ := fun a o e => k₁₄ a o (fun z => by rw [z, hKy] at e; cases e) (X₁ a o e)
    have hns₄ : h₄.Ns s.heap.objs.size fun z => ([("self", Value.ref y), (f, v)] : List (Str × Value)).reverse.lookup z := by
      obtain ⟨o, es, ep, e1, e2, e3⟩ := hns
      exact ⟨o, es, ep, k₁₄ _ _ yL e1, e2, e3⟩
    show _root_.PySem.wpAt _ _ _ (execs _ _) _ _ _
    refine wpAt_of_wpAny (wpAny_execs_cons (plainObj_wpAny_Assign_Attribute ?_))
    refine wpAny_Name (wpAny_loadName_local rfl (lf _ _ _ _ _) hns₄ mf ?_) fo.d
    refine wpAny_Name (wpAny_loadName_local rfl (look_s _ _ _ _) hns₄ ms ?_) (by decide)
    refine set_plain X₄ (ox := excRec (.ref C) h₃.objs.size none .none .none (.bool false)) (od := none) ⟨hx₄, rfl, rfl, trivial⟩ T.sa ?_
    refine exc_osa X₄ hx₄ hcl (show refsVE (.ref C :: bm) = true from hbm) rfl T.noF (fun h₅ tk₅ dx hk₅ dn dne hx₅ hn₅ => ?_)
    show wpAny _ _ (execs _ _) _ _ _
    refine wpAny_execs_nil ?_
    have sz : s.heap.objs.size ≤ h₄.objs.size := by
      have z := Nat.lt_of_lt_of_le (Nat.lt_succ_self s.heap.objs.size) (Nat.succ_le_of_lt hns₄.lt)
      exact Nat.le_of_lt z
    exact hq h₅ tk₅ dx h₃.objs.size ⟨fun b o hb e => hk₅ b o hb (k₁₄ b o hb (hk₁ b o e)), hx₅, Nat.le_trans sz dn, dne, hn₅⟩
theorem plug_made (T : ExT P K mg x f C fI cda cc) (fo : FOk f) {v : Value} (X : K.In s.heap) (hg : s.heap.Ns mainGlobals mg) (hb : s.heap.Ns builtinsNs mb) (hbs : mb "super" = some (.type "super"))
    (hlim : s.heap.NoLimit) (hroom : A.depth + 1 < recursionLimit)
    (hq : ∀ h' tk e d, OwnMade s.heap h' e C d f v → R (.ok (.ret (.ref e))) { s with heap := h', toks := tk }) :
    codeAny (model P w) A (.call (.ref C) ⟨[v], []⟩) R s := by
  obtain ⟨nm, q', N, bs, bm, sn, sub, ab, col, dd, k0, k1, k2, k3, k5, hC, hbm⟩ := T.cls
  obtain ⟨hp, g, dr, tk, os⟩ := s
  have k : ∀ b o, hp.get? b = some o → ((hp.push (kdv_tup [v])).push (excO C hp.objs.size)).get? b = some o := fun b o e => Heap.get?_push_of_some _ (Heap.get?_push_of_some _ e)
  have hget : ((hp.push (kdv_tup [v])).push (excO C hp.objs.size)).get? (hp.objs.size + 1) = some (excO C hp.objs.size) := by heap_get
  have hnx : K.lookup (hp.objs.size + 1) = none := by
    cases e : K.lookup (hp.objs.size + 1) with
    | none => rfl
    | some o =>
      have z : hp.get? (hp.objs.size + 1) = some o := X _ _ e
      exact absurd (Nat.lt_of_succ_lt (Heap.lt_size z)) (Nat.lt_irrefl _)
  refine call_own F.excBase_ValueError (fun X => refsVE_contains X bm hbm) (X _ _ hC) (looks_findIn X T.iC) (fun self => bind_fn X self T.tC) (one_size v) ?_
  refine plug_init (s := ⟨(hp.push (kdv_tup [v])).push (excO C hp.objs.size), g, dr, tk, os⟩) T fo (X.keeps k) (hg.keeps k) (hb.keeps k) hbs (hlim.keeps k) hget hnx ?_ fun h' tk' dx t1 Z => ?_
  · show A.depth + 1 < recursionLimit
    exact hroom
  · have old : ∀ b o, hp.get? b = some o → h'.get? b = some o := fun b o e => Z.keep b o (Nat.ne_of_lt (Nat.lt_succ_of_lt (Heap.lt_size e))) (k b o e)
    have z : hp.objs.size + 1 + 1 ≤ dx := by
      have q := Z.dbig
      rw [Heap.size_push, Heap.size_push] at q
      exact q
    exact ⟨rfl, hq h' tk' (hp.objs.size + 1) dx ⟨old, Nat.le_succ _, ⟨_, _, Z.obj, rfl, rfl, rfl, rfl⟩, Nat.le_trans (Nat.le_trans (Nat.le_succ _) (Nat.le_succ _)) z, Z.dne, Z.ns⟩⟩
end
end PlugX

namespace L2
open PySem PySem.Spec PyProof.Rows PlugX
/-! ### the dict of such an error, its making, its raising -/
theorem relO_one {v : V} {v' : Value} {f : Str} (r : RelV v v') (g : Str) : RelO (List.lookup g [(f, v)]) (if g = f then some v' else none) := by
  by_cases hw : g = f
  · subst hw
    rw [if_pos rfl]
    have q : List.lookup g [(g, v)] = some v := by simp [List.lookup]
    rw [q]
    exact r
  · have q2 : List.lookup g [(f, v)] = none := by
      have qw : (g == f) = false := by simpa using hw
      simp [List.lookup, qw]
    rw [if_neg hw, q2]
    trivial
section
variable {X : Cx} {x f : Str} {C fI cda cc : Addr}
def tMkX (C : Addr) (f : Str) (ta : TA) : St → Hp → XK → Prop := fun σ H Q => ta σ H fun vs H1 => ∃ v, vs = [v] ∧ ∀ d, H1 d = none → Q (.ref C) (some d) (upd H1 d (.xd [(f, v)]))
theorem pmk_plug {a : Expr} {ta : TA} {p pos : Pos} {k : Nat} (T : ExT X.prog X.K X.mg x f C fI cda cc) (fo : FOk f) (hr : Room k X.A) (ha : PA X [a] ta) (hg : Gl X x) (hdb : (x == ("__debug__" : Str)) = false)
    (he : starEach (a :: []) X.env = (false, eval a X.env) :: starEach [] X.env := by rfl) (hpl : (backTo pos (starEach [] X.env)).any (·.1) = false := by rfl) :
    PMk X (.Call (.Name x p) [a] [] pos) (tMkX C f ta) := by
  intro pins s σ H Q I h
  refine wpAny_Call_Name_kw (ld_glob I hg T.gC ?_ hdb)
  refine PySem.W.callWith_K (h₀ := X.base) I.ok.mod.kin T.kC (thn (ha.run pos pins s σ H _ I h) fun us s1 hh => ?_) he hpl
  obtain ⟨vs, H1, I1, r1, v, ev, q1⟩ := hh
  subst ev
  refine ⟨I1.kIn, ?_⟩
  obtain ⟨v', rfl, rv⟩ := vals1 r1
  obtain ⟨mb, hmb, hmb2⟩ := I1.mod.blt
  have hbs : mb "super" = some (.type "super") := (hmb2 "super" (by decide)).trans (by decide +kernel)
  have hlim := I1.nolimit
  have hK := I1.kIn
  have hG : s1.heap.Ns mainGlobals X.mg := I1.mod.glob.keeps I1.bk
  have hB : s1.heap.Ns builtinsNs mb := hmb.keeps I1.bk
  obtain ⟨hp, g, dr, tk, os⟩ := s1
  show wpAny _ _ (call (.ref C) [v']) _ _ _
  refine wpAny_call (plug_made T fo hK hG hB hbs hlim (by have := hr.dp; omega) fun h' tk' e d M => ?_)
  show MkP X pins σ Q (.ref e) ⟨h', g, dr, tk', os⟩
  obtain ⟨oe, fv, hoe, hc, hd, hdat, h1⟩ := M.obj
  have hns := M.ns
  obtain ⟨G', g1, g2⟩ := restrict h' fun b => decide (b ≠ e)
  have gk : ∀ b, b ≠ e → G'.get? b = h'.get? b := fun b hb => g1 b (decide_eq_true hb)
  have ge : G'.get? e = none := g2 e (by simp)
  have old : ∀ b o, hp.get? b = some o → G'.get? b = some o := fun b o q => (gk b (Nat.ne_of_lt (Nat.lt_of_lt_of_le (Heap.lt_size q) M.new))).trans (M.keep b o q)
  have ob : ObjOk X.prog X.w (upd H1 d (.xd [(f, v)])) G' d (.xd [(f, v)]) := ⟨_, hns.at (fun o q => (gk d M.dne).trans q), fun g => relO_one rv g⟩
  have J : Inv X pins σ (upd H1 d (.xd [(f, v)])) ⟨G', g, dr, tk', os⟩ := I1.laid (t' := tk') old M.dbig ob
  refine ⟨e, oe, fv, ⟨G', g, dr, tk', os⟩, _, .ref C, some d, rfl, J, fun b o q => ?_, ge, hoe, ⟨hc, hd⟩, hdat, h1, ?_, rfl, I1.bare, raises_own T.exC T.tyC, q1 d (I1.hok.fresh M.dbig)⟩
  · by_cases hb : b = e
    · have q' : G'.get? b = some o := q
      rw [hb, ge] at q'
      cases q'
    · exact (gk b hb).symm.trans q
  · rw [upd_ne (Ne.symm M.dne)]
    exact I1.hok.fresh M.new
/-- raise X(e) -/
def tRaiseX (C : Addr) (f : Str) (W : WX) (ta : TA) : TS := fun _ σ H => tMkX C f ta σ H fun cls d H' => W cls d σ H'
theorem ps_raisePlug {a : Expr} {ta : TA} {W : WX} {p pos pos2 : Pos} {k : Nat} (hc : X.calm = true) (T : ExT X.prog X.K X.mg x f C fI cda cc) (fo : FOk f) (hr : Room k X.A) (tk : Takes X W) (ha : PA X [a] ta) (hg : Gl X x) (hdb : (x == ("__debug__" : Str)) = false)
    (he : starEach (a :: []) X.env = (false, eval a X.env) :: starEach [] X.env := by rfl) (hpl : (backTo pos (starEach [] X.env)).any (·.1) = false := by rfl) :
    PS X (.Raise (some (.Call (.Name x p) [a] [] pos)) none pos2) (tRaiseX C f W ta) := ps_raise hc tk (pmk_plug T fo hr ha hg hdb he hpl)
end

/-! ### an error that a name keeps: tracked from behind its except suite on -/
def ExV (cls : Value) (d : Option Addr) (a : Addr) : HO := .ext fun h => ∃ (oe : Obj) (vs : Array Value), h.get? a = some oe ∧ Zc cls d oe ∧ oe.data = .fields vs
theorem exV_ok {P : Program} {w : World} {H : Hp} {h : Heap} {a : Addr} {cls : Value} {d : Option Addr} {oe : Obj} {vs : Array Value} (e : h.get? a = some oe) (z : Zc cls d oe) (dd : oe.data = .fields vs) : ObjOk P w H h a (ExV cls d a) :=
  ⟨⟨oe, vs, e, z, dd⟩, ⟨oe, e⟩, fun _ _ ⟨o, v, q, r⟩ k => ⟨o, v, k o q, r⟩⟩
section
variable {X : Cx} {pins : List (Addr × Obj)} {σ : St} {H : Hp} {s : Shared} {a : Addr} {oe : Obj}
theorem Inv.track {o : HO} (I : Inv X ((a, oe) :: pins) σ H s) (n0 : X.s_0.heap.get? a = none) (np : ∀ p ∈ X.pn ++ pins, p.1 ≠ a) (new : ObjOk X.prog X.w (upd H a o) s.heap a o) : Inv X pins σ (upd H a o) s := by
  obtain ⟨ha, na, nL, nF, nc⟩ := I.pin (a, oe) (List.mem_append_right _ List.mem_cons_self)
  have ne : ∀ b u, H b = some u → b ≠ a := fun b u e => ne_of_none e na
  refine ⟨I.ok, I.os, I.bare, ⟨I.base.keep, I.base.slot, fun b o' e n hx => ?_, I.base.there, fun b xs e => ?_, fun b o' u e => ?_, fun b ps e => ?_⟩, I.loc, I.cell, ?_, fun y c e => ?_, fun p hp => ?_, fun b u e => ?_, I.len⟩
  · rw [upd_ne (fun z => by rw [z, n0] at e; cases e)]
    exact I.base.free b o' e n hx
  · have q := I.base.tups b xs e
    rw [upd_ne (ne _ _ q)]
    exact q
  · have q := I.base.frzs b o' u e
    rw [upd_ne (ne _ _ q)]
    exact q
  · obtain ⟨m, q⟩ := I.base.tbls b ps e
    exact ⟨m, by rw [upd_ne (ne _ _ q)]; exact q⟩
  · rw [upd_ne (Ne.symm nL)]
    exact I.free
  · have hca : c ≠ a := fun z => by
      obtain ⟨v, o', ho, hd⟩ := I.cell y c e
      rw [z] at ho
      rw [show s.heap.get? a = some oe from ha] at ho
      cases ho
      exact nc v hd
    rw [upd_ne hca]
    exact I.freeC y c e
  · have hp' : p ∈ X.pn ++ (a, oe) :: pins := by
      rcases List.mem_append.mp hp with z | z
      · exact List.mem_append_left _ z
      · exact List.mem_append_right _ (List.mem_cons_of_mem _ z)
    obtain ⟨q1, q2, q3⟩ := I.pin p hp'
    exact ⟨q1, by rw [upd_ne (np p hp)]; exact q2, q3⟩
  · by_cases hb : b = a
    · subst hb
      rw [upd_same] at e
      cases e
      exact new
    · rw [upd_ne hb] at e
      exact (I.hok b u e).stay (fun c v _ q => q) (fun c q => by rw [upd_ne (ne _ _ q)]; exact q) fun c xs q => by rw [upd_ne (ne _ _ q)]; exact q
end

/-- the clause 'except x as n: c = n'; slot i is n's, slot j is c's -/
def wKeep (K : PySem.W.Frag) (n : Nat) (c : Value) (i j : Nat) (Wout : WX) (D : Ends) : WX := fun cls d σ H =>
  ∃ b, PySem.W.exmOne K cls c = some b ∧ (b = true → ∀ a, H a = none → σ.length = n → D.nx (((σ.set i (some (.ref a))).set j (some (.ref a))).set i none) (upd H a (ExV cls d a))) ∧ (b = false → Wout cls d σ H)
section
variable {X : Cx} {x n m : Str} {c : Value} {i j : Nat} {body : List Stmt} {np pos pos' pm pn2 pa : Pos} {tb : WX → TS} {Wout : WX}
theorem ps_try_keep (hex : X.ex = []) (hs : X.stack = X.env :: X.outer) (hf : X.env.frame = some X.env.locals) (hN : X.N.Nodup) (hi : X.N[i]? = some n) (hj : X.N[j]? = some m) (hij : i ≠ j) (hln : X.env.kindOf n = some .local) (hlm : X.env.kindOf m = some .local) (hc : Names X x c) (tk : Takes X Wout)
    (hnd : (n == ("__debug__" : Str)) = false) (hncd : (n == ("__classdict__" : Str)) = false)
    (hsw : swapsWith (.Name n pn2) (some (.Name m pm)) pa.line X.env = pure false)
    (hb : ∀ (W : WX) (pn : List (Addr × Obj)) (xe : Value → Shared → Prop), Takes (X.tr pn xe) W → PassesOwn (model X.prog X.w) X.A X.env xe → PSs (X.tr pn xe) body (tb W)) :
    PS X (.Try body [.ExceptHandler (some (.Name x np)) (some n) [.Assign [.Name m pm] (.Name n pn2) pa] pos'] [] [] pos) (fun D σ H => tb (wKeep X.K X.N.length c i j Wout D) D σ H) := by
  refine ⟨fun pins s σ H D I h => ?_⟩
  have ok := I.ok
  have hfr : X.A.frames = some (X.env :: X.outer) := by rw [ok.frames, hs]
  refine wpAny_Try_except ?_
  refine wpAny_mono ((hb (wKeep X.K X.N.length c i j Wout D) (X.pn ++ pins) (fun e s₁ => wpAny (model X.prog X.w) X.A (noteFrame e X.env) (fun _ s₂ => wpAny (model X.prog X.w) X.A (setFlight e none) (fun _ s₃ =>
    wpAny (model X.prog X.w) X.A (handleBy e X.env [.ExceptHandler (some (.Name x np)) (some n) [.Assign [.Name m pm] (.Name n pn2) pa] pos']) (SP X pins D) X.xe s₃) X.xe s₂) X.xe s₁) (fun u s' xx => ?_) PassesOwn.looking).run [] s σ H D (I.toTry _) h) (fun f s1 hsp => ?_) (fun e s1 he => he)
  · obtain ⟨a, B, sI, pins', σ', H', cls, d, rfl, J', nb, up, sky, na, os, ag, b, hb1, hyes, hno⟩ := xx
    have J : Inv X pins σ' H' sI := J'.ofTry ok
    have sky' : Sky B (X.env :: X.outer) a (Zc cls d) X.env.locals s'.heap := by rw [← hs]; exact sky
    have Ba : B.get? a = none := by
      rcases sky' with z | z | z
      · exact z.2.1
      · exact z.2.1
      · exact z.2.1
    show wpAny (model X.prog X.w) X.A (noteFrame (.ref a) X.env) _ _ _
    refine Sky.land Zc.steady hfr hf sky' fun h3 fl3 up3 => ?_
    have J3 : Inv X pins σ' H' { s' with heap := h3 } := J.landed nb fl3.1 (up.trans up3) os ag
    obtain ⟨oe3, vs3, he3, hz3, hd3⟩ := fl3.there
    have nfr : a ∉ frs (X.env :: X.outer) := fun hm => by
      obtain ⟨_, o', e', hnf⟩ := fl3.2.2.1.mem hm
      rw [he3] at e'
      cases e'
      exact hnf _ hd3
    have nL : a ≠ X.env.locals := fun z => nfr (List.mem_filterMap.mpr ⟨X.env, List.mem_cons_self, by rw [hf, z]⟩)
    have nF : a ∉ X.fs := fun hm => by
      obtain ⟨e, he, q⟩ := List.mem_filterMap.mp hm
      exact nfr (List.mem_filterMap.mpr ⟨e, List.mem_cons_of_mem _ he, q⟩)
    have sIa : sI.heap.get? a = none := by
      cases q : sI.heap.get? a with
      | none => rfl
      | some o =>
        have z := nb a o q (by rw [hs]; exact nfr)
        rw [Ba] at z
        cases z
    have n0 : X.s_0.heap.get? a = none := by
      cases q : X.s_0.heap.get? a with
      | none => rfl
      | some o =>
        obtain ⟨o', z⟩ := J.base.there a o q (by rw [hex]; exact List.not_mem_nil)
        rw [sIa] at z
        cases z
    have npa : ∀ p ∈ X.pn ++ pins, p.1 ≠ a := fun p hp z => by
      have q := (J.pin p hp).1
      rw [z, sIa] at q
      cases q
    have S3 := J3.suite he3 hd3 na nL nF
    refine wpAny_handleBy_cons (codeAny_handlers_test ?_) (by intro q; cases q)
    have LT : PySem.W.Looks (model X.prog X.w) h3 (typeOf (.ref a)) cls := fun A Q E s k q => wpAny_typeOf_ref (k _ _ he3) (by rw [hz3.1]; exact q)
    have LM := PySem.W.exm_one (M := model X.prog X.w) (J3.kIn) LT hb1
    have test : ∀ {Q : Value → Shared → Prop} {E : Value → Shared → Prop}, Q c { s' with heap := h3 } → wpAny (model X.prog X.w) (X.A.mark (some (.ref a))) (eval (.Name x np) X.env) Q E { s' with heap := h3 } := fun {Q E} q => by
      obtain ⟨hg, hdbg, hm | ⟨hm, hv, hnn⟩⟩ := hc
      · exact ld_glob (X := X.suite a ((a, oe3) :: (X.pn ++ pins))) S3 hg hm q hdbg
      · exact ld_blt (X := X.suite a ((a, oe3) :: (X.pn ++ pins))) S3 hg hm hv q hnn hdbg
    refine test (LM.here ?_)
    cases b with
    | true =>
      refine codeAny_handlers_suite_as ?_
      refine HandSPX.lands_againZ fl3 fun h4 fl4 up4 => ?_
      have J4 : Inv X pins σ' H' { s' with heap := h4 } := J.landed nb fl4.1 ((up.trans up3).trans up4) os ag
      obtain ⟨oe4, vs4, he4, hz4, hd4⟩ := fl4.there
      have S4 := J4.suite he4 hd4 na nL nF
      refine store_ok (X := X.suite a ((a, oe4) :: (X.pn ++ pins))) (v := .ref a) S4 hN hi (.inl hln) rfl (fun s5 S5 => ?_) (.inr hln)
      have hlen : i < σ'.length := by
        rw [J.len]
        exact (List.getElem?_eq_some_iff.mp hi).1
      have suite : PSs (X.suite a ((a, oe4) :: (X.pn ++ pins))) [.Assign [.Name m pm] (.Name n pn2) pa] (tAsg (tVar i) (gName j)) :=
        pss_one (ps_set (X := X.suite a ((a, oe4) :: (X.pn ++ pins))) hN hj (.inl hlm) (pe_var hi (.inl hln) hnd hncd) hsw (.inr hlm))
      refine wpAny_mono (suite.run [] s5 _ H' { nx := fun σ6 H6 => σ6 = (σ'.set i (some (.ref a))).set j (some (.ref a)) ∧ H6 = H', rt := fun _ _ => False } S5 ?_) (fun f s6 hsp => ?_) (fun _ _ z => False.elim z)
      · exact ⟨.ref a, by rw [List.getElem?_set_self hlen], rfl, rfl⟩
      cases f with
      | next =>
        obtain ⟨σ6, H6, S6, e1, e2⟩ := hsp
        subst e1
        subst e2
        have S6' : Inv X ((a, oe4) :: pins) ((σ'.set i (some (.ref a))).set j (some (.ref a))) H6 s6 := ⟨ok, S6.os, S6.bare, S6.base, S6.loc, S6.cell, S6.free, S6.freeC, fun p hp => S6.pin p (by
          rw [List.append_nil]
          rcases List.mem_append.mp hp with z | z
          · exact List.mem_cons_of_mem _ (List.mem_append_left _ z)
          · rcases List.mem_cons.mp z with z | z
            · rw [z]
              exact List.mem_cons_self
            · exact List.mem_cons_of_mem _ (List.mem_append_right _ z)), S6.hok, S6.len⟩
        refine gone_ok S6' hN hi hln fun s7 J7 => ?_
        have h7 := (J7.pin (a, oe4) (List.mem_append_right _ List.mem_cons_self)).1
        exact ⟨_, _, J7.track n0 npa (exV_ok h7 hz4 hd4), hyes rfl a na J.len⟩
      | brk =>
        obtain ⟨σ6, H6, S6, q6⟩ := hsp
        exact q6.elim
      | cont =>
        obtain ⟨σ6, H6, S6, q6⟩ := hsp
        exact q6.elim
      | ret u =>
        obtain ⟨v6, σ6, H6, S6, r6, q6⟩ := hsp
        exact q6.elim
    | false =>
      show wpAny _ X.A (handleBy (.ref a) X.env []) _ _ _
      refine wpAny_handleBy_nil ?_
      obtain ⟨k1, k2, k3, oe, vs, T, oT, ts', he, hz, hd, h1, hr⟩ := id fl3
      unfold PySem.passOn
      refine wpAny_bind (wpAny_field he hd h1 ?_)
      rw [if_neg (show ¬ ((Value.ref T == Value.none) = true) from by simp)]
      have fin : wpAny (model X.prog X.w) X.A (setFlight (.ref a) X.env.frame) (fun _ s4 => wpAny (model X.prog X.w) X.A (throw (.ref a) : Sem Flow) (SP X pins D) X.xe s4) X.xe { s' with heap := h3 } := by
        rw [hf]
        refine HandSPX.setFlight_upZ fl3 fun h4 hh4 up4 => wpAny_throw (tk _ _ ?_)
        exact ⟨a, B, sI, pins, σ', H', cls, d, rfl, J, nb, (up.trans up3).trans up4, .inr (.inr (by rw [hs]; exact hh4)), na, os, ag, hno rfl⟩
      first
        | exact wpAny_bind (wpAny_pure (wpAny_bind fin))
        | exact wpAny_bind fin
  · cases f with
    | next =>
      obtain ⟨σ', H', J', q⟩ := hsp
      exact wpAny_execs_nil ⟨σ', H', J'.ofTry ok, q⟩
    | brk =>
      obtain ⟨σ', H', J', q⟩ := hsp
      exact ⟨σ', H', J'.ofTry ok, q⟩
    | cont =>
      obtain ⟨σ', H', J', q⟩ := hsp
      exact ⟨σ', H', J'.ofTry ok, q⟩
    | ret u =>
      obtain ⟨v, σ', H', J', r, q⟩ := hsp
      exact ⟨v, σ', H', J'.ofTry ok, r, q⟩
end
/-! ### such an error asked: its class, its field -/
/-- a kept error of the own class at D, whose dict at dd holds fs -/
def IsXv (H : Hp) (a D dd : Addr) (fs : List (Str × V)) : Prop := H a = some (ExV (.ref D) (some dd) a) ∧ H dd = some (.xd fs)
section
variable {X : Cx} {pins : List (Addr × Obj)} {σ : St} {H : Hp} {s : Shared} {a D dd : Addr} {fs : List (Str × V)}
theorem IsXv.at (h : IsXv H a D dd fs) (I : Inv X pins σ H s) : ∃ (oe od : Obj) (mA : Str → Option Value), PySem.W.InstAt s.heap a oe D (some od) ∧ (∀ f, RelO (fs.lookup f) (mA f)) ∧ ∀ name, PySem.W.lookIn name od = some (mA name) := by
  obtain ⟨h1, h2⟩ := h
  obtain ⟨⟨oe, vs, e1, z, d⟩, _, _⟩ := I.hok a _ h1
  have hx : ObjOk X.prog X.w H s.heap dd (.xd fs) := I.hok dd _ h2
  obtain ⟨mA, hns, hr⟩ := hx
  obtain ⟨od, ho, hl⟩ := lookIn_ns hns
  exact ⟨oe, od, mA, ⟨e1, z.1, by unfold PySem.W.notCls; rw [d] <;> rfl, by rw [z.2]; exact ho⟩, hr, hl⟩
/-- isinstance(e, c), e a kept error -/
def rIsV (K : PySem.W.Frag) : List V → Hp → VK → Prop := fun xs H Q => ∃ (a D dd : Addr) (fs : List (Str × V)) (c : V) (cv : Value) (b : Bool), xs = [.ref a, c] ∧ IsXv H a D dd fs ∧ ExcC K D ∧ ClsV c cv ∧ PySem.W.kitOne K (.ref D) cv = some b ∧ Q (.bl b) H
theorem call_isV : CallR X (.builtin "isinstance") (rIsV X.K) := by
  intro pins s σ H xs us Q I r h
  obtain ⟨a, D, dd, fs, c, cv, b, rfl, hv, C, hc, e, q⟩ := h
  obtain ⟨u1, u2, rfl, r1, r2⟩ := vals2 r
  cases (show u1 = Value.ref a from r1)
  have e2 := hc.eq r2
  subst e2
  obtain ⟨oe, od, mA, J, _, _⟩ := hv.at I
  have hcl : (PySem.W.clsIn X.K D).isSome = true := by
    obtain ⟨cd, q, _⟩ := PySem.W.any_some C.hd
    rw [q]
    rfl
  exact PySem.W.kia_one (PySem.W.kitx_exc hcl C.hg C.hk C.hs C.ha C.hn C.ht C.hm) I.kIn J e (fun z => nomatch z) fun tk => ⟨.bl b, H, I.tok tk, rfl, q⟩
/-- e.f of a kept error -/
def tXv (K : PySem.W.Frag) (f : Str) (te : TE) : TE := fun σ H Q => te σ H fun x H1 => ∃ (a D dd : Addr) (fs : List (Str × V)) (v : V), x = .ref a ∧ IsXv H1 a D dd fs ∧ XfC K D ∧ PySem.W.findIn K (.ref D) f = some none ∧ fs.lookup f = some v ∧ Q v H1
theorem pe_xv {e : Expr} {te : TE} {pos : Pos} {n : Str} (he : PE X e te) (hb : attributeBase e n X.env (eval e X.env) = eval e X.env := by rfl) : PE X (.Attribute e n pos) (tXv X.K n te) := by
  refine ⟨fun pins s σ H Q I h => ?_⟩
  refine attr_of hb (thn (he.run pins s σ H _ I h) fun u s1 hh => ?_)
  obtain ⟨x, H1, I1, rx, a, D, dd, fs, v, ex, hv, T, hno, l, q⟩ := hh
  subst ex
  obtain rfl : u = Value.ref a := rx
  obtain ⟨oe, od, mA, J, hr, hl⟩ := hv.at I1
  obtain ⟨u, hu, ru⟩ := RelO.some_of (v := v) (o := mA n) (by rw [← l]; exact hr n)
  exact HandSPX.exc_get I1.kIn J T.ga T.gg T.exC (PySem.W.findObj_own T.hdC hno rfl (by rw [hl, hu])) (handed_of ru) ⟨v, H1, I1.tok _, ru, q⟩
end
end L2
set_option Elab.async false
set_option linter.all false
set_option maxRecDepth 100000
set_option maxHeartbeats 4000000
/-! # A lambda with one parameter that has a whole number as its default, handed to a def that calls it without arguments. -/
namespace LamB
open PySem PySem.Spec PyProof.Rows L2 LamX

/-- the words of such a lambda's parameters -/
def prms (a : Str) (i : Int) (p1 p2 : Pos) (j : Nat) : Arguments := { posonlyargs := [], args := [{ arg := a, annotation := none, pos := p1 }], vararg := none, kwonlyargs := [], kw_defaults := [], kwarg := none, defaults := [.Constant (.int i) j p2] }
abbrev lobj (q : Str) (a : Str) (i : Int) (p1 p2 : Pos) (j : Nat) (body : Expr) (scope : Scope) (cl : List (Str × Addr)) (T : Addr) (doc pm : Value) (c' : Addr) (ctv : Value) : Obj :=
  PySem.W.kdv_obj "<lambda>" q (prms a i p1 p2 j) (.expr body) scope cl (.ref T) doc pm c' ctv
section
variable {X : Cx} {pins : List (Addr × Obj)} {σ : L2.St} {H : Hp} {s : Shared} {a : Str} {i : Int} {p1 p2 : Pos} {j : Nat}
theorem make_lam {T : List (Addr × Str)} {c P : Addr} {body : Expr} {scope : Scope} {pos : Pos} {E : Value → Shared → Prop} {Q : Value → Shared → Prop} (I : Inv X pins σ H s) (TB : TabB X.base X.mg c P) (hcode : X.env.code = .ref c)
    (hm : (P, X.env.qual ++ "<lambda>") ∈ T) (hu : ∀ p ∈ T, p.1 = P → p.2 = X.env.qual ++ "<lambda>") (hT : Tabs T H) (hfree : ∀ y ∈ scope.names, y.2 = .free → ∃ c, X.env.cells.lookup y.1 = some c)
    (h : ∀ (f c' D : Addr) (t : Tok) (doc pm ctv : Value) (H1 : Hp) (s' : Shared), Inv X pins σ H1 s' → ExtN H H1 → Tabs T H1 →
      s'.heap.get? f = some (lobj (X.env.qual ++ "<lambda>") a i p1 p2 j body scope (cloFrom X.env.cells scope.names []) D doc pm c' ctv) → H1 f = none → f ∉ frs X.stack →
      s'.heap.get? D = some (PySem.W.kdv_tup [.int i t]) → H1 D = none → D ∉ frs X.stack → H1 c' = some (CodeO c' (X.env.qual ++ "<lambda>")) → Q (.ref f) s') :
    wpAny (model X.prog X.w) X.A (eval (.Lambda (prms a i p1 p2 j) body scope pos) X.env) Q E s := by
  obtain ⟨ps, hP, ht, ha⟩ := hT _ hm
  rw [arm_eval_Lambda]
  show wpAny _ _ (do let dv ← evalAll [eval (.Constant (.int i) j p2) X.env]; let kdv ← holding dv (evalAllOpt []); makeFunction "<lambda>" (X.env.qual ++ "<lambda>") (prms a i p1 p2 j) (.expr body) scope X.env dv kdv [] pos pos.line) Q E s
  refine wpAny_bind (wpAny_bind (wpAny_Constant_int ?_))
  refine wpAny_bind (wpAny_holding (wpAny_pure (wpAny_pure ?_)))
  refine wpAny_bind (wpAny_holding (wpAny_pure ?_))
  rw [makeFunction_eq]
  show wpAny _ _ (do let dV ← newTextTuple [Value.int i s.toks]; makeTail "<lambda>" (X.env.qual ++ "<lambda>") (prms a i p1 p2 j) (.expr body) scope X.env dV .none none pos pos.line) Q E _
  refine wpAny_bind (wpAny_newTextTuple ?_)
  have I0 : Inv X pins σ H { s with heap := s.heap.push (PySem.W.kdv_tup [.int i s.toks]), toks := s.toks + 1 } := I.kept fun b o e => Heap.get?_push_of_some _ e
  have hD0 : (s.heap.push (PySem.W.kdv_tup [.int i s.toks])).get? s.heap.objs.size = some (PySem.W.kdv_tup [.int i s.toks]) := Heap.get?_push_at rfl rfl
  have nD0 : H s.heap.objs.size = none := I.hok.fresh (Nat.le_refl _)
  have nofr : ∀ {s' : Shared}, Inv X pins σ H s' → ∀ f, s'.heap.objs.size ≤ f → f ∉ frs X.stack := fun {s'} J f hf z => by
    rcases List.mem_cons.mp (J.stkSub _ z) with e | e
    · have h1 := J.lt
      rw [← e] at h1
      exact Nat.lt_irrefl _ (Nat.lt_of_lt_of_le h1 hf)
    · exact J.nofs hf e
  have frD0 : s.heap.objs.size ∉ frs X.stack := nofr I _ (Nat.le_refl _)
  have sz0 : s.heap.objs.size < (s.heap.push (PySem.W.kdv_tup [.int i s.toks])).objs.size := by
    rw [Heap.size_push]
    exact Nat.lt_succ_self _
  generalize hh0 : s.heap.push (PySem.W.kdv_tup [.int i s.toks]) = h0 at I0 hD0 sz0
  have bP : h0.BuiltinsAt X.mg P := TB.bm.keeps I0.bk
  have hP' : h0.get? P = some { cls := .none, data := .fields ps } := I0.hok P _ hP
  cases hc : codeAmong pos ps.toList with
  | none =>
    refine PySem.W.kdv_makeTail (mg := X.mg) (c := c) (P := P) (ps := ps) (closure_ok hfree) I0.ok.glob (I0.mod.glob.keeps I0.bk) hcode (TB.code.keeps I0.bk) hP' ht hc TB.gP bP fun c' ctv doc h' tk hx hge hlt hrec htb => ?_
    obtain ⟨c2, oc, vs, t, e2, hoc, hd, hv⟩ := hrec
    cases e2
    have hsz : h0.objs.size ≤ h'.objs.size := Nat.le_trans hge (Nat.le_of_lt hlt)
    have nC : H c' = none := I0.hok.fresh hge
    have nDP : s.heap.objs.size ≠ P := fun z => by
      rw [← z, nD0] at hP
      cases hP
    have nDc : s.heap.objs.size ≠ c' := Nat.ne_of_lt (Nat.lt_of_lt_of_le sz0 hge)
    have I1 := inv_table (t' := tk) (more := #[rawInt pos.line, rawInt pos.col, .ref c']) (q := X.env.qual ++ "<lambda>") (h' := h'.push (lobj (X.env.qual ++ "<lambda>") a i p1 p2 j body scope (cloFrom X.env.cells scope.names []) s.heap.objs.size doc ((X.mg "__name__").getD .none) c' ctv)) I0 hP
      (fun b o hb e => Heap.get?_push_of_some _ (hx b o hb e)) (Heap.get?_push_of_some _ htb) hge ⟨oc, vs, t, Heap.get?_push_of_some _ hoc, hd, hv⟩
    have hE : ExtN H (upd (upd H P (.tbl (ps ++ #[rawInt pos.line, rawInt pos.col, .ref c']))) c' (CodeO c' (X.env.qual ++ "<lambda>"))) := fun b o e n => by
      rw [upd_ne (ne_of_none e nC), upd_ne (fun z => n ps (Option.some.inj (e.symm.trans (by rw [z]; exact hP))))]
      exact e
    have eL : (ps ++ #[rawInt pos.line, rawInt pos.col, .ref c']).toList = ps.toList ++ [rawInt pos.line, rawInt pos.col, .ref c'] := by simp
    have T1 : Tabs T (upd (upd H P (.tbl (ps ++ #[rawInt pos.line, rawInt pos.col, .ref c']))) c' (CodeO c' (X.env.qual ++ "<lambda>"))) := fun p hp => by
      by_cases hb : p.1 = P
      · rw [hu p hp hb, hb]
        refine ⟨_, by rw [upd_ne (ne_of_none hP nC), upd_same], by rw [eL]; exact PySem.TriplesOk_snoc _ _ _ _ ht, fun p' cv hcv => ?_⟩
        rw [eL] at hcv
        rcases among_app _ ht hcv with z | z
        · obtain ⟨d, e1, e2⟩ := ha p' cv z
          exact ⟨d, e1, hE _ _ e2 codeO_ne⟩
        · exact ⟨c', z, upd_same⟩
      · obtain ⟨ps', a1, a2, a3⟩ := hT p hp
        refine ⟨ps', by rw [upd_ne (ne_of_none a1 nC), upd_ne hb]; exact a1, a2, fun p' cv hcv => ?_⟩
        obtain ⟨d, e1, e2⟩ := a3 p' cv hcv
        exact ⟨d, e1, hE _ _ e2 codeO_ne⟩
    have n1 : h'.objs.size ≠ c' := Nat.ne_of_gt hlt
    have n2 : h'.objs.size ≠ P := Nat.ne_of_gt (Nat.lt_of_lt_of_le (Heap.lt_size hP') hsz)
    refine h h'.objs.size c' s.heap.objs.size s.toks doc ((X.mg "__name__").getD .none) ctv _ _ I1 hE T1 (Heap.get?_push_size _ rfl) ?_ (nofr I0 _ hsz) (Heap.get?_push_of_some _ (hx _ _ nDP hD0)) ?_ frD0 upd_same
    · rw [upd_ne n1, upd_ne n2]
      exact I0.hok.fresh hsz
    · rw [upd_ne nDc, upd_ne nDP]
      exact nD0
  | some cv =>
    obtain ⟨c', e, hco⟩ := ha pos cv hc
    subst e
    refine PySem.W.kdv_makeTailHit (mg := X.mg) (c := c) (P := P) (ps := ps) (closure_ok hfree) I0.ok.glob (I0.mod.glob.keeps I0.bk) hcode (TB.code.keeps I0.bk) hP' ht hc bP fun ctv doc h' tk hx hsz => ?_
    have I1 : Inv X pins σ H { s with heap := h'.push (lobj (X.env.qual ++ "<lambda>") a i p1 p2 j body scope (cloFrom X.env.cells scope.names []) s.heap.objs.size doc ((X.mg "__name__").getD .none) c' ctv), toks := tk } := I0.kept fun b o e => Heap.get?_push_of_some _ (hx b o e)
    exact h h'.objs.size c' s.heap.objs.size s.toks doc ((X.mg "__name__").getD .none) ctv H _ I1 (ExtN.refl H) hT (Heap.get?_push_size _ rfl) (I0.hok.fresh hsz) (nofr I0 _ hsz) (Heap.get?_push_of_some _ (hx _ _ hD0)) nD0 frD0 hco
end
/-! ### its names -/
/-- one parameter, which is no name of the maker; captured ones and globals -/
structure LamS1 (N : List Str) (a : Str) (sc scope : Scope) : Prop where
  kind : scope.kind = .function
  co : scope.isCoroutine = false
  gen : scope.isGenerator = false
  par : scope.names.lookup a = some .local
  nocell : ∀ y ∈ scope.names, y.2 ≠ .cell
  own : ∀ y ∈ scope.names, y.2 = .local → y.1 ∉ N
  free : ∀ y ∈ scope.names, y.2 = .free → sc.names.lookup y.1 = some .cell ∨ sc.names.lookup y.1 = some .free
def lamS1B (N : List Str) (a : Str) (sc scope : Scope) : Bool :=
  decide (scope.kind = .function) && (!scope.isCoroutine && (!scope.isGenerator && (decide (scope.names.lookup a = some .local) && ((scope.names.all fun y => !decide (y.2 = .cell)) && ((scope.names.all fun y => !decide (y.2 = .local) || decide (y.1 ∉ N)) &&
    scope.names.all fun y => !decide (y.2 = .free) || (decide (sc.names.lookup y.1 = some .cell) || decide (sc.names.lookup y.1 = some .free)))))))
theorem lamS1_by {N : List Str} {a : Str} {sc scope : Scope} (h : lamS1B N a sc scope = true) : LamS1 N a sc scope := by
  unfold lamS1B at h
  simp only [Bool.and_eq_true, Bool.or_eq_true, Bool.not_eq_true', decide_eq_true_eq, decide_eq_false_iff_not, List.all_eq_true] at h
  obtain ⟨h1, h2, h3, h4, h5, h6, h7⟩ := h
  exact ⟨h1, h2, h3, h4, h5, fun y hy e => (h6 y hy).elim (fun z => absurd e z) id, fun y hy e => (h7 y hy).elim (fun z => absurd e z) id⟩
theorem LamS1.has {X : Cx} {a : Str} {scope : Scope} (L : LamS1 X.N a X.env.scope scope) (ok : X.Ok) : ∀ y ∈ scope.names, y.2 = .free → ∃ c, X.env.cells.lookup y.1 = some c := fun y hy e => by
  rcases L.free y hy e with k | k
  · exact ok.has _ (.inl k)
  · exact ok.has _ (.inr k)
section
variable {X : Cx} {pins : List (Addr × Obj)} {σ : L2.St} {H HZ : Hp} {s s1 : Shared} {a : Str} {i : Int} {p1 p2 : Pos} {j : Nat}
theorem start1 {A : Around} {outer : List Env} {E : XK} {scope : Scope} {f c' : Addr} {v : Value} {h₁ : Heap} {tk : Nat} (I : Inv X pins σ H s) (L : LamS1 X.N a X.env.scope scope) (e0 : Env0 X.prog X.w X.K X.mg X.base A outer s1 HZ) (hd : A.handled = none)
    (un : Un (frs X.stack) [] H HZ s.heap s1.heap) (hns : h₁.Ns s1.heap.objs.size fun y => ([(a, v)] : List (Str × Value)).reverse.lookup y) (kp : ∀ b o, s1.heap.get? b = some o → h₁.get? b = some o) :
    Inv (lamCx X A outer s1 HZ E scope f c') [] σ HZ { s1 with heap := h₁, toks := tk } := by
  have hfree := L.has I.ok
  have cm : ∀ {y c}, (cloFrom X.env.cells scope.names []).lookup y = some c → X.env.cells.lookup y = some c := fun {y c} e => by
    rcases cloFrom_mem (PySem.mem_of_lookup e) with hm | ⟨h1, h2⟩
    · cases hm
    · obtain ⟨c1, hc⟩ := hfree _ h1 rfl
      have hc : X.env.cells.lookup y = some c1 := hc
      have e2 : c = c1 := by
        rw [h2, hc] <;> rfl
      rw [e2]
      exact hc
  have look : ∀ {y}, scope.names.lookup y = some .free → ∃ c, (cloFrom X.env.cells scope.names []).lookup y = some c := fun {y} hl => by
    have hy : (y, NameKind.free) ∈ scope.names := PySem.mem_of_lookup hl
    exact mem_lookup (cloFrom_has (cells := X.env.cells) (acc := []) hy)
  have cellK : ∀ {c : Addr} {v : Option Value}, H c = none → s.heap.IsCell c v → h₁.IsCell c v := fun {c v} n ⟨o, ho, hd⟩ => by
    obtain ⟨sl, q⟩ := un.any ho n (by simp)
    exact ⟨_, kp _ _ q, hd⟩
  have noA : ∀ b : Addr, b ∉ (lamCx X A outer s1 HZ E scope f c').ex := fun b z => absurd (show b ∈ ([] : List Addr) from z) (by simp)
  refine ⟨⟨e0.mod, L.kind, rfl, rfl, Nat.le_refl _, fun y z c e1 e2 => I.ok.inj y z c (cm e1) (cm e2), fun y hy => ?_, fun y c z _ => ?_, fun _ => hd, Around.frames_deeper e0.frames, .inr ⟨rfl, rfl⟩, fun b z => absurd z (noA b), e0.bs, e0.bsz, fun b _ _ => noA b,
      fun b z => absurd z (noA b), e0.funs, e0.frf⟩,
    rfl, e0.bare, Un.kept kp, ⟨_, hns, fun i y v e1 e2 e3 => ?_⟩, fun y c e => ?_, e0.hok.fresh (Nat.le_refl _), fun y c e => ?_, fun q hq => absurd (show q ∈ ([] : List (Addr × Obj)) ++ [] from hq) (by simp), e0.hok.kept kp, I.len⟩
  · have hy : scope.names.lookup y = some .cell ∨ scope.names.lookup y = some .free := hy
    rcases hy with hy | hy
    · exact absurd rfl (L.nocell _ (PySem.mem_of_lookup hy))
    · exact look hy
  · have z : false = true := z
    cases z
  · have e3 : Vis scope y := e3
    rcases e3 with k | k | k
    · exact absurd (List.mem_of_getElem? e1) (L.own _ (PySem.mem_of_lookup k) rfl)
    · exact absurd rfl (L.nocell _ (PySem.mem_of_lookup k))
    · obtain ⟨m, hn, hl⟩ := I.loc
      have hvis : Vis X.env.scope y := (L.free _ (PySem.mem_of_lookup k) rfl).elim (fun k => .inr (.inl k)) (fun k => .inr (.inr k))
      obtain ⟨w', r, q⟩ := hl i y v e1 e2 hvis
      obtain ⟨c2, h2⟩ := look k
      refine ⟨w', r, .inr ⟨.inr k, c2, h2, ?_⟩⟩
      have c1 := cm h2
      rcases q with ⟨k', _⟩ | ⟨_, c3, e', z⟩
      · have k' : X.env.scope.names.lookup y = some .local := k'
        rcases L.free _ (PySem.mem_of_lookup k) rfl with k2 | k2 <;> rw [show X.env.scope.names.lookup y = _ from k2] at k' <;> cases k'
      · rw [c1] at e'
        cases e'
        exact cellK (I.freeC y _ c1) z
  · obtain ⟨w', z⟩ := I.cell y c (cm e)
    exact ⟨w', cellK (I.freeC y c (cm e)) z⟩
  · obtain ⟨v, o, ho, hd⟩ := I.cell y c (cm e)
    exact un.free c o ho (I.freeC y c (cm e)) (by simp)
end

theorem bind1 {M : Model} {A : Around} {E : Value → Shared → Prop} {s : Shared} {q a : Str} {i : Int} {p1 p2 : Pos} {j : Nat} {body : FuncBody} {scope : Scope} {cl : List (Str × Addr)} {D : Addr} {doc pm cd ct : Value} {t : Tok} {Q : List (Str × Value) → Shared → Prop}
    (hD : s.heap.get? D = some (PySem.W.kdv_tup [.int i t])) (h : Q [(a, .int i t)] s) :
    wpAny M A (bindArgs (PySem.W.kdv_fn "<lambda>" q (prms a i p1 p2 j) body scope cl (.ref D) doc pm cd ct) ⟨[], []⟩) Q E s := by
  obtain ⟨k, e1, e2⟩ : ∃ k, bindArgs (PySem.W.kdv_fn "<lambda>" q (prms a i p1 p2 j) body scope cl (.ref D) doc pm cd ct) ⟨[], []⟩ = seqItems? (.ref D) >>= k ∧ k (some #[.int i t]) = pure [(a, .int i t)] := ⟨_, rfl, by simp [PySem.W.kdv_fn, prms, List.lookup]⟩
  rw [e1]
  refine wpAny_bind (wpAny_seqItems hD rfl ?_)
  rw [show k (some [Value.int i t].toArray) = pure [(a, .int i t)] from e2]
  exact wpAny_pure h
section
variable {X : Cx} {pins : List (Addr × Obj)} {σ : L2.St} {H HZ : Hp} {s : Shared} {b : Str} {i0 : Int} {p1 p2 : Pos} {j0 : Nat}
/-- x(), in the def that got the lambda -/
theorem act1 {CXg : CXT} {Eg : XK} {Ng : List Str} {qg : Str} {sg : Scope} {g f c' D : Addr} {td : Tok} {cdg doc pm ctv : Value} {body : Expr} {scope : Scope} {k i : Nat} {a : Str} {pn : List (Addr × Obj)} {xe : Value → Shared → Prop} {W : WX} {E : XK} {tb : TE} {q1 q2 : Pos}
    (I : Inv X pins σ H s) (L : LamS1 X.N b X.env.scope scope) (hf : s.heap.get? f = some (lobj (X.env.qual ++ "<lambda>") b i0 p1 p2 j0 body scope (cloFrom X.env.cells scope.names []) D doc pm c' ctv)) (hfn : H f = none) (hfr : f ∉ frs X.stack)
    (hD : s.heap.get? D = some (PySem.W.kdv_tup [.int i0 td])) (hDn : H D = none) (hDr : D ∉ frs X.stack)
    (tk : Takes ((cxOf CXg X.prog X.w X.K X.mg X.base Ng qg sg g cdg X.A X.stack s H Eg).tr pn xe) W) (hW : ∀ cls d σ' H', E cls d H' → W cls d σ' H') (hr : Room (k + 1) (X.A.deeper (envOfC qg sg s.heap.objs.size g cdg)))
    (hbody : ∀ (A : Around) (outer : List Env) (s : Shared) (H : Hp), Room k (A.deeper (lamEnv X scope s.heap.objs.size f c')) → PE (lamCx X A outer s H E scope f c') body tb)
    (hN : Ng[i]? = some a) (hv : Vis sg a) (hd : (a == ("__debug__" : Str)) = false := by decide) (hcd : (a == ("__classdict__" : Str)) = false := by decide) :
    PE ((cxOf CXg X.prog X.w X.K X.mg X.base Ng qg sg g cdg X.A X.stack s H Eg).tr pn xe) (.Call (.Name a q1) [] [] q2)
      (fun σZ HZ Q => σZ[i]? = some (some (.ref f)) ∧ HZ c' = some (CodeO c' (X.env.qual ++ "<lambda>")) ∧ tb σ HZ Q) := by
  refine ⟨fun pinsZ sZ σZ HZ Q IZ h => ?_⟩
  obtain ⟨hs, hc, ht⟩ := h
  refine wpAny_Call_Name_kw (thn ((pe_var (pos := q1) (i := i) hN hv hd hcd).run pinsZ sZ σZ HZ (fun v H1 => v = .ref f ∧ H1 = HZ) IZ ⟨.ref f, hs, rfl, rfl⟩) fun u s1 ⟨v, H1, I1, r1, q1⟩ => ?_)
  obtain ⟨ev, eH⟩ := q1
  subst ev
  rw [eH] at I1
  obtain rfl : u = Value.ref f := r1
  have of1 := I1.base.keep f _ hf hfn hfr (fun z => nomatch (show f ∈ ([] : List Addr) from z))
  have oD1 := I1.base.keep D _ hD hDn hDr (fun z => nomatch (show D ∈ ([] : List Addr) from z))
  refine PySem.W.callWith_F0 ⟨_, _, _, _, of1⟩ ?_
  have un : Un (frs X.stack) [] H HZ s.heap s1.heap := I1.base
  obtain ⟨⟨oc, vs, t, hoc, hdc, hvc⟩, _, _⟩ := I1.hok c' _ hc
  have rc : codeAny (model X.prog X.w) (X.A.deeper (envOfC qg sg s.heap.objs.size g cdg)) (.call (.ref f) ⟨[], []⟩) (CR (L2.CX X.prog X.w) (envOfC qg sg s.heap.objs.size g cdg :: X.stack) X.prog X.w HZ s1 Q E) s1 := by
    refine PySem.W.kla_callFunE hr.depth of1 rfl L.co L.gen rfl ⟨c', oc, vs, t, rfl, hoc, hdc, hvc⟩ (bind1 oD1 ?_)
    refine wpAny_newFunctionEnv L.nocell (fun y hy => ?_) (fun h₁ hns hsb => ⟨I1.nolimit.fresh _ hsb, ?_⟩) L.kind
    · have e : y = (b, Value.int i0 td) := by simpa using hy
      rw [e]
      exact L.par
    show codeAny _ _ (.expr body (lamEnv X scope s1.heap.objs.size f c')) _ _
    have kp : ∀ b o, s1.heap.get? b = some o → h₁.get? b = some o := fun b o e => hsb.extBut b o (Nat.ne_of_lt (Heap.lt_size e)) (Heap.get?_push_of_some _ e)
    have J : Inv (lamCx X (X.A.deeper (envOfC qg sg s.heap.objs.size g cdg)) (envOfC qg sg s.heap.objs.size g cdg :: X.stack) s1 HZ E scope f c') [] σ HZ { s1 with heap := h₁, toks := s1.toks + ([(b, Value.int i0 td)] : List (Str × Value)).length } :=
      start1 I L I1.env0 hr.hd un hns kp
    refine PySem.W.kla_codeExpr (wpAny_mono ((hbody _ _ s1 HZ (hr.deeper _)).run [] _ _ HZ Q J ht) (fun v s' hq => ?_) fun e s' hq => hq)
    obtain ⟨w', H', J', rv, q⟩ := hq
    exact ⟨w', H', J'.os, J'.bare, J'.base, J'.hok, rv, q⟩
  have hx : Passes (L2.CX X.prog X.w) ((cxOf CXg X.prog X.w X.K X.mg X.base Ng qg sg g cdg X.A X.stack s H Eg).tr pn xe) E := passes_call tk hW
  refine wpAny_call (codeAny_mono rc fun r s' hq => ?_)
  cases r with
  | error e => exact hx pinsZ σZ HZ s1 e s' I1 hq
  | ok fl =>
    cases fl with
    | ret u => exact I1.after hq
    | next => exact False.elim hq
    | brk => exact False.elim hq
    | cont => exact False.elim hq
/-- x(lambda b=i: body) -/
theorem pe_lamcall1 {T : List (Addr × Str)} {TT : (XK → Hp → VK → Prop) → Hp → VK → Prop} {x a : Str} {g c P : Addr} {k : Nat} {pg : Arguments} {bg : List Stmt} {sg : Scope} {dV kV doc pm cdv ct oc : Value} {an od : Option Addr} {osl : Array (Option Value)} {Ng : List Str}
    {body : Expr} {scope : Scope} {t : XK → TE} {p lpos pos : Pos} (hg : Gl X x) (hm : X.mg x = some (.ref g)) (hk : PySem.W.keepIn X.K (.ref g) = true)
    (lk : X.K.lookup g = some ⟨oc, od, .func (PySem.W.fnOf x x pg bg sg dV kV doc pm an cdv ct), osl⟩) (hcg : PySem.W.codeIn X.K cdv x = true) (hb : L2.Binds X.K (PySem.W.fnOf x x pg bg sg dV kV doc pm an cdv ct) [a] []) (Sg : FnScope Ng [a] sg) (hNg : Ng[0]? = some a) (hva : Vis sg a)
    (hG : GivesTo X Ng x sg g cdv bg a (X.env.qual ++ "<lambda>") TT)
    (TB : TabB X.base X.mg c P) (hcode : X.env.code = .ref c) (hmT : (P, X.env.qual ++ "<lambda>") ∈ T) (hu : ∀ p ∈ T, p.1 = P → p.2 = X.env.qual ++ "<lambda>") (hr : Room (k + 2) X.A) (L : LamS1 X.N b X.env.scope scope)
    (hbody : ∀ (A : Around) (outer : List Env) (s : Shared) (H : Hp) (E : XK) (f c' : Addr), Room k (A.deeper (lamEnv X scope s.heap.objs.size f c')) → PE (lamCx X A outer s H E scope f c') body (t E))
    (hdb : (x == ("__debug__" : Str)) = false := by decide) (hd : (a == ("__debug__" : Str)) = false := by decide) (hcd : (a == ("__classdict__" : Str)) = false := by decide) :
    PE X (.Call (.Name x p) [.Lambda (prms b i0 p1 p2 j0) body scope lpos] [] pos) (tLam T TT t) := by
  refine ⟨fun pins s σ H Q I h => ?_⟩
  obtain ⟨hT, h⟩ := h
  refine wpAny_Call_Name_kw (ld_glob I hg hm ?_ hdb)
  refine PySem.W.callWith_K (h₀ := X.base) I.ok.mod.kin hk ?_ (by rfl) (by rfl)
  show wpAny _ _ (spliced ((false, eval (.Lambda (prms b i0 p1 p2 j0) body scope lpos) X.env) :: backTo pos (starEach [] X.env))) _ _ s
  refine Calls.spliced_cons (make_lam I TB hcode hmT hu hT (L.has I.ok) fun f c' D td doc' pm' ctv H1 s' I1 eN T1 hf hfn hfr hD hDn hDr hco => ?_)
  refine Calls.spliced_nil ⟨I1.kIn, ?_⟩
  have rc : codeAny (model X.prog X.w) X.A (.call (.ref g) ⟨[.ref f], []⟩) (CR C8.CX0 X.stack X.prog X.w H1 s' Q C8.E0) s' := by
    refine run_ofS (N := Ng) (ps := [a]) (us := [.ref f]) (vs := [.ref f]) lk hcg Sg hr I1.env0 (hb s' [.ref f] I1.kIn rfl) (.cons rfl .nil) rfl fun hr' => ?_
    obtain ⟨t', ht', hq'⟩ := hG f c' s' H1 Q (fun E H' Q' => t E σ H' Q') (fun W pn xe E q1 q2 tk hW => act1 (i := 0) I1 L hf hfn hfr hD hDn hDr tk hW hr' (fun A outer s H hr2 => hbody A outer s H E f c' hr2) hNg hva hd hcd) hco (h H1 eN T1)
    exact ⟨t', ht'.nox, hq'⟩
  refine wpAny_call (codeAny_mono rc fun r s2 hq => ?_)
  cases r with
  | error e => exact (show False from hq).elim
  | ok fl =>
    cases fl with
    | ret u => exact I1.after hq
    | next => exact False.elim hq
    | brk => exact False.elim hq
    | cont => exact False.elim hq
end
end LamB
set_option Elab.async false
set_option linter.all false
set_option maxRecDepth 100000
set_option maxHeartbeats 4000000
/-! # Own words over the hand layer: a def by its promise (Df), calls by keywords, a text enumerated, the heap but for one object. -/
namespace L2
open PySem PySem.Spec PyProof.Rows

abbrev FnP (K : PySem.W.Frag) (x : Str) (st : Stmt) (f : Addr) (fd : FuncData) : Prop := FunD K x x (defArgs st) (defBody st) (defScope st) [] [] f fd
/-- the def st, named x, stands behind the top and keeps its promise -/
structure Df (P : Program) (w : World) (K : PySem.W.Frag) (mg : Str → Option Value) (base : Heap) (CX : CXT) (k : Nat) (x : Str) (st : Stmt) (ps : List Str) (sp : Sp) : Prop where
  ex : ∃ (f : Addr) (fd : FuncData), mg x = some (.ref f) ∧ FnP K x st f fd ∧ FnOk P w K mg base CX k f fd ps sp ∧ Binds K fd ps []
/-- .. it stands there -/
structure St0 (K : PySem.W.Frag) (mg : Str → Option Value) (x : Str) (st : Stmt) (ps : List Str) : Prop where
  ex : ∃ (f : Addr) (fd : FuncData), mg x = some (.ref f) ∧ FnP K x st f fd ∧ Binds K fd ps []
section
variable {P : Program} {w : World} {K : PySem.W.Frag} {mg : Str → Option Value} {base : Heap} {x : Str} {st : Stmt} {ps N : List Str} {CX : CXT} {k : Nat} {sp : Sp}
theorem Df.mono {j : Nat} (D : Df P w K mg base CX j x st ps sp) (h : j ≤ k) : Df P w K mg base CX k x st ps sp := by
  obtain ⟨f, fd, a, b, c, d⟩ := D.ex
  exact ⟨f, fd, a, b, c.mono h, d⟩
theorem Df.imp {sp' : Sp} (D : Df P w K mg base CX k x st ps sp) (h : ∀ vs H Q E, sp' vs H Q E → sp vs H Q E) : Df P w K mg base CX k x st ps sp' := by
  obtain ⟨f, fd, a, b, c, d⟩ := D.ex
  exact ⟨f, fd, a, b, c.imp h, d⟩
theorem St0.df (S0 : St0 K mg x st ps) (S : FnScope N ps (defScope st)) (len : ∀ vs H Q E, sp vs H Q E → vs.length = ps.length)
    (hbody : ∀ (f : Addr) (cdv : Value) (A : Around) (outer : List Env) (s : Shared) (H : Hp) (vs : List V) (Q : VK) (E : XK), Room k (A.deeper (envOfC x (defScope st) s.heap.objs.size f cdv)) → sp vs H Q E →
      ∃ t, PSs (cxOf CX P w K mg base N x (defScope st) f cdv A outer s H E) (defBody st) t ∧ t { nx := fun _ H' => Q .non H', rt := Q } (start N vs) H) : Df P w K mg base CX (k + 1) x st ps sp := by
  obtain ⟨f, fd, a, b, d⟩ := S0.ex
  exact ⟨f, fd, a, b, b.ok S len (hbody f), d⟩
end
section
variable {X : Cx} {CX : CXT} {k : Nat} {x : Str} {st : Stmt} {ps : List Str} {sp : Sp} {E : XK} {p pos : Pos} {e : Expr} {es : List Expr} {t : TA}
theorem passN {X : Cx} : Passes (L2.CX X.prog X.w) X E0 := fun _ _ _ _ _ _ _ h => by
  obtain ⟨_, _, _, _, _, _, _, _, _, _, _, _, z⟩ := h
  exact z.elim
/-- f(..), nothing is let out -/
theorem pd (D : Df X.prog X.w X.K X.mg X.base CX0 k x st ps sp) (hr : Room k X.A) (hg : Gl X x) (ha : PA X (e :: es) t) (hdb : (x == ("__debug__" : Str)) = false := by decide) (he : starEach (e :: es) X.env = (false, eval e X.env) :: starEach es X.env := by rfl) (hpl : (backTo pos (starEach es X.env)).any (·.1) = false := by rfl) :
    PE X (.Call (.Name x p) (e :: es) [] pos) (tCall sp [] E0 t) := by
  obtain ⟨f, fd, a, b, c, d⟩ := D.ex
  exact pe_call c hr hg a b.kp d .nil pass0 ha hdb he hpl
/-- .. of a def that may raise, but doesn't -/
theorem pdN (D : Df X.prog X.w X.K X.mg X.base (L2.CX X.prog X.w) k x st ps sp) (hr : Room k X.A) (hg : Gl X x) (ha : PA X (e :: es) t) (hdb : (x == ("__debug__" : Str)) = false := by decide) (he : starEach (e :: es) X.env = (false, eval e X.env) :: starEach es X.env := by rfl) (hpl : (backTo pos (starEach es X.env)).any (·.1) = false := by rfl) :
    PE X (.Call (.Name x p) (e :: es) [] pos) (tCall sp [] E0 t) := by
  obtain ⟨f, fd, a, b, c, d⟩ := D.ex
  exact pe_call c hr hg a b.kp d .nil passN ha hdb he hpl
/-- .. what it raises is let out -/
theorem pdX {W : WX} (hW : ∀ cls d σ H, E cls d H → W cls d σ H) (tk : Takes X W) (D : Df X.prog X.w X.K X.mg X.base (L2.CX X.prog X.w) k x st ps sp) (hr : Room k X.A) (hg : Gl X x) (ha : PA X (e :: es) t) (hdb : (x == ("__debug__" : Str)) = false := by decide) (he : starEach (e :: es) X.env = (false, eval e X.env) :: starEach es X.env := by rfl) (hpl : (backTo pos (starEach es X.env)).any (·.1) = false := by rfl) :
    PE X (.Call (.Name x p) (e :: es) [] pos) (tCall sp [] E t) := by
  obtain ⟨f, fd, a, b, c, d⟩ := D.ex
  exact pe_call c hr hg a b.kp d .nil (passes_call tk hW) ha hdb he hpl
/-- f(k = v, ..): all parameters by keywords ks; g puts them in the parameters' order -/
def tCallKw (sp : Sp) (gV : List V → List V) (E : XK) (tk : TA) : TE := fun σ H Q => tk σ H fun zs H2 => sp (gV zs) H2 Q E
theorem pdK {ks : List Str} {kws : List Keyword} {tk : TA} {g : {α : Type} → List α → List α} (D : Df X.prog X.w X.K X.mg X.base CX k x st ps sp) (hr : Room k X.A) (hg : Gl X x) (hx : Passes CX X E)
    (hb : ∀ (kV doc pm : Value) (an : Option Addr) (cdv ct : Value) (ws : List Value), (g ws).length = ps.length → bindArgs (PySem.W.fnOf x x (defArgs st) (defBody st) (defScope st) .none kV doc pm an cdv ct) ⟨[], ks.zip ws⟩ = pure (ps.zip (g ws)))
    (hrel : ∀ {zs : List V} {ws : List Value}, Vals zs ws → Vals (g zs) (g ws)) (hkw : PK X kws tk)
    (hall : (backToKw pos (keywordEach kws X.env)).all (·.1.isSome) = true := by rfl) (hks : (backToKw pos (keywordEach kws X.env)).filterMap (·.1) = ks := by rfl)
    (hdb : (x == ("__debug__" : Str)) = false := by decide) (hpl : ((backTo pos (starEach [] X.env)).any (·.1) || (backToKw pos (keywordEach kws X.env)).any (·.1.isNone)) = false := by rfl) :
    PE X (.Call (.Name x p) [] kws pos) (tCallKw sp g E tk) := by
  obtain ⟨f, fd, a, b, c, d⟩ := D.ex
  refine ⟨fun pins s σ H Q I h => ?_⟩
  refine wpAny_Call_Name_kw (ld_glob I hg a ?_ hdb)
  refine PySem.W.callWith_KW0 (h₀ := X.base) I.ok.mod.kin b.kp hall ?_ hpl
  refine thn (hkw.run pos pins s σ H _ I h) fun ws s2 ⟨zs, H2, I2, rz, q2⟩ => ⟨I2.kIn, ?_⟩
  rw [hks]
  have r2 := hrel rz
  have hl : (g ws).length = ps.length := by rw [← r2.length]; exact c.len _ _ _ _ q2
  obtain ⟨oc, od, dV, kV, doc, pm, an, cdv, ct, osl, rfl, lk, hcd, hD, hK⟩ := b.ex
  rcases hD with ⟨_, rfl⟩ | ⟨z, _⟩
  · refine wpAny_call (codeAny_mono (c.run X.A X.stack s2 H2 ⟨[], ks.zip ws⟩ (g ws) (g zs) Q E hr I2.env0 (.of_eq (hb kV doc pm an cdv ct ws hl)) r2 q2) fun r s' hq => ?_)
    cases r with
    | error e => exact hx pins σ H2 s2 e s' I2 hq
    | ok fl =>
      cases fl with
      | ret u => exact I2.after hq
      | next => exact False.elim hq
      | brk => exact False.elim hq
      | cont => exact False.elim hq
  · exact absurd rfl z
end
/-! ### for i, c in enumerate(text) -/
def Itx (x : Str) : It := ⟨fun i _ => i < x.cps.size, fun i H v H' => ∃ T c, v = .ref T ∧ H T = none ∧ H' = upd H T (.tup [.int (i : Nat), .str ⟨#[c]⟩]) ∧ x.cps[i]? = some c, fun i _ => i = x.cps.size⟩
theorem turn_enumS {P : Program} {w : World} {K : PySem.W.Frag} {elts : List Expr} {kk : Nat} {tpos : Pos} (x : Str) (t : Tok) (e it : Addr) :
    Turn P w K (.Tuple elts kk tpos) (Itx x) [e, it] e (fun i h => (∃ old, IsEnum h e it ((i : Nat) : Int) old) ∧ h.IsStrIter it (strIterType x) x t i ∧ e ≠ it) where
  mem := by simp
  obj := fun i h st b hb => by
    obtain ⟨⟨old, he⟩, ⟨o, ho, hc, hd⟩, _⟩ := st
    have e' : b = e ∨ b = it := by simpa using hb
    rcases e' with z | z
    · rw [z]; exact ⟨_, he, fun v q => nomatch q⟩
    · rw [z]; exact ⟨o, ho, fun v q => by rw [hd] at q; cases q⟩
  keep := fun i h h' st k => by
    obtain ⟨⟨old, he⟩, ⟨o, ho, r⟩, hne⟩ := st
    exact ⟨⟨old, k e (by simp) _ he⟩, ⟨o, k it (by simp) o ho, r⟩, hne⟩
  item := by
    intro X hP hw hK hc i pins s σ H E I hf st hg
    subst hP hw hK
    obtain ⟨⟨old, he⟩, hit, hne⟩ := st
    have hlt : i < x.cps.size := hg
    have hel : e < s.heap.objs.size := Heap.lt_size he
    have hil : it < s.heap.objs.size := by obtain ⟨_, q, _⟩ := hit; exact Heap.lt_size q
    have D : Draws X.prog X.w X.A.in1 it [it] x.cps.size (fun i v => ∃ c u, x.cps[i]? = some c ∧ v = .str ⟨#[c]⟩ u) (fun i h => h.IsStrIter it (strIterType x) x t i) := Draws.text (A := X.A.in1) (show X.A.in1.handled = none from I.ok.hd hc) it x t
    refine wpAny_pyNext_enum_itemC D he hit hlt hne (by simpa using hne) fun v h' tk hv ho hit' hT hsz hk => ?_
    obtain ⟨c, u, hcx, rfl⟩ := hv
    refine ⟨_, rfl, wpAny_letOwnedTupleGo_enum (s := { s with heap := h', toks := tk + 1 }) ho fun h'' he' sb => ?_⟩
    have hT2 : h''.get? s.heap.objs.size = some { cls := .type "tuple", data := .seq #[.int i tk, .str ⟨#[c]⟩ u] } := (sb.2 _ (Nat.ne_of_gt hel)).trans hT
    have new : ObjOk X.prog X.w (upd H s.heap.objs.size (.tup [.int (i : Nat), .str ⟨#[c]⟩])) h'' s.heap.objs.size (.tup [.int (i : Nat), .str ⟨#[c]⟩]) :=
      ⟨by show 2 ≤ sizeLine; decide, [.int i tk, .str ⟨#[c]⟩ u], .cons ⟨_, rfl⟩ (.cons ⟨_, rfl⟩ .nil), ⟨_, hT2, rfl, _, rfl⟩⟩
    have I1 : Inv X pins σ (upd H s.heap.objs.size (.tup [.int (i : Nat), .str ⟨#[c]⟩])) { s with heap := h'', toks := tk + 1 } :=
      I.turnedNew (ch := [e, it]) (fun b ob hb q => (sb.2 b (fun z => hb (by simp [z]))).trans (hk b ob (fun z => hb (by simp [z])) (fun z => hb (by simp [z])) q)) hf (Nat.le_refl _) new
    refine ⟨.ref s.heap.objs.size, _, I1, rfl, ⟨_, c, rfl, I.hok.fresh (Nat.le_refl _), rfl, hcx⟩, ⟨⟨.str ⟨#[c]⟩ u, ?_⟩, ?_, hne⟩, fun b hb => ?_⟩
    · have e1 : ((i + 1 : Nat) : Int) = (i : Int) + 1 := by omega
      rw [e1]; exact he'
    · obtain ⟨o, q, r⟩ := hit'
      exact ⟨o, (sb.2 it (Ne.symm hne)).trans q, r⟩
    · have hb' : b < s.heap.objs.size := by
        have e' : b = e ∨ b = it := by simpa using hb
        rcases e' with z | z
        · rw [z]; exact hel
        · rw [z]; exact hil
      rw [upd_ne (Nat.ne_of_lt hb')]
      exact (hf b hb).1
  done := by
    intro X hP hw hK hc i pins s σ H E I hf st hg
    subst hP hw hK
    obtain ⟨⟨old, he⟩, hit, hne⟩ := st
    have hge : i = x.cps.size := hg
    subst hge
    obtain ⟨f0, f1, f2, f3, f4, f5⟩ := hf it (by simp)
    have D : Draws X.prog X.w X.A.in1 it [it] x.cps.size (fun i v => ∃ c u, x.cps[i]? = some c ∧ v = .str ⟨#[c]⟩ u) (fun i h => h.IsStrIter it (strIterType x) x t i) := Draws.text (A := X.A.in1) (show X.A.in1.handled = none from I.ok.hd hc) it x t
    exact wpAny_pyNext_enum_endD D he hit fun h' eb => ⟨rfl, I.turned (t' := s.toks) (fun b o hb q => eb b o hb q) f0 f1 f3 f4 f5⟩
  self := fun A i s Q E st h => let ⟨⟨_, he⟩, _⟩ := st; wpAny_pyIter_enum he h
def iEnumS (ta : TA) : TI := fun σ H R => ta σ H fun vs H1 => ∃ x, vs = [.str x] ∧ R (Itx x) H1
theorem pi_enumS {X : Cx} {e : Expr} {ta : TA} {p pos tpos : Pos} {elts : List Expr} {kk : Nat} (hg : Gl X "enumerate") (hm : X.mg "enumerate" = none) (ha : PA X [e] ta) (hs : starEach [e] X.env = [(false, eval e X.env)] := by rfl) :
    PI X (.Tuple elts kk tpos) (.Call (.Name "enumerate" p) [e] [] pos) (iEnumS ta) := by
  refine ⟨fun pins s σ H R I h => ?_⟩
  refine Call_ (ld_blt I hg hm boot_enumerate (PyProof.Rows.callWith_type1 (thn (ha.run pos pins s σ H _ I h) fun us s1 ⟨vs, H1, I1, r1, q1⟩ => ?_) hs rfl))
  obtain ⟨x, ex, q⟩ := q1
  subst ex
  cases r1 with
  | cons r rr =>
    cases rr
    obtain ⟨t, rfl⟩ := r
    refine call_enumerate_str fun h' he hit hsz hk => wpAny_pyIter_enum he ?_
    have I2 : Inv X pins σ H1 { s1 with heap := h' } := I1.kept (t' := s1.toks) hk
    refine ⟨s1.heap.objs.size + 1, [s1.heap.objs.size + 1, s1.heap.objs.size], _, _, H1, rfl, I2, turn_enumS x t (s1.heap.objs.size + 1) s1.heap.objs.size, ⟨⟨.none, he⟩, hit, Nat.succ_ne_self _⟩, fun b hb => ?_, q⟩
    have e' : b = s1.heap.objs.size + 1 ∨ b = s1.heap.objs.size := by simpa using hb
    have hle : s1.heap.objs.size ≤ b := by
      rcases e' with z | z
      · rw [z]; exact Nat.le_add_right _ _
      · rw [z]; exact Nat.le_refl _
    exact I1.fpOk hle (I1.hok.fresh hle)
/-- its turns -/
theorem walk_enumS {z : Str} : Walk (Itx z) z.cps.size (fun _ => True) (fun i H v H' => ∃ T c, v = .ref T ∧ H T = none ∧ H' = upd H T (.tup [.int (i : Nat), .str ⟨#[c]⟩]) ∧ z.cps[i]? = some c) :=
  ⟨fun _ _ hi _ => hi, fun _ _ => rfl, fun _ _ _ _ _ _ y => y⟩
/-! ### heaps -/
theorem Same.upd {H : Hp} {p : Addr} {o : HO} (n : H p = none) : Same H (upd H p o) := fun b u e => by
  rw [upd_ne (ne_of_none e n)]
  exact e
theorem Same.tup {K : PySem.W.Frag} {H H' : Hp} {a : Addr} {xs : List V} (e : Same H H') (h : SqT K H a xs) : SqT K H' a xs := by
  rcases h with (h | ⟨o, h⟩) | h
  · exact .inl (.inl (e _ _ h))
  · exact .inl (.inr ⟨o, e _ _ h⟩)
  · exact .inr h
theorem Same.tyOf {K : PySem.W.Frag} {H H' : Hp} {x : V} {t : Value} (s : Same H H') (h : TyOf K H x t) : TyOf K H' x t := by
  cases h with
  | non => exact .non
  | bl x => exact .bl x
  | int i => exact .int i
  | str x => exact .str x
  | flt x => exact .flt x
  | lst e => exact .lst (s _ _ e)
  | frz e => exact .frz (s _ _ e)
  | tup e => exact .tup (s _ _ e)
  | dK e => exact .dK (s _ _ e)
  | dT e => exact .dT (s _ _ e)
  | ins e cl ha hn htk hm => exact .ins (s _ _ e) cl ha hn htk hm
theorem Same.tyX {K : PySem.W.Frag} {H H' : Hp} {x : V} {t : Value} (s : Same H H') (h : TyX K H x t) : TyX K H' x t := by
  cases h with
  | base h => exact .base (s.tyOf h)
  | byt b => exact .byt b
  | set e => exact .set (s _ _ e)
  | kList e c => exact .kList e c
  | kTuple e c => exact .kTuple e c
  | kDict e c => exact .kDict e c
  | fTuple e => exact .fTuple (s _ _ e)
  | fDict e => exact .fDict (s _ _ e)
/-- all that was tracked is as it was, but for the object at p -/
def Kp (p : Addr) (H H' : Hp) : Prop := ∀ b o, b ≠ p → H b = some o → H' b = some o
theorem Kp.refl (p : Addr) (H : Hp) : Kp p H H := fun _ _ _ h => h
theorem Kp.trans {p : Addr} {H H1 H2 : Hp} (a : Kp p H H1) (b : Kp p H1 H2) : Kp p H H2 := fun c o n h => b c o n (a c o n h)
theorem Same.kp {p : Addr} {H H' : Hp} (s : Same H H') : Kp p H H' := fun b o _ h => s b o h
theorem Kp.at {p q : Addr} {H H' : Hp} {o : HO} (k : Kp p H H') (n : q ≠ p) (h : H q = some o) : H' q = some o := k q o n h
theorem Kp.write {p : Addr} {H : Hp} {o : HO} : Kp p H (upd H p o) := fun b u n h => by
  rw [upd_ne n]
  exact h
/-- a comprehension whose step leaves all as it was: f tells what a step adds -/
theorem lc_same {J : It} {G : Hp → Prop} {its : List V} {n : Nat} (w : Walk J n G (fun i H x H' => H' = H ∧ its[i]? = some x)) (hn : n = its.length) {g : TG} {tt : TT} {te : TE} {vs : List Nat} {σ : St} {H1 : Hp} {D : Addr} {Qd : Hp → Prop} (f : V → Option V) (hD : H1 D = none) (hl : its.length < sizeLine)
    (hG : ∀ H, Same H1 H → G H)
    (hs : ∀ x ∈ its, ∀ H acc, Same H1 H → H D = some (.lst acc) → acc.length < sizeLine → ∀ Nx : Hp → Prop, (∀ H' y, Same H H' → f x = some y → Nx (upd H' D (.lst (acc ++ [y])))) → (∀ H', Same H H' → f x = none → Nx H') →
      g x (wipe σ vs) H fun σ2 H2 => wipe σ2 vs = wipe σ vs ∧ tt σ2 H2 fun b H3 => if b = true then te σ2 H3 fun y H4 => ∃ acc, H4 D = some (.lst acc) ∧ acc.length < sizeLine ∧ Nx (upd H4 D (.lst (acc ++ [y]))) else Nx H3)
    (hd : ∀ H, Same H1 H → H D = some (.lst (its.filterMap f)) → Qd H) :
    ∃ W : Nat → Nat → Hp → Prop, (∃ m, W 0 m (upd H1 D (.lst []))) ∧ ∀ i m H, W i m H →
      (J.stop i H ∧ Qd H) ∨ (J.go i H ∧ ∃ Nx : Hp → Prop, (∀ H', Nx H' → ∃ m', m' < m ∧ W (i + 1) m' H') ∧ ∀ x H', J.yld i H x H' → g x (wipe σ vs) H' fun σ2 H2 => wipe σ2 vs = wipe σ vs ∧ tt σ2 H2 fun b H3 =>
        if b = true then te σ2 H3 fun y H4 => ∃ acc, H4 D = some (.lst acc) ∧ acc.length < sizeLine ∧ Nx (upd H4 D (.lst (acc ++ [y]))) else Nx H3) := by
  subst hn
  refine lc_it w (fun i H => Same H1 H ∧ H D = some (.lst ((its.take i).filterMap f))) ⟨.upd hD, by rw [upd_same]; rfl⟩ (fun i H _ p => hG H p.1) (fun i x H H' hi p y => ?_) (fun H p => hd H p.1 (by rw [p.2, List.take_length]))
  obtain ⟨e, hx⟩ := y
  subst e
  have et : its.take (i + 1) = its.take i ++ [x] := by rw [List.take_add_one, hx]; rfl
  have hlen : ((its.take i).filterMap f).length < sizeLine := Nat.lt_of_le_of_lt (List.length_filterMap_le f (its.take i)) (Nat.lt_of_le_of_lt (by rw [List.length_take]; exact Nat.min_le_right _ _) hl)
  refine hs x (List.mem_of_getElem? hx) _ _ p.1 p.2 hlen _ (fun H' y s e => ?_) (fun H' s e => ?_)
  · refine ⟨fun b o h => ?_, ?_⟩
    · rw [upd_ne (ne_of_none h hD)]
      exact s b o (p.1 b o h)
    · rw [upd_same, et, List.filterMap_append]
      simp [e]
  · refine ⟨p.1.trans s, ?_⟩
    rw [s _ _ p.2, et, List.filterMap_append]
    simp [e]
theorem walk_strV {z : Str} : Walk (Its z) z.cps.size (fun _ => True) (fun i H x H' => H' = H ∧ (z.cps.toList.map fun c => V.str ⟨#[c]⟩)[i]? = some x) :=
  walk_str.mono (fun _ h => h) fun i H x H' _ _ y => by
    obtain ⟨e, c, h, rfl⟩ := y
    exact ⟨e, by simp [h]⟩
theorem putK_len {κ : Type} [DecidableEq κ] (kvs : List (κ × V)) (k : κ) (v : V) : (putK kvs k v).length ≤ kvs.length + 1 := by
  unfold putK
  split
  · rw [List.length_map]
    exact Nat.le_succ _
  · simp
/-- a dict's comprehension whose step leaves all as it was: f tells a step's pair -/
theorem dc_same {J : It} {G : Hp → Prop} {its : List V} {n : Nat} (w : Walk J n G (fun i H x H' => H' = H ∧ its[i]? = some x)) (hn : n = its.length) {g : TG} {tt : TT} {tk tv : TE} {vs : List Nat} {σ : St} {H1 : Hp} {D : Addr} {Qd : Hp → Prop} (f : V → Option (Key × V)) (hD : H1 D = none) (hl : its.length < sizeLine)
    (hG : ∀ H, Same H1 H → G H)
    (hs : ∀ x ∈ its, ∀ H kvs, Same H1 H → H D = some (.dK kvs) → kvs.length < sizeLine → ∀ Nx : Hp → Prop, (∀ H' k v, Same H H' → f x = some (k, v) → Nx (upd H' D (.dK (putK kvs k v)))) → (∀ H', Same H H' → f x = none → Nx H') →
      g x (wipe σ vs) H fun σ2 H2 => wipe σ2 vs = wipe σ vs ∧ tt σ2 H2 fun b H3 => if b = true then tk σ2 H3 fun y H4 => tv σ2 H4 fun z H5 => ∃ kvs k, y = kV k ∧ H5 D = some (.dK kvs) ∧ kvs.length < sizeLine ∧ Nx (upd H5 D (.dK (putK kvs k z))) else Nx H3)
    (hd : ∀ H, Same H1 H → H D = some (.dK ((its.filterMap f).foldl (fun kvs p => putK kvs p.1 p.2) [])) → Qd H) :
    ∃ W : Nat → Nat → Hp → Prop, (∃ m, W 0 m (upd H1 D (.dK []))) ∧ ∀ i m H, W i m H →
      (J.stop i H ∧ Qd H) ∨ (J.go i H ∧ ∃ Nx : Hp → Prop, (∀ H', Nx H' → ∃ m', m' < m ∧ W (i + 1) m' H') ∧ ∀ x H', J.yld i H x H' → g x (wipe σ vs) H' fun σ2 H2 => wipe σ2 vs = wipe σ vs ∧ tt σ2 H2 fun b H3 =>
        if b = true then tk σ2 H3 fun y H4 => tv σ2 H4 fun z H5 => ∃ kvs k, y = kV k ∧ H5 D = some (.dK kvs) ∧ kvs.length < sizeLine ∧ Nx (upd H5 D (.dK (putK kvs k z))) else Nx H3) := by
  subst hn
  obtain ⟨F, hF⟩ : ∃ F : Nat → List (Key × V), F = fun i => ((its.take i).filterMap f).foldl (fun kvs p => putK kvs p.1 p.2) [] := ⟨_, rfl⟩
  have F0 : F 0 = [] := by rw [hF]; rfl
  have Fe : F its.length = (its.filterMap f).foldl (fun kvs p => putK kvs p.1 p.2) [] := by rw [hF]; simp
  have Fs : ∀ i x, its[i]? = some x → F (i + 1) = match f x with | some p => putK (F i) p.1 p.2 | none => F i := fun i x hx => by
    rw [hF]
    simp only [List.take_add_one, hx, Option.toList, List.filterMap_append, List.foldl_append]
    cases q : f x <;> simp [q]
  have Fl : ∀ i, i ≤ its.length → (F i).length ≤ i := fun i => by
    induction i with
    | zero => intro _; rw [F0]; exact Nat.le_refl _
    | succ i ih =>
      intro h
      have hx : its[i]? = some its[i] := List.getElem?_eq_getElem (by omega)
      rw [Fs i _ hx]
      have := ih (by omega)
      cases q : f its[i] with
      | none => simp only; omega
      | some p =>
        have := putK_len (F i) p.1 p.2
        simp only
        omega
  refine ⟨fun i m H => (m = its.length - i ∧ i ≤ its.length) ∧ Same H1 H ∧ H D = some (.dK (F i)), ⟨its.length, ⟨rfl, Nat.zero_le _⟩, .upd hD, by rw [upd_same, F0]⟩, ?_⟩
  rintro i m H ⟨⟨rfl, hi⟩, sm, hH⟩
  by_cases hlt : i < its.length
  · refine .inr ⟨w.goes i H hlt (hG H sm), fun H' => Same H1 H' ∧ H' D = some (.dK (F (i + 1))), fun H' p' => ⟨its.length - (i + 1), by omega, ⟨rfl, hlt⟩, p'⟩, fun x H' y => ?_⟩
    obtain ⟨e, hx⟩ := w.yields i H x H' hlt (hG H sm) y
    subst e
    have fs := Fs i x hx
    refine hs x (List.mem_of_getElem? hx) _ _ sm hH (Nat.lt_of_le_of_lt (Nat.le_trans (Fl i hi) hi) hl) _ (fun H' k v s e => ?_) (fun H' s e => ?_)
    · refine ⟨fun b o h => ?_, ?_⟩
      · rw [upd_ne (ne_of_none h hD)]
        exact s b o (sm b o h)
      · rw [upd_same, fs, e]
    · refine ⟨sm.trans s, ?_⟩
      rw [s _ _ hH, fs, e]
  · have e : i = its.length := by omega
    subst e
    exact .inl ⟨w.stops H (hG H sm), hd H sm (by rw [hH, Fe])⟩
/-- for x in a list or a tuple -/
def iSeq (K : PySem.W.Frag) (tl : TE) : TI := fun σ H R => tl σ H fun x H1 => ∃ a xs, x = .ref a ∧ (SqL K H1 a xs ∨ SqT K H1 a xs) ∧ ∀ J G, Walk J xs.length G (fun i H x H' => H' = H ∧ xs[i]? = some x) → (∀ H', Same H1 H' → G H') → R J H1
theorem pi_seq {X : Cx} {tg l : Expr} {tl : TE} (hl : PE X l tl) : PI X tg l (iSeq X.K tl) := by
  refine ⟨fun pins s σ H R I h => ?_⟩
  refine thn (hl.run pins s σ H _ I h) fun v s1 ⟨x, H1, I1, r1, q1⟩ => ?_
  obtain ⟨a, xs, e, hq | hq, q⟩ := q1
  · subst e
    cases r1
    have q := q _ _ walk_list fun H' s => s.seq hq
    obtain ⟨its, rv, p, hz⟩ := I1.list hq
    refine wpAny_pyIter_list p.isList ⟨s1.heap.objs.size, [s1.heap.objs.size], _, _, H1, rfl, I1.kept (t' := s1.toks) fun b o e => Heap.get?_push_of_some _ e, turn_list a _, ⟨_, Heap.get?_push_size _ rfl, rfl, rfl⟩, fun b hb => ?_, q⟩
    rw [List.mem_singleton.mp hb]
    exact I1.fpOk (Nat.le_refl _) (I1.hok.fresh (Nat.le_refl _))
  · subst e
    cases r1
    have q := q _ _ walk_tup fun H' s => s.tup hq
    obtain ⟨its, rv, p, hz⟩ := I1.tuple hq
    refine wpAny_pyIter_tuple (show s1.heap.IsTuple a its.toArray from p) ⟨s1.heap.objs.size, [s1.heap.objs.size], _, _, H1, rfl, I1.kept (t' := s1.toks) fun b o e => Heap.get?_push_of_some _ e, turn_tuple a _, ⟨_, Heap.get?_push_size _ rfl, rfl, rfl⟩, fun b hb => ?_, q⟩
    rw [List.mem_singleton.mp hb]
    exact I1.fpOk (Nat.le_refl _) (I1.hok.fresh (Nat.le_refl _))
theorem Same.sq {K : PySem.W.Frag} {H H' : Hp} {a : Addr} {xs : List V} (e : Same H H') (h : SqL K H a xs ∨ SqT K H a xs) : SqL K H' a xs ∨ SqT K H' a xs := h.imp e.seq e.tup
/-! ### lists compared -/
theorem dpMap {K : PySem.W.Frag} {H : Hp} {α : Type} {f : α → V} {g : α → PyData} : ∀ (xs : List α), (∀ x ∈ xs, Dp K H (f x) (g x)) → DpAll K H (xs.map f) (xs.map g)
  | [], _ => .nil
  | x :: xs, h => .cons (h x List.mem_cons_self) (dpMap xs fun y hy => h y (List.mem_cons_of_mem _ hy))
/-- of depth at most 1 less than n, layable -/
theorem lay_all : ∀ {ds : List PyData} {n : Nat}, (∀ d ∈ ds, d.canLay0 = true ∧ d.depth ≤ n) → PyData.canLayAll0 ds = true ∧ PyData.depthAll ds ≤ n
  | [], n, _ => ⟨rfl, Nat.zero_le _⟩
  | d :: ds, n, h => by
    obtain ⟨a1, a2⟩ := lay_all (ds := ds) (n := n) fun y hy => h y (List.mem_cons_of_mem _ hy)
    obtain ⟨b1, b2⟩ := h d List.mem_cons_self
    refine ⟨?_, ?_⟩
    · show (PyData.canLay0 d && PyData.canLayAll0 ds) = true
      rw [a1, b1]
      rfl
    · show max (PyData.depth d) (PyData.depthAll ds) ≤ n
      omega
theorem shaped_list {ds : List PyData} (h : ∀ d ∈ ds, d.canLay0 = true ∧ d.depth ≤ 62) : SeqAt.shaped (.list ds) = true := by
  obtain ⟨a, b⟩ := lay_all h
  unfold SeqAt.shaped
  rw [Bool.and_eq_true]
  refine ⟨a, decide_eq_true ?_⟩
  show PyData.depthAll ds + 1 ≤ 64
  omega
/-- xs != [], [] new -/
theorem ne_nil {K : PySem.W.Frag} {H : Hp} {a b : Addr} {xs : List V} {ds : List PyData} {Q : VK} (hS : SqL K H a xs) (hd : DpAll K H xs ds) (hf : ∀ d ∈ ds, d.canLay0 = true ∧ d.depth ≤ 62) (hb : H b = some (.lst [])) (hQ : Q (.bl (!xs.isEmpty)) H) : rNeD K (.ref a) (.ref b) H Q := by
  refine ⟨.list ds, .list [], .lst hS hd, .lst (.inl (.inl hb)) .nil, shaped_list hf, by decide, ?_⟩
  have e : PyData.eqv (.list ds) (.list []) = xs.isEmpty := by
    cases hd with
    | nil => rfl
    | cons h t => rfl
  rw [e]
  exact hQ
theorem vals_get : ∀ {xs : List V} {us : List Value}, xs.length = us.length → (∀ (i : Nat) (x : V) (u : Value), xs[i]? = some x → us[i]? = some u → RelV x u) → Vals xs us
  | [], [], _, _ => .nil
  | [], _ :: _, h, _ => nomatch h
  | _ :: _, [], h, _ => nomatch h
  | x :: xs, u :: us, h, k => .cons (k 0 x u rfl rfl) (vals_get (Nat.succ.inj h) fun i y v a b => k (i + 1) y v a b)
/-- list(text) -/
theorem call_listS {X : Cx} (hc : X.calm = true) : CallR X (.type "list") (fun xs H Q => ∃ x : Str, xs = [.str x] ∧ x.length ≤ sizeLine ∧ ∀ l, H l = none → Q (.ref l) (upd H l (.lst (x.cps.toList.map fun c => V.str ⟨#[c]⟩)))) := by
  intro pins s σ H xs us Q I r h
  obtain ⟨x, rfl, hx, q⟩ := h
  obtain ⟨u, rfl, rx⟩ := vals1 r
  obtain ⟨t, rfl⟩ := rx
  refine PySem.call_list_str (I.ok.hd hc) x t (hn := hx) fun h' tk acc' c' hk hS hacc => ?_
  have e1 : acc'.size = x.cps.size := hacc.1
  have e2 : ∀ (i : Nat) (v : V) (u : Value), (x.cps.toList.map fun c => V.str ⟨#[c]⟩)[i]? = some v → acc'.toList[i]? = some u → RelV v u := fun i v u a b => by
    obtain ⟨c, t', hc', rfl⟩ := hacc.2 i u (by rw [← b, Array.getElem?_toList])
    have : v = V.str ⟨#[c]⟩ := by
      have hc2 : x.cps.toList[i]? = some c := by simpa using hc'
      rw [List.getElem?_map, hc2] at a
      exact (Option.some.inj a).symm
    rw [this]
    exact ⟨t', rfl⟩
  have rv : Vals (x.cps.toList.map fun c => V.str ⟨#[c]⟩) acc'.toList := vals_get (by simp [e1]) e2
  have ob : ∀ K0 : Hp, ObjOk X.prog X.w K0 h' s.heap.objs.size (.lst (x.cps.toList.map fun c => V.str ⟨#[c]⟩)) := fun K0 => ⟨by simpa [Str.length] using hx, acc'.toList, c', rv, by simpa using hS⟩
  exact ⟨.ref s.heap.objs.size, _, I.laid (t' := tk) hk (Nat.le_refl _) (ob _), rfl, q _ (I.hok.fresh (Nat.le_refl _))⟩
theorem Kp.seq {K : PySem.W.Frag} {p : Addr} {H H' : Hp} {a : Addr} {xs : List V} (e : Kp p H H') (n : a ≠ p) (h : SqL K H a xs) : SqL K H' a xs := by
  rcases h with (h | ⟨o, h⟩) | h
  · exact .inl (.inl (e _ _ n h))
  · exact .inl (.inr ⟨o, e _ _ n h⟩)
  · exact .inr h
/-- what may lie in a list that is compared -/
def Lay (K : PySem.W.Frag) (H : Hp) (x : V) : Prop := ∃ d : PyData, d.canLay0 = true ∧ d.depth ≤ 62 ∧ Dp K H x d
theorem lay_list {K : PySem.W.Frag} {H : Hp} : ∀ {xs : List V}, (∀ x ∈ xs, Lay K H x) → ∃ ds, DpAll K H xs ds ∧ ∀ d ∈ ds, d.canLay0 = true ∧ d.depth ≤ 62
  | [], _ => ⟨[], .nil, fun d h => nomatch h⟩
  | x :: xs, h => by
    obtain ⟨ds, a, b⟩ := lay_list (xs := xs) fun y hy => h y (List.mem_cons_of_mem _ hy)
    obtain ⟨d, c1, c2, c3⟩ := h x List.mem_cons_self
    refine ⟨d :: ds, .cons c3 a, fun e he => ?_⟩
    rcases List.mem_cons.mp he with z | z
    · rw [z]; exact ⟨c1, c2⟩
    · exact b e z
theorem walk_rangeV {lo : Int} {n : Nat} : Walk (Itr lo n) n (fun _ => True) (fun i H x H' => H' = H ∧ ((List.range n).map fun i => V.int (lo + (i : Nat)))[i]? = some x) :=
  walk_range.mono (fun _ h => h) fun i H x H' hi _ y => by
    obtain ⟨e, rfl⟩ := y
    exact ⟨e, by simp [hi]⟩
end L2
set_option Elab.async false
set_option linter.all false
/-! # Names: up to eight letters (as codes), their order, the next one, their rank. Plain Lean. -/
namespace Nam
/-- so many texts of at most k letters -/
def L : Nat → Nat
  | 0 => 1
  | k + 1 => 26 * L k + 1
theorem L_pos : ∀ k, 0 < L k
  | 0 => by decide
  | k + 1 => by unfold L; omega
def Let (c : Nat) : Prop := 97 ≤ c ∧ c ≤ 122
instance (c : Nat) : Decidable (Let c) := inferInstanceAs (Decidable (97 ≤ c ∧ c ≤ 122))
/-- the place among the texts of at most k letters -/
def R : Nat → List Nat → Nat
  | _, [] => 0
  | 0, _ :: _ => 0
  | k + 1, c :: t => 1 + (c - 97) * L k + R k t
def nxt : Nat → List Nat → Option (List Nat)
  | 0, _ => none
  | _ + 1, [] => some [97]
  | k + 1, c :: t => match nxt k t with
    | some u => some (c :: u)
    | none => if c < 122 then some [c + 1] else none
theorem R_lt_L : ∀ (k : Nat) (l : List Nat), l.length ≤ k → (∀ c ∈ l, Let c) → R k l < L k
  | k, [], _, _ => by
    have : R k [] = 0 := by cases k <;> rfl
    rw [this]
    exact L_pos k
  | 0, c :: t, h, _ => absurd h (by simp)
  | k + 1, c :: t, h, hl => by
    have ih := R_lt_L k t (by simpa using h) fun d hd => hl d (List.mem_cons_of_mem _ hd)
    have hc : Let c := hl c List.mem_cons_self
    have h1 : c - 97 ≤ 25 := by unfold Let at hc; omega
    have h2 : (c - 97) * L k ≤ 25 * L k := Nat.mul_le_mul_right _ h1
    show 1 + (c - 97) * L k + R k t < 26 * L k + 1
    omega
theorem R_nil (k : Nat) : R k [] = 0 := by cases k <;> rfl
theorem nxt_spec : ∀ (k : Nat) (l : List Nat), l.length ≤ k → (∀ c ∈ l, Let c) →
    (∀ u, nxt k l = some u → u ≠ [] ∧ u.length ≤ k ∧ (∀ c ∈ u, Let c) ∧ R k u = R k l + 1) ∧ (nxt k l = none → R k l + 1 = L k)
  | 0, [], _, _ => ⟨fun u e => (nomatch e), fun _ => rfl⟩
  | 0, c :: t, h, _ => absurd h (by simp)
  | k + 1, [], _, _ => ⟨fun u e => by
      have : u = [97] := by simpa [nxt] using e.symm
      subst this
      refine ⟨by simp, by simp, by simp [Let], ?_⟩
      show 1 + (97 - 97) * L k + R k [] = 0 + 1
      rw [R_nil]; simp, fun e => by simp [nxt] at e⟩
  | k + 1, c :: t, h, hl => by
    have ih := nxt_spec k t (by simpa using h) fun d hd => hl d (List.mem_cons_of_mem _ hd)
    have hc : Let c := hl c List.mem_cons_self
    have ht : ∀ d ∈ t, Let d := fun d hd => hl d (List.mem_cons_of_mem _ hd)
    have e : nxt (k + 1) (c :: t) = (match nxt k t with
      | some u => some (c :: u)
      | none => if c < 122 then some [c + 1] else none) := rfl
    cases q : nxt k t with
    | some v =>
      obtain ⟨a1, a2, a3, a4⟩ := ih.1 v q
      rw [q] at e
      refine ⟨fun u hu => ?_, fun hu => by rw [e] at hu; cases hu⟩
      rw [e] at hu
      cases hu
      refine ⟨by simp, by simpa using a2, fun d hd => ?_, ?_⟩
      · rcases List.mem_cons.mp hd with z | z
        · rw [z]; exact hc
        · exact a3 d z
      · show 1 + (c - 97) * L k + R k v = 1 + (c - 97) * L k + R k t + 1
        omega
    | none =>
      have r := ih.2 q
      rw [q] at e
      by_cases z : c < 122
      · have e2 : nxt (k + 1) (c :: t) = some [c + 1] := by rw [e]; simp [z]
        refine ⟨fun u hu => ?_, fun hu => by rw [e2] at hu; cases hu⟩
        rw [e2] at hu
        cases hu
        refine ⟨by simp, by simp, fun d hd => ?_, ?_⟩
        · have : d = c + 1 := by simpa using hd
          subst this
          unfold Let at hc ⊢
          omega
        · show 1 + (c + 1 - 97) * L k + R k [] = 1 + (c - 97) * L k + R k t + 1
          have e3 : c + 1 - 97 = (c - 97) + 1 := by unfold Let at hc; omega
          rw [R_nil, e3, Nat.succ_mul]
          omega
      · have e2 : nxt (k + 1) (c :: t) = none := by rw [e]; simp [z]
        refine ⟨fun u hu => (by rw [e2] at hu; cases hu), fun _ => ?_⟩
        show 1 + (c - 97) * L k + R k t + 1 = 26 * L k + 1
        have e3 : c - 97 = 25 := by unfold Let at hc; omega
        rw [e3]
        omega
/-- the order is that of the ranks -/
theorem R_mono : ∀ (k : Nat) (l m : List Nat), l.length ≤ k → m.length ≤ k → (∀ c ∈ l, Let c) → (∀ c ∈ m, Let c) → l < m → R k l < R k m
  | k, l, [], _, _, _, _, h => absurd h (by simp)
  | 0, l, d :: u, _, h, _, _, _ => absurd h (by simp)
  | k + 1, [], d :: u, _, _, _, _, _ => by
    show 0 < 1 + (d - 97) * L k + R k u
    omega
  | k + 1, c :: t, d :: u, hl, hm, kl, km, h => by
    have lt : R k t < L k := R_lt_L k t (by simpa using hl) fun x hx => kl x (List.mem_cons_of_mem _ hx)
    have hc : Let c := kl c List.mem_cons_self
    have hd : Let d := km d List.mem_cons_self
    show 1 + (c - 97) * L k + R k t < 1 + (d - 97) * L k + R k u
    rcases List.cons_lt_cons_iff.mp h with q | ⟨q, q2⟩
    · have h1 : (c - 97) + 1 ≤ d - 97 := by unfold Let at hc hd; omega
      have h2 := Nat.mul_le_mul_right (L k) h1
      rw [Nat.succ_mul] at h2
      omega
    · subst q
      have := R_mono k t u (by simpa using hl) (by simpa using hm) (fun x hx => kl x (List.mem_cons_of_mem _ hx)) (fun x hx => km x (List.mem_cons_of_mem _ hx)) q2
      omega
theorem R_iff {k : Nat} {l m : List Nat} (hl : l.length ≤ k) (hm : m.length ≤ k) (kl : ∀ c ∈ l, Let c) (km : ∀ c ∈ m, Let c) : l < m ↔ R k l < R k m := by
  refine ⟨R_mono k l m hl hm kl km, fun h => ?_⟩
  by_cases q : l < m
  · exact q
  · have z : m ≤ l := List.not_lt.mp q
    by_cases e : m = l
    · rw [e] at h; exact absurd h (Nat.lt_irrefl _)
    · have : m < l := by
        rcases List.le_iff_lt_or_eq.mp z with y | y
        · exact y
        · exact absurd y e
      exact absurd (R_mono k m l hm hl km kl this) (Nat.lt_asymm h)
/-! ### as the program goes -/
/-- less the z at its end -/
def cutz : List Nat → List Nat
  | [] => []
  | c :: t => if cutz t = [] then (if c = 122 then [] else [c]) else c :: cutz t
theorem nxt_short : ∀ (k : Nat) (l : List Nat), l.length < k → nxt k l = some (l ++ [97])
  | 0, l, h => absurd h (by simp)
  | k + 1, [], _ => rfl
  | k + 1, c :: t, h => by
    have ih := nxt_short k t (by simpa using h)
    show (match nxt k t with
      | some u => some (c :: u)
      | none => if c < 122 then some [c + 1] else none) = _
    rw [ih]
    rfl
theorem nxt_full : ∀ (k : Nat) (l : List Nat), l.length = k → (∀ c ∈ l, Let c) →
    (cutz l = [] → nxt k l = none) ∧ (∀ m d, cutz l = m ++ [d] → nxt k l = some (m ++ [d + 1]) ∧ d < 122)
  | 0, [], _, _ => ⟨fun _ => rfl, fun m d e => absurd e (by simp [cutz])⟩
  | 0, c :: t, h, _ => absurd h (by simp)
  | k + 1, [], h, _ => absurd h (by simp)
  | k + 1, c :: t, h, hl => by
    have ih := nxt_full k t (by simpa using h) fun d hd => hl d (List.mem_cons_of_mem _ hd)
    have hc : Let c := hl c List.mem_cons_self
    have e : nxt (k + 1) (c :: t) = (match nxt k t with
      | some u => some (c :: u)
      | none => if c < 122 then some [c + 1] else none) := rfl
    have ec : cutz (c :: t) = if cutz t = [] then (if c = 122 then [] else [c]) else c :: cutz t := rfl
    by_cases z : cutz t = []
    · rw [ih.1 z] at e
      rw [if_pos z] at ec
      by_cases y : c = 122
      · rw [if_pos y] at ec
        refine ⟨fun _ => by rw [e]; simp [y], fun m d q => ?_⟩
        rw [ec] at q
        exact absurd q (by simp)
      · rw [if_neg y] at ec
        have y2 : c < 122 := by unfold Let at hc; omega
        refine ⟨fun q => (by rw [ec] at q; cases q), fun m d q => ?_⟩
        rw [ec] at q
        have : m = [] ∧ d = c := by
          cases m with
          | nil => simpa using q.symm
          | cons a b => simp at q
        obtain ⟨rfl, rfl⟩ := this
        exact ⟨by rw [e]; simp [y2], y2⟩
    · rw [if_neg z] at ec
      refine ⟨fun q => (by rw [ec] at q; cases q), fun m d q => ?_⟩
      rw [ec] at q
      cases m with
      | nil =>
        have : cutz t = [] := by simpa using (List.cons.inj q).2
        exact absurd this z
      | cons a b =>
        obtain ⟨q1, q2⟩ := List.cons.inj q
        obtain ⟨r1, r2⟩ := ih.2 b d q2
        rw [r1] at e
        subst q1
        exact ⟨e, r2⟩
theorem cutz_app (l : List Nat) : ∃ n, l = cutz l ++ List.replicate n 122 := by
  induction l with
  | nil => exact ⟨0, rfl⟩
  | cons c t ih =>
    obtain ⟨n, e⟩ := ih
    have ec : cutz (c :: t) = if cutz t = [] then (if c = 122 then [] else [c]) else c :: cutz t := rfl
    by_cases z : cutz t = []
    · rw [if_pos z] at ec
      rw [z] at e
      by_cases y : c = 122
      · rw [if_pos y] at ec
        exact ⟨n + 1, by rw [ec, y, List.replicate_succ]; simpa using e⟩
      · rw [if_neg y] at ec
        exact ⟨n, by rw [ec]; simpa using e⟩
    · rw [if_neg z] at ec
      exact ⟨n, by rw [ec, List.cons_append, ← e]⟩
theorem cutz_last : ∀ (l m : List Nat) (d : Nat), cutz l = m ++ [d] → d ≠ 122
  | [], m, d, e => absurd e (by simp [cutz])
  | c :: t, m, d, e => by
    have ec : cutz (c :: t) = if cutz t = [] then (if c = 122 then [] else [c]) else c :: cutz t := rfl
    by_cases z : cutz t = []
    · rw [if_pos z] at ec
      by_cases y : c = 122
      · rw [if_pos y] at ec
        rw [ec] at e
        exact absurd e (by simp)
      · rw [if_neg y] at ec
        rw [ec] at e
        have : m = [] ∧ d = c := by
          cases m with
          | nil => simpa using e.symm
          | cons a b => simp at e
        rw [this.2]
        exact y
    · rw [if_neg z] at ec
      rw [ec] at e
      cases m with
      | nil =>
        have : cutz t = [] := by simpa using (List.cons.inj e).2
        exact absurd this z
      | cons a b => exact cutz_last t b d (List.cons.inj e).2
end Nam
set_option Elab.async false
set_option linter.all false
set_option maxRecDepth 100000
set_option maxHeartbeats 4000000
/-! # Names as texts: what the methods of str make of them. -/
namespace Nam
open PySem PySem.Spec PyProof.Rows L2
def S (l : List Nat) : Str := ⟨l.toArray⟩
theorem S_list (l : List Nat) : (S l).cps.toList = l := rfl
theorem S_len (l : List Nat) : (S l).length = l.length := by simp [S, Str.length]
theorem S_inj {l m : List Nat} (h : S l = S m) : l = m := by
  have := congrArg (fun s : Str => s.cps.toList) h
  simpa [S] using this
theorem S_of (x : Str) : x = S x.cps.toList := by cases x; rfl
theorem S_app (l m : List Nat) : S l ++ S m = S (l ++ m) := by
  show Str.mk (l.toArray ++ m.toArray) = Str.mk (l ++ m).toArray
  simp
def abc : List Nat := (List.range 26).map (97 + ·)
theorem letters_S : (PySem.Str.ofString "abcdefghijklmnopqrstuvwxyz") = S abc := by decide +kernel
theorem z_S : (PySem.Str.ofString "z") = S [122] := by decide +kernel
theorem a_S : (PySem.Str.ofString "a") = S [97] := by decide +kernel
theorem mem_abc (c : Nat) : c ∈ abc ↔ Let c := by
  unfold abc Let
  simp only [List.mem_map, List.mem_range]
  constructor
  · rintro ⟨k, h1, h2⟩; omega
  · intro h; exact ⟨c - 97, by omega, by omega⟩
theorem index_abc {c : Nat} (h : Let c) : Txt.index0 (S abc) ⟨#[c]⟩ = some (c - 97) := by
  have all : ∀ i : Fin 26, Txt.index0 (S abc) ⟨#[97 + i.val]⟩ = some i.val := by decide +kernel
  have q := all ⟨c - 97, by unfold Let at h; omega⟩
  have e : 97 + (c - 97) = c := by unfold Let at h; omega
  simpa [e] using q
theorem abc_get {i : Nat} (h : i < 26) : abc[i]? = some (97 + i) := by
  unfold abc
  simp [h]
theorem abc_len : abc.length = 26 := by decide
theorem take_replicate_cut (m : List Nat) (n : Nat) (hm : ∀ p d, m = p ++ [d] → d ≠ 122) : ((m ++ List.replicate n 122).reverse.takeWhile ([122].toArray.contains ·)).length = n := by
  rw [List.reverse_append, List.reverse_replicate]
  induction n with
  | zero =>
    simp only [List.replicate_zero, List.nil_append]
    rcases List.eq_nil_or_concat m with e | ⟨p, d, e⟩
    · rw [e]; rfl
    · have hd := hm p d (by simpa using e)
      rw [e]
      simp [hd]
  | succ n ih =>
    rw [List.replicate_succ, List.cons_append]
    simpa using ih
theorem rstrip_S (l : List Nat) : Txt.rstripChars (S l) (S [122]) = S (cutz l) := by
  obtain ⟨n, e⟩ := cutz_app l
  unfold Txt.rstripChars
  rw [stripBy_eq]
  have h := take_replicate_cut (cutz l) n (fun p d q => cutz_last l p d q)
  rw [← e] at h
  have g0 : ∀ m, l = m ++ List.replicate n 122 → l.length = m.length + n := fun m e => by rw [e]; simp
  have hl := g0 _ e
  have h1 : stripHi (S [122]).cps.contains true (S l) 0 = (cutz l).length := by
    show (S l).length - (((S l).cps.toList.drop 0).reverse.takeWhile ([122].toArray.contains ·)).length = _
    rw [List.drop_zero, S_list, S_len, h]
    omega
  show PySem.Builtin.Str.strSub (S l) 0 (stripHi (S [122]).cps.contains true (S l) 0) = _
  rw [h1]
  show Str.mk ((l.toArray).extract 0 (cutz l).length) = Str.mk (cutz l).toArray
  have g : ∀ m, l = m ++ List.replicate n 122 → l.take m.length = m := fun m e => by rw [e]; simp
  have this := g _ e
  simp [this]
theorem cut_last (m : List Nat) (d : Nat) : cutS (S (m ++ [d])) none (some (-1)) = S m := by
  unfold cutS
  have hl : (S (m ++ [d])).length = m.length + 1 := by rw [S_len]; simp
  have h1 : HT.sIx (S (m ++ [d])).length (S (m ++ [d])).length (some (-1)) = m.length := by
    rw [hl]
    show (if (-1 : Int) < 0 then ((-1 : Int) + ((m.length + 1 : Nat) : Int)).toNat else 0) = m.length
    rw [if_pos (by decide)]
    omega
  rw [HT.sIx_none, h1, S_list]
  simp [S]
theorem cut_take (l : List Nat) (k : Nat) (h : k ≤ l.length) : cutS (S l) none (some (k : Int)) = S (l.take k) := by
  unfold cutS
  rw [HT.sIx_none, HT.sIx_nat, S_list, S_len, Nat.min_eq_left h]
  simp [S]
/-- a name: one to eight letters -/
structure Nm (l : List Nat) : Prop where
  pos : 1 ≤ l.length
  len : l.length ≤ 8
  let_ : ∀ c ∈ l, Let c
/-- what next_after gives -/
def nv : Option (List Nat) → V
  | none => .non
  | some l => .str (S l)
theorem small_len {l : List Nat} (h : l.length ≤ 8) : (S l).length ≤ sizeLine := by
  rw [S_len]
  exact Nat.le_trans h (by decide)
end Nam
set_option Elab.async false
set_option linter.all false
set_option maxRecDepth 100000
set_option maxHeartbeats 4000000
/-! # Values told by plain data: types, parts, comprehensions by place, repr of a truth value. -/
namespace L2
open PySem PySem.Spec PyProof.Rows

mutual
theorem Dp.same {K : PySem.W.Frag} {H H' : Hp} (s : Same H H') : ∀ (d : PyData) (v : V), Dp K H v d → Dp K H' v d
  | .none, _, h => by cases h; exact .non
  | .bool b, _, h => by cases h; exact .bl b
  | .int i, _, h => by cases h; exact .int i
  | .str x, _, h => by cases h; exact .str x
  | .list ds, _, h => by
    cases h with
    | lst hs ha => exact .lst (s.seq hs) (DpAll.same s ds _ ha)
  | .tuple ds, _, h => by
    cases h with
    | tup hs ha => exact .tup (s.tup hs) (DpAll.same s ds _ ha)
  | .dict _, _, h => nomatch h
theorem DpAll.same {K : PySem.W.Frag} {H H' : Hp} (s : Same H H') : ∀ (ds : List PyData) (vs : List V), DpAll K H vs ds → DpAll K H' vs ds
  | [], _, h => by cases h; exact .nil
  | d :: ds, _, h => by
    cases h with
    | cons h1 h2 => exact .cons (Dp.same s d _ h1) (DpAll.same s ds _ h2)
end
theorem DpAll.len {K : PySem.W.Frag} {H : Hp} : ∀ {vs : List V} {ds : List PyData}, DpAll K H vs ds → vs.length = ds.length
  | _, _, .nil => rfl
  | _, _, .cons _ t => congrArg (· + 1) t.len
theorem DpAll.at_ {K : PySem.W.Frag} {H : Hp} : ∀ {vs : List V} {ds : List PyData} {i : Nat} {v : V}, DpAll K H vs ds → vs[i]? = some v → ∃ d, ds[i]? = some d ∧ Dp K H v d
  | _, _, 0, _, .cons h t, e => by
    cases e
    exact ⟨_, rfl, h⟩
  | _, _, i + 1, _, .cons h t, e => t.at_ (i := i) e
theorem DpAll.to {K : PySem.W.Frag} {H : Hp} : ∀ {vs : List V} {ds : List PyData} {i : Nat} {d : PyData}, DpAll K H vs ds → ds[i]? = some d → ∃ v, vs[i]? = some v ∧ Dp K H v d
  | _, _, 0, _, .cons h t, e => by
    cases e
    exact ⟨_, rfl, h⟩
  | _, _, i + 1, _, .cons h t, e => t.to (i := i) e
/-- the name of a value's type -/
def dty : PyData → String
  | .none => "NoneType"
  | .bool _ => "bool"
  | .int _ => "int"
  | .str _ => "str"
  | .list _ => "list"
  | .tuple _ => "tuple"
  | .dict _ => "dict"
theorem Dp.tyx {K : PySem.W.Frag} {H : Hp} {v : V} {d : PyData} (h : Dp K H v d) : TyX K H v (.type (dty d)) := by
  cases h with
  | non => exact .base .non
  | bl b => exact .base (.bl b)
  | int i => exact .base (.int i)
  | str x => exact .base (.str x)
  | lst hs _ =>
    rcases hs with (h | ⟨o, h⟩) | ⟨o, its, n, e, c, _⟩
    · exact .base (.lst h)
    · exact .base (.frz h)
    · exact .kList e c
  | tup hs _ =>
    rcases hs with (h | ⟨o, h⟩) | ⟨o, its, n, e, c, _⟩
    · exact .base (.tup h)
    · exact .fTuple h
    · exact .kTuple e c
abbrev tyNames : List String := ["NoneType", "bool", "int", "str", "list", "tuple", "dict"]
theorem dty_mem (d : PyData) : dty d ∈ tyNames := by cases d <;> simp [dty, tyNames]
/-- what isinstance answers of such a value's type -/
def isTy (t u : String) : Bool := decide (t = u) || (decide (t = "bool") && decide (u = "int"))
theorem kit_dty {K : PySem.W.Frag} {t u : String} (h : t ∈ tyNames) (g : u ∈ tyNames) : PySem.W.kitOne K (.type t) (.type u) = some (isTy t u) := by
  simp only [tyNames, List.mem_cons, List.mem_singleton, List.not_mem_nil, or_false] at h g
  rcases h with e | e | e | e | e | e | e <;> rcases g with f | f | f | f | f | f | f <;> (rw [e, f]; exact kit_ty (by decide +kernel))
theorem kit_dty2 {K : PySem.W.Frag} {t a b : String} (h : t ∈ tyNames) (ga : a ∈ tyNames) (gb : b ∈ tyNames) : PySem.W.kitAny K (.type t) [.type a, .type b] = some (isTy t a || isTy t b) := by
  refine kitAny_cons (kit_dty h ga) (fun e => ?_) (fun e => by rw [e]; rfl)
  rw [e, Bool.false_or]
  exact kitAny_cons (kit_dty h gb) (fun e => by rw [e]; rfl) (fun e => e)
/-- isinstance(x, T) -/
theorem call_isiD {X : Cx} : CallR X (.builtin "isinstance") (fun xs H Q => ∃ v d u, xs = [v, .ty u] ∧ u ∈ tyNames ∧ Dp X.K H v d ∧ Q (.bl (isTy (dty d) u)) H) := by
  intro pins s σ H xs us Q I r h
  obtain ⟨v, d, u, rfl, hu, hd, q⟩ := h
  exact call_isi pins s σ H _ us Q I r ⟨v, _, .type (dty d), _, isTy (dty d) u, rfl, .ty u, hd.tyx, kit_dty (dty_mem d) hu, q⟩
/-- isinstance(x, (T, U)) -/
theorem call_isiTD {X : Cx} : CallR X (.builtin "isinstance") (fun xs H Q => ∃ v d p a b, xs = [v, .ref p] ∧ a ∈ tyNames ∧ b ∈ tyNames ∧ Dp X.K H v d ∧ H p = some (.tup [.ty a, .ty b]) ∧ Q (.bl (isTy (dty d) a || isTy (dty d) b)) H) := by
  intro pins s σ H xs us Q I r h
  obtain ⟨v, d, p, a, b, rfl, ha, hb, hd, hp, q⟩ := h
  exact call_isiT pins s σ H _ us Q I r ⟨v, p, _, _, _, isTy (dty d) a || isTy (dty d) b, rfl, hp, .cons (.ty a) (.cons (.ty b) .nil), hd.tyx, kit_dty2 (dty_mem d) ha hb, q⟩
/-- a list's or a tuple's parts -/
def prts : PyData → Option (List PyData)
  | .list ds => some ds
  | .tuple ds => some ds
  | _ => none
theorem Dp.prts {K : PySem.W.Frag} {H : Hp} {v : V} {d : PyData} (h : Dp K H v d) {ds : List PyData} (e : prts d = some ds) : ∃ a xs, v = .ref a ∧ (SqL K H a xs ∨ SqT K H a xs) ∧ DpAll K H xs ds := by
  cases h with
  | lst hs ha => cases e; exact ⟨_, _, rfl, .inl hs, ha⟩
  | tup hs ha => cases e; exact ⟨_, _, rfl, .inr hs, ha⟩
  | _ => exact nomatch e
/-- a comprehension whose step leaves all as it was; os tells by place what a step adds -/
theorem lc_ix {J : It} {G : Hp → Prop} {its : List V} {n : Nat} (w : Walk J n G (fun i H x H' => H' = H ∧ its[i]? = some x)) (hn : n = its.length) {g : TG} {tt : TT} {te : TE} {vs : List Nat} {σ : St} {H1 : Hp} {D : Addr} {Qd : Hp → Prop} (os : List (Option V)) (ho : os.length = its.length) (hD : H1 D = none) (hl : its.length < sizeLine)
    (hG : ∀ H, Same H1 H → G H)
    (hs : ∀ (i : Nat) (x : V) (o : Option V), its[i]? = some x → os[i]? = some o → ∀ H acc, Same H1 H → H D = some (.lst acc) → acc.length < sizeLine → ∀ Nx : Hp → Prop, (∀ H' y, Same H H' → o = some y → Nx (upd H' D (.lst (acc ++ [y])))) → (∀ H', Same H H' → o = none → Nx H') →
      g x (wipe σ vs) H fun σ2 H2 => wipe σ2 vs = wipe σ vs ∧ tt σ2 H2 fun b H3 => if b = true then te σ2 H3 fun y H4 => ∃ acc, H4 D = some (.lst acc) ∧ acc.length < sizeLine ∧ Nx (upd H4 D (.lst (acc ++ [y]))) else Nx H3)
    (hd : ∀ H, Same H1 H → H D = some (.lst (os.filterMap id)) → Qd H) :
    ∃ W : Nat → Nat → Hp → Prop, (∃ m, W 0 m (upd H1 D (.lst []))) ∧ ∀ i m H, W i m H →
      (J.stop i H ∧ Qd H) ∨ (J.go i H ∧ ∃ Nx : Hp → Prop, (∀ H', Nx H' → ∃ m', m' < m ∧ W (i + 1) m' H') ∧ ∀ x H', J.yld i H x H' → g x (wipe σ vs) H' fun σ2 H2 => wipe σ2 vs = wipe σ vs ∧ tt σ2 H2 fun b H3 =>
        if b = true then te σ2 H3 fun y H4 => ∃ acc, H4 D = some (.lst acc) ∧ acc.length < sizeLine ∧ Nx (upd H4 D (.lst (acc ++ [y]))) else Nx H3) := by
  subst hn
  refine lc_it w (fun i H => Same H1 H ∧ H D = some (.lst ((os.take i).filterMap id))) ⟨.upd hD, by rw [upd_same]; rfl⟩ (fun i H _ p => hG H p.1) (fun i x H H' hi p y => ?_) (fun H p => hd H p.1 (by rw [p.2, ← ho, List.take_length]))
  obtain ⟨e, hx⟩ := y
  subst e
  have hio : i < os.length := by rw [ho]; exact (List.getElem?_eq_some_iff.mp hx).1
  obtain ⟨o, eo⟩ : ∃ o, os[i]? = some o := ⟨_, List.getElem?_eq_getElem hio⟩
  have et : os.take (i + 1) = os.take i ++ [o] := by rw [List.take_add_one, eo]; rfl
  have hlen : ((os.take i).filterMap id).length < sizeLine := Nat.lt_of_le_of_lt (List.length_filterMap_le id (os.take i)) (Nat.lt_of_le_of_lt (by rw [List.length_take, ho]; exact Nat.min_le_right _ _) hl)
  refine hs i x o hx eo _ _ p.1 p.2 hlen _ (fun H' y s e => ?_) (fun H' s e => ?_)
  · refine ⟨fun b o h => ?_, ?_⟩
    · rw [upd_ne (ne_of_none h hD)]
      exact s b o (p.1 b o h)
    · rw [upd_same, et, List.filterMap_append]
      simp [e]
  · refine ⟨p.1.trans s, ?_⟩
    rw [s _ _ p.2, et, List.filterMap_append]
    simp [e]
/-- repr(b) -/
theorem call_repr_bool {X : Cx} : CallR X (.builtin "repr") (fun xs H Q => ∃ b : Bool, xs = [.bl b] ∧ Q (.str (if b then "True" else "False" : String)) H) := by
  intro pins s σ H xs us Q I r h
  obtain ⟨b, rfl, q⟩ := h
  obtain ⟨u, rfl, rx⟩ := vals1 r
  have e : u = Value.bool b := rx
  subst e
  refine PySem.P.repr_of_bool ⟨.str _, H, I.tok _, ⟨_, rfl⟩, ?_⟩
  cases b <;> exact q
end L2
set_option Elab.async false
set_option linter.all false
set_option maxRecDepth 100000
set_option maxHeartbeats 4000000
/-! # Comprehensions whose turns make a tuple (zip, enumerate), told by place; slices of lists and tuples. -/
namespace L2
open PySem PySem.Spec PyProof.Rows RZ
abbrev rSlQ (K : PySem.W.Frag) : V → Option Int → Option Int → Hp → VK → Prop := fun x lo hi H Q => rSlL K x lo hi H Q ∨ rSlA K x lo hi H Q
theorem sl_seq {X : Cx} : SlR X (rSlQ X.K) := sl_list.or sl_tupA
theorem cutV_all {xs : List V} {lo hi : Option Int} (h : HT.sIx xs.length 0 lo = 0 ∧ HT.sIx xs.length xs.length hi = xs.length) : cutV xs lo hi = xs := by
  unfold cutV
  rw [h.1, h.2, List.drop_zero, Nat.sub_zero, List.take_length]
/-- a slice of a list or of a tuple -/
theorem slAt {K : PySem.W.Frag} {H : Hp} {a : Addr} {xs : List V} {lo hi : Option Int} {Q : VK} (h : SqL K H a xs ∨ SqT K H a xs) (q : ∀ p H', Same H H' → ((SqL K H a xs ∧ SqL K H' p (cutV xs lo hi)) ∨ (SqT K H a xs ∧ SqT K H' p (cutV xs lo hi))) → Q (.ref p) H') : rSlQ K (.ref a) lo hi H Q := by
  rcases h with h | h
  · exact .inl ⟨a, xs, rfl, h, fun p np => q p _ (.upd np) (.inl ⟨h, .inl (.inl upd_same)⟩)⟩
  · exact .inr ⟨a, xs, rfl, h, fun w => q a H (.refl H) (.inr ⟨h, by rw [cutV_all w]; exact h⟩), fun _ p np => q p _ (.upd np) (.inr ⟨h, .inl (.inl upd_same)⟩)⟩
section
variable {K : PySem.W.Frag} {a b : Addr} {xs ys : List V}
theorem walk_zipT {n : Nat} (hn : n = min xs.length ys.length) : Walk (ItzT K a b) n (fun H => SqT K H a xs ∧ SqT K H b ys) (YPair (fun i => xs[i]?) (fun i => ys[i]?)) := by
  subst hn
  refine ⟨fun i _ hi q => ?_, fun _ q => ⟨xs, ys, q.1, q.2, by omega⟩, fun i H v H' _ q y => ?_⟩
  · have h1 : i < xs.length := by omega
    have h2 : i < ys.length := by omega
    exact ⟨xs, ys, xs[i], ys[i], q.1, q.2, by simp [h1], by simp [h2]⟩
  · obtain ⟨T, x, z, h1, h2, h3, h4, h5⟩ := y
    exact ⟨T, x, z, h1, h2, h3, h4 xs q.1, h5 ys q.2⟩
end
theorem YPair.same {xs ys : Nat → Option V} {i : Nat} {H H' : Hp} {x : V} (y : YPair xs ys i H x H') : Same H H' := by
  obtain ⟨T, x, z, h1, h2, rfl, _⟩ := y
  exact .upd h2
/-- a comprehension whose step leaves all as it was; os tells by place what a step adds, Y what a turn gives -/
theorem lc_y {J : It} {G : Hp → Prop} {n : Nat} {Y : Nat → Hp → V → Hp → Prop} (w : Walk J n G Y) (hY : ∀ i H x H', Y i H x H' → Same H H') {g : TG} {tt : TT} {te : TE} {vs : List Nat} {σ : St} {H1 : Hp} {D : Addr} {Qd : Hp → Prop} (os : List (Option V)) (ho : os.length = n) (hD : H1 D = none) (hl : n < sizeLine)
    (hG : ∀ H, Same H1 H → G H)
    (hs : ∀ (i : Nat) (x : V) (o : Option V) (H0 H : Hp), Same H1 H0 → Y i H0 x H → os[i]? = some o → ∀ acc, H D = some (.lst acc) → acc.length < sizeLine → ∀ Nx : Hp → Prop, (∀ H' y, Same H H' → o = some y → Nx (upd H' D (.lst (acc ++ [y])))) → (∀ H', Same H H' → o = none → Nx H') →
      g x (wipe σ vs) H fun σ2 H2 => wipe σ2 vs = wipe σ vs ∧ tt σ2 H2 fun b H3 => if b = true then te σ2 H3 fun y H4 => ∃ acc, H4 D = some (.lst acc) ∧ acc.length < sizeLine ∧ Nx (upd H4 D (.lst (acc ++ [y]))) else Nx H3)
    (hd : ∀ H, Same H1 H → H D = some (.lst (os.filterMap id)) → Qd H) :
    ∃ W : Nat → Nat → Hp → Prop, (∃ m, W 0 m (upd H1 D (.lst []))) ∧ ∀ i m H, W i m H →
      (J.stop i H ∧ Qd H) ∨ (J.go i H ∧ ∃ Nx : Hp → Prop, (∀ H', Nx H' → ∃ m', m' < m ∧ W (i + 1) m' H') ∧ ∀ x H', J.yld i H x H' → g x (wipe σ vs) H' fun σ2 H2 => wipe σ2 vs = wipe σ vs ∧ tt σ2 H2 fun b H3 =>
        if b = true then te σ2 H3 fun y H4 => ∃ acc, H4 D = some (.lst acc) ∧ acc.length < sizeLine ∧ Nx (upd H4 D (.lst (acc ++ [y]))) else Nx H3) := by
  subst ho
  refine lc_it w (fun i H => Same H1 H ∧ H D = some (.lst ((os.take i).filterMap id))) ⟨.upd hD, by rw [upd_same]; rfl⟩ (fun i H _ p => hG H p.1) (fun i x H H' hi p y => ?_) (fun H p => hd H p.1 (by rw [p.2, List.take_length]))
  have sy := hY _ _ _ _ y
  obtain ⟨o, eo⟩ : ∃ o, os[i]? = some o := ⟨_, List.getElem?_eq_getElem hi⟩
  have et : os.take (i + 1) = os.take i ++ [o] := by rw [List.take_add_one, eo]; rfl
  have hlen : ((os.take i).filterMap id).length < sizeLine := Nat.lt_of_le_of_lt (List.length_filterMap_le id (os.take i)) (Nat.lt_of_le_of_lt (by rw [List.length_take]; exact Nat.min_le_right _ _) hl)
  refine hs i x o _ _ p.1 y eo _ (sy _ _ p.2) hlen _ (fun H'' z s e => ?_) (fun H'' s e => ?_)
  · refine ⟨fun b u h => ?_, ?_⟩
    · rw [upd_ne (ne_of_none h hD)]
      exact s b u (sy b u (p.1 b u h))
    · rw [upd_same, et, List.filterMap_append]
      simp [e]
  · refine ⟨p.1.trans (sy.trans s), ?_⟩
    rw [s _ _ (sy _ _ p.2), et, List.filterMap_append]
    simp [e]
end L2
set_option Elab.async false
set_option linter.all false
set_option maxRecDepth 100000
set_option maxHeartbeats 4000000
/-! # An if by what its test tells. -/
namespace L2
open PySem PySem.Spec PyProof.Rows
variable {c : TT} {t u rest : TS} {D : Ends} {σ : L2.St} {H : Hp}
/-- R: what the test answers and leaves -/
theorem if_D (R : Bool → Hp → Prop) (hc : ∀ Q : Bool → Hp → Prop, (∀ b H', R b H' → Q b H') → c σ H Q) (ht : ∀ H', R true H' → t D σ H') (hu : ∀ H', R false H' → u D σ H') : tIfS c t u D σ H :=
  hc _ fun b H' p => by
    cases b with
    | false => exact iteF (hu H' p)
    | true => exact iteT (ht H' p)
theorem seq_D (R : Bool → Hp → Prop) (hc : ∀ Q : Bool → Hp → Prop, (∀ b H', R b H' → Q b H') → c σ H Q) (ht : ∀ H', R true H' → t { D with nx := rest D } σ H') (hu : ∀ H', R false H' → u { D with nx := rest D } σ H') : tSeq (tIfS c t u) rest D σ H := if_D R hc ht hu
/-- the test is False -/
theorem if_F (R : Hp → Prop) (hc : ∀ Q : Bool → Hp → Prop, (∀ H', R H' → Q false H') → c σ H Q) (hu : ∀ H', R H' → u D σ H') : tIfS c t u D σ H := hc _ fun H' p => iteF (hu H' p)
theorem seq_F (R : Hp → Prop) (hc : ∀ Q : Bool → Hp → Prop, (∀ H', R H' → Q false H') → c σ H Q) (hu : ∀ H', R H' → u { D with nx := rest D } σ H') : tSeq (tIfS c t u) rest D σ H := if_F R hc hu
end L2
set_option Elab.async false
set_option linter.all false
set_option maxRecDepth 100000
set_option maxHeartbeats 4000000
namespace L2
open PySem PySem.Spec PyProof.Rows
mutual
/-- lists made tuples, all the way down -/
def fixD : PyData → PyData
  | .list xs => .tuple (fixL xs)
  | .tuple xs => .tuple (fixL xs)
  | .none => .none
  | .bool b => .bool b
  | .int i => .int i
  | .str x => .str x
  | .dict x => .dict x
def fixL : List PyData → List PyData
  | [] => []
  | x :: xs => fixD x :: fixL xs
end
theorem fixL_map : ∀ xs : List PyData, fixL xs = xs.map fixD
  | [] => rfl
  | x :: xs => by rw [fixL, fixL_map xs]; rfl
mutual
def noList : PyData → Bool
  | .list _ => false
  | .tuple xs => noListL xs
  | .none => true
  | .bool _ => true
  | .int _ => true
  | .str _ => true
  | .dict _ => true
def noListL : List PyData → Bool
  | [] => true
  | x :: xs => noList x && noListL xs
end
mutual
theorem noList_fix : ∀ d : PyData, noList (fixD d) = true
  | .list xs => by rw [fixD, noList]; exact noListL_fix xs
  | .tuple xs => by rw [fixD, noList]; exact noListL_fix xs
  | .none => rfl
  | .bool _ => rfl
  | .int _ => rfl
  | .str _ => rfl
  | .dict _ => rfl
theorem noListL_fix : ∀ xs : List PyData, noListL (fixL xs) = true
  | [] => rfl
  | x :: xs => by rw [fixL, noListL, noList_fix x, noListL_fix xs]; rfl
end
/-- all but lists is as it was -/
def Alm (H H' : Hp) : Prop := ∀ b o, H b = some o → (∀ l, o ≠ .lst l) → H' b = some o
theorem Same.alm {H H' : Hp} (s : Same H H') : Alm H H' := fun b o e _ => s b o e
theorem Alm.trans {H H1 H2 : Hp} (a : Alm H H1) (b : Alm H1 H2) : Alm H H2 := fun c o e n => b c o (a c o e n) n
theorem Alm.upd {H : Hp} {D : Addr} {l : List V} {o : HO} (e : H D = some (.lst l)) : Alm H (L2.upd H D o) := fun b u h n => by
  by_cases z : b = D
  · subst z
    rw [e] at h
    exact absurd (Option.some.inj h).symm (n l)
  · rw [upd_ne z]; exact h
theorem Alm.tup {K : PySem.W.Frag} {H H' : Hp} {a : Addr} {xs : List V} (s : Alm H H') (h : SqT K H a xs) : SqT K H' a xs := by
  rcases h with (h | ⟨o, h⟩) | h
  · exact .inl (.inl (s _ _ h fun l z => nomatch z))
  · exact .inl (.inr ⟨o, s _ _ h fun l z => nomatch z⟩)
  · exact .inr h
mutual
theorem Dp.alm {K : PySem.W.Frag} {H H' : Hp} (s : Alm H H') : ∀ (d : PyData) (v : V), noList d = true → Dp K H v d → Dp K H' v d
  | .none, _, _, h => by cases h; exact .non
  | .bool b, _, _, h => by cases h; exact .bl b
  | .int i, _, _, h => by cases h; exact .int i
  | .str x, _, _, h => by cases h; exact .str x
  | .list ds, _, n, _ => nomatch n
  | .tuple ds, _, n, h => by
    rw [noList] at n
    cases h with
    | tup hs ha => exact .tup (s.tup hs) (DpAll.alm s ds _ n ha)
  | .dict _, _, _, h => nomatch h
theorem DpAll.alm {K : PySem.W.Frag} {H H' : Hp} (s : Alm H H') : ∀ (ds : List PyData) (vs : List V), noListL ds = true → DpAll K H vs ds → DpAll K H' vs ds
  | [], _, _, h => by cases h; exact .nil
  | d :: ds, _, n, h => by
    rw [noListL, Bool.and_eq_true] at n
    cases h with
    | cons h1 h2 => exact .cons (Dp.alm s d _ n.1 h1) (DpAll.alm s ds _ n.2 h2)
end
theorem DpAll.snoc {K : PySem.W.Frag} {H : Hp} {v : V} {d : PyData} (h : Dp K H v d) : ∀ {vs : List V} {ds : List PyData}, DpAll K H vs ds → DpAll K H (vs ++ [v]) (ds ++ [d])
  | _, _, .nil => .cons h .nil
  | _, _, .cons h1 t => .cons h1 (DpAll.snoc h t)
mutual
/-- no list or tuple is longer than 1000 -/
def slim : PyData → Bool
  | .list xs => decide (xs.length ≤ 1000) && slimL xs
  | .tuple xs => decide (xs.length ≤ 1000) && slimL xs
  | .none => true
  | .bool _ => true
  | .int _ => true
  | .str _ => true
  | .dict _ => true
def slimL : List PyData → Bool
  | [] => true
  | x :: xs => slim x && slimL xs
end
theorem slimL_all : ∀ {xs : List PyData}, slimL xs = true → ∀ x ∈ xs, slim x = true
  | x :: xs, h, y, hy => by
    rw [slimL, Bool.and_eq_true] at h
    rcases List.mem_cons.mp hy with e | e
    · rw [e]; exact h.1
    · exact slimL_all h.2 y e
theorem depth_le {xs : List PyData} : ∀ x ∈ xs, PyData.depth x ≤ PyData.depthAll xs := by
  induction xs with
  | nil => exact fun _ h => nomatch h
  | cons y ys ih =>
    intro x hx
    show _ ≤ max (PyData.depth y) (PyData.depthAll ys)
    rcases List.mem_cons.mp hx with e | e
    · rw [e]; exact Nat.le_max_left _ _
    · exact Nat.le_trans (ih x e) (Nat.le_max_right _ _)
end L2
set_option Elab.async false
set_option linter.all false
set_option maxRecDepth 100000
set_option maxHeartbeats 4000000
/-! # What draws: the pen of the laws. -/
namespace Pen
open PySem PySem.Spec PyProof.Rows L2
/-! ### the pen -/
/-- the pen at p: the script's numbers, fewer than n laps, what is left of a great one -/
def PenAt (H : Hp) (p c : Addr) (n : Nat) : Prop := ∃ (ns : List Int) (lap rest : Int), c ≠ p ∧ H p = some (.lst [.ref c, .int lap, .int rest]) ∧ H c = some (.lst (ns.map V.int)) ∧ 0 ≤ lap ∧ lap ≤ n ∧ 0 ≤ rest
theorem PenAt.mono {H : Hp} {p c : Addr} {n m : Nat} (h : PenAt H p c n) (k : n ≤ m) : PenAt H p c m := by
  obtain ⟨ns, lap, rest, h1, h2, h3, h4, h5, h6⟩ := h
  exact ⟨ns, lap, rest, h1, h2, h3, h4, by omega, h6⟩
theorem PenAt.same {H H' : Hp} {p c : Addr} {n : Nat} (h : PenAt H p c n) (s : Same H H') : PenAt H' p c n := by
  obtain ⟨ns, lap, rest, h1, h2, h3, h4, h5, h6⟩ := h
  exact ⟨ns, lap, rest, h1, s _ _ h2, s _ _ h3, h4, h5, h6⟩
theorem PenAt.hp {H : Hp} {p c : Addr} {n : Nat} (h : PenAt H p c n) {q : Addr} (z : H q = none) : q ≠ p ∧ q ≠ c := by
  obtain ⟨ns, lap, rest, h1, h2, h3, _⟩ := h
  exact ⟨fun e => (by rw [e, h2] at z; cases z), fun e => (by rw [e, h3] at z; cases z)⟩
theorem PenAt.upd {H : Hp} {p c : Addr} {n : Nat} (h : PenAt H p c n) {q : Addr} {o : HO} (z : q ≠ p) (z' : q ≠ c) : PenAt (L2.upd H q o) p c n := by
  obtain ⟨ns, lap, rest, h1, h2, h3, h4⟩ := h
  exact ⟨ns, lap, rest, h1, by rw [upd_ne (Ne.symm z)]; exact h2, by rw [upd_ne (Ne.symm z')]; exact h3, h4⟩
def spPen (K : PySem.W.Frag) : Sp := fun vs H Q _ => ∃ (a : Addr) (ns : List Int), vs = [.ref a] ∧ SqL K H a (ns.map V.int) ∧ ns.length ≤ 1000 ∧ ∀ H' p c, Same H H' → H p = none → H c = none → PenAt H' p c 0 → Q (.ref p) H'
def spDraw : Sp := fun vs H Q _ => ∃ (p c : Addr) (many : Int) (n : Nat), vs = [.ref p, .int many] ∧ 0 < many ∧ many ≤ 1000000 ∧ PenAt H p c n ∧ n ≤ 1000000 ∧ ∀ r H', 0 ≤ r → r < many → Kp p H H' → PenAt H' p c (n + 1) → Q (.int r) H'
theorem mix1 {cell lap : Int} (h0 : 0 ≤ lap) (h1 : lap ≤ 1000000) (a b : Int) (ha : 0 ≤ a) (ha' : a ≤ 1000000) (hb : 0 ≤ b) (hb' : b ≤ 1000000) : (cell % 2147483587 + a * lap + b).natAbs < 2 ^ 64 := by
  have e1 := Int.emod_nonneg cell (show (2147483587 : Int) ≠ 0 by decide)
  have e2 := Int.emod_lt_of_pos cell (show (0 : Int) < 2147483587 by decide)
  have e3 : a * lap ≤ 1000000 * 1000000 := Int.mul_le_mul ha' h1 h0 (by decide)
  have e4 : 0 ≤ a * lap := Int.mul_nonneg ha h0
  omega
theorem mix2 {m lap a b c : Int} (hm : 0 ≤ m) (hm' : m < 2147483563) (h0 : 0 ≤ lap) (h1 : lap ≤ 1000000) (ha : 0 ≤ a) (ha' : a ≤ 1000000) (hb : 0 ≤ b) (hb' : b ≤ 1000000) (hc : 0 ≤ c) (hc' : c ≤ 1000000) : (m * (2 * lap + b) + a * lap * lap + c).natAbs < 2 ^ 64 := by
  have e1 : m * (2 * lap + b) ≤ 2147483563 * 3000000 := Int.mul_le_mul (by omega) (by omega) (by omega) (by decide)
  have e2 : 0 ≤ m * (2 * lap + b) := Int.mul_nonneg hm (by omega)
  have e3 : a * lap ≤ 1000000 * 1000000 := Int.mul_le_mul ha' h1 h0 (by decide)
  have e4 : 0 ≤ a * lap := Int.mul_nonneg ha h0
  have e5 : a * lap * lap ≤ 1000000 * 1000000 * 1000000 := Int.mul_le_mul e3 h1 h0 (by decide)
  have e6 : 0 ≤ a * lap * lap := Int.mul_nonneg e4 h0
  omega
theorem mixM {a lap : Int} (h0 : 0 ≤ lap) (h1 : lap ≤ 1000000) (ha : 0 ≤ a) (ha' : a ≤ 1000000) : -(2 ^ 64) < a * lap ∧ a * lap < 2 ^ 64 := by
  have e3 : a * lap ≤ 1000000 * 1000000 := Int.mul_le_mul ha' h1 h0 (by decide)
  have e4 : 0 ≤ a * lap := Int.mul_nonneg ha h0
  omega
theorem erase_perm {α : Type} : ∀ {l : List α} {i : Nat} (h : i < l.length), (l[i] :: l.eraseIdx i).Perm l
  | x :: l, 0, _ => .refl _
  | x :: l, i + 1, h => by
    have h' : i < l.length := by simpa using h
    show (l[i] :: x :: l.eraseIdx i).Perm (x :: l)
    exact (List.Perm.swap x l[i] _).trans ((erase_perm h').cons x)
def spPick (K : PySem.W.Frag) : Sp := fun vs H Q _ => ∃ (p c a : Addr) (xs : List V) (n : Nat), vs = [.ref p, .ref a] ∧ a ≠ p ∧ SqL K H a xs ∧ 0 < xs.length ∧ xs.length ≤ 1000000 ∧ PenAt H p c n ∧ n ≤ 1000000 ∧ ∀ x H', x ∈ xs → Kp p H H' → PenAt H' p c (n + 1) → Q x H'
def spMixed (K : PySem.W.Frag) : Sp := fun vs H Q _ => ∃ (p c a : Addr) (xs : List V) (n : Nat), vs = [.ref p, .ref a] ∧ a ≠ p ∧ SqL K H a xs ∧ xs.length ≤ 1000 ∧ (∀ H', Kp p H H' → ∀ x ∈ xs, Lay K H' x) ∧ PenAt H p c n ∧ n + xs.length ≤ 1000000 ∧
  ∀ H' b ys, Kp p H H' → H b = none → H' b = some (.lst ys) → ys.Perm xs → PenAt H' p c (n + xs.length) → Q (.ref b) H'
end Pen
set_option Elab.async false
set_option linter.all false
set_option maxRecDepth 100000
set_option maxHeartbeats 4000000
/-! # What a law changes: only the objects at W (lists, dicts); data without lists stays. -/
namespace L2
open PySem PySem.Spec PyProof.Rows Pen LamX
/-- lists and dicts -/
def mutO : HO → Bool
  | .lst _ => true
  | .dK _ => true
  | .dT _ => true
  | _ => false
/-- tb: code objects' tables may change, too -/
def Mv (tb : Bool) (W : List Addr) (H H' : Hp) : Prop := ∀ b o, H b = some o → (b ∈ W ∧ mutO o = true ∧ ∃ o', H' b = some o' ∧ mutO o' = true) ∨ (tb = true ∧ ∃ x, o = .tbl x) ∨ H' b = some o
theorem Mv.refl {tb : Bool} (W : List Addr) (H : Hp) : Mv tb W H H := fun _ _ h => .inr (.inr h)
theorem Mv.trans {tb : Bool} {W : List Addr} {H H1 H2 : Hp} (a : Mv tb W H H1) (b : Mv tb W H1 H2) : Mv tb W H H2 := fun c o h => by
  rcases a c o h with ⟨h1, h2, o', h3, h4⟩ | h1 | h1
  · rcases b c o' h3 with ⟨_, _, o2, g3, g4⟩ | ⟨_, x, g⟩ | g
    · exact .inl ⟨h1, h2, o2, g3, g4⟩
    · subst g; exact nomatch h4
    · exact .inl ⟨h1, h2, o', g, h4⟩
  · exact .inr (.inl h1)
  · exact b c o h1
theorem Mv.mono {tb : Bool} {W W' : List Addr} {H H' : Hp} (a : Mv tb W H H') (s : ∀ x ∈ W, x ∈ W') : Mv tb W' H H' := fun c o h => (a c o h).imp (fun ⟨h1, r⟩ => ⟨s c h1, r⟩) id
theorem Same.mv {tb : Bool} {W : List Addr} {H H' : Hp} (s : Same H H') : Mv tb W H H' := fun c o h => .inr (.inr (s c o h))
theorem _root_.LamX.ExtN.mv {W : List Addr} {H H' : Hp} (s : ExtN H H') : Mv true W H H' := fun c o h => by
  by_cases q : ∃ x, o = .tbl x
  · exact .inr (.inl ⟨rfl, q⟩)
  · exact .inr (.inr (s c o h fun x e => q ⟨x, e⟩))
theorem Mv.tb {tb : Bool} {W : List Addr} {H H' : Hp} (s : Mv tb W H H') : Mv true W H H' := fun c o h => (s c o h).imp id fun z => z.imp (fun q => ⟨rfl, q.2⟩) id
theorem Mv.same {H H' : Hp} (s : Mv false [] H H') : Same H H' := fun c o h => by
  rcases s c o h with ⟨h1, _⟩ | ⟨h1, _⟩ | h1
  · exact nomatch h1
  · exact nomatch h1
  · exact h1
theorem Mv.kp {p : Addr} {H H' : Hp} (s : Mv false [p] H H') : Kp p H H' := fun c o n h => by
  rcases s c o h with ⟨h1, _⟩ | ⟨h1, _⟩ | h1
  · exact absurd (List.mem_singleton.mp h1) n
  · exact nomatch h1
  · exact h1
theorem Mv.extN {H H' : Hp} (s : Mv true [] H H') : ExtN H H' := fun c o h n => by
  rcases s c o h with ⟨h1, _⟩ | ⟨_, x, h1⟩ | h1
  · exact nomatch h1
  · exact absurd h1 (n x)
  · exact h1
theorem Kp.mv {tb : Bool} {W : List Addr} {p : Addr} {H H' : Hp} {l l' : List V} (k : Kp p H H') (hp : p ∈ W) (e : H p = some (.lst l)) (e' : H' p = some (.lst l')) : Mv tb W H H' := fun c o h => by
  by_cases q : c = p
  · subst q
    rw [e] at h
    cases h
    exact .inl ⟨hp, rfl, _, e', rfl⟩
  · exact .inr (.inr (k c o q h))
theorem _root_.Pen.PenAt.lst {H : Hp} {p c : Addr} {n : Nat} (h : PenAt H p c n) : ∃ l, H p = some (.lst l) := by
  obtain ⟨ns, lap, rest, h1, h2, _⟩ := h
  exact ⟨_, h2⟩
theorem Kp.pen {tb : Bool} {W : List Addr} {p c : Addr} {n n' : Nat} {H H' : Hp} (k : Kp p H H') (hp : p ∈ W) (e : PenAt H p c n) (e' : PenAt H' p c n') : Mv tb W H H' := by
  obtain ⟨l, h⟩ := e.lst
  obtain ⟨l', h'⟩ := e'.lst
  exact k.mv hp h h'
theorem Mv.upd {tb : Bool} {W : List Addr} {a : Addr} {H : Hp} {o o' : HO} (ha : a ∈ W) (h : H a = some o) (m : mutO o = true) (m' : mutO o' = true) : Mv tb W H (L2.upd H a o') := fun c u e => by
  by_cases q : c = a
  · subst q
    rw [h] at e
    cases e
    exact .inl ⟨ha, m, o', upd_same, m'⟩
  · exact .inr (.inr (by rw [upd_ne q]; exact e))
/-- a new object's change is no change -/
theorem Mv.new {tb : Bool} {W : List Addr} {H H' : Hp} {D : Addr} {o : HO} (s : Mv tb W H H') (h : H D = none) : Mv tb W H (L2.upd H' D o) := fun c u e => by
  have q : c ≠ D := fun z => by rw [z, h] at e; cases e
  rw [upd_ne q]
  exact s c u e
theorem Mv.at_ {tb : Bool} {W : List Addr} {H H' : Hp} {a : Addr} {o : HO} (s : Mv tb W H H') (h : H a = some o) (n : a ∉ W ∨ mutO o = false) (t : ∀ x, o ≠ .tbl x) : H' a = some o := by
  rcases s a o h with ⟨h1, h2, _⟩ | ⟨_, x, h1⟩ | h1
  · rcases n with n | n
    · exact absurd h1 n
    · rw [n] at h2; cases h2
  · exact absurd h1 (t x)
  · exact h1
theorem Mv.sqL {K : PySem.W.Frag} {tb : Bool} {W : List Addr} {H H' : Hp} {a : Addr} {xs : List V} (s : Mv tb W H H') (n : a ∉ W) (h : SqL K H a xs) : SqL K H' a xs := by
  rcases h with (h | ⟨o, h⟩) | h
  · exact .inl (.inl (s.at_ h (.inl n) fun x z => nomatch z))
  · exact .inl (.inr ⟨o, s.at_ h (.inl n) fun x z => nomatch z⟩)
  · exact .inr h
theorem Mv.sqT {K : PySem.W.Frag} {tb : Bool} {W : List Addr} {H H' : Hp} {a : Addr} {xs : List V} (s : Mv tb W H H') (h : SqT K H a xs) : SqT K H' a xs := by
  rcases h with (h | ⟨o, h⟩) | h
  · exact .inl (.inl (s.at_ h (.inr rfl) fun x z => nomatch z))
  · exact .inl (.inr ⟨o, s.at_ h (.inr rfl) fun x z => nomatch z⟩)
  · exact .inr h
mutual
theorem Mv.dp {K : PySem.W.Frag} {tb : Bool} {W : List Addr} {H H' : Hp} (s : Mv tb W H H') : ∀ (d : PyData) (v : V), noList d = true → Dp K H v d → Dp K H' v d
  | .none, _, _, h => by cases h; exact .non
  | .bool b, _, _, h => by cases h; exact .bl b
  | .int i, _, _, h => by cases h; exact .int i
  | .str x, _, _, h => by cases h; exact .str x
  | .list ds, _, n, _ => nomatch n
  | .tuple ds, _, n, h => by
    rw [noList] at n
    cases h with
    | tup hs ha => exact .tup (s.sqT hs) (Mv.dpAll s ds _ n ha)
  | .dict _, _, _, h => nomatch h
theorem Mv.dpAll {K : PySem.W.Frag} {tb : Bool} {W : List Addr} {H H' : Hp} (s : Mv tb W H H') : ∀ (ds : List PyData) (vs : List V), noListL ds = true → DpAll K H vs ds → DpAll K H' vs ds
  | [], _, _, h => by cases h; exact .nil
  | d :: ds, _, n, h => by
    rw [noListL, Bool.and_eq_true] at n
    cases h with
    | cons h1 h2 => exact .cons (Mv.dp s d _ n.1 h1) (Mv.dpAll s ds _ n.2 h2)
end
theorem noListL_all {ds : List PyData} : noListL ds = true ↔ ∀ x ∈ ds, noList x = true := by
  induction ds with
  | nil => exact ⟨fun _ _ h => (nomatch h), fun _ => rfl⟩
  | cons x l ih =>
    rw [noListL, Bool.and_eq_true, ih]
    exact ⟨fun h y hy => (List.mem_cons.mp hy).elim (fun e => e ▸ h.1) (h.2 y), fun h => ⟨h x List.mem_cons_self, fun y hy => h y (List.mem_cons_of_mem _ hy)⟩⟩
/-- a list of such data, not among W -/
structure LD (K : PySem.W.Frag) (W : List Addr) (H : Hp) (a : Addr) (ds : List PyData) : Prop where
  out : a ∉ W
  no : noListL ds = true
  ex : ∃ xs, SqL K H a xs ∧ DpAll K H xs ds
theorem LD.mv {K : PySem.W.Frag} {tb : Bool} {W : List Addr} {H H' : Hp} {a : Addr} {ds : List PyData} (h : LD K W H a ds) (s : Mv tb W H H') : LD K W H' a ds := by
  obtain ⟨xs, h1, h2⟩ := h.ex
  exact ⟨h.out, h.no, xs, s.sqL h.out h1, s.dpAll ds xs h.no h2⟩
theorem LD.dp {K : PySem.W.Frag} {tb : Bool} {W : List Addr} {H : Hp} {a : Addr} {ds : List PyData} (h : LD K W H a ds) : Dp K H (.ref a) (.list ds) := by
  obtain ⟨xs, h1, h2⟩ := h.ex
  exact .lst h1 h2
/-- len(x) -/
def rLenV (K : PySem.W.Frag) : List V → Hp → VK → Prop := fun xs H Q => ∃ x n, xs = [x] ∧ LenV K x H n ∧ Q (.int n) H
theorem call_lenK {X : Cx} : CallR X (.builtin "len") (rLenV X.K) := call_len
/-- a comprehension that makes data: os tells by place what a turn adds; Ex: what else is so -/
theorem lc_dm {K : PySem.W.Frag} {tb : Bool} {W : List Addr} {J : It} {G : Hp → Prop} {n : Nat} {Y : Nat → Hp → V → Hp → Prop} (w : Walk J n G Y) (hY : ∀ i H x H', Y i H x H' → Same H H') {g : TG} {tt : TT} {te : TE} {vs : List Nat} {σ : St} {H1 : Hp} {D : Addr} {Qd : Hp → Prop}
    (os : List (Option PyData)) (noL : ∀ d, some d ∈ os → noList d = true) (ho : os.length = n) (hD : H1 D = none) (hDW : D ∉ W) (hl : n < sizeLine) (Ex : Nat → Hp → Prop) (e0 : Ex 0 (L2.upd H1 D (.lst []))) (hEx : ∀ i H H', Ex i H → Same H H' → Ex i H')
    (hG : ∀ H, Mv tb W H1 H → G H)
    (hs : ∀ (i : Nat) (x : V) (o : Option PyData) (H0 H : Hp), Mv tb W H1 H0 → Y i H0 x H → os[i]? = some o → ∀ acc, H D = some (.lst acc) → acc.length < sizeLine → Ex i H → ∀ Nx : Hp → Prop,
      (∀ H' y d, Mv tb W H H' → o = some d → Dp K H' y d → Ex (i + 1) (L2.upd H' D (.lst (acc ++ [y]))) → Nx (L2.upd H' D (.lst (acc ++ [y])))) → (∀ H', Mv tb W H H' → o = none → Ex (i + 1) H' → Nx H') →
      g x (wipe σ vs) H fun σ2 H2 => wipe σ2 vs = wipe σ vs ∧ tt σ2 H2 fun b H3 => if b = true then te σ2 H3 fun y H4 => ∃ acc, H4 D = some (.lst acc) ∧ acc.length < sizeLine ∧ Nx (L2.upd H4 D (.lst (acc ++ [y]))) else Nx H3)
    (hd : ∀ H xs, Mv tb W H1 H → H D = some (.lst xs) → DpAll K H xs (os.filterMap id) → Ex n H → Qd H) :
    ∃ W' : Nat → Nat → Hp → Prop, (∃ m, W' 0 m (L2.upd H1 D (.lst []))) ∧ ∀ i m H, W' i m H →
      (J.stop i H ∧ Qd H) ∨ (J.go i H ∧ ∃ Nx : Hp → Prop, (∀ H', Nx H' → ∃ m', m' < m ∧ W' (i + 1) m' H') ∧ ∀ x H', J.yld i H x H' → g x (wipe σ vs) H' fun σ2 H2 => wipe σ2 vs = wipe σ vs ∧ tt σ2 H2 fun b H3 =>
        if b = true then te σ2 H3 fun y H4 => ∃ acc, H4 D = some (.lst acc) ∧ acc.length < sizeLine ∧ Nx (L2.upd H4 D (.lst (acc ++ [y]))) else Nx H3) := by
  subst ho
  have noLs : ∀ i, noListL ((os.take i).filterMap id) = true := fun i => by
    rw [noListL_all]
    intro d hd
    obtain ⟨o, ho, e⟩ := List.mem_filterMap.mp hd
    exact noL d (by rw [← (show o = some d from e)]; exact List.mem_of_mem_take ho)
  refine lc_it w (fun i H => Mv tb W H1 H ∧ (∃ acc, H D = some (.lst acc) ∧ DpAll K H acc ((os.take i).filterMap id)) ∧ Ex i H) ⟨(Mv.refl W H1).new hD, ⟨[], upd_same, .nil⟩, e0⟩ (fun i H _ p => hG H p.1) (fun i x H H' hi p y => ?_) (fun H p => ?_)
  · obtain ⟨m, ⟨acc, hacc, hall⟩, ex⟩ := p
    have sy := hY _ _ _ _ y
    obtain ⟨o, eo⟩ : ∃ o, os[i]? = some o := ⟨_, List.getElem?_eq_getElem hi⟩
    have et : os.take (i + 1) = os.take i ++ [o] := by rw [List.take_add_one, eo]; rfl
    have hlen : acc.length < sizeLine := by
      rw [hall.len]
      exact Nat.lt_of_le_of_lt (List.length_filterMap_le id (os.take i)) (Nat.lt_of_le_of_lt (by rw [List.length_take]; exact Nat.min_le_right _ _) hl)
    have hall' := DpAll.same sy _ _ hall
    refine hs i x o _ _ m y eo acc (sy _ _ hacc) hlen (hEx _ _ _ ex sy) _ (fun H'' z d s e dz ez => ?_) (fun H'' s e ez => ?_)
    · refine ⟨?_, ⟨acc ++ [z], upd_same, ?_⟩, ez⟩
      · exact (m.trans (sy.mv.trans s)).new hD
      · have ef : (os.take (i + 1)).filterMap id = (os.take i).filterMap id ++ [d] := by
          rw [et, List.filterMap_append, e]; rfl
        rw [ef]
        have hD2 : H'' D = some (.lst acc) := s.at_ (sy _ _ hacc) (.inl hDW) fun x z => nomatch z
        have al : Mv tb [D] H'' (L2.upd H'' D (.lst (acc ++ [z]))) := Mv.upd (List.mem_singleton.mpr rfl) hD2 rfl rfl
        exact DpAll.snoc (al.dp d z (noL d (by rw [← e]; exact List.mem_of_getElem? eo)) dz) (al.dpAll _ _ (noLs i) (s.dpAll _ _ (noLs i) hall'))
    · refine ⟨m.trans (sy.mv.trans s), ⟨acc, s.at_ (sy _ _ hacc) (.inl hDW) (fun x z => (nomatch z)), ?_⟩, ez⟩
      have ef : (os.take (i + 1)).filterMap id = (os.take i).filterMap id := by
        rw [et, List.filterMap_append, e]; simp
      rw [ef]
      exact s.dpAll _ _ (noLs i) hall'
  · obtain ⟨m, ⟨acc, hacc, hall⟩, ex⟩ := p
    rw [List.take_length] at hall
    exact hd H acc m hacc hall ex
/-- a comprehension that makes data which its turns choose: St tells what may stand behind i turns -/
theorem lc_st {K : PySem.W.Frag} {tb : Bool} {W : List Addr} {J : It} {G : Hp → Prop} {n : Nat} {Y : Nat → Hp → V → Hp → Prop} (w : Walk J n G Y) (hY : ∀ i H x H', Y i H x H' → Same H H') {g : TG} {tt : TT} {te : TE} {vs : List Nat} {σ : St} {H1 : Hp} {D : Addr} {Qd : Hp → Prop}
    (Sd : Nat → List PyData → Prop) (s0 : Sd 0 []) (hD : H1 D = none) (hDW : D ∉ W) (hl : n < sizeLine) (Ex : Nat → Hp → Prop) (e0 : Ex 0 (L2.upd H1 D (.lst []))) (hEx : ∀ i H H', Ex i H → Same H H' → Ex i H')
    (hG : ∀ H, Mv tb W H1 H → G H)
    (hs : ∀ (i : Nat) (x : V) (ds : List PyData) (H0 H : Hp), i < n → Mv tb W H1 H0 → Y i H0 x H → Sd i ds → ∀ acc, H D = some (.lst acc) → acc.length < sizeLine → Ex i H → ∀ Nx : Hp → Prop,
      (∀ H' y d, Mv tb W H H' → Sd (i + 1) (ds ++ [d]) → noList d = true → Dp K H' y d → Ex (i + 1) (L2.upd H' D (.lst (acc ++ [y]))) → Nx (L2.upd H' D (.lst (acc ++ [y])))) → (∀ H', Mv tb W H H' → Sd (i + 1) ds → Ex (i + 1) H' → Nx H') →
      g x (wipe σ vs) H fun σ2 H2 => wipe σ2 vs = wipe σ vs ∧ tt σ2 H2 fun b H3 => if b = true then te σ2 H3 fun y H4 => ∃ acc, H4 D = some (.lst acc) ∧ acc.length < sizeLine ∧ Nx (L2.upd H4 D (.lst (acc ++ [y]))) else Nx H3)
    (hd : ∀ H xs ds, Mv tb W H1 H → H D = some (.lst xs) → DpAll K H xs ds → noListL ds = true → ds.length ≤ n → Sd n ds → Ex n H → Qd H) :
    ∃ W' : Nat → Nat → Hp → Prop, (∃ m, W' 0 m (L2.upd H1 D (.lst []))) ∧ ∀ i m H, W' i m H →
      (J.stop i H ∧ Qd H) ∨ (J.go i H ∧ ∃ Nx : Hp → Prop, (∀ H', Nx H' → ∃ m', m' < m ∧ W' (i + 1) m' H') ∧ ∀ x H', J.yld i H x H' → g x (wipe σ vs) H' fun σ2 H2 => wipe σ2 vs = wipe σ vs ∧ tt σ2 H2 fun b H3 =>
        if b = true then te σ2 H3 fun y H4 => ∃ acc, H4 D = some (.lst acc) ∧ acc.length < sizeLine ∧ Nx (L2.upd H4 D (.lst (acc ++ [y]))) else Nx H3) := by
  refine lc_it w (fun i H => Mv tb W H1 H ∧ (∃ acc ds, H D = some (.lst acc) ∧ DpAll K H acc ds ∧ noListL ds = true ∧ ds.length ≤ i ∧ Sd i ds) ∧ Ex i H) ⟨(Mv.refl W H1).new hD, ⟨[], [], upd_same, .nil, rfl, Nat.le_refl _, s0⟩, e0⟩ (fun i H _ p => hG H p.1) (fun i x H H' hi p y => ?_) (fun H p => ?_)
  · obtain ⟨m, ⟨acc, ds, hacc, hall, hno, hle, hsd⟩, ex⟩ := p
    have sy := hY _ _ _ _ y
    have hlen : acc.length < sizeLine := by
      rw [hall.len]
      omega
    have hall' := DpAll.same sy _ _ hall
    refine hs i x ds _ _ hi m y hsd acc (sy _ _ hacc) hlen (hEx _ _ _ ex sy) _ (fun H'' z d s e nd dz ez => ?_) (fun H'' s e ez => ?_)
    · refine ⟨(m.trans (sy.mv.trans s)).new hD, ⟨acc ++ [z], ds ++ [d], upd_same, ?_, ?_, by rw [List.length_append]; exact Nat.succ_le_succ hle, e⟩, ez⟩
      · have hD2 : H'' D = some (.lst acc) := s.at_ (sy _ _ hacc) (.inl hDW) fun x z => nomatch z
        have al : Mv tb [D] H'' (L2.upd H'' D (.lst (acc ++ [z]))) := Mv.upd (List.mem_singleton.mpr rfl) hD2 rfl rfl
        exact DpAll.snoc (al.dp d z nd dz) (al.dpAll _ _ hno (s.dpAll _ _ hno hall'))
      · rw [noListL_all] at hno ⊢
        intro x hx
        rcases List.mem_append.mp hx with q | q
        · exact hno x q
        · rw [List.mem_singleton.mp q]; exact nd
    · exact ⟨m.trans (sy.mv.trans s), ⟨acc, ds, s.at_ (sy _ _ hacc) (.inl hDW) (fun x z => (nomatch z)), s.dpAll _ _ hno hall', hno, by omega, e⟩, ez⟩
  · obtain ⟨m, ⟨acc, ds, hacc, hall, hno, hle, hsd⟩, ex⟩ := p
    exact hd H acc ds m hacc hall hno hle hsd ex
end L2
set_option Elab.async false
set_option linter.all false
set_option maxRecDepth 100000
set_option maxHeartbeats 4000000
/-! # Data whose lists are none of W: it stays while only W changes. -/
namespace L2
open PySem PySem.Spec PyProof.Rows Pen LamX
mutual
inductive DW (K : PySem.W.Frag) (W : List Addr) (H : Hp) : V → PyData → Prop
  | non : DW K W H .non .none
  | bl (b : Bool) : DW K W H (.bl b) (.bool b)
  | int (i : Int) : DW K W H (.int i) (.int i)
  | str (x : Str) : DW K W H (.str x) (.str x)
  | lst {a : Addr} {xs : List V} {ds : List PyData} : a ∉ W → H a = some (.lst xs) → DWAll K W H xs ds → DW K W H (.ref a) (.list ds)
  | tup {a : Addr} {xs : List V} {ds : List PyData} : SqT K H a xs → DWAll K W H xs ds → DW K W H (.ref a) (.tuple ds)
inductive DWAll (K : PySem.W.Frag) (W : List Addr) (H : Hp) : List V → List PyData → Prop
  | nil : DWAll K W H [] []
  | cons {v : V} {vs : List V} {d : PyData} {ds : List PyData} : DW K W H v d → DWAll K W H vs ds → DWAll K W H (v :: vs) (d :: ds)
end
section
variable {K : PySem.W.Frag} {W W' : List Addr} {H H' : Hp} {tb : Bool}
mutual
theorem DW.dp : ∀ (d : PyData) (v : V), DW K W H v d → Dp K H v d
  | .none, _, h => by cases h; exact .non
  | .bool b, _, h => by cases h; exact .bl b
  | .int i, _, h => by cases h; exact .int i
  | .str x, _, h => by cases h; exact .str x
  | .list ds, _, h => by cases h with | lst n hs ha => exact .lst (.inl (.inl hs)) (DWAll.dp ds _ ha)
  | .tuple ds, _, h => by cases h with | tup hs ha => exact .tup hs (DWAll.dp ds _ ha)
  | .dict _, _, h => nomatch h
theorem DWAll.dp : ∀ (ds : List PyData) (vs : List V), DWAll K W H vs ds → DpAll K H vs ds
  | [], _, h => by cases h; exact .nil
  | d :: ds, _, h => by cases h with | cons h1 h2 => exact .cons (DW.dp d _ h1) (DWAll.dp ds _ h2)
end
mutual
/-- under a change of W alone; the list of what is let be may grow by what did not stand there -/
theorem Mv.dw (s : Mv tb W H H') (hW : ∀ a ∈ W', a ∈ W ∨ H a = none) : ∀ (d : PyData) (v : V), DW K W H v d → DW K W' H' v d
  | .none, _, h => by cases h; exact .non
  | .bool b, _, h => by cases h; exact .bl b
  | .int i, _, h => by cases h; exact .int i
  | .str x, _, h => by cases h; exact .str x
  | .list ds, _, h => by
    cases h with
    | lst n hs ha =>
      refine .lst (fun z => ?_) (s.at_ hs (.inl n) fun x z => nomatch z) (Mv.dwAll s hW ds _ ha)
      rcases hW _ z with z2 | z2
      · exact n z2
      · rw [hs] at z2; cases z2
  | .tuple ds, _, h => by cases h with | tup hs ha => exact .tup (s.sqT hs) (Mv.dwAll s hW ds _ ha)
  | .dict _, _, h => nomatch h
theorem Mv.dwAll (s : Mv tb W H H') (hW : ∀ a ∈ W', a ∈ W ∨ H a = none) : ∀ (ds : List PyData) (vs : List V), DWAll K W H vs ds → DWAll K W' H' vs ds
  | [], _, h => by cases h; exact .nil
  | d :: ds, _, h => by cases h with | cons h1 h2 => exact .cons (Mv.dw s hW d _ h1) (Mv.dwAll s hW ds _ h2)
end
theorem Mv.dw' (s : Mv tb W H H') {d : PyData} {v : V} (h : DW K W H v d) : DW K W H' v d := s.dw (fun _ z => .inl z) d v h
theorem Mv.dwAll' (s : Mv tb W H H') {ds : List PyData} {vs : List V} (h : DWAll K W H vs ds) : DWAll K W H' vs ds := s.dwAll (fun _ z => .inl z) ds vs h
theorem Same.dw (s : Same H H') {d : PyData} {v : V} (h : DW K W H v d) : DW K W H' v d := (s.mv (tb := false)).dw (fun _ z => .inl z) d v h
theorem Same.dwAll (s : Same H H') {ds : List PyData} {vs : List V} (h : DWAll K W H vs ds) : DWAll K W H' vs ds := (s.mv (tb := false)).dwAll (fun _ z => .inl z) ds vs h
mutual
theorem DW.of : ∀ (d : PyData) (v : V), noList d = true → Dp K H v d → DW K W H v d
  | .none, _, _, h => by cases h; exact .non
  | .bool b, _, _, h => by cases h; exact .bl b
  | .int i, _, _, h => by cases h; exact .int i
  | .str x, _, _, h => by cases h; exact .str x
  | .list ds, _, n, _ => nomatch n
  | .tuple ds, _, n, h => by
    rw [noList] at n
    cases h with
    | tup hs ha => exact .tup hs (DWAll.of ds _ n ha)
  | .dict _, _, _, h => nomatch h
theorem DWAll.of : ∀ (ds : List PyData) (vs : List V), noListL ds = true → DpAll K H vs ds → DWAll K W H vs ds
  | [], _, _, h => by cases h; exact .nil
  | d :: ds, _, n, h => by
    rw [noListL, Bool.and_eq_true] at n
    cases h with
    | cons h1 h2 => exact .cons (DW.of d _ n.1 h1) (DWAll.of ds _ n.2 h2)
end
theorem DWAll.len : ∀ {vs : List V} {ds : List PyData}, DWAll K W H vs ds → vs.length = ds.length
  | _, _, .nil => rfl
  | _, _, .cons _ t => congrArg (· + 1) t.len
theorem DWAll.at_ : ∀ {vs : List V} {ds : List PyData} {i : Nat} {v : V}, DWAll K W H vs ds → vs[i]? = some v → ∃ d, ds[i]? = some d ∧ DW K W H v d
  | _, _, 0, _, .cons h t, e => by
    cases e
    exact ⟨_, rfl, h⟩
  | _, _, i + 1, _, .cons h t, e => t.at_ (i := i) e
theorem DWAll.to : ∀ {vs : List V} {ds : List PyData} {i : Nat} {d : PyData}, DWAll K W H vs ds → ds[i]? = some d → ∃ v, vs[i]? = some v ∧ DW K W H v d
  | _, _, 0, _, .cons h t, e => by
    cases e
    exact ⟨_, rfl, h⟩
  | _, _, i + 1, _, .cons h t, e => t.to (i := i) e
theorem DWAll.mem {vs : List V} {ds : List PyData} {v : V} (h : DWAll K W H vs ds) (hv : v ∈ vs) : ∃ d ∈ ds, DW K W H v d := by
  obtain ⟨i, hi⟩ := List.mem_iff_getElem?.mp hv
  obtain ⟨d, hd, e⟩ := h.at_ hi
  exact ⟨d, List.mem_of_getElem? hd, e⟩
theorem DWAll.snoc {v : V} {d : PyData} (h : DW K W H v d) : ∀ {vs : List V} {ds : List PyData}, DWAll K W H vs ds → DWAll K W H (vs ++ [v]) (ds ++ [d])
  | _, _, .nil => .cons h .nil
  | _, _, .cons h1 t => .cons h1 (DWAll.snoc h t)
theorem DWAll.app : ∀ {xs : List V} {ds : List PyData} {ys : List V} {es : List PyData}, DWAll K W H xs ds → DWAll K W H ys es → DWAll K W H (xs ++ ys) (ds ++ es)
  | _, _, _, _, .nil, h => h
  | _, _, _, _, .cons h t, g => .cons h (DWAll.app t g)
theorem DWAll.map {α : Type} {f : α → V} {g : α → PyData} : ∀ (l : List α), (∀ x ∈ l, DW K W H (f x) (g x)) → DWAll K W H (l.map f) (l.map g)
  | [], _ => .nil
  | x :: l, h => .cons (h x List.mem_cons_self) (DWAll.map l fun y hy => h y (List.mem_cons_of_mem _ hy))
theorem DWAll.rev {vs : List V} {ds : List PyData} (h : DWAll K W H vs ds) : DWAll K W H vs.reverse ds.reverse := by
  match vs, ds, h with
  | _, _, .nil => exact .nil
  | _, _, .cons h1 t =>
    rw [List.reverse_cons, List.reverse_cons]
    exact t.rev.snoc h1
end
/-- a comprehension that makes data: Sd tells what may stand behind i turns; Ex: what else is so -/
theorem lc_dw {K : PySem.W.Frag} {tb : Bool} {W : List Addr} {J : It} {G : Hp → Prop} {n : Nat} {Y : Nat → Hp → V → Hp → Prop} (w : Walk J n G Y) (hY : ∀ i H x H', Y i H x H' → Same H H') {g : TG} {tt : TT} {te : TE} {vs : List Nat} {σ : St} {H1 : Hp} {D : Addr} {Qd : Hp → Prop}
    (Sd : Nat → List PyData → Prop) (s0 : Sd 0 []) (hD : H1 D = none) (hDW : D ∉ W) (hl : n < sizeLine) (Ex : Nat → Hp → Prop) (e0 : Ex 0 (L2.upd H1 D (.lst []))) (hEx : ∀ i H H', Ex i H → Same H H' → Ex i H')
    (hG : ∀ H, Mv tb W H1 H → G H)
    (hs : ∀ (i : Nat) (x : V) (ds : List PyData) (H0 H : Hp), i < n → Mv tb W H1 H0 → Y i H0 x H → Sd i ds → ∀ acc, H D = some (.lst acc) → acc.length < sizeLine → Ex i H → ∀ Nx : Hp → Prop,
      (∀ H' y d, Mv tb W H H' → Sd (i + 1) (ds ++ [d]) → DW K (D :: W) H' y d → Ex (i + 1) (L2.upd H' D (.lst (acc ++ [y]))) → Nx (L2.upd H' D (.lst (acc ++ [y])))) → (∀ H', Mv tb W H H' → Sd (i + 1) ds → Ex (i + 1) H' → Nx H') →
      g x (wipe σ vs) H fun σ2 H2 => wipe σ2 vs = wipe σ vs ∧ tt σ2 H2 fun b H3 => if b = true then te σ2 H3 fun y H4 => ∃ acc, H4 D = some (.lst acc) ∧ acc.length < sizeLine ∧ Nx (L2.upd H4 D (.lst (acc ++ [y]))) else Nx H3)
    (hd : ∀ H xs ds, Mv tb W H1 H → H D = some (.lst xs) → DWAll K W H xs ds → ds.length ≤ n → Sd n ds → Ex n H → Qd H) :
    ∃ W' : Nat → Nat → Hp → Prop, (∃ m, W' 0 m (L2.upd H1 D (.lst []))) ∧ ∀ i m H, W' i m H →
      (J.stop i H ∧ Qd H) ∨ (J.go i H ∧ ∃ Nx : Hp → Prop, (∀ H', Nx H' → ∃ m', m' < m ∧ W' (i + 1) m' H') ∧ ∀ x H', J.yld i H x H' → g x (wipe σ vs) H' fun σ2 H2 => wipe σ2 vs = wipe σ vs ∧ tt σ2 H2 fun b H3 =>
        if b = true then te σ2 H3 fun y H4 => ∃ acc, H4 D = some (.lst acc) ∧ acc.length < sizeLine ∧ Nx (L2.upd H4 D (.lst (acc ++ [y]))) else Nx H3) := by
  refine lc_it w (fun i H => Mv tb W H1 H ∧ (∃ acc ds, H D = some (.lst acc) ∧ DWAll K (D :: W) H acc ds ∧ ds.length ≤ i ∧ Sd i ds) ∧ Ex i H) ⟨(Mv.refl W H1).new hD, ⟨[], [], upd_same, .nil, Nat.le_refl _, s0⟩, e0⟩ (fun i H _ p => hG H p.1) (fun i x H H' hi p y => ?_) (fun H p => ?_)
  · obtain ⟨m, ⟨acc, ds, hacc, hall, hle, hsd⟩, ex⟩ := p
    have sy := hY _ _ _ _ y
    have hlen : acc.length < sizeLine := by
      rw [hall.len]
      omega
    have hall' := sy.dwAll hall
    have up : ∀ {H H' : Hp}, Mv tb W H H' → Mv tb (D :: W) H H' := fun s => s.mono fun x hx => List.mem_cons_of_mem _ hx
    refine hs i x ds _ _ hi m y hsd acc (sy _ _ hacc) hlen (hEx _ _ _ ex sy) _ (fun H'' z d s e dz ez => ?_) (fun H'' s e ez => ?_)
    · refine ⟨(m.trans (sy.mv.trans s)).new hD, ⟨acc ++ [z], ds ++ [d], upd_same, ?_, by rw [List.length_append]; exact Nat.succ_le_succ hle, e⟩, ez⟩
      have hD2 : H'' D = some (.lst acc) := s.at_ (sy _ _ hacc) (.inl hDW) fun x z => nomatch z
      have al : Mv tb (D :: W) H'' (L2.upd H'' D (.lst (acc ++ [z]))) := Mv.upd List.mem_cons_self hD2 rfl rfl
      exact DWAll.snoc (al.dw' dz) (al.dwAll' ((up s).dwAll' hall'))
    · exact ⟨m.trans (sy.mv.trans s), ⟨acc, ds, s.at_ (sy _ _ hacc) (.inl hDW) (fun x z => (nomatch z)), (up s).dwAll' hall', by omega, e⟩, ez⟩
  · obtain ⟨m, ⟨acc, ds, hacc, hall, hle, hsd⟩, ex⟩ := p
    exact hd H acc ds m hacc ((Mv.refl (tb := false) (D :: W) H).dwAll (fun a ha => .inl (List.mem_cons_of_mem _ ha)) _ _ hall) hle hsd ex
end L2
set_option Elab.async false
set_option linter.all false
set_option maxRecDepth 100000
set_option maxHeartbeats 4000000
/-! # Rules whose reading names K alone (for comprehensions), and small words. -/
namespace L2
open PySem PySem.Spec PyProof.Rows
theorem xt_walk {K : PySem.W.Frag} (a : Addr) (xs : List V) : Walk (Itt K a) xs.length (fun H => SqT K H a xs) (fun i H x H' => H' = H ∧ xs[i]? = some x) := walk_tup
theorem xl_walk {K : PySem.W.Frag} (a : Addr) (xs : List V) : Walk (Itl K a) xs.length (fun H => SqL K H a xs) (fun i H x H' => H' = H ∧ xs[i]? = some x) := walk_list
/-- list(xs) -/
def rListOf (K : PySem.W.Frag) : List V → Hp → VK → Prop := fun xs H Q => ∃ p ys, xs = [.ref p] ∧ (SqL K H p ys ∨ SqT K H p ys) ∧ ∀ l, H l = none → Q (.ref l) (upd H l (.lst ys))
theorem call_listK {X : Cx} : CallR X (.type "list") (rListOf X.K) := call_list_of
/-- tuple(xs) -/
def rTupleOf (K : PySem.W.Frag) : List V → Hp → VK → Prop := fun xs H Q => ∃ p ys, xs = [.ref p] ∧ ((SqL K H p ys ∧ ∀ l, H l = none → Q (.ref l) (upd H l (.tup ys))) ∨ (SqT K H p ys ∧ Q (.ref p) H))
theorem call_tupleK {X : Cx} : CallR X (.type "tuple") (rTupleOf X.K) := call_tuple_of
mutual
theorem fixD_id : ∀ d : PyData, noList d = true → fixD d = d
  | .list _, h => nomatch h
  | .tuple xs, h => by
    rw [noList] at h
    rw [fixD, fixL_id xs h]
  | .none, _ => rfl
  | .bool _, _ => rfl
  | .int _, _ => rfl
  | .str _, _ => rfl
  | .dict _, _ => rfl
theorem fixL_id : ∀ xs : List PyData, noListL xs = true → fixL xs = xs
  | [], _ => rfl
  | x :: xs, h => by
    rw [noListL, Bool.and_eq_true] at h
    rw [fixL, fixD_id x h.1, fixL_id xs h.2]
end
/-- may be compared -/
def LayN (d : PyData) (n : Nat) : Prop := d.canLay0 = true ∧ d.depth ≤ n
theorem LayN.list {ds : List PyData} {n : Nat} (h : ∀ d ∈ ds, LayN d n) : LayN (.list ds) (n + 1) := by
  obtain ⟨a, b⟩ := lay_all h
  exact ⟨a, by show PyData.depthAll ds + 1 ≤ n + 1; omega⟩
theorem LayN.tuple {ds : List PyData} {n : Nat} (h : ∀ d ∈ ds, LayN d n) : LayN (.tuple ds) (n + 1) := by
  obtain ⟨a, b⟩ := lay_all h
  exact ⟨a, by show PyData.depthAll ds + 1 ≤ n + 1; omega⟩
theorem LayN.mono {d : PyData} {n m : Nat} (h : LayN d n) (k : n ≤ m) : LayN d m := ⟨h.1, Nat.le_trans h.2 k⟩
theorem LayN.shaped {d : PyData} {n : Nat} (h : LayN d n) (k : n ≤ 64) : SeqAt.shaped d = true := by
  unfold SeqAt.shaped
  rw [Bool.and_eq_true]
  exact ⟨h.1, decide_eq_true (Nat.le_trans h.2 k)⟩
theorem LayN.int (i : Int) (n : Nat) : LayN (.int i) n := ⟨rfl, Nat.zero_le _⟩
theorem LayN.none (n : Nat) : LayN .none n := ⟨rfl, Nat.zero_le _⟩
theorem LayN.bool (b : Bool) (n : Nat) : LayN (.bool b) n := ⟨rfl, Nat.zero_le _⟩
theorem LayN.str {x : Str} (h : PyData.canLay0 (.str x) = true) (n : Nat) : LayN (.str x) n := ⟨h, Nat.zero_le _⟩
theorem LayN.eq {d : PyData} {n : Nat} (h : LayN d n) : PyData.eqv d d = true := SeqAt.eqv_refl d h.1
/-- x != y of the same data -/
theorem ne_same {K : PySem.W.Frag} {H : Hp} {x y : V} {d : PyData} {n : Nat} {Q : VK} (hx : Dp K H x d) (hy : Dp K H y d) (l : LayN d n) (hn : n ≤ 64) (q : Q (.bl false) H) : rNeD K x y H Q :=
  ⟨d, d, hx, hy, l.shaped hn, l.shaped hn, by rw [l.eq]; exact q⟩
theorem DWAll.drop {K : PySem.W.Frag} {W : List Addr} {H : Hp} : ∀ {vs : List V} {ds : List PyData} (n : Nat), DWAll K W H vs ds → DWAll K W H (vs.drop n) (ds.drop n)
  | _, _, 0, h => h
  | _, _, _ + 1, .nil => .nil
  | _, _, n + 1, .cons _ t => t.drop n
theorem DWAll.take {K : PySem.W.Frag} {W : List Addr} {H : Hp} : ∀ {vs : List V} {ds : List PyData} (n : Nat), DWAll K W H vs ds → DWAll K W H (vs.take n) (ds.take n)
  | _, _, 0, _ => .nil
  | _, _, _ + 1, .nil => .nil
  | _, _, n + 1, .cons h t => .cons h (t.take n)
end L2
set_option Elab.async false
set_option linter.all false
set_option maxRecDepth 100000
set_option maxHeartbeats 4000000
/-! # Sets of tuples whose parts are ints and texts: set(list), sorted(set). -/
namespace SetP
open PySem PySem.Spec PyProof.Rows L2

/-- at a stands a tuple with the parts k -/
abbrev Tk (P : Program) (w : World) (h : Heap) (k : List Key) (a : Addr) : Prop := IsTupleKey (mixKind P w) h k a
abbrev hk (P : Program) (w : World) (k : List Key) : Int := tupleKeyHash (mixKind P w) k
abbrev Row := Addr × List Key

/-! ### what the model asks of such a tuple -/
section
variable {P : Program} {w : World} {A : Around} {E : Value → Shared → Prop} {s : Shared}
theorem parts {k : List Key} {vs : List Value} (h : ItemsAre (mixKind P w) k vs) : ∀ v ∈ vs, ∃ q, keyIs q v = true := by
  induction h with
  | nil => exact fun v hv => nomatch hv
  | @cons q u ks us h1 _ ih =>
    intro v hv
    cases hv with
    | head => exact ⟨q, h1⟩
    | tail _ hv => exact ih v hv
theorem part_cls {q : Key} {v : Value} (h : keyIs q v = true) (n : Nat) : ofAClassStatement n v = pure false := by
  rcases keyIs_shape h with ⟨i, t, _, e⟩ | ⟨x, t, _, e⟩ <;> subst e <;> cases n <;> rfl
theorem part_hash {q : Key} {v : Value} (h : keyIs q v = true) (n : Nat) : ∃ b, hashByValue n v = pure b := by
  rcases keyIs_shape h with ⟨i, t, _, e⟩ | ⟨x, t, _, e⟩ <;> subst e
  · exact ⟨true, by cases n <;> rfl⟩
  · exact ⟨false, by cases n <;> rfl⟩
theorem tk_cls {k : List Key} {b : Addr} {Q : Bool → Shared → Prop} (x : Tk P w s.heap k b) (q : Q false s) : wpAny (model P w) A (ofAClassStatement 8 (.ref b)) Q E s := by
  have ty := x.typeIs
  obtain ⟨o, its, n, at_, _, dat, it⟩ := x
  unfold ofAClassStatement
  refine wpAny_bind (wpAny_typeOf ty ?_)
  dsimp only
  rw [show (("tuple" : String) == "tuple") = true from by decide]
  simp only [if_true, Bool.not_true, Bool.false_eq_true, if_false]
  first
    | (refine wpAny_bind (wpAny_pure ?_); simp only [Bool.not_true, Bool.false_eq_true, if_false])
    | skip
  show wpAny _ _ (seqItems? (.ref b) >>= _) _ _ s
  refine wpAny_bind (wpAny_seqItems at_ dat ?_)
  dsimp only
  refine wpAny_bind ?_
  show wpAny _ _ (forIn its _ _) _ _ s
  rw [← Array.forIn_toList]
  refine wpAny_forIn_list _ (fun todo r s' => r.1 = none ∧ s' = s ∧ ∀ v ∈ todo, ∃ q, keyIs q v = true) _ (fun v todo r s' hj => ?_) (fun r s' hj => ?_) _ _ ⟨rfl, rfl, parts it⟩
  · obtain ⟨_, rfl, all⟩ := hj
    obtain ⟨q0, h0⟩ := all v (.head _)
    rw [part_cls h0]
    refine wpAny_bind (wpAny_pure ?_)
    simp only [Bool.false_eq_true, if_false]
    exact wpAny_pure ⟨rfl, rfl, fun u hu => all u (.tail _ hu)⟩
  · obtain ⟨r1, r2⟩ := r
    obtain ⟨hr, rfl, _⟩ := hj
    simp only at hr
    subst hr
    exact wpAny_pure q
theorem tk_hbv {k : List Key} {b : Addr} {Q : Bool → Shared → Prop} (x : Tk P w s.heap k b) (q : ∀ v, Q v s) : wpAny (model P w) A (hashByValue 8 (.ref b)) Q E s := by
  have ty := x.typeIs
  obtain ⟨o, its, n, at_, _, dat, it⟩ := x
  unfold hashByValue
  refine wpAny_bind (wpAny_specialOf ty F.slot_tuple_hash.lookup ?_)
  show wpAny _ _ (seqItems? (.ref b) >>= _) _ _ s
  refine wpAny_bind (wpAny_seqItems at_ dat ?_)
  refine wpAny_bind ?_
  show wpAny _ _ (forIn its _ _) _ _ s
  rw [← Array.forIn_toList]
  refine wpAny_forIn_list _ (fun todo r s' => s' = s ∧ ∀ v ∈ todo, ∃ q, keyIs q v = true) _ (fun v todo r s' hj => ?_) (fun r s' hj => ?_) _ _ ⟨rfl, parts it⟩
  · obtain ⟨rfl, all⟩ := hj
    obtain ⟨q0, h0⟩ := all v (.head _)
    obtain ⟨bb, eb⟩ := part_hash h0 7
    rw [eb]
    refine wpAny_bind (wpAny_pure ?_)
    cases bb
    · simp only [Bool.not_false, if_true]
      exact wpAny_pure (wpAny_pure (q false))
    · simp only [Bool.not_true, Bool.false_eq_true, if_false]
      exact wpAny_pure ⟨rfl, fun u hu => all u (.tail _ hu)⟩
  · obtain ⟨r1, r2⟩ := r
    obtain ⟨rfl, _⟩ := hj
    cases r1 with
    | none => exact wpAny_pure (q _)
    | some v => exact wpAny_pure (q _)
end

/-! ### the set as it stands -/
abbrev ent (P : Program) (w : World) (r : Row) : Int × Value := (hk P w r.2, Value.ref r.1)
structure Holds (P : Program) (w : World) (h : Heap) (a : Addr) (L : List Row) (es : Array (Int × Value)) (ep : Nat) (t : SetTable) : Prop where
  obj : ∃ o, h.get? a = some o ∧ o.ExactSet ∧ o.data = .set es ep t
  rows : es.toList = L.map (ent P w)
  tab : TabOk t (L.map fun r => hk P w r.2)
  nd : (L.map (·.2)).Nodup
  tks : ∀ r ∈ L, Tk P w h r.2 r.1
  led : w.params.followText "set-order" = true ∨ t.led = true
  room : L.length * 5 < t.mask * 3
  few : L.length < 64
/-- the c-th stop of the way of the hash h -/
abbrev stop (m : Nat) (h : Int) (c : Nat) : SetTable.Probe := nth m (runAt m (SetTable.bits h % (m + 1)) (SetTable.bits h)) c
theorem stop_add (m : Nat) (h : Int) (c q : Nat) : nth m (stop m h c) q = stop m h (c + q) := (nth_add m c _ q).symm
theorem nth_dummy (m : Nat) : ∀ (n : Nat) (p : SetTable.Probe), p.dummy = none → (nth m p n).dummy = none
  | 0, _, e => e
  | n + 1, p, e => nth_dummy m n (adv m p) (by unfold adv; split <;> exact e)
section
variable {P : Program} {w : World} {A : Around} {E : Value → Shared → Prop} {s : Shared} {a : Addr} {L : List Row} {es : Array (Int × Value)} {ep : Nat} {t : SetTable} {h : Heap}
theorem Holds.len (R : Holds P w h a L es ep t) : es.size = L.length := by
  rw [← Array.length_toList, R.rows, List.length_map]
theorem Holds.plen (R : Holds P w h a L es ep t) : t.place.toList.length = L.length := by
  rw [Array.length_toList, R.tab.sz, List.length_map]
theorem Holds.fits (R : Holds P w h a L es ep t) : t.fits es.size = true := by
  have h1 := R.plen
  have h2 := R.len
  have h3 := R.room
  rw [Array.length_toList] at h1
  simp only [SetTable.fits, SetTable.fill, R.tab.dm, Bool.and_eq_true, beq_iff_eq, decide_eq_true_eq]
  exact ⟨by omega, by show t.place.size + 0 ≤ t.mask; omega⟩
theorem Holds.at_ (R : Holds P w h a L es ep t) {i : Nat} {r : Row} (e : L[i]? = some r) : es[i]? = some (ent P w r) := by
  rw [← Array.getElem?_toList, R.rows, List.getElem?_map, e]; rfl
theorem odd_mask (R : Holds P w h a L es ep t) : ¬ t.gaveWay = true := by
  rw [show t.gaveWay = (t.mask % 2 == 0) from rfl, mask_odd R.tab.mok]
  decide

/-- the search, from its c-th stop on: whoever has the key k stands ahead -/
theorem seek (R : Holds P w s.heap a L es ep t) {x : Addr} {k : List Key} (hx : Tk P w s.heap k x) (hu : A.units < cLine) {K : Nat} (big : K < 10 * SetTable.turns t.mask)
    (free : (stop t.mask (hk P w k) K).j ∉ t.place.toList) (full : ∀ c, c < K → (stop t.mask (hk P w k) c).j ∈ t.place.toList) {Q : SetFound → Shared → Prop}
    (yes : k ∈ L.map (·.2) → Q (.there none) s) (no : k ∉ L.map (·.2) → Q (.free (stop t.mask (hk P w k) K).j false) s) :
    ∀ (f c : Nat) (from_ : Option SetTable.Probe), from_.getD (t.probeStart (hk P w k)) = stop t.mask (hk P w k) c → c ≤ K → K < c + f →
      (∀ (i : Nat) r, L[i]? = some r → r.2 = k → ∃ c', c ≤ c' ∧ c' < K ∧ t.place.toList[i]? = some (stop t.mask (hk P w k) c').j) →
      wpAny (model P w) A (setSearchFrom a (.ref x) (hk P w k) true f from_) Q E s := by
  obtain ⟨o, ho, hex, hd⟩ := R.obj
  intro f
  induction f with
  | zero => intro c _ _ h1 h2; exact absurd h2 (by omega)
  | succ f ih =>
    intro c from_ hfrom hc hf ahead
    rw [setSearchFrom_succ]
    refine wpAny_bind (wpAny_setState_of ho hd R.fits ?_)
    dsimp only
    refine wp_if_neg (odd_mask R) ?_
    have hashed : ∀ (i : Nat) r, L[i]? = some r → (es[i]?.map (·.1)).getD 0 = hk P w r.2 := fun i r e => by rw [R.at_ e]; rfl
    have pos : ∀ q, (nth t.mask (stop t.mask (hk P w k) c) q).j = (stop t.mask (hk P w k) (c + q)).j := fun q => by rw [stop_add]
    have toK : c + (K - c) = K := by omega
    rcases go_spec t R.tab.ris R.tab.dm (fun i => (es[i]?.map (·.1)).getD 0) (hk P w k) (10 * SetTable.turns t.mask) (K - c) (stop t.mask (hk P w k) c) (nth_dummy _ c _ rfl) (by omega)
      (fun q hq => by rw [pos]; exact full _ (by omega)) (by rw [pos, toK]; exact free) with ⟨q, i, hq, hi, _, unlike, met⟩ | ⟨unlike, met⟩
    · rw [pos] at hi
      have met' : t.probe (fun i => (es[i]?.map (·.1)).getD 0) (hk P w k) (from_.getD (t.probeStart (hk P w k))) = some (.candidate (stop t.mask (hk P w k) (c + q)).j i (stop t.mask (hk P w k) (c + (q + 1)))) := by
        rw [hfrom, ← stop_add, ← stop_add]; exact met
      rw [met']
      dsimp only
      obtain ⟨r, hr⟩ : ∃ r, L[i]? = some r := ⟨_, List.getElem?_eq_getElem (by rw [← R.plen]; exact (List.getElem?_eq_some_iff.mp hi).1)⟩
      have rm : r ∈ L := List.mem_of_getElem? hr
      have live : t.slot (stop t.mask (hk P w k) (c + q)).j = .live i := slot_live R.tab.ris hi
      have after : wpAny (model P w) A (searchRest a (.ref x) (hk P w k) true f es t (stop t.mask (hk P w k) (c + q)).j i (stop t.mask (hk P w k) (c + (q + 1)))) Q E s := by
        unfold searchRest
        rw [R.at_ hr]
        dsimp only
        refine wpAny_bind (wpAny_holding (wpAny_eqBool_tuple hu (R.tks r rm) hx ?_))
        refine wpAny_bind (wpAny_setState_of ho hd R.fits ?_)
        dsimp only
        rcases Classical.em (r.2 = k) with same | other
        · refine wp_if_pos (by simp [same]) (wpAny_pure (yes (List.mem_map.mpr ⟨r, rm, same⟩)))
        · refine wp_if_neg (by simp [other]) ?_
          rw [sameMem]
          dsimp only
          simp only [if_true, live, R.at_ hr]
          refine wpAny_bind (wpAny_isSame_ref_self (wpAny_bind (wpAny_pure ?_)))
          simp only [if_true]
          refine wp_if_neg (by simp [other]) ?_
          refine ih (c + (q + 1)) _ rfl (by omega) (by omega) fun i' r' e' k' => ?_
          obtain ⟨c', l1, l2, l3⟩ := ahead i' r' e' k'
          refine ⟨c', ?_, l2, l3⟩
          rcases Nat.lt_trichotomy c' (c + q) with z | z | z
          · refine absurd ((hashed i' r' e').trans (congrArg (hk P w) k')) (unlike (c' - c) i' (by omega) ?_)
            rw [pos, show c + (c' - c) = c' by omega]; exact l3
          · subst z
            have two := slot_live R.tab.ris l3
            rw [live] at two
            injection two with two
            subst two
            exact absurd ((congrArg Prod.snd (Option.some.inj (hr.symm.trans e'))).trans k') other
          · omega
      by_cases hl : t.led = true
      · exact wp_if_neg (by simp [hl]) after
      · refine wp_if_pos (by simp [hl]) ?_
        refine wpAny_bind ?_
        unfold searchCouldBeSeen
        refine wpAny_bind (wpAny_forIn_list _ (fun todo r s' => r.1 = none ∧ s' = s ∧ ∀ y ∈ todo, ∃ k' c, y = Value.ref c ∧ Tk P w s.heap k' c) _ (fun y todo r s' hj => ?_) (fun r s' hj => ?_) _ _ ⟨rfl, rfl, fun y hy => ?_⟩)
        · obtain ⟨_, rfl, all⟩ := hj
          obtain ⟨k', b, rfl, hb⟩ := all y (.head _)
          have more : ∀ z ∈ todo, ∃ k' c, z = Value.ref c ∧ Tk P w s'.heap k' c := fun z hz => all z (.tail _ hz)
          dsimp only
          by_cases hv : (x == b || (carriedByValue (.ref x) && carriedByValue (.ref b))) = true
          · exact wp_if_pos hv (wpAny_pure ⟨rfl, rfl, more⟩)
          · refine wp_if_neg hv ?_
            refine wpAny_bind (wpAny_eqIsQuiet_tuple hx ?_)
            simp only [Bool.not_true, Bool.false_eq_true, if_false]
            refine wpAny_bind (wpAny_eqIsQuiet_tuple hb ?_)
            simp only [Bool.not_true, Bool.false_eq_true, if_false]
            refine wpAny_bind (tk_cls hx ?_)
            simp only [Bool.false_eq_true, if_false]
            refine wpAny_bind (tk_cls hb ?_)
            simp only [Bool.false_eq_true, if_false]
            exact wpAny_pure ⟨rfl, rfl, more⟩
        · obtain ⟨r1, r2⟩ := r
          obtain ⟨hr1, rfl, _⟩ := hj
          simp only at hr1
          subst hr1
          refine wpAny_pure ?_
          exact wp_if_neg (by decide) after
        · obtain ⟨e0, he0, e1⟩ := List.mem_map.mp hy
          have in_ : e0 ∈ es.toList := by
            have z : e0 ∈ es ∧ e0.1 = hk P w k := by simpa using he0
            simpa using z.1
          rw [R.rows] at in_
          obtain ⟨r2, m2, e2⟩ := List.mem_map.mp in_
          exact ⟨r2.2, r2.1, by rw [← e1, ← e2], R.tks r2 m2⟩
    · have met' : t.probe (fun i => (es[i]?.map (·.1)).getD 0) (hk P w k) (from_.getD (t.probeStart (hk P w k))) = some (.empty (stop t.mask (hk P w k) K).j none) := by
        rw [hfrom]
        exact met.trans (by rw [pos, toK])
      rw [met']
      dsimp only
      refine wpAny_pure (no fun hm => ?_)
      obtain ⟨r, rm, hrk⟩ := List.mem_map.mp hm
      obtain ⟨i, hi⟩ := List.getElem?_of_mem rm
      obtain ⟨c', l1, l2, l3⟩ := ahead i r hi hrk
      refine unlike (c' - c) i (by omega) ?_ ((hashed i r hi).trans (congrArg (hk P w) hrk))
      rw [pos, show c + (c' - c) = c' by omega]; exact l3
/-- .. from the beginning -/
theorem seek0 (R : Holds P w s.heap a L es ep t) {x : Addr} {k : List Key} (hx : Tk P w s.heap k x) (hu : A.units < cLine) {Q : SetFound → Shared → Prop}
    (yes : k ∈ L.map (·.2) → Q (.there none) s)
    (no : ∀ K, k ∉ L.map (·.2) → way t.mask (hk P w k) K ∉ t.place.toList → (∀ c, c < K → way t.mask (hk P w k) c ∈ t.place.toList) → Q (.free (way t.mask (hk P w k) K) false) s) :
    wpAny (model P w) A (setSearch a (.ref x) (hk P w k) true) Q E s := by
  have rm := R.room
  obtain ⟨K, big, free, full⟩ := R.tab.first (by rw [List.length_map]; omega) (hk P w k)
  have lim : 10 * SetTable.turns t.mask ≤ 1420 := by
    show 10 * (t.mask + 15) ≤ 1420
    rcases R.tab.mok with e | e | e <;> omega
  refine seek R hx hu big free full yes (fun n => no K n free full) 100000 0 none rfl (Nat.zero_le _) (by omega) fun i r e hr => ?_
  have hi : (L.map fun r => hk P w r.2)[i]? = some (hk P w k) := by rw [List.getElem?_map, e, ← hr]; rfl
  have hj : t.place.toList[i]? = some (t.place.toList[i]'(by rw [R.plen]; exact (List.getElem?_eq_some_iff.mp e).1)) := List.getElem?_eq_getElem _
  obtain ⟨c, hc, ec⟩ := R.tab.before free hi hj
  exact ⟨c, Nat.zero_le _, hc, by rw [hj, ← ec]⟩

/-! ### one more -/
theorem Tk.past {h h' : Heap} {k : List Key} {a b : Addr} {o : Obj} {es : Array (Int × Value)} {ep : Nat} {t : SetTable} (x : Tk P w h k b) (ho : h.get? a = some o) (hd : o.data = .set es ep t) (hs : Heap.SameBut a h h') : Tk P w h' k b := by
  obtain ⟨o', its, n, e1, e2, e3, e4⟩ := x
  refine ⟨o', its, n, (hs.2 b fun z => ?_).trans e1, e2, e3, e4⟩
  subst z
  rw [ho] at e1
  rw [← Option.some.inj e1, hd] at e3
  exact nomatch e3
theorem Tk.kept {h h' : Heap} {k : List Key} {b : Addr} (x : Tk P w h k b) (hk : ∀ c o, h.get? c = some o → h'.get? c = some o) : Tk P w h' k b := by
  obtain ⟨o, its, n, e1, e2⟩ := x
  exact ⟨o, its, n, hk b o e1, e2⟩
/-- the rows taken in another order -/
theorem rows_by (hr : es.toList = L.map (ent P w)) {order : Array Nat} (hp : order.toList.Perm (List.range L.length)) :
    ∃ L2 : List Row, (order.filterMap (es[·]?)).toList = L2.map (ent P w) ∧ L2.Perm L ∧ (L2.map fun r => hk P w r.2) = order.toList.map fun i => (es.map (·.1)).getD i 0 := by
  have one : ∀ (i : Nat) (r : Row), L[i]? = some r → es[i]? = some (ent P w r) := fun i r e => by rw [← Array.getElem?_toList, hr, List.getElem?_map, e]; rfl
  have all : ∀ l : List Nat, (∀ i ∈ l, i < L.length) → l.filterMap (fun i => es[i]?) = (l.filterMap fun i => L[i]?).map (ent P w) ∧ ((l.filterMap fun i => L[i]?).map fun r => hk P w r.2) = l.map fun i => (es.map (·.1)).getD i 0 := by
    intro l
    induction l with
    | nil => exact fun _ => ⟨rfl, rfl⟩
    | cons i l ih =>
      intro hl
      obtain ⟨r, e⟩ : ∃ r, L[i]? = some r := ⟨_, List.getElem?_eq_getElem (hl i (.head _))⟩
      obtain ⟨h1, h2⟩ := ih fun j hj => hl j (.tail _ hj)
      rw [List.filterMap_cons_some e, List.filterMap_cons_some (one i r e), List.map_cons, List.map_cons, List.map_cons, h1, h2]
      refine ⟨rfl, ?_⟩
      congr 1
      simp [Array.getD_eq_getD_getElem?, one i r e]
  obtain ⟨h1, h2⟩ := all order.toList fun i hi => List.mem_range.mp (hp.mem_iff.mp hi)
  refine ⟨_, by rw [Array.toList_filterMap]; exact h1, ?_, h2⟩
  have upto : ∀ n, (List.range n).filterMap (fun i => L[i]?) = L.take n := fun n => by
    induction n with
    | zero => rfl
    | succ n ih =>
      rw [List.range_succ, List.filterMap_append, ih, List.take_succ, List.filterMap_cons]
      cases e : L[n]? <;> simp [e]
  have back : (List.range L.length).filterMap (fun i => L[i]?) = L := by rw [upto, List.take_length]
  have z := hp.filterMap fun i => L[i]?
  rw [back] at z
  exact z
/-- the table laid anew -/
theorem anew {o : Obj} (ho : s.heap.get? a = some o) (hex : o.ExactSet) (hd : o.data = .set es ep t) (hr : es.toList = L.map (ent P w)) (hsz : t.place.size = es.size) (hdm : t.dummies = #[]) (hfl : es.size ≤ t.mask)
    (nd : (L.map (·.2)).Nodup) (tks : ∀ r ∈ L, Tk P w s.heap r.2 r.1) (led : w.params.followText "set-order" = true ∨ t.led = true) (few : L.length < 64) {n M : Nat}
    (hM : SetTable.sizeAbove n - 1 = M) (mok : MaskOk M) (h128 : SetTable.sizeAbove n ≤ 128) (room : L.length * 5 < M * 3) {Q : Unit → Shared → Prop}
    (q : ∀ h' L' es' ep' t', Heap.SameBut a s.heap h' → Holds P w h' a L' es' ep' t' → L'.Perm L → Q () { s with heap := h' }) : wpAny (model P w) A (setRelay a n) Q E s := by
  have hl : es.size = L.length := by rw [← Array.length_toList, hr, List.length_map]
  have fits : t.fits es.size = true := by
    simp only [SetTable.fits, SetTable.fill, hdm, Bool.and_eq_true, beq_iff_eq, decide_eq_true_eq]
    exact ⟨hsz, by show t.place.size + 0 ≤ t.mask; omega⟩
  obtain ⟨t', order, laid, perm, tab, em, el, _, _⟩ := relaid_ok t (hs := es.map (·.1)) (wanted := n) hM mok (by rw [Array.size_map]; omega)
  rw [Array.size_map, hl] at perm
  obtain ⟨L2, r1, r2, r3⟩ := rows_by hr perm
  rw [← r3] at tab
  have size : (order.filterMap (es[·]?)).size = es.size := by rw [← Array.length_toList, r1, List.length_map, r2.length_eq, hl]
  rw [setRelay_eq]
  refine wpAny_bind (wpAny_setState_of ho hd fits ?_)
  dsimp only
  refine wp_if_neg (by rw [sizeLine_eq]; omega) ?_
  rw [laid]
  dsimp only
  refine wpAny_bind (wp_if_neg (by rw [size]; simp) (wpAny_pure ?_))
  dsimp only
  refine wpAny_storeSet_of ho hd ?_ (by rw [size, hl, sizeLine_eq]; omega)
  have sb : Heap.SameBut a s.heap (s.heap.update a (Obj.putSet (order.filterMap (es[·]?)) t')) := Heap.SameBut.update ..
  refine q _ L2 _ (ep + 1) t' sb ⟨⟨_, store_at ho hd, ⟨hex.1, hex.2.1, hex.2.2⟩, rfl⟩, r1, tab, (r2.map (·.2)).nodup_iff.mpr nd, fun r hr => (tks r (r2.mem_iff.mp hr)).past ho hd sb, by rw [el]; exact led, ?_, by rw [r2.length_eq]; exact few⟩ r2
  rw [r2.length_eq, em]; exact room
/-- ADD -/
theorem put_in (R : Holds P w s.heap a L es ep t) {x : Addr} {k : List Key} (hx : Tk P w s.heap k x) (hu : A.units < cLine) (few : L.length + 1 < 64) {Q : Bool → Shared → Prop}
    (q : ∀ b h' L' es' ep' t', Heap.SameBut a s.heap h' → Holds P w h' a L' es' ep' t' → (k ∈ L.map (·.2) → L' = L) → (k ∉ L.map (·.2) → L'.Perm ((x, k) :: L)) → Q b { s with heap := h' }) :
    wpAny (model P w) A (setAddHashed a (.ref x) (hk P w k)) Q E s := by
  obtain ⟨o, ho, hex, hd⟩ := R.obj
  have len := R.len
  have room := R.room
  unfold setAddHashed
  refine wpAny_holding ?_
  rw [show (100000 : Nat) = 99999 + 1 from rfl, setAddHashedIn_succ]
  refine wpAny_bind (wpAny_setState_of ho hd R.fits ?_)
  dsimp only
  refine wp_if_neg (by simp [byScan, Value.scannable]) ?_
  refine wpAny_bind (seek0 R hx hu (fun hm => ?_) fun K hm free full => ?_)
  · exact wpAny_pure (q false _ L es ep t (Heap.SameBut.refl a s.heap) R (fun _ => rfl) fun z => absurd hm z)
  · dsimp only
    refine wpAny_bind (wpAny_setState_of ho hd R.fits ?_)
    dsimp only
    obtain ⟨p1, p2, p3, p4, p5, _, _, _, p9⟩ := R.tab.put free full
    generalize ej : way t.mask (hk P w k) K = j at p1 p2 p3 p4 p5 p9 ⊢
    generalize ep1 : t.put j = pt at p1 p3 p4 p5 p9 ⊢
    obtain ⟨t1, at_⟩ := pt
    dsimp only at p1 p3 p4 p5 p9 ⊢
    generalize SetTable.below t.place j = cut at p1 p2 p3
    subst p1
    have perm : (L.take at_ ++ (x, k) :: L.drop at_).Perm ((x, k) :: L) := by
      have z : (L.take at_ ++ (x, k) :: L.drop at_).Perm ((x, k) :: (L.take at_ ++ L.drop at_)) := List.perm_middle
      rwa [List.take_append_drop] at z
    have rows : (SetTable.insertAt es at_ (hk P w k, Value.ref x)).toList = (L.take at_ ++ (x, k) :: L.drop at_).map (ent P w) := by
      rw [SetTable.toList_insertAt, R.rows, List.map_append, List.map_cons, List.map_take, List.map_drop]
    have tab : TabOk t1 ((L.take at_ ++ (x, k) :: L.drop at_).map fun r => hk P w r.2) := by
      rw [List.map_append, List.map_cons, List.map_take, List.map_drop]; exact p3
    generalize SetTable.insertAt es at_ (hk P w k, Value.ref x) = es1 at rows ⊢
    generalize L.take at_ ++ (x, k) :: L.drop at_ = L1 at perm rows tab
    have len1 : L1.length = L.length + 1 := perm.length_eq
    have size1 : es1.size = L.length + 1 := by rw [← Array.length_toList, rows, List.length_map, len1]
    have nd1 : (L1.map (·.2)).Nodup := (perm.map (·.2)).nodup_iff.mpr (List.nodup_cons.mpr ⟨hm, R.nd⟩)
    have go : ∀ t2 : SetTable, t2.mask = t1.mask → t2.led = t1.led → t2.place = t1.place → t2.dummies = t1.dummies →
        wpAny (model P w) A (do
          storeSet a es1 t2
          if !false && t2.tooFull then setRelay a (SetTable.grown (es.size + 1))
          return true) Q E s := fun t2 f1 f2 f3 f4 => by
      have tab2 : TabOk t2 (L1.map fun r => hk P w r.2) := ⟨by rw [f3]; exact tab.ris, by rw [f4]; exact tab.dm, by rw [f3]; exact tab.sz, by rw [f1]; exact tab.mok, by rw [f3, f1]; exact tab.bd, by rw [f3, f1]; exact tab.reach⟩
      have fill2 : t2.fill = L.length + 1 := by
        show t2.place.size + t2.dummies.size = _
        rw [f3, f4]
        show t1.fill = _
        rw [p9, List.length_map]
      have sb : Heap.SameBut a s.heap (s.heap.update a (Obj.putSet es1 t2)) := Heap.SameBut.update ..
      have ho1 := store_at (es' := es1) (t' := t2) ho hd
      refine wpAny_bind (wpAny_storeSet_of ho hd ?_ (by rw [size1, sizeLine_eq]; omega))
      generalize s.heap.update a (Obj.putSet es1 t2) = h1 at sb ho1 ⊢
      have tks1 : ∀ r ∈ L1, Tk P w h1 r.2 r.1 := fun r hr => by
        rcases List.mem_cons.mp (perm.mem_iff.mp hr) with e | hr
        · subst e; exact hx.past ho hd sb
        · exact (R.tks r hr).past ho hd sb
      have led1 : w.params.followText "set-order" = true ∨ t2.led = true := by rw [f2, p5]; exact R.led
      by_cases tf : t2.tooFull = true
      · have tf' : (L.length + 1) * 5 ≥ t.mask * 3 := by
          have z : t2.fill * 5 ≥ t2.mask * 3 := of_decide_eq_true tf
          rwa [fill2, f1, p4] at z
        have step : ∀ M, SetTable.sizeAbove (SetTable.grown (L.length + 1)) - 1 = M → MaskOk M → SetTable.sizeAbove (SetTable.grown (L.length + 1)) ≤ 128 → (L.length + 1) * 5 < M * 3 →
            wpAny (model P w) A (setRelay a (SetTable.grown (es.size + 1))) (fun _ s' => wpAny (model P w) A (pure true) Q E s') E { s with heap := h1 } := fun M c1 c2 c3 c4 => by
          rw [len]
          refine anew (s := { s with heap := h1 }) ho1 ⟨hex.1, hex.2.1, hex.2.2⟩ rfl rows (by rw [size1, f3, tab.sz, List.length_map, len1]) tab2.dm (by rw [size1, f1, p4]; omega) nd1 tks1 led1 (by rw [len1]; exact few) c1 c2 c3 (by rw [len1]; exact c4) fun h2 L2 es2 ep2 t2 sb2 R2 perm2 => ?_
          exact wpAny_pure (q true h2 L2 es2 ep2 t2 (sb.trans sb2) R2 (fun z => absurd z hm) fun _ => perm2.trans perm)
        have both : wpAny (model P w) A (setRelay a (SetTable.grown (es.size + 1))) (fun _ s' => wpAny (model P w) A (pure true) Q E s') E { s with heap := h1 } := by
          rcases R.tab.mok with e | e | e
          · have e2 : L.length + 1 = 5 := by omega
            exact step 31 (by rw [e2, size_20]) (.inr (.inl rfl)) (by rw [e2, size_20]; decide) (by omega)
          · have e2 : L.length + 1 = 19 := by omega
            exact step 127 (by rw [e2, size_76]) (.inr (.inr rfl)) (by rw [e2, size_76]; decide) (by omega)
          · exfalso; omega
        first
          | exact wpAny_bind (wp_if_pos (by simp [tf]) both)
          | exact wp_if_pos (by simp [tf]) (wpAny_bind both)
      · have tf' : (L.length + 1) * 5 < t2.mask * 3 := by
          have z : ¬ (t2.fill * 5 ≥ t2.mask * 3) := fun y => tf (decide_eq_true y)
          rw [fill2] at z; omega
        have fin : wpAny (model P w) A (pure true) Q E { s with heap := h1 } :=
          wpAny_pure (q true h1 L1 es1 (ep + 1) t2 sb ⟨⟨_, ho1, ⟨hex.1, hex.2.1, hex.2.2⟩, rfl⟩, rows, tab2, nd1, tks1, led1, by rw [len1]; exact tf', by rw [len1]; exact few⟩ (fun z => absurd z hm) fun _ => perm)
        first
          | exact wp_if_neg (by simp [tf]) fin
          | exact wpAny_bind (wp_if_neg (by simp [tf]) (wpAny_pure fin))
    cases hp : t1.plain with
    | true =>
      first
        | (refine wpAny_bind (wp_if_pos (by simp [hp]) ?_); refine tk_hbv hx fun b => ?_)
        | refine wp_if_pos (by simp [hp]) (wpAny_bind (tk_hbv hx fun b => ?_))
      cases b with
      | true => exact go t1 rfl rfl rfl rfl
      | false => exact go { t1 with plain := false } rfl rfl rfl rfl
    | false =>
      first
        | (refine wpAny_bind (wp_if_neg (by simp [hp]) ?_); refine wpAny_pure ?_)
        | refine wp_if_neg (by simp [hp]) (wpAny_bind (wpAny_pure ?_))
        | refine wp_if_neg (by simp [hp]) ?_
      exact go t1 rfl rfl rfl rfl

/-! ### set(xs) -/
def Fill (ks : List Row) (i : Nat) (L : List Row) : Prop := (∀ r ∈ L, r ∈ ks.take i) ∧ (∀ r ∈ ks.take i, r.2 ∈ L.map (·.2)) ∧ L.length ≤ i
theorem Fill.nil (ks : List Row) : Fill ks 0 [] := ⟨fun _ h => (nomatch h), fun _ h => (by simp at h), Nat.le_refl _⟩
theorem Fill.step {ks L L' : List Row} {i : Nat} {r : Row} (g : Fill ks i L) (e : ks[i]? = some r) (h1 : r.2 ∈ L.map (·.2) → L' = L) (h2 : r.2 ∉ L.map (·.2) → L'.Perm (r :: L)) : Fill ks (i + 1) L' := by
  have t : ks.take (i + 1) = ks.take i ++ [r] := by rw [List.take_succ, e]; rfl
  obtain ⟨g1, g2, g3⟩ := g
  unfold Fill
  rw [t]
  rcases Classical.em (r.2 ∈ L.map (·.2)) with c | c
  · rw [h1 c]
    refine ⟨fun x hx => List.mem_append_left _ (g1 x hx), fun x hx => ?_, by omega⟩
    rcases List.mem_append.mp hx with z | z
    · exact g2 x z
    · rw [List.mem_singleton.mp z]; exact c
  · have p := h2 c
    refine ⟨fun x hx => ?_, fun x hx => ?_, by rw [p.length_eq, List.length_cons]; omega⟩
    · rcases List.mem_cons.mp (p.mem_iff.mp hx) with z | z
      · rw [z]; exact List.mem_append_right _ (.head _)
      · exact List.mem_append_left _ (g1 x z)
    · rw [(p.map (·.2)).mem_iff, List.map_cons]
      rcases List.mem_append.mp hx with z | z
      · exact .tail _ (g2 x z)
      · rw [List.mem_singleton.mp z]; exact .head _
theorem Holds.kept {h h' : Heap} (R : Holds P w h a L es ep t) (ha : ∀ o, h.get? a = some o → h'.get? a = some o) (ht : ∀ r ∈ L, Tk P w h' r.2 r.1) : Holds P w h' a L es ep t := by
  obtain ⟨o, ho, z⟩ := R.obj
  exact ⟨⟨o, ha o ho, z⟩, R.rows, R.tab, R.nd, ht, R.led, R.room, R.few⟩
theorem Holds.new {h : Heap} (ho : h.get? a = some { cls := .type "set", dict := none, data := .set #[] 0 (.fresh 0 0 (!w.params.followText "set-order")) }) : Holds P w h a [] #[] 0 (.fresh 0 0 (!w.params.followText "set-order")) := by
  refine ⟨⟨_, ho, ⟨rfl, rfl, rfl⟩, rfl⟩, rfl, ⟨List.Pairwise.nil, rfl, rfl, .inl rfl, fun _ hx => (nomatch hx), fun i h j hi => (by simp at hi)⟩, List.nodup_nil, fun _ hr => (nomatch hr), ?_, ?_, ?_⟩
  · show _ ∨ (!w.params.followText "set-order") = true
    cases w.params.followText "set-order"
    · exact .inr rfl
    · exact .inl rfl
  · show 0 * 5 < 7 * 3
    decide
  · show 0 < 64
    decide
/-- the loop behind set(xs), over any walk that gives the rows ks -/
theorem fill_loop {I : Addr} {fp wr : List Addr} {G : Array GenState → Array GenState → Prop} {n : Nat} {Pv : Nat → Value → Prop} {St : Nat → Shared → Prop} {R : Result → Shared → Prop}
    (W : WalksS P w A.in1 I fp wr G n Pv St) (S : Addr) (hSf : S ∉ fp) (ks : List Row) (hn : n = ks.length) (few : ks.length < 64) (vals : ∀ i v, Pv i v → ∃ r, ks[i]? = some r ∧ v = .ref r.1)
    (h0 : Heap) (hk0 : ∀ r ∈ ks, Tk P w h0 r.2 r.1) (hS0 : h0.get? S = none) (hw0 : ∀ b ∈ wr, h0.get? b = none) (hu : A.in1.units < cLine) :
    ∀ (k i : Nat) (s : Shared), n - i = k → i ≤ n → St i s → (∀ b o, h0.get? b = some o → s.heap.get? b = some o) → (∃ L es ep t, Holds P w s.heap S L es ep t ∧ Fill ks i L) →
      (∀ s' L es ep t, Moved (S :: wr) G s s' → Holds P w s'.heap S L es ep t → Fill ks n L → (∀ b o, h0.get? b = some o → s'.heap.get? b = some o) → R (.ok (.ret .none)) s') →
      codeAny (model P w) A (.builtin "set.update.loop" ⟨[.ref S, .ref I], []⟩) R s := by
  have hSw : S ∉ wr := fun z => hSf (W.sub _ z)
  have wide : ∀ b ∈ wr, b ∈ S :: wr := fun b hb => .tail _ hb
  have past : ∀ {s s' : Shared}, Moved wr G s s' → (∀ b o, h0.get? b = some o → s.heap.get? b = some o) → ∀ b o, h0.get? b = some o → s'.heap.get? b = some o := fun hm z b o e =>
    hm.heap b o (fun hb => by rw [hw0 b hb] at e; exact nomatch e) (z b o e)
  intro k
  induction k with
  | zero =>
    intro i s hk' hi st old ⟨L, es, ep, t, hS, g⟩ q
    obtain rfl : i = n := by omega
    refine codeAny_builtin F.entry_set_update_loop ?_
    rw [Around.under_plainId F.plain_set_update_loop _]
    show wpAny _ A.in1 (pyNext (.ref I) >>= _) _ _ s
    refine wpAny_bind (W.done s _ _ st fun s' hm => ?_)
    show wpAny _ A.in1 (ret Value.none) _ _ s'
    have old' := past hm old
    exact wpAny_pure (q s' L es ep t (hm.mono wide) (hS.kept (fun o e => hm.heap S o hSw e) fun r hr => (hk0 r (List.mem_of_mem_take (g.1 r hr))).kept old') g old')
  | succ k ih =>
    intro i s hk' hi st old ⟨L, es, ep, t, hS, g⟩ q
    have lt : i < n := by omega
    refine codeAny_builtin F.entry_set_update_loop ?_
    rw [Around.under_plainId F.plain_set_update_loop _]
    show wpAny _ A.in1 (pyNext (.ref I) >>= _) _ _ s
    refine wpAny_bind (W.item i s _ _ lt st fun v s' hv st' hm => ?_)
    obtain ⟨r, hr, rfl⟩ := vals i v hv
    have old' := past hm old
    have hS' : Holds P w s'.heap S L es ep t := hS.kept (fun o e => hm.heap S o hSw e) fun r' hr' => (hk0 r' (List.mem_of_mem_take (g.1 r' hr'))).kept old'
    have hx : Tk P w s'.heap r.2 r.1 := (hk0 r (List.mem_of_getElem? hr)).kept old'
    show wpAny _ A.in1 (holding [Value.ref r.1] (setAdd S (.ref r.1)) >>= _) _ _ s'
    refine wpAny_bind (wpAny_holding ?_)
    unfold setAdd
    refine wpAny_holding ?_
    refine wpAny_bind (wpAny_pyHash_tuple hu hx ?_)
    have small : L.length + 1 < 64 := by have := g.2.2; omega
    refine put_in (s := { s' with toks := s'.toks + (r.2.length + 1) }) hS' hx hu small fun b h' L' es' ep' t' sb hS2 c1 c2 => ?_
    have old2 : ∀ b o, h0.get? b = some o → h'.get? b = some o := fun b o e => (sb.2 b (fun z => by rw [z, hS0] at e; exact nomatch e)).trans (old' b o e)
    refine wpAny_pure ⟨plainId_quiet F.plain_set_update_loop _, ih (i + 1) _ (by omega) lt (W.frame _ s' _ _ st' (Nat.le_add_right _ _) fun b hb o e => ?_) old2 ⟨L', es', ep', t', hS2, g.step hr c1 c2⟩ fun s'' L2 es2 ep2 t2 hm2 hS3 g3 old3 => ?_⟩
    · rw [sb.2 b fun z : b = S => hSf (by rw [← z]; exact hb)]; exact e
    · refine q s'' L2 es2 ep2 t2 (Moved.trans W.gtrans ((hm.mono wide).then_heap (Nat.le_add_right _ _) fun b o hb e => ?_) hm2) hS3 g3 old3
      rw [sb.2 b fun z : b = S => hb (by rw [z]; exact .head _)]; exact e
theorem call_set {l : Addr} {its : Array Value} (ks : List Row) {Q : Value → Shared → Prop} (hh : A.handled = none) (hl : s.heap.IsList l its) (hit : its.toList = ks.map fun r => Value.ref r.1)
    (hk0 : ∀ r ∈ ks, Tk P w s.heap r.2 r.1) (few : ks.length < 64) (hu : A.units + 3 < cLine)
    (q : ∀ (h' : Heap) (tk : Nat) L es ep t, Holds P w h' s.heap.objs.size L es ep t → Fill ks ks.length L → (∀ b o, s.heap.get? b = some o → h'.get? b = some o) → Q (.ref s.heap.objs.size) { s with heap := h', toks := tk }) :
    wpAny (model P w) A (call (.type "set") [.ref l]) Q E s := by
  have n_ : its.size = ks.length := by rw [← Array.length_toList, hit, List.length_map]
  obtain ⟨c, tl, hmro⟩ := F.called_set.mro
  have hmade := F.called_set.made
  have hsub := F.called_set.sub
  refine wpAny_call (codeAny_of_tree ?_)
  show wpAny _ _ (callAny (.type "set") _) _ _ _
  refine wpAny_pure ⟨Code.quiet_builtin _ (by decide +kernel), codeAny_builtin F.entry_type_call ?_⟩
  rw [Around.under_plain (weight_type_call_type "set" [.ref l] []) rfl]
  have h1 := F.called_set.notType
  have h2 := F.called_set.canCreate
  have hct := F.typeCall_set_1 (.ref l)
  repeat (any_goals (first | assumption | wp_step))
  refine codeAny_mono (code_set_led1 (.ref l) (E := E) (Q₁ := fun obj s₁ => obj = .ref s.heap.objs.size ∧ s₁ = { s with heap := s.heap.push { cls := .type "set", dict := none, data := .set #[] 0 (.fresh 0 0 (!w.params.followText "set-order")) } }) ⟨rfl, rfl⟩) fun r s₁ hr => ?_
  cases r with
  | error e => exact hr
  | ok fl =>
    cases fl with
    | ret obj =>
      obtain ⟨rfl, rfl⟩ := hr
      have hS : (s.heap.push { cls := .type "set", dict := none, data := .set #[] 0 (.fresh 0 0 (!w.params.followText "set-order")) }).get? s.heap.objs.size = some { cls := .type "set", dict := none, data := .set #[] 0 (.fresh 0 0 (!w.params.followText "set-order")) } := Heap.get?_push_size _ rfl
      have hT : Shared.TypeIs { s with heap := s.heap.push { cls := .type "set", dict := none, data := .set #[] 0 (.fresh 0 0 (!w.params.followText "set-order")) } } (.ref s.heap.objs.size) "set" := ⟨_, hS, rfl⟩
      have hli := F.called_set.init.lookup
      have hbi := F.called_set.init.bind (.ref s.heap.objs.size)
      repeat (any_goals (first | assumption | wp_step))
      refine codeAny_mono (codeAny_call_builtin (R := wants (fun r s₂ => r = .none ∧ ∃ h' tk L es ep t, s₂ = { s with heap := h', toks := tk } ∧ Holds P w h' s.heap.objs.size L es ep t ∧ Fill ks ks.length L ∧
          (∀ b o, s.heap.get? b = some o → h'.get? b = some o)) E) F.called_set.init.plain F.entry_set_init (check_set_init_1 hT ?_)) fun r₂ s₂ hr₂ => ?_
      · obtain ⟨ol, hol, hcl, nl, hdl⟩ := hl
        obtain ⟨ocls, odict, odata, oslots⟩ := ol
        simp only at hcl hdl
        subst hcl; subst hdl
        have hol' : (s.heap.push { cls := .type "set", dict := none, data := .set #[] 0 (.fresh 0 0 (!w.params.followText "set-order")) }).get? l = some { cls := .type "list", dict := odict, data := .seq its nl, slots := oslots } := Heap.get?_push_of_some _ hol
        have hsls := F.sub_list_set
        have hslf := F.sub_list_frozenset
        have hne : (Value.type "list" == Value.type "dict") = false := by decide
        have hl1 : (s.heap.push { cls := .type "set", dict := none, data := .set #[] 0 (.fresh 0 0 (!w.params.followText "set-order")) }).IsList l its := ⟨_, hol', rfl, nl, rfl⟩
        unfold Builtin.«set.__init__» noKeywords Builtin.Frozenset.updateFrom
        generalize hPI : pyIter = PI
        wp_walk
        subst hPI
        refine wpAny_pyIter_list hl1 ?_
        refine wpAny_bind (wpAny_runValue ?_)
        have hlS : l < s.heap.objs.size := Heap.lt_size hol
        have hh3 : A.in1.in1.in1.handled = none := by simp [hh]
        have z1 : (s.heap.push { cls := .type "set", dict := none, data := .set #[] 0 (.fresh 0 0 (!w.params.followText "set-order")) }).objs.size = s.heap.objs.size + 1 := Heap.size_push ..
        have hneI : l ≠ (s.heap.push { cls := .type "set", dict := none, data := .set #[] 0 (.fresh 0 0 (!w.params.followText "set-order")) }).objs.size := by rw [Heap.size_push]; exact Nat.ne_of_lt (Nat.lt_succ_of_lt hlS)
        have hSf : s.heap.objs.size ∉ [(s.heap.push { cls := .type "set", dict := none, data := .set #[] 0 (.fresh 0 0 (!w.params.followText "set-order")) }).objs.size, l] := by
          rw [Heap.size_push]
          simp only [List.mem_cons, List.mem_singleton, List.not_mem_nil, or_false, not_or]
          exact ⟨Nat.ne_of_lt (Nat.lt_succ_self _), Nat.ne_of_gt hlS⟩
        have gone : ∀ b, s.heap.objs.size ≤ b → s.heap.get? b = none := fun b hb => by
          cases e : s.heap.get? b with
          | none => rfl
          | some o => exact absurd (Nat.lt_of_lt_of_le (Heap.lt_size e) hb) (Nat.lt_irrefl _)
        refine fill_loop ((Walks.list hh3 _ l hneI its).toS) s.heap.objs.size hSf ks n_ few (fun i v hv => ?_) s.heap hk0 (gone _ (Nat.le_refl _)) (fun b hb => gone b (by rw [List.mem_singleton.mp hb, Heap.size_push]; exact Nat.le_succ _)) hu (its.size - 0) 0 _ (by omega) (Nat.zero_le _)
          ⟨⟨_, Heap.get?_push_size _ rfl, rfl, rfl⟩, (hl1.push _)⟩ (fun b o e => Heap.get?_push_of_some _ (Heap.get?_push_of_some _ e)) ⟨[], #[], 0, _, Holds.new (Heap.get?_push_of_some _ hS), Fill.nil ks⟩ ?_
        · have e : its.toList[i]? = some v := by rw [Array.getElem?_toList]; exact hv
          rw [hit, List.getElem?_map] at e
          cases e2 : ks[i]? with
          | none => rw [e2] at e; exact nomatch e
          | some r => rw [e2] at e; exact ⟨r, rfl, (Option.some.inj e).symm⟩
        · intro s' L es ep t hm hS' g' old'
          obtain ⟨h', g2, d', tk', os'⟩ := s'
          obtain rfl : g2 = s.gens := hm.gens
          obtain rfl : d' = s.drawn := hm.drawn
          obtain rfl : os' = s.os := hm.os
          show wpAny _ _ _ _ _ _
          refine wpAny_pure ?_
          show wpAny _ _ (ret Value.none) _ _ _
          rw [n_] at g'
          exact wpAny_pure ⟨rfl, h', tk', L, es, ep, t, rfl, hS', g', old'⟩
      · cases r₂ with
        | error e => exact hr₂
        | ok fl₂ =>
          cases fl₂ with
          | ret r =>
            obtain ⟨rfl, h', tk, L, es, ep, t, rfl, hS', g', old'⟩ := hr₂
            repeat (any_goals (first | assumption | wp_step))
            exact q _ _ _ _ _ _ hS' g' old'
          | _ => exact hr₂.elim
    | _ => exact hr.elim
end
end SetP
set_option Elab.async false
set_option linter.all false
set_option maxRecDepth 100000
set_option maxHeartbeats 4000000
/-! # sorted(..) of a list or of a set of tuples of ints and texts, any number of them. -/
namespace SetP
open PySem PySem.Spec PyProof.Rows L2

/-! ### the order of keys, and of their rows -/
def kLt : Key → Key → Bool
  | .inl a, .inl b => decide (a < b)
  | .inr x, .inr y => decide (x.cps.toList < y.cps.toList)
  | .inl _, .inr _ => true
  | .inr _, .inl _ => false
def lexK : List Key → List Key → Bool
  | [], [] => false
  | [], _ :: _ => true
  | _ :: _, [] => false
  | x :: xs, y :: ys => if x = y then lexK xs ys else kLt x y
theorem kLt_irr (x : Key) : kLt x x = false := by
  cases x with
  | inl a => exact decide_eq_false (Int.lt_irrefl a)
  | inr a => exact decide_eq_false (List.lt_irrefl _)
theorem kLt_tr {x y z : Key} (h1 : kLt x y = true) (h2 : kLt y z = true) : kLt x z = true := by
  cases x <;> cases y <;> cases z <;> simp only [kLt, decide_eq_true_eq] at h1 h2 ⊢
  · omega
  · exact Bool.noConfusion h2
  · exact Bool.noConfusion h1
  · exact Bool.noConfusion h1
  · exact Bool.noConfusion h2
  · exact List.lt_trans h1 h2
theorem str_same {x y : Str} (h : x.cps.toList = y.cps.toList) : x = y := by
  cases x; cases y
  congr 1
  exact Array.toList_inj.mp h
theorem kLt_tot (x y : Key) : x = y ∨ kLt x y = true ∨ kLt y x = true := by
  cases x with
  | inl a => cases y with
    | inl b =>
      simp only [kLt, decide_eq_true_eq, Sum.inl.injEq]
      omega
    | inr b => exact .inr (.inl rfl)
  | inr a => cases y with
    | inl b => exact .inr (.inr rfl)
    | inr b =>
      simp only [kLt, decide_eq_true_eq]
      by_cases h1 : a.cps.toList < b.cps.toList
      · exact .inr (.inl h1)
      · by_cases h2 : b.cps.toList < a.cps.toList
        · exact .inr (.inr h2)
        · exact .inl (congrArg Sum.inr (str_same (List.le_antisymm (List.not_lt.mp h2) (List.not_lt.mp h1))))
theorem lexK_irr : ∀ x : List Key, lexK x x = false
  | [] => rfl
  | x :: xs => by simp only [lexK, if_true]; exact lexK_irr xs
theorem lexK_tr : ∀ {x y z : List Key}, lexK x y = true → lexK y z = true → lexK x z = true
  | [], [], _, h, _ => nomatch h
  | [], _ :: _, [], _, h => nomatch h
  | [], _ :: _, _ :: _, _, _ => rfl
  | _ :: _, [], _, h, _ => nomatch h
  | _ :: _, _ :: _, [], _, h => nomatch h
  | x :: xs, y :: ys, z :: zs, h1, h2 => by
    simp only [lexK] at h1 h2 ⊢
    by_cases e1 : x = y
    · subst e1
      rw [if_pos rfl] at h1
      by_cases e2 : x = z
      · subst e2; rw [if_pos rfl] at h2 ⊢; exact lexK_tr h1 h2
      · rw [if_neg e2] at h2 ⊢; exact h2
    · rw [if_neg e1] at h1
      by_cases e2 : y = z
      · subst e2; rw [if_neg e1]; exact h1
      · rw [if_neg e2] at h2
        have t := kLt_tr h1 h2
        have n : x ≠ z := fun e => by
          subst e
          have b := kLt_tr h1 h2
          rw [kLt_irr] at b
          exact nomatch b
        rw [if_neg n]; exact t
theorem lexK_tot : ∀ x y : List Key, x = y ∨ lexK x y = true ∨ lexK y x = true
  | [], [] => .inl rfl
  | [], _ :: _ => .inr (.inl rfl)
  | _ :: _, [] => .inr (.inr rfl)
  | x :: xs, y :: ys => by
    simp only [lexK]
    by_cases e : x = y
    · subst e
      rw [if_pos rfl, if_pos rfl]
      rcases lexK_tot xs ys with h | h | h
      · exact .inl (by rw [h])
      · exact .inr (.inl h)
      · exact .inr (.inr h)
    · rw [if_neg e, if_neg (Ne.symm e)]
      rcases kLt_tot x y with h | h | h
      · exact absurd h e
      · exact .inr (.inl h)
      · exact .inr (.inr h)
theorem swo_of {α : Type} {lt : α → α → Bool} (irr : ∀ x, lt x x = false) (tr : ∀ {x y z}, lt x y = true → lt y z = true → lt x z = true) (tot : ∀ x y, x = y ∨ lt x y = true ∨ lt y x = true) : SrtO.Swo lt := by
  have no : ∀ {b : Bool}, ¬ b = true → b = false := fun {b} h => by cases b <;> simp at h ⊢
  refine ⟨fun x y h => no fun h2 => ?_, fun x y z h1 h2 => no fun h3 => ?_⟩
  · have := tr h h2; rw [irr] at this; exact nomatch this
  · rcases tot x y with e | e | e
    · subst e; rw [h2] at h3; exact nomatch h3
    · have := tr h3 e; rw [h2] at this; exact nomatch this
    · rw [h1] at e; exact nomatch e
theorem swo_lexK : SrtO.Swo lexK := swo_of lexK_irr lexK_tr lexK_tot
theorem swo_by {α : Type} (f : α → List Key) : SrtO.Swo fun x y => lexK (f x) (f y) := ⟨fun x y => swo_lexK.asym _ _, fun x y z => swo_lexK.tr _ _ _⟩
/-- which parts are texts -/
def shp (k : List Key) : List Bool := k.map Sum.isRight
section
variable {P : Program} {w : World} {A : Around} {E : Value → Shared → Prop} {s : Shared}
theorem oneLt_strs (c : Bool) {p q : Str} {t u : Tok} {Q : Bool → Shared → Prop} (h : Q (decide (p.cps.toList < q.cps.toList)) s) : wpAny (model P w) A (oneLt' c (.str p t) (.str q u)) Q E s := by
  cases c with
  | true => exact oneLt_str h
  | false => exact PySem.W.kat_one _ _ (PyProof.Rows.lt_str (Q := PySem.W.BoolBack Q) h)
theorem oneLt_nums (c : Bool) {p q : Int} {t u : Tok} {Q : Bool → Shared → Prop} (h : Q (decide (p < q)) s) : wpAny (model P w) A (oneLt' c (.int p t) (.int q u)) Q E s := by
  cases c with
  | true => exact oneLt_int h
  | false => exact PySem.W.kat_one _ _ (PyProof.Rows.lt_int (Q := PySem.W.BoolBack Q) h)
theorem lex_walk {b fin : Bool} {Q : Bool → Shared → Prop} : ∀ {x y : List Key} {xs ys : List Value} (i : Nat), ItemsAre (mixKind P w) x xs → ItemsAre (mixKind P w) y ys → shp x = shp y → fin = false → Q (lexK x y) s → PySem.W.KatLex P w A b fin Q (xs.zip ys) i s
  | [], [], _, _, i, .nil, .nil, _, hf, q => by subst hf; exact PySem.W.kat_nil q
  | [], _ :: _, _, _, _, _, _, hs, _, _ => nomatch hs
  | _ :: _, [], _, _, _, _, _, hs, _, _ => nomatch hs
  | a :: x, c :: y, u :: us, v :: vs, i, .cons h1 t1, .cons h2 t2, hs, hf, q => by
    have hs1 : Sum.isRight a = Sum.isRight c := (List.cons.inj hs).1
    have hs2 : shp x = shp y := (List.cons.inj hs).2
    simp only [lexK] at q
    refine PySem.W.kat_cons ?_
    refine (mixKind P w).eqBool h1 h2 ?_
    refine PySem.W.kat_go (fun e => PySem.W.kat_yes ?_) (fun e => PySem.W.kat_no ?_)
    · have e' : a = c := of_decide_eq_true e
      rw [if_pos e'] at q
      exact lex_walk (i + 1) t1 t2 hs2 hf q
    · have e' : ¬ a = c := of_decide_eq_false e
      rw [if_neg e'] at q
      rcases keyIs_shape h1 with ⟨n, t, ea, eu⟩ | ⟨n, t, ea, eu⟩ <;> rcases keyIs_shape h2 with ⟨m, t', ec, ev⟩ | ⟨m, t', ec, ev⟩ <;> subst ea <;> subst ec <;> subst eu <;> subst ev
      · exact oneLt_nums _ q
      · exact nomatch hs1
      · exact nomatch hs1
      · exact oneLt_strs _ q
/-- values that are such tuples, by a reading f -/
def Rd (P : Program) (w : World) (h : Heap) (f : Value → List Key) (sh : List Bool) (v : Value) : Prop := ∃ a, v = .ref a ∧ Tk P w h (f v) a ∧ shp (f v) = sh
theorem cmp_rd {f : Value → List Key} {sh : List Bool} {vs : List Value} (hv : ∀ v ∈ vs, Rd P w s.heap f sh v) : SrtO.Cmp P w A s (tuples' true) (fun p => p.1 ∈ vs) (SrtO.lt2 fun v u => lexK (f v) (f u)) := by
  intro p q hp hq
  obtain ⟨a, ea, ⟨oa, xa, na, h1, _, h2, h3⟩, sa⟩ := hv _ hp
  obtain ⟨b, eb, ⟨ob, xb, nb, g1, _, g2, g3⟩, sb⟩ := hv _ hq
  show wpAny (model P w) A (keyLt' (tuples' true) p.1 q.1) (fun r s' => s' = s ∧ r = lexK (f p.1) (f q.1)) (fun _ _ => False) s
  generalize f p.1 = x at h3 sa ⊢
  generalize f q.1 = y at g3 sb ⊢
  rw [ea, eb]
  refine PySem.W.kat_lt h1 h2 g1 g2 (lex_walk 0 h3 g3 (sa.trans sb.symm) (decide_eq_false ?_) ⟨rfl, rfl⟩)
  have l1 := h3.length
  have l2 := g3.length
  have l3 := congrArg List.length (sa.trans sb.symm)
  simp only [shp, List.length_map] at l3
  simp only [Array.length_toList] at l1 l2
  omega
theorem firsts {h : Heap} {f : Value → List Key} {b : Bool} {sh : List Bool} : ∀ {vs : List Value}, (∀ v ∈ vs, Rd P w h f (b :: sh) v) → ∃ fs : List Value, PySem.W.KatTups h vs fs ∧ fs.length = vs.length ∧ ∀ x ∈ fs, if b = true then ∃ n t, x = Value.str n t else ∃ n t, x = Value.int n t
  | [], _ => ⟨[], PySem.W.KatTups.nil, rfl, fun _ hm => nomatch hm⟩
  | v :: vs, hv => by
    obtain ⟨fs, h1, h2, h3⟩ := firsts (vs := vs) fun v' hm => hv v' (.tail _ hm)
    obtain ⟨a, rfl, ⟨o, its, n, ho, hc, hd, hi⟩, hs⟩ := hv v (.head _)
    generalize f (.ref a) = k at hi hs
    obtain ⟨lst⟩ := its
    cases hi with
    | nil => exact nomatch hs
    | @cons q u ks us h4 h5 =>
      refine ⟨u :: fs, PySem.W.KatTups.cons ho hc hd rfl h1, by rw [List.length_cons, List.length_cons, h2], fun x hm => ?_⟩
      rcases List.mem_cons.mp hm with rfl | hm
      · have hb : Sum.isRight q = b := (List.cons.inj hs).1
        rcases keyIs_shape h4 with ⟨i, t, e, e2⟩ | ⟨i, t, e, e2⟩ <;> subst e <;> subst e2
        · rw [← hb]; exact ⟨i, t, rfl⟩
        · rw [← hb]; exact ⟨i, t, rfl⟩
      · exact h3 x hm
theorem sortable {a : Addr} {f : Value → List Key} {b : Bool} {sh : List Bool} {vs : List Value} (h0 : 0 < vs.length) (hv : ∀ v ∈ vs, Rd P w s.heap f (b :: sh) v) (ha : ∀ o, s.heap.get? a = some o → o.cls ≠ .type "tuple") : SrtO.SortableO P w A s a vs fun v u => lexK (f v) (f u) := by
  intro h' keep
  have hv' : ∀ v ∈ vs, Rd P w h' f (b :: sh) v := fun v hm => by
    obtain ⟨x, e, ⟨o, its, n, ho, hc, r⟩, hs⟩ := hv v hm
    exact ⟨x, e, ⟨o, its, n, keep x o (fun z => by subst z; exact ha o ho hc) ho, hc, r⟩, hs⟩
  obtain ⟨fs, h1, h2, h3⟩ := firsts hv'
  refine ⟨tuples' true, fun Q E hq => ?_, cmp_rd hv'⟩
  cases b with
  | true =>
    refine PySem.W.kat_kind (T := .type "str") h1 (by omega) (fun x hm => ?_) (by rfl) ?_
    · obtain ⟨n, t, rfl⟩ := h3 x hm
      exact PySem.W.Looks.now
    · rw [show (Value.type "str" != Value.type "tuple") = true by first | decide +kernel | rfl | decide]
      exact hq
  | false =>
    refine PySem.W.kat_kind (T := .type "int") h1 (by omega) (fun x hm => ?_) (by rfl) ?_
    · obtain ⟨n, t, rfl⟩ := h3 x hm
      exact PySem.W.Looks.now
    · rw [show (Value.type "int" != Value.type "tuple") = true by first | decide +kernel | rfl | decide]
      exact hq
end
end SetP
set_option Elab.async false
set_option linter.all false
set_option maxRecDepth 100000
set_option maxHeartbeats 4000000
/-! # set(xs), sorted(xs), sorted(set) over the hand layer: tuples of ints and texts. -/
namespace SetP
open PySem PySem.Spec PyProof.Rows L2

/-! ### rows and values -/
abbrev refs (rows : List Row) : List Value := rows.map fun r => Value.ref r.1
abbrev vrefs (rows : List Row) : List V := rows.map fun r => V.ref r.1
def rdOf (rows : List Row) : Value → List Key
  | .ref a => ((rows.find? fun r => r.1 == a).map (·.2)).getD []
  | _ => []
def rowV (rows : List Row) : Value → Row
  | .ref a => (a, rdOf rows (.ref a))
  | _ => (0, [])
section
variable {P : Program} {w : World} {h : Heap} {rows : List Row}
theorem rdOf_at (ht : ∀ r ∈ rows, Tk P w h r.2 r.1) {r : Row} (hr : r ∈ rows) : rdOf rows (.ref r.1) = r.2 := by
  show ((rows.find? fun x => x.1 == r.1).map (·.2)).getD [] = r.2
  cases e : rows.find? fun x => x.1 == r.1 with
  | none =>
    have z := List.find?_eq_none.mp e r hr
    simp at z
  | some x =>
    have hx := List.mem_of_find?_eq_some e
    have e2 : x.1 = r.1 := by simpa using List.find?_some e
    have a := ht x hx
    rw [e2] at a
    exact a.inj (ht r hr)
theorem rowV_at (ht : ∀ r ∈ rows, Tk P w h r.2 r.1) {r : Row} (hr : r ∈ rows) : rowV rows (.ref r.1) = r := by
  show (r.1, rdOf rows (.ref r.1)) = r
  rw [rdOf_at ht hr]
/-- the rows behind a rearrangement of their values -/
theorem rows_back (ht : ∀ r ∈ rows, Tk P w h r.2 r.1) {out : List Value} (p : out.Perm (refs rows)) : out = refs (out.map (rowV rows)) ∧ (out.map (rowV rows)).Perm rows ∧ (∀ v ∈ out, rdOf rows v = (rowV rows v).2) := by
  have each : ∀ v ∈ out, ∃ r ∈ rows, v = Value.ref r.1 := fun v hv => by
    obtain ⟨r, hr, e⟩ := List.mem_map.mp (p.mem_iff.mp hv)
    exact ⟨r, hr, e.symm⟩
  refine ⟨?_, ?_, fun v hv => ?_⟩
  · unfold refs
    rw [List.map_map]
    have gen : ∀ l : List Value, (∀ v ∈ l, v ∈ out) → l = l.map ((fun r : Row => Value.ref r.1) ∘ rowV rows) := by
      intro l
      induction l with
      | nil => exact fun _ => rfl
      | cons v l ih =>
        intro hl
        obtain ⟨r, hr, e⟩ := each v (hl v (.head _))
        rw [List.map_cons, ← ih fun u hu => hl u (.tail _ hu)]
        congr 1
        show v = Value.ref (rowV rows v).1
        rw [e, rowV_at ht hr]
    exact gen out fun _ z => z
  · have q := p.map (rowV rows)
    have e : (refs rows).map (rowV rows) = rows := by
      unfold refs
      rw [List.map_map]
      have gen : ∀ l : List Row, (∀ r ∈ l, r ∈ rows) → l.map (rowV rows ∘ fun r => Value.ref r.1) = l := by
        intro l
        induction l with
        | nil => exact fun _ => rfl
        | cons r l ih =>
          intro hl
          rw [List.map_cons, ih fun u hu => hl u (.tail _ hu)]
          congr 1
          exact rowV_at ht (hl r (.head _))
      exact gen rows fun _ z => z
    rw [e] at q
    exact q
  · obtain ⟨r, hr, e⟩ := each v hv
    rw [e, rowV_at ht hr, rdOf_at ht hr]
theorem rd_all (ht : ∀ r ∈ rows, Tk P w h r.2 r.1) {sh : List Bool} (hs : ∀ r ∈ rows, shp r.2 = sh) : ∀ v ∈ refs rows, Rd P w h (rdOf rows) sh v := fun v hv => by
  obtain ⟨r, hr, e⟩ := List.mem_map.mp hv
  exact ⟨r.1, e.symm, by rw [← e, rdOf_at ht hr]; exact ht r hr, by rw [← e, rdOf_at ht hr]; exact hs r hr⟩
/-- sorted, said of the rows -/
theorem srtd_rows {out : List Value} {f : Value → List Key} {g : Value → Row} (hs : SrtO.Srtd (fun v u => lexK (f v) (f u)) out) (hg : ∀ v ∈ out, f v = (g v).2) : SrtO.Srtd lexK ((out.map g).map (·.2)) := by
  rw [List.map_map]
  refine List.pairwise_map.mpr (List.Pairwise.imp_of_mem (fun {x y} hx hy q => ?_) hs)
  show lexK (g y).2 (g x).2 = false
  rw [← hg x hx, ← hg y hy]; exact q
end
theorem refs_of : ∀ {rows : List Row} {us : List Value}, Vals (vrefs rows) us → us = refs rows
  | [], _, .nil => rfl
  | r :: rows, _, .cons h t => by
    cases h
    rw [refs_of t]; rfl
theorem of_refs : ∀ rows : List Row, Vals (vrefs rows) (refs rows)
  | [] => .nil
  | r :: rows => .cons rfl (of_refs rows)
section
variable {P : Program} {w : World} {A : Around} {E : Value → Shared → Prop} {s : Shared} {a : Addr} {L : List Row} {es : Array (Int × Value)} {ep : Nat} {t : SetTable} {h : Heap}
/-- sorted(list) -/
theorem sorted_list {l : Addr} {rows : List Row} {b : Bool} {sh : List Bool} {Q : Value → Shared → Prop} (hl : s.heap.IsList l (refs rows).toArray) (hz : rows.length ≤ sizeLine) (ht : ∀ r ∈ rows, Tk P w s.heap r.2 r.1) (hs : ∀ r ∈ rows, shp r.2 = b :: sh)
    (q : ∀ (h' : Heap) (d : Addr) (rows' : List Row), rows'.Perm rows → SrtO.Srtd lexK (rows'.map (·.2)) → (∀ b o, s.heap.get? b = some o → h'.get? b = some o) → s.heap.objs.size ≤ d → (∃ n, h'.get? d = some (seqObj "list" (refs rows').toArray n)) → Q (.ref d) { s with heap := h' }) :
    wpAny (model P w) A (call (.builtin "sorted") [.ref l]) Q E s := by
  refine SrtO.sorted_ord (ltv := fun v u => lexK (rdOf rows v) (rdOf rows u)) (swo_by _) hl (by rw [List.length_map]; exact hz) (fun h2 h₁ a ha kk => ?_) fun out hs' hb => ?_
  · refine sortable (s := { s with heap := h₁ }) (by omega) (rd_all (fun r hr => (ht r hr).kept fun c o e => (kk c o e).2) hs) fun o e => ?_
    have e' : some o = some (seqObj "list" (refs rows).toArray 0) := e.symm.trans ha
    cases e'
    intro c
    exact absurd (Value.type.inj c) (by decide)
  · obtain ⟨r1, r2, r3⟩ := rows_back ht hb.perm
    obtain ⟨n, at_⟩ := sortedAll_at s.heap (refs rows) out.toArray
    exact q _ _ _ r2 (srtd_rows hs' r3) (fun b o e => sortedAll_old e) (Nat.le_succ _) ⟨n, by rw [← r1]; exact at_⟩
/-- sorted(set) -/
theorem sorted_set {b : Bool} {sh : List Bool} {Q : Value → Shared → Prop} (R : Holds P w s.heap a L es ep t) (hh : A.handled = none) (hs : ∀ r ∈ L, shp r.2 = b :: sh)
    (q : ∀ s' p (rows' : List Row), (∀ b o, s.heap.get? b = some o → s'.heap.get? b = some o) → s'.gens = s.gens → s'.os = s.os → s.heap.objs.size ≤ p → (∃ n, s'.heap.get? p = some (seqObj "list" (refs rows').toArray n)) →
      rows'.Perm L → SrtO.Srtd lexK (rows'.map (·.2)) → Q (.ref p) s') :
    wpAny (model P w) A (call (.builtin "sorted") [.ref a]) Q E s := by
  obtain ⟨o, ho, hex, hd⟩ := R.obj
  have len := R.len
  have few := R.few
  refine Calls.call_function_entry kind_sorted plain_sorted entry_sorted (args_sorted1 _) ?_
  unfold Builtin.«sorted»
  refine wpAny_bind (m := checkCount "sorted" 1 1 _) (wpAny_pure ?_)
  refine wpAny_bind (collect_set (A := A.in1) hh ⟨o, ho, hex.1, hd⟩ R.fits (by unfold scanBound; omega) R.tab.ris R.led fun s1 vs k1 z1 g1 o1 pm => ?_)
  have hes : es.toList.map (·.2) = refs L := by rw [R.rows, List.map_map]; rfl
  rw [hes] at pm
  obtain ⟨v1, v2, v3⟩ := rows_back R.tks pm
  generalize vs.map (rowV L) = L1 at v1 v2 v3
  subst v1
  have few1 : L1.length < 64 := by rw [v2.length_eq]; exact few
  have zl : (refs L1).length ≤ sizeLine := by rw [List.length_map, sizeLine_eq]; omega
  refine wpAny_bind (wpAny_newList ?_ zl)
  have hoL : (s1.heap.push (seqObj "list" (refs L1).toArray 0)).get? s1.heap.objs.size = some (seqObj "list" (refs L1).toArray 0) := Heap.get?_push_size _ rfl
  have ht : ∀ r ∈ L1, Tk P w (s1.heap.push (seqObj "list" (refs L1).toArray 0)) r.2 r.1 := fun r hr => (R.tks r (v2.mem_iff.mp hr)).kept fun c o e => Heap.get?_push_of_some _ (k1 c o e)
  refine wpAny_bind (wpAny_holding (wpAny_call_entry slot_list_sort ⟨_, hoL, rfl⟩ entry_list_sort (SrtO.list_sort_ord (ltv := fun v u => lexK (rdOf L1 v) (rdOf L1 u)) (s := { s1 with heap := s1.heap.push (seqObj "list" (refs L1).toArray 0) }) (swo_by _) hoL zl (fun h2 => ?_) fun out hs' hb => ⟨_, rfl, ?_⟩) (args_list_sort _)))
  · refine sortable (s := { s1 with heap := s1.heap.push (seqObj "list" (refs L1).toArray 0) }) (by omega) (rd_all ht fun r hr => hs r (v2.mem_iff.mp hr)) fun o e => ?_
    have e' : some o = some (seqObj "list" (refs L1).toArray 0) := e.symm.trans hoL
    cases e'
    intro c
    exact absurd (Value.type.inj c) (by decide)
  · obtain ⟨r1, r2, r3⟩ := rows_back ht hb.perm
    obtain ⟨c, hc⟩ := sortedHeap_at (vs := refs L1) (out := out.toArray) hoL
    refine wpAny_pure ⟨_, rfl, q _ s1.heap.objs.size (out.map (rowV L1)) (fun b u e => ?_) g1 o1 z1 ⟨c, by rw [← r1]; exact hc⟩ (r2.trans v2) (srtd_rows hs' r3)⟩
    have e1 := k1 b u e
    have lt := Heap.lt_size e1
    show (sortedHeap (s1.heap.push (seqObj "list" (refs L1).toArray 0)) s1.heap.objs.size (refs L1) out.toArray).get? b = some u
    rw [sortedHeap_old (Nat.ne_of_lt lt) (by rw [size_push']; exact Nat.lt_succ_of_lt lt)]
    exact Heap.get?_push_of_some _ e1
end
/-- the set at a, its tuples apart -/
def Bare (P : Program) (w : World) (h : Heap) (a : Addr) (L : List Row) : Prop :=
  ∃ (es : Array (Int × Value)) (ep : Nat) (t : SetTable), (∃ o, h.get? a = some o ∧ o.ExactSet ∧ o.data = .set es ep t) ∧ es.toList = L.map (ent P w) ∧ TabOk t (L.map fun r => hk P w r.2) ∧ (L.map (·.2)).Nodup ∧
    (w.params.followText "set-order" = true ∨ t.led = true) ∧ L.length * 5 < t.mask * 3 ∧ L.length < 64
def SetO (P : Program) (w : World) (a : Addr) (L : List Row) : HO := .ext fun h => Bare P w h a L
theorem Holds.bare {P : Program} {w : World} {h : Heap} {a : Addr} {L : List Row} {es : Array (Int × Value)} {ep : Nat} {t : SetTable} (R : Holds P w h a L es ep t) : Bare P w h a L := ⟨es, ep, t, R.obj, R.rows, R.tab, R.nd, R.led, R.room, R.few⟩
theorem Bare.holds {P : Program} {w : World} {h : Heap} {a : Addr} {L : List Row} (R : Bare P w h a L) (ht : ∀ r ∈ L, Tk P w h r.2 r.1) : ∃ es ep t, Holds P w h a L es ep t := by
  obtain ⟨es, ep, t, h1, h2, h3, h4, h5, h6, h7⟩ := R
  exact ⟨es, ep, t, h1, h2, h3, h4, ht, h5, h6, h7⟩
theorem Bare.ok {P : Program} {w : World} {H : Hp} {h : Heap} {a : Addr} {L : List Row} (R : Bare P w h a L) : ObjOk P w H h a (SetO P w a L) := by
  obtain ⟨es, ep, t, ⟨o, ho, r⟩, q⟩ := id R
  refine ⟨R, ⟨o, ho⟩, fun h1 h2 p k => ?_⟩
  obtain ⟨es', ep', t', ⟨o', ho', r'⟩, q'⟩ := p
  exact ⟨es', ep', t', ⟨o', k o' ho', r'⟩, q'⟩
section
variable {X : Cx} {pins : List (Addr × Obj)} {σ : L2.St} {H : Hp} {s : Shared}
theorem inv_tk (I : Inv X pins σ H s) {b : Addr} {k : List Key} (h : SqT X.K H b (k.map kV)) : Tk X.prog X.w s.heap k b := by
  obtain ⟨its, r, ⟨o, ho, hc, n, hd⟩, _⟩ := I.tuple h
  exact ⟨o, its.toArray, n, ho, hc, hd, by simpa using items_are r⟩
/-- the rows of a list of such tuples -/
abbrev RowsAt (K : PySem.W.Frag) (H : Hp) (rows : List Row) : Prop := ∀ r ∈ rows, SqT K H r.1 (r.2.map kV)
/-- set(xs) -/
def rSetP (K : PySem.W.Frag) (P : Program) (w : World) : List V → Hp → VK → Prop := fun xs H Q => ∃ (l : Addr) (rows : List Row), xs = [V.ref l] ∧ SqL K H l (vrefs rows) ∧ RowsAt K H rows ∧ rows.length < 64 ∧
  ∀ a L, H a = none → (∀ r ∈ L, r ∈ rows) → (∀ r ∈ rows, r.2 ∈ L.map (·.2)) → (L.map (·.2)).Nodup → Q (.ref a) (upd H a (SetO P w a L))
theorem cr_setP (hc : X.calm = true) (hu : X.A.units + 64 < cLine) : CallR X (.type "set") (rSetP X.K X.prog X.w) := by
  intro pins s σ H xs us Q I r h
  obtain ⟨l, rows, rfl, hl, hk0, few, q⟩ := h
  rw [Vals.ref1 r]
  obtain ⟨its, rv, pl, hz⟩ := I.list hl
  have fresh : H s.heap.objs.size = none := I.hok.fresh (Nat.le_refl _)
  refine call_set (P := X.prog) (w := X.w) rows (I.ok.hd hc) pl.isList (by simpa using refs_of rv) (fun r hr => inv_tk I (hk0 r hr)) few (by omega) fun h' tk L es ep t R g k => ?_
  exact ⟨.ref s.heap.objs.size, upd H s.heap.objs.size (SetO X.prog X.w s.heap.objs.size L), I.laid (t' := tk) k (Nat.le_refl _) R.bare.ok, rfl, q _ L fresh (fun r hr => List.mem_of_mem_take (g.1 r hr)) (fun r hr => g.2.1 r (by rw [List.take_length]; exact hr)) R.nd⟩
/-- sorted(a set) -/
def rSortS (K : PySem.W.Frag) (P : Program) (w : World) : List V → Hp → VK → Prop := fun vs H Q => ∃ (a : Addr) (L : List Row) (b : Bool) (sh : List Bool), vs = [V.ref a] ∧ H a = some (SetO P w a L) ∧ RowsAt K H L ∧ (∀ r ∈ L, shp r.2 = b :: sh) ∧
  ∀ (rows' : List Row) (p : Addr), H p = none → rows'.Perm L → SrtO.Srtd lexK (rows'.map (·.2)) → Q (.ref p) (upd H p (.lst (vrefs rows')))
theorem cr_sortS (hc : X.calm = true) : CallR X (.builtin "sorted") (rSortS X.K X.prog X.w) := by
  intro pins s σ H vs us Q I r h
  obtain ⟨a, L, b, sh, rfl, ha, hk0, hs, q⟩ := h
  have R0 : Bare X.prog X.w s.heap a L := (I.hok a _ ha).1
  obtain ⟨es, ep, t, R⟩ := R0.holds fun r hr => inv_tk I (hk0 r hr)
  rw [Vals.ref1 r]
  refine sorted_set R (I.ok.hd hc) hs fun s' p rows' k g o hp at_ pm so => ?_
  obtain ⟨c, at_⟩ := at_
  have few : rows'.length < 64 := by rw [pm.length_eq]; exact R.few
  have fresh : H p = none := I.hok.fresh hp
  have J := I.call' (s' := s') (ch := []) (H' := upd H p (.lst (vrefs rows'))) o (Un.laid k hp fresh) (I.hok.laid k hp ⟨by rw [List.length_map, sizeLine_eq]; omega, _, c, of_refs rows', at_⟩) (by rw [g]; exact I.bare) (fun _ z => nomatch z)
  exact ⟨.ref p, _, J, rfl, q rows' p fresh pm so⟩
/-- sorted(a list) -/
def rSortL (K : PySem.W.Frag) : List V → Hp → VK → Prop := fun vs H Q => ∃ (a : Addr) (rows : List Row) (b : Bool) (sh : List Bool), vs = [V.ref a] ∧ SqL K H a (vrefs rows) ∧ RowsAt K H rows ∧ (∀ r ∈ rows, shp r.2 = b :: sh) ∧
  ∀ (rows' : List Row) (p : Addr), H p = none → rows'.Perm rows → SrtO.Srtd lexK (rows'.map (·.2)) → Q (.ref p) (upd H p (.lst (vrefs rows')))
theorem cr_sortL : CallR X (.builtin "sorted") (rSortL X.K) := by
  intro pins s σ H vs us Q I r h
  obtain ⟨a, rows, b, sh, rfl, hl, hk0, hs, q⟩ := h
  rw [Vals.ref1 r]
  obtain ⟨its, rv, pl, hz⟩ := I.list hl
  have e := refs_of rv
  subst e
  rw [List.length_map] at hz
  refine sorted_list (P := X.prog) (w := X.w) pl.isList hz (fun r hr => inv_tk I (hk0 r hr)) hs fun h' d rows' pm so k hd at_ => ?_
  obtain ⟨n, at_⟩ := at_
  have fresh : H d = none := I.hok.fresh hd
  exact ⟨.ref d, _, I.laid (o := .lst (vrefs rows')) k hd ⟨by rw [List.length_map, pm.length_eq]; exact hz, _, n, of_refs rows', at_⟩, rfl, q rows' d fresh pm so⟩
end
/-- strictly rising rows are sorted in one way alone -/
theorem sorted_one : ∀ {k m : List (List Key)}, k.Perm m → SrtO.Srtd lexK k → SrtO.Srtd lexK m → m.Nodup → k = m
  | [], m, p, _, _, _ => (List.nil_perm.mp p).symm
  | x :: k, [], p, _, _, _ => absurd p.length_eq (by simp)
  | x :: k, y :: m, p, h1, h2, nd => by
    have e : x = y := by
      rcases lexK_tot x y with e | e | e
      · exact e
      · rcases List.mem_cons.mp (p.mem_iff.mp (.head _)) with z | z
        · exact z
        · have := (List.pairwise_cons.mp h2).1 x z
          rw [e] at this; exact nomatch this
      · rcases List.mem_cons.mp (p.mem_iff.mpr (.head _)) with z | z
        · exact z.symm
        · have := (List.pairwise_cons.mp h1).1 y z
          rw [e] at this; exact nomatch this
    subst e
    rw [sorted_one (List.Perm.cons_inv p) (List.pairwise_cons.mp h1).2 (List.pairwise_cons.mp h2).2 (List.nodup_cons.mp nd).2]
end SetP
set_option Elab.async false
set_option linter.all false
set_option maxRecDepth 100000
set_option maxHeartbeats 4000000
/-! # x < y of two tuples of ints and texts of one shape. -/
namespace SetP
open PySem PySem.Spec PyProof.Rows L2 PySem.W
def kD : Key → PyData
  | .inl i => .int i
  | .inr x => .str x
theorem eqv_kD (x y : Key) : PyData.eqv (kD x) (kD y) = decide (x = y) := by
  cases x <;> cases y <;> simp [kD, PyData.eqv] <;> exact (Bool.beq_eq_decide_eq _ _)
theorem alike_kD {x y : Key} (h : Sum.isRight x = Sum.isRight y) : alike (kD x) (kD y) = true := by
  cases x <;> cases y <;> first | rfl | exact nomatch h
theorem dataLt_kD {x y : Key} (h : Sum.isRight x = Sum.isRight y) : dataLt (kD x) (kD y) = kLt x y := by
  cases x <;> cases y <;> first | exact dataLt_int _ _ | exact dataLt_str _ _ | exact nomatch h
theorem alikeAll_kD : ∀ {k m : List Key}, shp k = shp m → alikeAll (k.map kD) (m.map kD) = true
  | [], [], _ => rfl
  | [], _ :: _, h => nomatch h
  | _ :: _, [], h => nomatch h
  | x :: k, y :: m, h => by
    rw [List.map_cons, List.map_cons, alikeAll, alike_kD (List.cons.inj h).1, alikeAll_kD (k := k) (m := m) (List.cons.inj h).2]; rfl
theorem dataLtAll_kD : ∀ {k m : List Key}, shp k = shp m → PyProof.Rows.lexLt itemOrd (keyToksAll (k.map kD)) (keyToksAll (m.map kD)) = lexK k m
  | [], [], _ => by decide +kernel
  | [], _ :: _, h => nomatch h
  | _ :: _, [], h => nomatch h
  | x :: k, y :: m, h => by
    have h1 := (List.cons.inj h).1
    have h2 : shp k = shp m := (List.cons.inj h).2
    rw [List.map_cons, List.map_cons]
    simp only [lexK]
    by_cases e : x = y
    · rw [if_pos e, dataLt_all_yes (alike_kD h1) (by rw [eqv_kD]; exact decide_eq_true e)]
      exact dataLtAll_kD h2
    · rw [if_neg e, dataLt_all_no (alike_kD h1) (by rw [eqv_kD]; exact decide_eq_false e)]
      exact dataLt_kD h1
theorem dp_kV {K : PySem.W.Frag} {H : Hp} (x : Key) : Dp K H (kV x) (kD x) := by
  cases x with
  | inl i => exact .int i
  | inr x => exact .str x
theorem dp_kVs {K : PySem.W.Frag} {H : Hp} : ∀ k : List Key, DpAll K H (k.map kV) (k.map kD)
  | [] => .nil
  | x :: k => .cons (dp_kV x) (dp_kVs k)
theorem depth_kD : ∀ k : List Key, PyData.depthAll (k.map kD) = 0
  | [] => rfl
  | x :: k => by
    show max (PyData.depth (kD x)) (PyData.depthAll (k.map kD)) = 0
    rw [depth_kD k]
    cases x <;> rfl
def rLtK (K : PySem.W.Frag) : R2 := fun x y H Q => ∃ (a b : Addr) (k m : List Key), x = .ref a ∧ y = .ref b ∧ SqT K H a (k.map kV) ∧ SqT K H b (m.map kV) ∧ shp k = shp m ∧ Q (.bl (lexK k m)) H
theorem op_ltK {X : Cx} (hu : X.A.units + 64 < cLine) : OpR X (compareOp .Lt) (rLtK X.K) := by
  intro pins s σ H x y v u Q I rx ry h
  obtain ⟨a, b, k, m, rfl, rfl, hk, hm, hs, q⟩ := h
  obtain ⟨as, r1⟩ := Dp.reads I (.tuple (k.map kD)) _ v (.tup hk (dp_kVs k)) rx
  obtain ⟨bs, r2⟩ := Dp.reads I (.tuple (m.map kD)) _ u (.tup hm (dp_kVs m)) ry
  have hal : alike (.tuple (k.map kD)) (.tuple (m.map kD)) = true := by rw [alike]; exact alikeAll_kD hs
  have hd : min (PyData.depth (.tuple (k.map kD))) (PyData.depth (.tuple (m.map kD))) ≤ 1 := by
    refine Nat.le_trans (Nat.min_le_left _ _) ?_
    show PyData.depthAll (k.map kD) + 1 ≤ 1
    rw [depth_kD]
    exact Nat.le_refl _
  show wpAny _ _ (richCompare .Lt v u) _ _ _
  refine rcLt_alike _ _ X.A s v u as bs r1 r2 hal (fun z => nomatch z) (by omega) X.prog X.w _ _ ?_
  rw [dataLt_tuple, dataLtAll_kD hs]
  exact ⟨.bl _, H, I, rfl, q⟩
end SetP
set_option Elab.async false
set_option linter.all false
set_option maxRecDepth 100000
set_option maxHeartbeats 4000000
namespace L2
open PySem PySem.Spec PyProof.Rows
/-! ### constants and types of the top -/
def Gc (mg : Str → Option Value) (x : Str) (v : V) : Prop := ∃ u, mg x = some u ∧ RelV v u
section
variable {X : Cx} {x : Str} {v : V} {pos : Pos}
theorem pgc (hg : Gl X x) (g : Gc X.mg x v) (hd : (x == ("__debug__" : Str)) = false := by decide) : PE X (.Name x pos) (tC v) := by
  obtain ⟨u, hm, r⟩ := g
  exact pe_glob hg hm r hd
theorem pbl (n : String) (hg : Gl X x) (hm : X.mg x = none) (hv : bootBuiltins x = some (.type n) := by decide +kernel) (hn : x ≠ "__name__" := by decide) (hd : (x == ("__debug__" : Str)) = false := by decide) : PE X (.Name x pos) (tC (.ty n)) := pe_bltn hg hm hv rfl hn hd
end
end L2
namespace K93
open PySem PySem.Spec PyProof.Rows L2 Nam
abbrev prog : Program := PySem.Challenge.pw_pulledplug_k93_whole_fences_by_all_block
def top (i : Nat) : Stmt := prog.main.body.getD i (.Pass ⟨0, 0, 0, 0⟩)
structure MG (mg : Str → Option Value) : Prop where
  isinstance : mg "isinstance" = none
  len : mg "len" = none
  list : mg "list" = none
  tuple : mg "tuple" = none
  str : mg "str" = none
  bool : mg "bool" = none
  all : mg "all" = none
  range : mg "range" = none
  enumerate : mg "enumerate" = none
  zip : mg "zip" = none
  min : mg "min" = none
  max : mg "max" = none
  int : mg "int" = none
  abs : mg "abs" = none
  set : mg "set" = none
  sorted : mg "sorted" = none
  repr : mg "repr" = none
  LETTERS : Gc mg "LETTERS" (.str (S abc))
  LONGEST : Gc mg "LONGEST" (.int 8)
  MOST_SIZE : Gc mg "MOST_SIZE" (.int 100)

/-! ### is_integer, is_within -/
abbrev s_is_integer : Stmt := top 2
abbrev N_is_integer : List Str := ["value"]
theorem sc_is_integer : FnScope N_is_integer ["value"] (defScope s_is_integer) := ⟨rfl, rfl, rfl, by decide +kernel, rfl, by decide +kernel, by decide +kernel⟩
abbrev s_is_within : Stmt := top 3
abbrev N_is_within : List Str := ["value", "least", "most"]
theorem sc_is_within : FnScope N_is_within ["value", "least", "most"] (defScope s_is_within) := ⟨rfl, rfl, rfl, by decide +kernel, rfl, by decide +kernel, by decide +kernel⟩
abbrev s_is_listed : Stmt := top 4
abbrev N_is_listed : List Str := ["value"]
theorem sc_is_listed : FnScope N_is_listed ["value"] (defScope s_is_listed) := ⟨rfl, rfl, rfl, by decide +kernel, rfl, by decide +kernel, by decide +kernel⟩
abbrev s_is_name : Stmt := top 5
abbrev N_is_name : List Str := ["value", "letter"]
theorem sc_is_name : FnScope N_is_name ["value"] (defScope s_is_name) := ⟨rfl, rfl, rfl, by decide +kernel, rfl, by decide +kernel, by decide +kernel⟩
def intD : PyData → Bool
  | .int _ => true
  | _ => false
def spInteger (K : PySem.W.Frag) : Sp := fun vs H Q _ => ∃ v d, vs = [v] ∧ Dp K H v d ∧ Q (.bl (intD d)) H
def bdV : Option Int → V
  | none => .non
  | some i => .int i
def withinD (d : PyData) (lo hi : Option Int) : Bool := match d with
  | .int i => lo.all (fun l => decide (l ≤ i)) && hi.all (fun h => decide (i ≤ h))
  | _ => false
def spWithin (K : PySem.W.Frag) : Sp := fun vs H Q _ => ∃ v d lo hi, vs = [v, bdV lo, bdV hi] ∧ Dp K H v d ∧ Q (.bl (withinD d lo hi)) H
def listedD (d : PyData) : Bool := (prts d).isSome
def spListed (K : PySem.W.Frag) : Sp := fun vs H Q _ => ∃ v d, vs = [v] ∧ Dp K H v d ∧ ∀ H', Same H H' → Q (.bl (listedD d)) H'
def nameD : PyData → Bool
  | .str x => decide (1 ≤ x.length) && (decide (x.length ≤ 8) && x.cps.toList.all fun c => decide (Let c))
  | _ => false
def small : PyData → Prop
  | .str x => x.length ≤ sizeLine
  | _ => True
def spName (K : PySem.W.Frag) : Sp := fun vs H Q _ => ∃ v d, vs = [v] ∧ Dp K H v d ∧ small d ∧ ∀ H', Same H H' → Q (.bl (nameD d)) H'
section
variable {P : Program} {w : World} {K : PySem.W.Frag} {mg : Str → Option Value} {base : Heap}
theorem d_is_integer (M : MG mg) (S0 : St0 K mg "is_integer" s_is_integer ["value"]) : Df P w K mg base CX0 1 "is_integer" s_is_integer ["value"] (spInteger K) := by
  refine S0.df sc_is_integer (fun vs H Q E h => ?_) (fun f cdv A outer s H vs Q E hr h => ?_)
  · obtain ⟨v, d, rfl, _⟩ := h
    rfl
  · refine ⟨_, PSs.nox (pss_one (ps_ret (pe_and (pe_callB call_isiD (by rfl) M.isinstance (by decide +kernel) (pa_cons (pv 0) (pa_cons (pbl "int" rfl M.int) pa_nil))) (pe_one (pe_not (pe_callB call_isiD (by rfl) M.isinstance (by decide +kernel) (pa_cons (pv 0) (pa_cons (pbl "bool" rfl M.bool) pa_nil)))))))), ?_⟩
    obtain ⟨v, d, rfl, hd, hQ⟩ := h
    refine ⟨v, rfl, v, d, "int", rfl, by simp [tyNames], hd, isTy (dty d) "int", rfl, ?_⟩
    have no : isTy (dty d) "int" = false → intD d = false := by cases d <;> simp [isTy, dty, intD]
    have yes : isTy (dty d) "int" = true → (!isTy (dty d) "bool") = intD d := by cases d <;> simp [isTy, dty, intD]
    cases q : isTy (dty d) "int" with
    | false => exact iteF (by rw [no q] at hQ; exact hQ)
    | true => exact iteT ⟨v, rfl, v, d, "bool", rfl, by simp [tyNames], hd, _, rfl, by rw [yes q]; exact hQ⟩
theorem d_is_within (M : MG mg) (S0 : St0 K mg "is_within" s_is_within ["value", "least", "most"]) (D_is_integer : Df P w K mg base CX0 1 "is_integer" s_is_integer ["value"] (spInteger K)) : Df P w K mg base CX0 2 "is_within" s_is_within ["value", "least", "most"] (spWithin K) := by
  refine S0.df sc_is_within (fun vs H Q E h => ?_) (fun f cdv A outer s H vs Q E hr h => ?_)
  · obtain ⟨v, d, lo, hi, rfl, _⟩ := h
    rfl
  · refine ⟨_, PSs.nox (pss_one (ps_ret (pe_and (pd D_is_integer (hr.mono (by decide)) rfl (pa_cons (pv 0) pa_nil)) (pe_and (pe_or (pe_cmpR op_isN (pv 1) pe_non (nomark _)) (pe_one (pe_cmpR op_ge (pv 0) (pv 1) (nomark _)))) (pe_one (pe_or (pe_cmpR op_isN (pv 2) pe_non (nomark _)) (pe_one (pe_cmpR op_le (pv 0) (pv 2) (nomark _))))))))), ?_⟩
    obtain ⟨v, d, lo, hi, rfl, hd, hQ⟩ := h
    refine ⟨v, rfl, v, d, rfl, hd, intD d, rfl, ?_⟩
    cases q : intD d with
    | false =>
      have e : withinD d lo hi = false := by cases d <;> first | rfl | exact nomatch q
      rw [e] at hQ
      exact iteF hQ
    | true =>
      obtain ⟨i, rfl⟩ : ∃ i, d = .int i := by cases d <;> first | exact ⟨_, rfl⟩ | exact nomatch q
      cases hd
      refine iteT ?_
      have fin : ∀ b : Bool, withinD (.int i) lo hi = b → Q (.bl b) H := fun b e => by rw [← e]; exact hQ
      have up : withinD (.int i) lo hi = (lo.all (fun l => decide (l ≤ i)) && hi.all (fun h => decide (i ≤ h))) := rfl
      have last : lo.all (fun l => decide (l ≤ i)) = true → tOrV (tOp (fun x y H Q => y = V.non ∧ Q (V.bl (decide (x = V.non))) H) (tVar 2) (tC V.non)) (tOp (rI0 fun i j => V.bl (decide (i ≤ j))) (tVar 0) (tVar 2)) (L2.start N_is_within [V.int i, bdV lo, bdV hi]) H Q := fun hl => by
        cases hi with
        | none => exact ⟨_, rfl, rfl, true, rfl, iteT (fin true (by rw [up, hl]; rfl))⟩
        | some h => exact ⟨_, rfl, rfl, false, rfl, iteF ⟨_, rfl, _, rfl, _, _, rfl, rfl, fin _ (by rw [up, hl]; rfl)⟩⟩
      cases lo with
      | none => exact ⟨_, rfl, rfl, true, rfl, iteT ⟨true, rfl, iteT (last rfl)⟩⟩
      | some l =>
        refine ⟨_, rfl, rfl, false, rfl, iteF ⟨_, rfl, _, rfl, _, _, rfl, rfl, decide (l ≤ i), rfl, ?_⟩⟩
        cases q2 : decide (l ≤ i) with
        | true => exact iteT (last q2)
        | false => exact iteF (fin false (by rw [up]; show (decide (l ≤ i) && _) = false; rw [q2]; rfl))
theorem d_is_listed (M : MG mg) (S0 : St0 K mg "is_listed" s_is_listed ["value"]) : Df P w K mg base CX0 1 "is_listed" s_is_listed ["value"] (spListed K) := by
  refine S0.df sc_is_listed (fun vs H Q E h => ?_) (fun f cdv A outer s H vs Q E hr h => ?_)
  · obtain ⟨v, d, rfl, _⟩ := h
    rfl
  · refine ⟨_, PSs.nox (pss_one (ps_ret (pe_callB call_isiTD (by rfl) M.isinstance (by decide +kernel) (pa_cons (pv 0) (pa_cons (pe_tup (pa_cons (pbl "list" rfl M.list) (pa_cons (pbl "tuple" rfl M.tuple) pa_nil))) pa_nil))))), ?_⟩
    obtain ⟨v, d, rfl, hd, hQ⟩ := h
    refine ⟨v, rfl, by show 2 ≤ sizeLine; decide, fun p np => ?_⟩
    refine ⟨v, d, p, "list", "tuple", rfl, by simp [tyNames], by simp [tyNames], Dp.same (.upd np) d v hd, upd_same, ?_⟩
    have e : (isTy (dty d) "list" || isTy (dty d) "tuple") = listedD d := by cases d <;> rfl
    rw [e]
    exact hQ _ (.upd np)
theorem d_is_name (M : MG mg) (S0 : St0 K mg "is_name" s_is_name ["value"]) : Df P w K mg base CX0 1 "is_name" s_is_name ["value"] (spName K) := by
  refine S0.df sc_is_name (fun vs H Q E h => ?_) (fun f cdv A outer s H vs Q E hr h => ?_)
  · obtain ⟨v, d, rfl, _⟩ := h
    rfl
  · refine ⟨_, PSs.nox ((pss_one (ps_ret (pe_and (pe_callB call_isiD (by rfl) M.isinstance (by decide +kernel) (pa_cons (pv 0) (pa_cons (pbl "str" rfl M.str) pa_nil))) (pe_and (pe_chain op_le op_le pe_int (pe_callB call_len (by rfl) M.len boot_len (pa_cons (pv 0) pa_nil)) pe_int) (pe_one (pe_callB (cr_all rfl) (by rfl) M.all (by decide +kernel) (pa_cons (pe_lc (own := [("letter", 1)]) rfl sc_is_name.nd (pi_str (pv 0)) (blkOk_by (own := [("letter", 1)]) (N := N_is_name) (sc := defScope s_is_name) (by decide +kernel)) (fun _ _ _ _ _ => (pg_name (i := 1) sc_is_name.nd rfl (Or.inl rfl))) (fun _ _ _ _ _ => pts_nil) (fun _ _ _ _ _ => (pe_cmpR op_in_sign (pv 1) (pgc rfl M.LETTERS) (by rfl)))) pa_nil)))))))), ?_⟩
    obtain ⟨v, d, rfl, hd, hs, hQ⟩ := h
    refine ⟨v, rfl, v, d, "str", rfl, by simp [tyNames], hd, isTy (dty d) "str", rfl, ?_⟩
    have other : (∀ x, d ≠ .str x) → isTy (dty d) "str" = false ∧ nameD d = false := fun ne => by cases d <;> first | exact ⟨rfl, rfl⟩ | exact absurd rfl (ne _)
    by_cases q : ∃ x, d = .str x
    · obtain ⟨x, rfl⟩ := q
      cases hd
      have hx : x.length ≤ sizeLine := hs
      refine iteT ⟨.str x, rfl, .str x, x.length, rfl, ⟨hx, rfl⟩, _, _, rfl, rfl, _, rfl, ite2 (fun h1 => ?_) (fun h1 => ?_)⟩
      · refine ⟨_, _, rfl, rfl, _, rfl, ite2 (fun h2 => ?_) (fun h2 => ?_)⟩
        · refine ⟨.str x, rfl, x, rfl, fun D hD => ?_⟩
          refine lc_same walk_strV (by simp) (fun v => match v with | .str y => some (.bl (decide (y.cps.getD 0 0 ∈ abc))) | _ => none) hD ?_ (fun _ _ => True.intro) (fun v hv H1 acc s1 hl hz Nx n1 n2 => ?_) (fun H1 s1 hl => ?_)
          · rw [List.length_map]
            exact Nat.lt_of_le_of_lt (show x.cps.toList.length ≤ 8 by have := of_decide_eq_true h2; simp only [Str.length] at this; simp; omega) (by decide)
          · obtain ⟨c, hc, rfl⟩ := List.mem_map.mp hv
            exact ⟨rfl, _, rfl, c, S abc, rfl, rfl, acc, hl, hz, n1 H1 _ (Same.refl H1) rfl⟩
          · refine ⟨D, x.cps.toList.map (fun c => decide (c ∈ abc)), rfl, .inl (.inl ?_), ?_⟩
            · rw [hl]
              simp [Function.comp_def]
            · have e0 : nameD (.str x) = (x.cps.toList.map (fun c => decide (c ∈ abc))).all id := by
                have g1 : decide (1 ≤ x.length) = true := decide_eq_true (by have := of_decide_eq_true h1; omega)
                have g2 : decide (x.length ≤ 8) = true := decide_eq_true (by have := of_decide_eq_true h2; omega)
                simp only [nameD, g1, g2, Bool.true_and, List.all_map]
                congr 1
                funext c
                simp [mem_abc]
              rw [← e0]
              exact hQ H1 s1
        · have e0 : nameD (.str x) = false := by
            have : ¬ x.length ≤ 8 := fun z => h2 (decide_eq_true (by omega))
            simp [nameD, this]
          rw [← e0]
          exact hQ H (.refl H)
      · have e0 : nameD (.str x) = false := by
          have : ¬ 1 ≤ x.length := fun z => h1 (decide_eq_true (by omega))
          simp only [nameD, decide_eq_false this, Bool.false_and]
        refine ⟨_, rfl, iteF ?_⟩
        rw [← e0]
        exact hQ H (.refl H)
    · obtain ⟨e1, e2⟩ := other fun x e => q ⟨x, e⟩
      rw [e1]
      refine iteF ?_
      rw [← e2]
      exact hQ H (.refl H)
end
end K93
set_option Elab.async false
set_option linter.all false
set_option maxRecDepth 100000
set_option maxHeartbeats 4000000
namespace L2
open PySem PySem.Spec PyProof.Rows
theorem ixAt {K : PySem.W.Frag} {H : Hp} {a : Addr} {xs : List V} {i : Int} {v : V} {Q : VK} (h : SqL K H a xs ∨ SqT K H a xs) (e : atI xs i = some v) (q : Q v H) : rIx K (.ref a) (.int i) H Q := by
  rcases h with h | h
  · exact .inl ⟨a, xs, i, v, rfl, rfl, h, e, q⟩
  · exact .inr (.inl ⟨a, xs, i, v, rfl, rfl, h, e, q⟩)
end L2
namespace L2
open PySem PySem.Spec PyProof.Rows
theorem lenAt {K : PySem.W.Frag} {H : Hp} {a : Addr} {xs : List V} (h : SqL K H a xs ∨ SqT K H a xs) : LenV K (.ref a) H xs.length := by
  rcases h with h | h
  · exact .inl ⟨xs, h, rfl⟩
  · exact .inr ⟨xs, h, rfl⟩
end L2
namespace K93
open PySem PySem.Spec PyProof.Rows L2 Nam
abbrev s_is_version : Stmt := top 22
abbrev N_is_version : List Str := ["value"]
theorem sc_is_version : FnScope N_is_version ["value"] (defScope s_is_version) := ⟨rfl, rfl, rfl, by decide +kernel, rfl, by decide +kernel, by decide +kernel⟩
def noneD : PyData → Bool
  | .none => true
  | _ => false
def verD (d : PyData) : Bool := match prts d with
  | some [a, b, c] => nameD a && (withinD b (some 1) none && (noneD c || nameD c))
  | _ => false
def small2 (d : PyData) : Prop := ∀ ds, prts d = some ds → ∀ x ∈ ds, small x
def spVersion (K : PySem.W.Frag) : Sp := fun vs H Q _ => ∃ v d, vs = [v] ∧ Dp K H v d ∧ small2 d ∧ ∀ H', Same H H' → Q (.bl (verD d)) H'
section
variable {P : Program} {w : World} {K : PySem.W.Frag} {mg : Str → Option Value} {base : Heap}
theorem d_is_version (M : MG mg) (S0 : St0 K mg "is_version" s_is_version ["value"]) (D_is_listed : Df P w K mg base CX0 1 "is_listed" s_is_listed ["value"] (spListed K)) (D_is_name : Df P w K mg base CX0 1 "is_name" s_is_name ["value"] (spName K)) (D_is_within : Df P w K mg base CX0 2 "is_within" s_is_within ["value", "least", "most"] (spWithin K)) :
    Df P w K mg base CX0 3 "is_version" s_is_version ["value"] (spVersion K) := by
  refine S0.df sc_is_version (fun vs H Q E h => ?_) (fun f cdv A outer s H vs Q E hr h => ?_)
  · obtain ⟨v, d, rfl, _⟩ := h
    rfl
  · refine ⟨_, PSs.nox (pss_cons (ps_if (PW.pt (pw_or (pt_not (pt_val (pd D_is_listed (hr.mono (by decide)) rfl (pa_cons (pv 0) pa_nil)))) (pw_or (pt_cmpR op_ne (pe_callB call_len (by rfl) M.len boot_len (pa_cons (pv 0) pa_nil)) pe_int (nomark _)) (pw_or (pt_not (pt_val (pd D_is_name (hr.mono (by decide)) rfl (pa_cons (pe_ix ix_seq (pv 0) pe_int (fun _ _ => rfl)) pa_nil)))) (pw_or1 (pt_not (pt_val (pd D_is_within (hr.mono (by decide)) rfl (pa_cons (pe_ix ix_seq (pv 0) pe_int (fun _ _ => rfl)) (pa_cons pe_int (pa_cons pe_non pa_nil))))))))))) (pss_one (ps_ret pe_bl)) pss_nil)
  (pss_one (ps_ret (pe_or (pe_cmpR op_isN (pe_ix ix_seq (pv 0) pe_int (fun _ _ => rfl)) pe_non (nomark _)) (pe_one (pd D_is_name (hr.mono (by decide)) rfl (pa_cons (pe_ix ix_seq (pv 0) pe_int (fun _ _ => rfl)) pa_nil))))))), ?_⟩
    obtain ⟨v, d, rfl, hd, hs, hQ⟩ := h
    refine ⟨v, rfl, v, d, rfl, hd, fun H1 s1 => ⟨_, rfl, ?_⟩⟩
    cases q : prts d with
    | none =>
      have e1 : listedD d = false := by unfold listedD; rw [q]; rfl
      have e2 : verD d = false := by unfold verD; rw [q]
      rw [e1]
      refine iteT ?_
      rw [← e2]
      exact hQ H1 s1
    | some ds =>
      have e1 : listedD d = true := by unfold listedD; rw [q]; rfl
      rw [e1]
      refine iteF ?_
      obtain ⟨a, xs, rfl, hS, hA⟩ := (Dp.same s1 d v hd).prts q
      have hlen : xs.length = ds.length := hA.len
      have len3 : ds.length ≠ 3 → verD d = false := fun ne => by
        unfold verD; rw [q]
        match ds, ne with
        | [], _ => rfl
        | [_], _ => rfl
        | [_, _], _ => rfl
        | [_, _, _], ne => exact absurd rfl ne
        | _ :: _ :: _ :: _ :: _, _ => rfl
      refine ⟨.ref a, rfl, .ref a, _, rfl, lenAt hS, rfl, _, rfl, ite2 (fun h1 => ?_) (fun h1 => ?_)⟩
      · have ne : ds.length ≠ 3 := fun e => by rw [hlen, e] at h1; exact absurd h1 (by decide)
        show Q (.bl false) H1
        rw [← len3 ne]
        exact hQ H1 s1
      · have q3 : ds.length = 3 := by
          by_cases e : ds.length = 3
          · exact e
          · refine absurd (show (!decide (V.int (xs.length : Nat) = V.int 3)) = true from ?_) h1
            rw [hlen, decide_eq_false (fun z => e (by have := V.int.inj z; omega))]; rfl
        obtain ⟨x, y, z, rfl⟩ : ∃ x y z, ds = [x, y, z] := by
          match ds, q3 with
          | [x, y, z], _ => exact ⟨x, y, z, rfl⟩
        cases hA with
        | cons hx hA => cases hA with
          | cons hy hA => cases hA with
            | cons hz hA =>
              cases hA
              rename_i vx vy vz
              have up : verD d = (nameD x && (withinD y (some 1) none && (noneD z || nameD z))) := by unfold verD; rw [q]
              refine ⟨_, rfl, ixAt hS (i := 0) rfl ⟨vx, x, rfl, hx, hs _ q x (by simp), fun H2 s2 => ⟨_, rfl, ?_⟩⟩⟩
              have s12 := s1.trans s2
              have hS2 := s2.sq hS
              cases qx : nameD x with
              | false =>
                refine iteT ?_
                show Q (.bl false) H2
                rw [show false = verD d from by rw [up, qx]; rfl]
                exact hQ H2 s12
              | true =>
                refine iteF ⟨_, rfl, ixAt hS2 (i := 1) rfl ⟨vy, y, some 1, none, rfl, Dp.same s2 y vy hy, ⟨_, rfl, ?_⟩⟩⟩
                cases qy : withinD y (some 1) none with
                | false =>
                  refine iteT ?_
                  show Q (.bl false) H2
                  rw [show false = verD d from by rw [up, qx, qy]; rfl]
                  exact hQ H2 s12
                | true =>
                  have up2 : verD d = (noneD z || nameD z) := by rw [up, qx, qy]; rfl
                  refine iteF ⟨_, rfl, ixAt hS2 (i := 2) rfl ⟨rfl, _, rfl, ?_⟩⟩
                  have hz2 := Dp.same s2 z vz hz
                  by_cases qz : vz = V.non
                  · subst qz
                    cases hz
                    refine iteT ?_
                    rw [show true = verD d from by rw [up2]; rfl]
                    exact hQ H2 s12
                  · rw [decide_eq_false qz]
                    refine iteF ⟨_, rfl, ixAt hS2 (i := 2) rfl ⟨vz, z, rfl, hz2, hs _ q z (by simp), fun H3 s3 => ?_⟩⟩
                    have e : noneD z = false := by cases hz <;> first | rfl | exact absurd rfl qz
                    rw [show nameD z = verD d from by rw [up2, e]; rfl]
                    exact hQ H3 (s12.trans s3)
end
end K93
set_option Elab.async false
set_option linter.all false
set_option maxRecDepth 100000
set_option maxHeartbeats 4000000
namespace K93
open PySem PySem.Spec PyProof.Rows L2 Nam
section
variable {P : Program} {w : World} {K : PySem.W.Frag} {mg : Str → Option Value} {base : Heap}
/-! ### longer_ones -/
abbrev s_longer_ones : Stmt := top 16
abbrev N_longer_ones : List Str := ["many", "found", "_"]
theorem sc_longer_ones : FnScope N_longer_ones ["many"] (defScope s_longer_ones) := ⟨rfl, rfl, rfl, by decide +kernel, rfl, by decide +kernel, by decide +kernel⟩
def spLonger : Sp := fun vs H Q _ => ∃ k : Nat, vs = [.int k] ∧ k ≤ 1000 ∧ Q (.int (L k)) H
theorem d_longer_ones (M : MG mg) (S0 : St0 K mg "longer_ones" s_longer_ones ["many"]) : Df P w K mg base CX0 1 "longer_ones" s_longer_ones ["many"] spLonger := by
  refine S0.df sc_longer_ones (fun vs H Q E h => ?_) (fun f cdv A outer s H vs Q E hr h => ?_)
  · obtain ⟨l, rfl, _⟩ := h
    rfl
  · refine ⟨_, PSs.nox (pss_cons (ps_set (i := 1) sc_longer_ones.nd rfl (Or.inl rfl) pe_int)
  (pss_cons (ps_for PassesOwn.never rfl (pi_range1 rfl M.range (pa_cons (pv 0) pa_nil)) (pg_name (i := 2) sc_longer_ones.nd rfl (Or.inl rfl))
  (pss_one (ps_set (i := 1) sc_longer_ones.nd rfl (Or.inl rfl) (pe_op op_add (pe_op op_mul pe_int (pv 1)) pe_int))))
  (pss_one (ps_ret (pv 1))))), ?_⟩
    obtain ⟨k, rfl, hk, hQ⟩ := h
    refine ⟨.int k, rfl, (k : Int), rfl, by omega, by omega, ?_⟩
    refine for_it walk_range (fun i σ H' => H' = H ∧ ∃ v, σ = [some (.int k), some (.int (L i)), v]) ⟨rfl, none, rfl⟩ (fun _ _ _ _ _ => True.intro) ?_ ?_
    · rintro i x σ H' H'' hi ⟨rfl, v, rfl⟩ ⟨rfl, rfl⟩
      refine ⟨.int (L i), rfl, 26, (L i : Int), rfl, rfl, .inl ⟨by decide, by decide⟩, _, _, rfl, rfl, rfl, some (.int (0 + (i : Int))), ?_⟩
      have e1 : L (i + 1) = 26 * L i + 1 := rfl
      have e2 : (26 * (L i : Int) + 1) = ((L (i + 1) : Nat) : Int) := by omega
      rw [← e2]
      rfl
    · rintro σ H' ⟨rfl, v, rfl⟩
      exact ⟨_, rfl, hQ⟩
/-! ### rank_of -/
abbrev s_rank_of : Stmt := top 17
abbrev N_rank_of : List Str := ["name", "found", "at", "letter"]
theorem sc_rank_of : FnScope N_rank_of ["name"] (defScope s_rank_of) := ⟨rfl, rfl, rfl, by decide +kernel, rfl, by decide +kernel, by decide +kernel⟩
def spRank : Sp := fun vs H Q _ => ∃ l, vs = [.str (S l)] ∧ Nm l ∧ ∀ H', Same H H' → Q (.int ((R 8 l : Nat) - 1)) H'
theorem d_rank_of (M : MG mg) (S0 : St0 K mg "rank_of" s_rank_of ["name"]) (D_longer_ones : Df P w K mg base CX0 1 "longer_ones" s_longer_ones ["many"] spLonger) : Df P w K mg base CX0 2 "rank_of" s_rank_of ["name"] spRank := by
  refine S0.df sc_rank_of (fun vs H Q E h => ?_) (fun f cdv A outer s H vs Q E hr h => ?_)
  · obtain ⟨l, rfl, _⟩ := h
    rfl
  · refine ⟨_, PSs.nox (pss_cons (ps_set (i := 1) sc_rank_of.nd rfl (Or.inl rfl) (pe_op op_sub (pe_callB call_len (by rfl) M.len boot_len (pa_cons (pv 0) pa_nil)) pe_int))
  (pss_cons (ps_for PassesOwn.never rfl (pi_enumS rfl M.enumerate (pa_cons (pv 0) pa_nil)) (pg_tup rfl (pgs_cons (pg_name (i := 2) sc_rank_of.nd rfl (Or.inl rfl)) (pgs_cons (pg_name (i := 3) sc_rank_of.nd rfl (Or.inl rfl)) pgs_nil)))
  (pss_one (ps_set (i := 1) sc_rank_of.nd rfl (Or.inl rfl) (pe_op op_add (pv 1) (pe_op op_mul (pe_bmS PySem.F.plainAttrs_str PySem.F.slot_str_index PySem.F.type_str_index (mt_indexX rfl LamX.takes0) (pgc rfl M.LETTERS) (pa_cons (pv 3) pa_nil)) (pd D_longer_ones (hr.mono (by decide)) rfl (pa_cons (pe_op op_sub (pe_op op_sub (pgc rfl M.LONGEST) pe_int) (pv 2)) pa_nil)))))))
  (pss_one (ps_ret (pv 1))))), ?_⟩
    obtain ⟨l, rfl, hl, hQ⟩ := h
    refine ⟨.str (S l), rfl, .str (S l), _, rfl, ⟨small_len hl.len, rfl⟩, _, _, rfl, rfl, .str (S l), rfl, S l, rfl, ?_⟩
    refine for_it walk_enumS (fun i σ H' => Same H H' ∧ ∃ v v', σ = [some (.str (S l)), some (.int ((R 8 l : Int) - 1 - (R (8 - i) (l.drop i) : Int) + ((l.length : Int) - i))), v, v']) ⟨.refl H, none, none, ?_⟩ (fun _ _ _ _ _ => True.intro) ?_ ?_
    · show [some (V.str (S l)), some (V.int (((S l).length : Int) - 1)), none, none] = _
      rw [S_len, List.drop_zero]
      congr 3
      show V.int ((l.length : Int) - 1) = V.int ((R 8 l : Int) - 1 - (R 8 l : Int) + ((l.length : Int) - 0))
      congr 1
      omega
    · rintro i x σ H' H'' hi ⟨sm, v, v', rfl⟩ ⟨T, c, rfl, nT, rfl, hc⟩
      refine ⟨T, _, rfl, .inl (.inl upd_same), rfl, _, _, rfl, _, _, rfl, rfl, ?_⟩
      have hc' : l[i]? = some c := by simpa [S] using hc
      have hil : i < l.length := (List.getElem?_eq_some_iff.mp hc').1
      have hi8 : i < 8 := Nat.lt_of_lt_of_le hil hl.len
      have hcl : Let c := hl.let_ c (List.mem_of_getElem? hc')
      have ed : l.drop i = c :: l.drop (i + 1) := by
        rw [List.drop_eq_getElem_cons hil]
        congr 1
        exact (List.getElem?_eq_some_iff.mp hc').2
      have eR : R (8 - i) (l.drop i) = 1 + (c - 97) * L (7 - i) + R (8 - (i + 1)) (l.drop (i + 1)) := by
        rw [ed, show 8 - i = (7 - i) + 1 by omega, show 8 - (i + 1) = 7 - i by omega]
        rfl
      refine ⟨_, rfl, rfl, .str ⟨#[c]⟩, rfl, S abc, ⟨#[c]⟩, rfl, rfl, fun k hk => ?_, fun z => ?_⟩
      · rw [index_abc hcl] at hk
        cases hk
        refine ⟨_, _, rfl, rfl, .int (i : Nat), rfl, _, _, rfl, rfl, 7 - i, ?_, by omega, ?_⟩
        · show [V.int (8 - 1 - (i : Int))] = [V.int ((7 - i : Nat) : Int)]
          congr 2
          omega
        · refine ⟨_, _, rfl, rfl, .inl ⟨by omega, by unfold Let at hcl; omega⟩, _, _, rfl, rfl, sm.trans (.upd nT), some (.int (i : Nat)), some (.str ⟨#[c]⟩), ?_⟩
          have e5 : ((c - 97 : Nat) : Int) * ((L (7 - i) : Nat) : Int) = (((c - 97) * L (7 - i) : Nat) : Int) := by rw [Int.natCast_mul]
          have e4 : ((R 8 l : Int) - 1 - (R (8 - i) (l.drop i) : Int) + ((l.length : Int) - i)) + ((c - 97 : Nat) : Int) * ((L (7 - i) : Nat) : Int) = ((R 8 l : Int) - 1 - (R (8 - (i + 1)) (l.drop (i + 1)) : Int) + ((l.length : Int) - ((i + 1 : Nat) : Int))) := by
            rw [e5, eR]
            omega
          rw [← e4]
          rfl
      · rw [index_abc hcl] at z
        cases z
    · rintro σ H' ⟨sm, v, v', rfl⟩
      refine ⟨_, rfl, ?_⟩
      have e : ((R 8 l : Int) - 1 - (R (8 - (S l).cps.size) (l.drop (S l).cps.size) : Int) + ((l.length : Int) - ((S l).cps.size : Nat))) = (R 8 l : Int) - 1 := by
        have h1 : (S l).cps.size = l.length := by simp [S]
        rw [h1, List.drop_length, R_nil]
        omega
      rw [e]
      exact hQ _ sm
end
end K93
set_option Elab.async false
set_option linter.all false
set_option maxRecDepth 100000
set_option maxHeartbeats 4000000
namespace K93
open PySem PySem.Spec PyProof.Rows L2 Nam SetP
abbrev s_is_block : Stmt := top 23
abbrev N_is_block : List Str := ["value", "one", "other"]
theorem sc_is_block : FnScope N_is_block ["value"] (defScope s_is_block) := ⟨rfl, rfl, rfl, by decide +kernel, rfl, by decide +kernel, by decide +kernel⟩
/-- a version's key and number -/
def pairK (d : PyData) : List Key := match prts d with
  | some (.str x :: .int n :: _) => [Sum.inr x, Sum.inl n]
  | _ => []
theorem verD_pair {d : PyData} (h : verD d = true) : ∃ x n z, prts d = some [.str x, .int n, z] ∧ pairK d = [Sum.inr x, Sum.inl n] := by
  unfold verD at h
  cases q : prts d with
  | none => rw [q] at h; exact nomatch h
  | some ds =>
    rw [q] at h
    match ds, h with
    | [a, b, c], h =>
      simp only [Bool.and_eq_true] at h
      obtain ⟨h1, h2, _⟩ := h
      cases a with
      | str x => cases b with
        | int n => exact ⟨x, n, c, rfl, by unfold pairK; rw [q]⟩
        | _ => exact nomatch h2
      | _ => exact nomatch h1
def rising (ds : List PyData) : Bool := (ds.zip ds.tail).all fun p => lexK (pairK p.1) (pairK p.2)
def blockD (d : PyData) : Bool := match prts d with
  | some ds => !ds.isEmpty && (ds.all verD && rising ds)
  | none => false
def small3 (d : PyData) : Prop := ∀ ds, prts d = some ds → ds.length ≤ 1000 ∧ ∀ x ∈ ds, small2 x
def spBlock (K : PySem.W.Frag) : Sp := fun vs H Q _ => ∃ v d, vs = [v] ∧ Dp K H v d ∧ small3 d ∧ ∀ H', Same H H' → Q (.bl (blockD d)) H'
theorem ver_at {K : PySem.W.Frag} {H : Hp} {v : V} {d : PyData} (h : Dp K H v d) (hv : verD d = true) : ∃ a x n z, v = .ref a ∧ (SqL K H a [.str x, .int n, z] ∨ SqT K H a [.str x, .int n, z]) ∧ pairK d = [Sum.inr x, Sum.inl n] := by
  obtain ⟨x, n, z, e, ep⟩ := verD_pair hv
  obtain ⟨a, ys, rfl, hS, hA⟩ := h.prts e
  cases hA with
  | cons h1 hA => cases hA with
    | cons h2 hA => cases hA with
      | cons h3 hA =>
        cases hA
        cases h1
        cases h2
        exact ⟨a, x, n, _, rfl, hS, ep⟩
theorem cut_tail (xs : List V) : cutV xs (some 1) none = xs.tail := by
  unfold cutV
  rw [HT.sIx_none, show (1 : Int) = ((1 : Nat) : Int) from rfl, HT.sIx_nat]
  cases xs with
  | nil => rfl
  | cons x l => simp
section
variable {P : Program} {w : World} {K : PySem.W.Frag} {mg : Str → Option Value} {base : Heap}
theorem d_is_block (M : MG mg) (S0 : St0 K mg "is_block" s_is_block ["value"]) (D_is_listed : Df P w K mg base CX0 1 "is_listed" s_is_listed ["value"] (spListed K)) (D_is_version : Df P w K mg base CX0 3 "is_version" s_is_version ["value"] (spVersion K)) :
    Df P w K mg base CX0 4 "is_block" s_is_block ["value"] (spBlock K) := by
  refine S0.df sc_is_block (fun vs H Q E h => ?_) (fun f cdv A outer s H vs Q E hr h => ?_)
  · obtain ⟨v, d, rfl, _⟩ := h
    rfl
  · refine ⟨_, PSs.nox (pss_cons (ps_if (PW.pt (pw_or (pt_not (pt_val (pd D_is_listed (hr.mono (by decide)) rfl (pa_cons (pv 0) pa_nil)))) (pw_or (pt_cmpR op_eq (pe_callB call_len (by rfl) M.len boot_len (pa_cons (pv 0) pa_nil)) pe_int (nomark _)) (pw_or1 (pt_not (pt_val (pe_callB (cr_all rfl) (by rfl) M.all (by decide +kernel) (pa_cons (pe_lc (own := [("one", 1)]) rfl sc_is_block.nd (pi_seq (pv 0)) (blkOk_by (own := [("one", 1)]) (N := N_is_block) (sc := defScope s_is_block) (by decide +kernel)) (fun _ _ _ _ _ => (pg_name (i := 1) sc_is_block.nd rfl (Or.inl rfl))) (fun _ _ _ _ _ => pts_nil) (fun _ _ _ _ _ => (pd D_is_version (hr.mono (by decide)) rfl (pa_cons (pv 1) pa_nil)))) pa_nil)))))))) (pss_one (ps_ret pe_bl)) pss_nil)
  (pss_one (ps_ret (pe_callB (cr_all rfl) (by rfl) M.all (by decide +kernel) (pa_cons (pe_lc (own := [("one", 1), ("other", 2)]) (g := gTup K 2 (gCons (gName 1) (gCons (gName 2) gNil))) rfl sc_is_block.nd (RZ.pi_zipA rfl M.zip (pa_cons (pv 0) (pa_cons (pe_slice sl_seq (pv 0) (po_some pe_int) po_none) pa_nil))) (blkOk_by (own := [("one", 1), ("other", 2)]) (N := N_is_block) (sc := defScope s_is_block) (by decide +kernel)) (fun _ _ _ _ _ => (pg_tup (n := 2) rfl (pgs_cons (pg_name (i := 1) sc_is_block.nd rfl (Or.inl rfl)) (pgs_cons (pg_name (i := 2) sc_is_block.nd rfl (Or.inl rfl)) pgs_nil)))) (fun _ _ _ _ _ => pts_nil) (fun _ _ _ _ _ => (pe_cmpR (r := rLtK K) (op_ltK hr.units) (pe_tup (pa_cons (pe_ix (r := rIx K) ix_seq (pv 1) pe_int (fun _ _ => rfl)) (pa_cons (pe_ix (r := rIx K) ix_seq (pv 1) pe_int (fun _ _ => rfl)) pa_nil))) (pe_tup (pa_cons (pe_ix (r := rIx K) ix_seq (pv 2) pe_int (fun _ _ => rfl)) (pa_cons (pe_ix (r := rIx K) ix_seq (pv 2) pe_int (fun _ _ => rfl)) pa_nil))) (nomark _)))) pa_nil))))), ?_⟩
    obtain ⟨v, d, rfl, hd, hs, hQ⟩ := h
    refine ⟨v, rfl, v, d, rfl, hd, fun H1 s1 => ⟨_, rfl, ?_⟩⟩
    cases q : prts d with
    | none =>
      have e1 : listedD d = false := by unfold listedD; rw [q]; rfl
      have e2 : blockD d = false := by unfold blockD; rw [q]
      rw [e1]
      refine iteT ?_
      rw [← e2]
      exact hQ H1 s1
    | some ds =>
      have e1 : listedD d = true := by unfold listedD; rw [q]; rfl
      rw [e1]
      refine iteF ?_
      obtain ⟨a, xs, rfl, hS, hA⟩ := (Dp.same s1 d v hd).prts q
      have hlen : xs.length = ds.length := hA.len
      obtain ⟨hsz, hsm⟩ := hs ds q
      have up : blockD d = (!ds.isEmpty && (ds.all verD && rising ds)) := by unfold blockD; rw [q]
      refine ⟨.ref a, rfl, .ref a, _, rfl, lenAt hS, rfl, _, rfl, ite2 (fun h1 => ?_) (fun h1 => ?_)⟩
      · have e0 : ds = [] := by
          have z : decide (V.int (xs.length : Nat) = V.int 0) = true := h1
          have z2 := V.int.inj (of_decide_eq_true z)
          exact List.eq_nil_of_length_eq_zero (by omega)
        show Q (.bl false) H1
        rw [show false = blockD d from by rw [up, e0]; rfl]
        exact hQ H1 s1
      · have ne : ds.isEmpty = false := by
          cases ds with
          | nil => exact absurd (show decide (V.int (xs.length : Nat) = V.int 0) = true by rw [hlen]; rfl) h1
          | cons x l => rfl
        refine ⟨_, rfl, a, xs, rfl, hS, fun J G wk hG D hD => ?_⟩
        refine lc_ix wk rfl (ds.map fun x => some (.bl (verD x))) (by rw [List.length_map, hlen]) hD (Nat.lt_of_le_of_lt (show xs.length ≤ 1000 by omega) (by decide)) hG (fun i x o hx ho H2 acc s2 hl2 hz2 Nx n1 n2 => ?_) (fun H2 s2 hl2 => ?_)
        · obtain ⟨dx, hdx, hpx⟩ := hA.at_ hx
          have eo : o = some (.bl (verD dx)) := by rw [List.getElem?_map, hdx] at ho; exact (Option.some.inj ho).symm
          refine ⟨rfl, _, rfl, x, dx, rfl, Dp.same s2 dx x hpx, hsm dx (List.mem_of_getElem? hdx), fun H3 s3 => ?_⟩
          exact ⟨acc, s3 _ _ hl2, hz2, n1 H3 _ s3 eo⟩
        · refine ⟨D, ds.map verD, rfl, .inl (.inl ?_), _, rfl, ?_⟩
          · rw [hl2]
            simp [List.filterMap_map, Function.comp_def, List.filterMap_eq_map]
          · have ea : (ds.map verD).all id = ds.all verD := by simp [List.all_map, Function.comp_def]
            rw [ea]
            cases q3 : ds.all verD with
            | false =>
              refine iteT ?_
              show Q (.bl false) H2
              rw [show false = blockD d from by rw [up, q3, ne]; rfl]
              exact hQ H2 (s1.trans s2)
            | true =>
              have up2 : blockD d = rising ds := by rw [up, q3, ne]; rfl
              refine iteF ?_
              have hS2 := s2.sq hS
              refine ⟨.ref a, rfl, .ref a, rfl, 1, rfl, slAt hS2 fun p H3 s3 alt => ?_⟩
              have s13 := s2.trans s3
              have s03 := s1.trans s13
              have hA3 := DpAll.same s13 ds xs hA
              rw [cut_tail] at alt
              have core : ∀ (J : It) (G : Hp → Prop), Walk J (min xs.length xs.tail.length) G (YPair (fun i => xs[i]?) (fun i => xs.tail[i]?)) → (∀ H', Same H3 H' → G H') → ∀ D, H3 D = none → _ := fun J G wk hG D hD =>
                lc_y (g := gTup K 2 (gCons (gName 1) (gCons (gName 2) gNil))) (tt := tYes) (te := tOp (rLtK K) (tTup (tCons (tOp (rIx K) (tVar 1) (tC (V.int 0))) (tCons (tOp (rIx K) (tVar 1) (tC (V.int 1))) tNil))) (tTup (tCons (tOp (rIx K) (tVar 2) (tC (V.int 0))) (tCons (tOp (rIx K) (tVar 2) (tC (V.int 1))) tNil)))) (vs := [1, 2]) (σ := L2.start N_is_block [V.ref a]) (H1 := H3) (D := D)
                  (Qd := fun H4 => Same H3 H4 ∧ H4 D = some (.lst (((ds.zip ds.tail).map fun p => lexK (pairK p.1) (pairK p.2)).map V.bl))) wk (fun _ _ _ _ y => y.same)
                  ((ds.zip ds.tail).map fun p => some (.bl (lexK (pairK p.1) (pairK p.2)))) (by simp [hlen]) hD (Nat.lt_of_le_of_lt (show min xs.length xs.tail.length ≤ 1000 by omega) (by decide)) hG
                  (fun i v o H5 H6 s5 y ho acc hl6 hz6 Nx n1 n2 => ?_) (fun H4 s4 hl4 => ⟨s4, by rw [hl4]; simp [List.filterMap_map, Function.comp_def, List.filterMap_eq_map]⟩)
              · have fin : ∀ D, H3 D = none → ∀ H4, Same H3 H4 ∧ H4 D = some (.lst (((ds.zip ds.tail).map fun p => lexK (pairK p.1) (pairK p.2)).map V.bl)) → rAll K [V.ref D] H4 Q := fun D hD H4 z => by
                  refine ⟨D, (ds.zip ds.tail).map fun p => lexK (pairK p.1) (pairK p.2), rfl, .inl (.inl z.2), ?_⟩
                  have e : ((ds.zip ds.tail).map fun p => lexK (pairK p.1) (pairK p.2)).all id = blockD d := by
                    rw [up2]
                    simp [rising, List.all_map, Function.comp_def]
                  rw [e]
                  exact hQ H4 (s03.trans z.1)
                rcases alt with ⟨h1, h2⟩ | ⟨h1, h2⟩
                · refine ⟨a, p, xs, xs.tail, rfl, .inl ⟨s3.seq h1, h2, fun D hD => ?_⟩⟩
                  obtain ⟨W, w0, ws⟩ := core _ _ (walk_zip rfl) (fun H' s => ⟨s.seq (s3.seq h1), s.seq h2⟩) D hD
                  exact ⟨W, w0, fun i m H4 hw => (ws i m H4 hw).imp (fun z => ⟨z.1, fin D hD H4 z.2⟩) id⟩
                · refine ⟨a, p, xs, xs.tail, rfl, .inr ⟨s3.tup h1, h2, fun D hD => ?_⟩⟩
                  obtain ⟨W, w0, ws⟩ := core _ _ (walk_zipT rfl) (fun H' s => ⟨s.tup (s3.tup h1), s.tup h2⟩) D hD
                  exact ⟨W, w0, fun i m H4 hw => (ws i m H4 hw).imp (fun z => ⟨z.1, fin D hD H4 z.2⟩) id⟩
              · obtain ⟨T, x, z, rfl, nT, rfl, hx, hz⟩ := y
                obtain ⟨dx, hdx, hpx⟩ := hA3.at_ hx
                have hz' : xs[i + 1]? = some z := by rw [← hz]; cases xs <;> simp
                obtain ⟨dz, hdz, hpz⟩ := hA3.at_ hz'
                have vx : verD dx = true := List.all_eq_true.mp q3 dx (List.mem_of_getElem? hdx)
                have vz : verD dz = true := List.all_eq_true.mp q3 dz (List.mem_of_getElem? hdz)
                have eo : o = some (.bl (lexK (pairK dx) (pairK dz))) := by
                  have ez : (ds.zip ds.tail)[i]? = some (dx, dz) := by
                    rw [List.getElem?_zip_eq_some]
                    exact ⟨hdx, by rw [← hdz]; cases ds <;> simp⟩
                  rw [List.getElem?_map, ez] at ho
                  exact (Option.some.inj ho).symm
                have s6 : Same H3 (upd H5 T (.tup [x, z])) := s5.trans (.upd nT)
                obtain ⟨ax, kx, nx, wx, rfl, hSx, epx⟩ := ver_at (Dp.same s6 dx x hpx) vx
                obtain ⟨az, kz, nz, wz, rfl, hSz, epz⟩ := ver_at (Dp.same s6 dz z hpz) vz
                refine ⟨T, _, rfl, .inl (.inl upd_same), rfl, _, _, rfl, _, _, rfl, rfl, rfl, ?_⟩
                refine ⟨_, rfl, ixAt hSx (i := 0) rfl ⟨_, rfl, ixAt hSx (i := 1) rfl ⟨by show 2 ≤ sizeLine; decide, fun t1 nt1 => ?_⟩⟩⟩
                have sz := Same.upd (o := .tup [.str kx, .int nx]) nt1
                refine ⟨_, rfl, ixAt (sz.sq hSz) (i := 0) rfl ⟨_, rfl, ixAt (sz.sq hSz) (i := 1) rfl ⟨by show 2 ≤ sizeLine; decide, fun t2 nt2 => ?_⟩⟩⟩
                have sz2 := Same.upd (o := .tup [.str kz, .int nz]) nt2
                refine ⟨t1, t2, [Sum.inr kx, Sum.inl nx], [Sum.inr kz, Sum.inl nz], rfl, rfl, .inl (.inl (sz2 _ _ upd_same)), .inl (.inl upd_same), rfl, acc, (sz.trans sz2) _ _ hl6, hz6, ?_⟩
                rw [← epx, ← epz]
                exact n1 _ _ (sz.trans sz2) eo
end
end K93
set_option Elab.async false
set_option linter.all false
set_option maxRecDepth 100000
set_option maxHeartbeats 4000000
namespace L2
open PySem PySem.Spec PyProof.Rows
theorem pg_either {X : Cx} {t : Expr} {g g' : TG} (a : PG X t g) (b : PG X t g') : PG X t (fun v σ H Q => g v σ H Q ∨ g' v σ H Q) :=
  ⟨fun pins s σ H v u Q I r h => h.elim (a.run pins s σ H v u Q I r) (b.run pins s σ H v u Q I r)⟩
end L2
namespace K93
open PySem PySem.Spec PyProof.Rows L2 Nam SetP
abbrev s_is_fence : Stmt := top 24
abbrev N_is_fence : List Str := ["value", "first", "last", "least", "greatest", "many", "one"]
theorem sc_is_fence : FnScope N_is_fence ["value"] (defScope s_is_fence) := ⟨rfl, rfl, rfl, by decide +kernel, rfl, by decide +kernel, by decide +kernel⟩
/-- the fence's own words -/
def fenceW (x y : List Nat) (l g m : Int) : Bool :=
  !(decide (y < x)) && (decide (l ≤ g) && ((decide (m = 1) == (decide (x = y) && decide (l = g))) && decide (m ≤ ((R 8 y : Int) - R 8 x + 1) * (g - l + 1))))
def fW5 (a b c e m : PyData) : Bool := match a, b, c, e, m with
  | .str x, .str y, .int l, .int g, .int n => fenceW x.cps.toList y.cps.toList l g n
  | _, _, _, _, _ => false
def fenceD (d : PyData) : Bool := match prts d with
  | some [a, b, c, e, m] => nameD a && (nameD b && ((withinD c (some 1) none && (withinD e (some 1) none && withinD m (some 1) none)) && fW5 a b c e m))
  | _ => false
/-- numbers that are reckoned with -/
def mild : PyData → Prop
  | .int i => i < 2 ^ 62
  | _ => True
def small5 (d : PyData) : Prop := ∀ ds, prts d = some ds → ds.length ≤ 1000 ∧ (∀ x ∈ ds, small x) ∧ ∀ x ∈ ds, mild x
def spFence (K : PySem.W.Frag) : Sp := fun vs H Q _ => ∃ v d, vs = [v] ∧ Dp K H v d ∧ small5 d ∧ ∀ H', Same H H' → Q (.bl (fenceD d)) H'
theorem nameD_nm {d : PyData} (h : nameD d = true) : ∃ l, d = .str (S l) ∧ Nm l := by
  cases d with
  | str x =>
    simp only [nameD, Bool.and_eq_true, decide_eq_true_eq, List.all_eq_true] at h
    obtain ⟨h1, h2, h3⟩ := h
    refine ⟨x.cps.toList, by rw [← S_of], ⟨?_, ?_, h3⟩⟩
    · simpa [Str.length] using h1
    · simpa [Str.length] using h2
  | _ => exact nomatch h
theorem within_int {d : PyData} (h : withinD d (some 1) none = true) : ∃ i, d = .int i ∧ 1 ≤ i := by
  cases d with
  | int i => exact ⟨i, rfl, by simpa [withinD] using h⟩
  | _ => exact nomatch h
theorem strOk_nm {l : List Nat} (h : Nm l) : PyData.canLay0 (.str (S l)) = true := by
  show l.toArray.all (· < 0x110000) = true
  rw [List.all_toArray]
  refine List.all_eq_true.mpr fun c hc => decide_eq_true ?_
  have := h.let_ c hc
  unfold Let at this
  omega
section
variable {P : Program} {w : World} {K : PySem.W.Frag} {mg : Str → Option Value} {base : Heap}
theorem d_is_fence (M : MG mg) (S0 : St0 K mg "is_fence" s_is_fence ["value"]) (D_is_listed : Df P w K mg base CX0 1 "is_listed" s_is_listed ["value"] (spListed K)) (D_is_name : Df P w K mg base CX0 1 "is_name" s_is_name ["value"] (spName K)) (D_is_within : Df P w K mg base CX0 2 "is_within" s_is_within ["value", "least", "most"] (spWithin K))
    (D_rank_of : Df P w K mg base CX0 2 "rank_of" s_rank_of ["name"] spRank) : Df P w K mg base CX0 3 "is_fence" s_is_fence ["value"] (spFence K) := by
  refine S0.df sc_is_fence (fun vs H Q E h => ?_) (fun f cdv A outer s H vs Q E hr h => ?_)
  · obtain ⟨v, d, rfl, _⟩ := h
    rfl
  · refine ⟨_, PSs.nox (pss_cons (ps_if (PW.pt (pw_or (pt_not (pt_val (pd D_is_listed (hr.mono (by decide)) rfl (pa_cons (pv 0) pa_nil)))) (pw_or (pt_cmpR op_ne (pe_callB call_len (by rfl) M.len boot_len (pa_cons (pv 0) pa_nil)) pe_int (nomark _)) (pw_or (pt_not (pt_val (pd D_is_name (hr.mono (by decide)) rfl (pa_cons (pe_ix ix_seq (pv 0) pe_int (fun _ _ => rfl)) pa_nil)))) (pw_or1 (pt_not (pt_val (pd D_is_name (hr.mono (by decide)) rfl (pa_cons (pe_ix ix_seq (pv 0) pe_int (fun _ _ => rfl)) pa_nil))))))))) (pss_one (ps_ret pe_bl)) pss_nil)
  (pss_cons (ps_if (pt_not (pt_val (pe_callB (cr_all rfl) (by rfl) M.all (by decide +kernel) (pa_cons (pe_lc (own := [("one", 6)]) rfl sc_is_fence.nd (pi_seq (pe_slice sl_seq (pv 0) (po_some pe_int) po_none)) (blkOk_by (own := [("one", 6)]) (N := N_is_fence) (sc := defScope s_is_fence) (by decide +kernel)) (fun _ _ _ _ _ => (pg_name (i := 6) sc_is_fence.nd rfl (Or.inl rfl))) (fun _ _ _ _ _ => pts_nil) (fun _ _ _ _ _ => (pd D_is_within (hr.mono (by decide)) rfl (pa_cons (pv 6) (pa_cons pe_int (pa_cons pe_non pa_nil)))))) pa_nil)))) (pss_one (ps_ret pe_bl)) pss_nil)
  (pss_cons (ps_asg (pv 0) (pg_either (pg_tup (n := 5) rfl (pgs_cons (pg_name (i := 1) sc_is_fence.nd rfl (Or.inl rfl)) (pgs_cons (pg_name (i := 2) sc_is_fence.nd rfl (Or.inl rfl)) (pgs_cons (pg_name (i := 3) sc_is_fence.nd rfl (Or.inl rfl)) (pgs_cons (pg_name (i := 4) sc_is_fence.nd rfl (Or.inl rfl)) (pgs_cons (pg_name (i := 5) sc_is_fence.nd rfl (Or.inl rfl)) pgs_nil)))))) (pg_lst (n := 5) rfl (pgs_cons (pg_name (i := 1) sc_is_fence.nd rfl (Or.inl rfl)) (pgs_cons (pg_name (i := 2) sc_is_fence.nd rfl (Or.inl rfl)) (pgs_cons (pg_name (i := 3) sc_is_fence.nd rfl (Or.inl rfl)) (pgs_cons (pg_name (i := 4) sc_is_fence.nd rfl (Or.inl rfl)) (pgs_cons (pg_name (i := 5) sc_is_fence.nd rfl (Or.inl rfl)) pgs_nil))))))))
  (pss_cons (ps_if (PW.pt (pw_or (pt_cmpR op_gt_str (pv 1) (pv 2) (nomark _)) (pw_or (pt_cmpR op_gt (pv 3) (pv 4) (nomark _)) (pw_or1 (pt_cmpR op_ne (pe_cmpR op_eq (pv 5) pe_int (nomark _)) (pe_cmpR (op_eqD hr.units) (pe_tup (pa_cons (pv 1) (pa_cons (pv 3) pa_nil))) (pe_tup (pa_cons (pv 2) (pa_cons (pv 4) pa_nil))) (nomark _)) (nomark _)))))) (pss_one (ps_ret pe_bl)) pss_nil)
  (pss_one (ps_ret (pe_cmpR op_le (pv 5) (pe_op op_mul (pe_op op_add (pe_op op_sub (pd D_rank_of (hr.mono (by decide)) rfl (pa_cons (pv 2) pa_nil)) (pd D_rank_of (hr.mono (by decide)) rfl (pa_cons (pv 1) pa_nil))) pe_int) (pe_op op_add (pe_op op_sub (pv 4) (pv 3)) pe_int)) (nomark _)))))))), ?_⟩
    obtain ⟨v, d, rfl, hd, hs, hQ⟩ := h
    refine ⟨v, rfl, v, d, rfl, hd, fun H1 s1 => ⟨_, rfl, ?_⟩⟩
    cases q : prts d with
    | none =>
      have e1 : listedD d = false := by unfold listedD; rw [q]; rfl
      have e2 : fenceD d = false := by unfold fenceD; rw [q]
      rw [e1]
      refine iteT ?_
      rw [← e2]
      exact hQ H1 s1
    | some ds =>
      have e1 : listedD d = true := by unfold listedD; rw [q]; rfl
      rw [e1]
      refine iteF ?_
      obtain ⟨a, xs, rfl, hS, hA⟩ := (Dp.same s1 d v hd).prts q
      have hlen : xs.length = ds.length := hA.len
      obtain ⟨hsz, hsm, hmi⟩ := hs ds q
      have len5 : ds.length ≠ 5 → fenceD d = false := fun ne => by
        unfold fenceD; rw [q]
        match ds, ne with
        | [], _ => rfl
        | [_], _ => rfl
        | [_, _], _ => rfl
        | [_, _, _], _ => rfl
        | [_, _, _, _], _ => rfl
        | [_, _, _, _, _], ne => exact absurd rfl ne
        | _ :: _ :: _ :: _ :: _ :: _ :: _, _ => rfl
      refine ⟨.ref a, rfl, .ref a, _, rfl, lenAt hS, rfl, _, rfl, ite2 (fun h1 => ?_) (fun h1 => ?_)⟩
      · have ne : ds.length ≠ 5 := fun e => by rw [hlen, e] at h1; exact absurd h1 (by decide)
        show Q (.bl false) H1
        rw [← len5 ne]
        exact hQ H1 s1
      · have q5 : ds.length = 5 := by
          by_cases e : ds.length = 5
          · exact e
          · refine absurd (show (!decide (V.int (xs.length : Nat) = V.int 5)) = true from ?_) h1
            rw [hlen, decide_eq_false (fun z => e (by have := V.int.inj z; omega))]; rfl
        obtain ⟨dx, dy, dl, dg, dm, rfl⟩ : ∃ a b c e m, ds = [a, b, c, e, m] := by
          match ds, q5 with
          | [a, b, c, e, m], _ => exact ⟨a, b, c, e, m, rfl⟩
        cases hA with
        | cons hx hA => cases hA with
          | cons hy hA => cases hA with
            | cons hl hA => cases hA with
              | cons hg hA => cases hA with
                | cons hm hA =>
                  cases hA
                  rename_i vx vy vl vg vm
                  have up : fenceD d = (nameD dx && (nameD dy && ((withinD dl (some 1) none && (withinD dg (some 1) none && withinD dm (some 1) none)) && fW5 dx dy dl dg dm))) := by unfold fenceD; rw [q]
                  refine ⟨_, rfl, ixAt hS (i := 0) rfl ⟨vx, dx, rfl, hx, hsm dx (by simp), fun H2 s2 => ⟨_, rfl, ?_⟩⟩⟩
                  have s12 := s1.trans s2
                  cases qx : nameD dx with
                  | false =>
                    refine iteT ?_
                    show Q (.bl false) H2
                    rw [show false = fenceD d from by rw [up, qx]; rfl]
                    exact hQ H2 s12
                  | true =>
                    refine iteF ⟨_, rfl, ixAt (s2.sq hS) (i := 1) rfl ⟨vy, dy, rfl, Dp.same s2 dy vy hy, hsm dy (by simp), fun H3 s3 => ⟨_, rfl, ?_⟩⟩⟩
                    have s13 := s12.trans s3
                    have s23 := s2.trans s3
                    cases qy : nameD dy with
                    | false =>
                      refine iteT ?_
                      show Q (.bl false) H3
                      rw [show false = fenceD d from by rw [up, qx, qy]; rfl]
                      exact hQ H3 s13
                    | true =>
                      refine iteF ⟨.ref a, rfl, 2, rfl, slAt (s23.sq hS) fun p H4 s4 alt => ⟨p, [vl, vg, vm], rfl, alt.imp And.right And.right, fun J G wk hG D hD => ?_⟩⟩
                      have s24 := s23.trans s4
                      have hA4 : DpAll K H4 [vl, vg, vm] [dl, dg, dm] := .cons (Dp.same s24 dl vl hl) (.cons (Dp.same s24 dg vg hg) (.cons (Dp.same s24 dm vm hm) .nil))
                      refine lc_ix wk rfl ([dl, dg, dm].map fun x => some (.bl (withinD x (some 1) none))) rfl hD (by show 3 < sizeLine; decide) hG (fun i x o hx' ho H5 acc s5 hl5 hz5 Nx n1 n2 => ?_) (fun H5 s5 hl5 => ?_)
                      · obtain ⟨de, hde, hpe⟩ := hA4.at_ hx'
                        have eo : o = some (.bl (withinD de (some 1) none)) := by rw [List.getElem?_map, hde] at ho; exact (Option.some.inj ho).symm
                        refine ⟨rfl, _, rfl, x, de, some 1, none, rfl, Dp.same s5 de x hpe, acc, hl5, hz5, n1 H5 _ (.refl H5) eo⟩
                      · refine ⟨D, [dl, dg, dm].map fun x => withinD x (some 1) none, rfl, .inl (.inl ?_), _, rfl, ?_⟩
                        · rw [hl5]; rfl
                        · have s15 := s1.trans (s24.trans s5)
                          have ea : ([dl, dg, dm].map fun x => withinD x (some 1) none).all id = (withinD dl (some 1) none && (withinD dg (some 1) none && withinD dm (some 1) none)) := by
                            simp [List.all]
                          rw [ea]
                          cases qw : (withinD dl (some 1) none && (withinD dg (some 1) none && withinD dm (some 1) none)) with
                          | false =>
                            refine iteT ?_
                            show Q (.bl false) H5
                            rw [show false = fenceD d from by rw [up, qx, qy, qw]; rfl]
                            exact hQ H5 s15
                          | true =>
                            simp only [Bool.and_eq_true] at qw
                            obtain ⟨lx, rfl, nx⟩ := nameD_nm qx
                            obtain ⟨ly, rfl, ny⟩ := nameD_nm qy
                            obtain ⟨l, rfl, h1l⟩ := within_int qw.1
                            obtain ⟨g, rfl, h1g⟩ := within_int qw.2.1
                            obtain ⟨m, rfl, h1m⟩ := within_int qw.2.2
                            cases hx; cases hy; cases hl; cases hg; cases hm
                            have up2 : fenceD d = fenceW lx ly l g m := by
                              have t : (true : Bool) = (withinD (.int l) (some 1) none && (withinD (.int g) (some 1) none && withinD (.int m) (some 1) none)) := by rw [qw.1, qw.2.1, qw.2.2]; rfl
                              rw [up, qx, qy, ← t]; rfl
                            have hS5 := (s24.trans s5).sq hS
                            have bx := R_lt_L 8 lx nx.len nx.let_
                            have by_ := R_lt_L 8 ly ny.len ny.let_
                            have L8 : L 8 < 2 ^ 40 := by decide
                            have mg_ : g < 2 ^ 62 := hmi (.int g) (by simp)
                            have ml_ : l < 2 ^ 62 := hmi (.int l) (by simp)
                            refine iteF ?_
                            rcases hS5 with hL | hT
                            all_goals
                              first
                                | refine ⟨_, rfl, .inr ⟨a, _, rfl, hL, rfl, _, _, rfl, _, _, rfl, _, _, rfl, _, _, rfl, _, _, rfl, rfl, ?_⟩⟩
                                | refine ⟨_, rfl, .inl ⟨a, _, rfl, hT, rfl, _, _, rfl, _, _, rfl, _, _, rfl, _, _, rfl, _, _, rfl, rfl, ?_⟩⟩
                              refine ⟨_, rfl, _, rfl, S lx, S ly, rfl, rfl, _, rfl, ?_⟩
                              have no : ∀ H', Same H H' → fenceW lx ly l g m = false → Q (.bl false) H' := fun H' s e => by rw [← e, ← up2]; exact hQ H' s
                              cases q1 : decide ((S ly).cps.toList < (S lx).cps.toList) with
                              | true => exact iteT (no H5 s15 (by unfold fenceW; rw [show decide (ly < lx) = true from q1]; rfl))
                              | false =>
                                refine iteF ⟨_, rfl, _, rfl, _, _, rfl, rfl, _, rfl, ?_⟩
                                have q1' : decide (ly < lx) = false := q1
                                cases q2 : decide (g < l) with
                                | true =>
                                  have z : decide (l ≤ g) = false := decide_eq_false (by have := of_decide_eq_true q2; omega)
                                  exact iteT (no H5 s15 (by unfold fenceW; rw [q1', z]; rfl))
                                | false =>
                                  have z : decide (l ≤ g) = true := decide_eq_true (by have := of_decide_eq_false q2; omega)
                                  refine iteF ⟨_, rfl, rfl, _, rfl, _, rfl, by show 2 ≤ sizeLine; decide, fun t1 nt1 => ⟨_, rfl, _, rfl, by show 2 ≤ sizeLine; decide, fun t2 nt2 => ?_⟩⟩
                                  have sm6 := s15.trans ((Same.upd (o := .tup [.str (S lx), .int l]) nt1).trans (Same.upd (o := .tup [.str (S ly), .int g]) nt2))
                                  have ee : PyData.eqv (.tuple [.str (S lx), .int l]) (.tuple [.str (S ly), .int g]) = (decide (lx = ly) && decide (l = g)) := by
                                    simp only [PyData.eqv, PyData.eqvAll, Bool.and_true]
                                    congr 1
                                    · by_cases e : lx = ly
                                      · subst e; simp
                                      · rw [decide_eq_false e]
                                        exact beq_eq_false_iff_ne.mpr fun z => e (S_inj z)
                                  refine ⟨.tuple [.str (S lx), .int l], .tuple [.str (S ly), .int g], .tup (.inl (.inl ((Same.upd nt2) _ _ upd_same))) (.cons (.str _) (.cons (.int _) .nil)), .tup (.inl (.inl upd_same)) (.cons (.str _) (.cons (.int _) .nil)), by have := strOk_nm nx; simp [SeqAt.shaped, PyData.canLay0, PyData.canLayAll0, PyData.depth, PyData.depthAll] at this ⊢; exact this, by have := strOk_nm ny; simp [SeqAt.shaped, PyData.canLay0, PyData.canLayAll0, PyData.depth, PyData.depthAll] at this ⊢; exact this, rfl, _, rfl, ?_⟩
                                  rw [ee]
                                  have eX : decide (V.int m = V.int 1) = decide (m = 1) := by
                                    by_cases e : m = 1
                                    · subst e; rfl
                                    · rw [decide_eq_false e, decide_eq_false (fun z => e (V.int.inj z))]
                                  have eV : ∀ x y : Bool, decide (V.bl x = V.bl y) = (x == y) := by intro x y; cases x <;> cases y <;> rfl
                                  cases q3 : (decide (m = 1) == (decide (lx = ly) && decide (l = g))) with
                                  | false =>
                                    rw [show (!decide (V.bl (decide (V.int m = V.int 1)) = V.bl (decide (lx = ly) && decide (l = g)))) = true from ?_]
                                    · exact iteT (no _ sm6 (by unfold fenceW; rw [q1', z, q3]; rfl))
                                    · rw [eV, eX, q3]; rfl
                                  | true =>
                                    rw [show (!decide (V.bl (decide (V.int m = V.int 1)) = V.bl (decide (lx = ly) && decide (l = g)))) = false from ?_]
                                    · have up3 : fenceD d = decide (m ≤ ((R 8 ly : Int) - R 8 lx + 1) * (g - l + 1)) := by rw [up2]; unfold fenceW; rw [q1', z, q3]; rfl
                                      refine iteF ⟨_, rfl, _, rfl, ly, rfl, ny, fun H7 s7 => ⟨_, rfl, lx, rfl, nx, fun H8 s8 => ?_⟩⟩
                                      refine ⟨_, _, rfl, rfl, _, _, rfl, rfl, _, rfl, _, rfl, _, _, rfl, rfl, _, _, rfl, rfl, _, _, rfl, rfl, .inl ⟨by omega, by omega⟩, _, _, rfl, rfl, ?_⟩
                                      have e9 : ((R 8 ly : Nat) : Int) - 1 - (((R 8 lx : Nat) : Int) - 1) + 1 = (R 8 ly : Int) - R 8 lx + 1 := by omega
                                      rw [e9]
                                      show Q (.bl (decide (m ≤ ((R 8 ly : Int) - R 8 lx + 1) * (g - l + 1)))) H8
                                      rw [← up3]
                                      exact hQ H8 (sm6.trans (s7.trans s8))
                                    · rw [eV, eX, q3]; rfl
end
end K93
set_option Elab.async false
set_option linter.all false
set_option maxRecDepth 100000
set_option maxHeartbeats 4000000
namespace K93
open PySem PySem.Spec PyProof.Rows L2 Nam SetP
abbrev s_can_have : Stmt := top 29
abbrev N_can_have : List Str := ["fence", "key", "number", "first", "last", "least", "greatest", "many"]
theorem sc_can_have : FnScope N_can_have ["fence", "key", "number"] (defScope s_can_have) := ⟨rfl, rfl, rfl, by decide +kernel, rfl, by decide +kernel, by decide +kernel⟩
/-- what can_have answers -/
def canW (x y : List Nat) (l g m : Int) (k : List Nat) (n : Int) : Bool :=
  ((!decide (k < x) && !decide (y < k)) && (decide (l ≤ n) && decide (n ≤ g))) && (decide (2 < m) || ((decide (x = k) || decide (y = k)) && (decide (l = n) || decide (g = n))))
def spCan (K : PySem.W.Frag) : Sp := fun vs H Q _ => ∃ a x y l g m k n, vs = [.ref a, .str (S k), .int n] ∧ SqT K H a [.str (S x), .str (S y), .int l, .int g, .int m] ∧ ∀ H', Same H H' → Q (.bl (canW x y l g m k n)) H'
section
variable {P : Program} {w : World} {K : PySem.W.Frag} {mg : Str → Option Value} {base : Heap}
theorem d_can_have (M : MG mg) (S0 : St0 K mg "can_have" s_can_have ["fence", "key", "number"]) : Df P w K mg base CX0 1 "can_have" s_can_have ["fence", "key", "number"] (spCan K) := by
  refine S0.df sc_can_have (fun vs H Q E h => ?_) (fun f cdv A outer s H vs Q E hr h => ?_)
  · obtain ⟨a, x, y, l, g, m, k, n, rfl, _⟩ := h
    rfl
  · refine ⟨_, PSs.nox (pss_cons (ps_asg (pv 0) (pg_tup (n := 5) rfl (pgs_cons (pg_name (i := 3) sc_can_have.nd rfl (Or.inl rfl)) (pgs_cons (pg_name (i := 4) sc_can_have.nd rfl (Or.inl rfl)) (pgs_cons (pg_name (i := 5) sc_can_have.nd rfl (Or.inl rfl)) (pgs_cons (pg_name (i := 6) sc_can_have.nd rfl (Or.inl rfl)) (pgs_cons (pg_name (i := 7) sc_can_have.nd rfl (Or.inl rfl)) pgs_nil)))))))
  (pss_cons (ps_if (PW.pt (pw_or (pt_not (pt_chain op_le_str op_le_str (pv 3) (pv 1) (pv 4))) (pw_or1 (pt_not (pt_chain op_le op_le (pv 5) (pv 2) (pv 6)))))) (pss_one (ps_ret pe_bl)) pss_nil)
  (pss_one (ps_ret (pe_or (pe_cmpR op_gt (pv 7) pe_int (nomark _)) (pe_one (pe_and (pe_cmpR op_in_seq (pv 1) (pe_tup (pa_cons (pv 3) (pa_cons (pv 4) pa_nil))) (by rfl)) (pe_one (pe_cmpR op_in_seq (pv 2) (pe_tup (pa_cons (pv 5) (pa_cons (pv 6) pa_nil))) (by rfl)))))))))), ?_⟩
    obtain ⟨a, x, y, l, g, m, k, n, rfl, hT, hQ⟩ := h
    refine ⟨_, rfl, a, _, rfl, hT, rfl, _, _, rfl, _, _, rfl, _, _, rfl, _, _, rfl, _, _, rfl, rfl, ?_⟩
    have no : canW x y l g m k n = false → Q (.bl false) H := fun e => by rw [← e]; exact hQ H (.refl H)
    refine ⟨_, rfl, _, rfl, S x, S k, rfl, rfl, _, rfl, ?_⟩
    cases c1 : (!decide (k < x)) with
    | false =>
      rw [show (!decide ((S k).cps.toList < (S x).cps.toList)) = false from c1]
      refine iteF ⟨_, rfl, iteT ?_⟩
      exact no (by unfold canW; rw [c1]; rfl)
    | true =>
      rw [show (!decide ((S k).cps.toList < (S x).cps.toList)) = true from c1]
      refine iteT ⟨_, rfl, S k, S y, rfl, rfl, _, rfl, ?_⟩
      cases c2 : (!decide (y < k)) with
      | false =>
        rw [show (!decide ((S y).cps.toList < (S k).cps.toList)) = false from c2]
        refine iteT ?_
        exact no (by unfold canW; rw [c1, c2]; rfl)
      | true =>
        rw [show (!decide ((S y).cps.toList < (S k).cps.toList)) = true from c2]
        refine iteF ⟨_, rfl, _, rfl, _, _, rfl, rfl, _, rfl, ?_⟩
        cases c3 : decide (l ≤ n) with
        | false =>
          refine iteF ⟨_, rfl, iteT ?_⟩
          exact no (by unfold canW; rw [c1, c2, c3]; rfl)
        | true =>
          refine iteT ⟨_, rfl, _, _, rfl, rfl, _, rfl, ?_⟩
          cases c4 : decide (n ≤ g) with
          | false =>
            refine iteT ?_
            exact no (by unfold canW; rw [c1, c2, c3, c4]; rfl)
          | true =>
            have up : canW x y l g m k n = (decide (2 < m) || ((decide (x = k) || decide (y = k)) && (decide (l = n) || decide (g = n)))) := by unfold canW; rw [c1, c2, c3, c4]; rfl
            refine iteF ⟨_, rfl, _, _, rfl, rfl, _, rfl, ?_⟩
            cases c5 : decide (2 < m) with
            | true =>
              refine iteT ?_
              rw [show true = canW x y l g m k n from by rw [up, c5]; rfl]
              exact hQ H (.refl H)
            | false =>
              refine iteF ⟨_, rfl, _, rfl, _, rfl, by show 2 ≤ sizeLine; decide, fun t1 n1 => ⟨t1, [.str (S x), .str (S y)], rfl, .inr (.inl (.inl upd_same)), rfl, rfl, _, rfl, ?_⟩⟩
              have eS : ∀ z : List Nat, eqV (.str (S z)) (.str (S k)) = decide (z = k) := fun z => by
                by_cases e : z = k
                · subst e; simp [eqV]
                · rw [decide_eq_false e]
                  simp only [eqV]
                  first
                    | exact decide_eq_false fun q => e (S_inj q)
                    | exact beq_eq_false_iff_ne.mpr fun q => e (S_inj q)
                    | simp [fun q => e (S_inj q)]
              have eN : ∀ z : Int, eqV (.int z) (.int n) = decide (z = n) := fun z => by
                by_cases e : z = n
                · subst e; simp [eqV]
                · rw [decide_eq_false e]
                  simp [eqV, e]
              have eI : inV (.str (S k)) [.str (S x), .str (S y)] = (decide (x = k) || decide (y = k)) := by
                simp only [inV, List.any_cons, List.any_nil, Bool.or_false, eS]
              rw [show (if false then !inV (.str (S k)) [.str (S x), .str (S y)] else inV (.str (S k)) [.str (S x), .str (S y)]) = (decide (x = k) || decide (y = k)) from eI]
              cases c6 : (decide (x = k) || decide (y = k)) with
              | false =>
                refine iteF ?_
                rw [show false = canW x y l g m k n from by rw [up, c5, c6]; rfl]
                exact hQ _ (.upd n1)
              | true =>
                refine iteT ⟨_, rfl, _, rfl, _, rfl, by show 2 ≤ sizeLine; decide, fun t2 n2 => ⟨t2, [.int l, .int g], rfl, .inr (.inl (.inl upd_same)), rfl, rfl, ?_⟩⟩
                have eI2 : inV (.int n) [.int l, .int g] = (decide (l = n) || decide (g = n)) := by
                  simp only [inV, List.any_cons, List.any_nil, Bool.or_false, eN]
                rw [show (if false then !inV (.int n) [.int l, .int g] else inV (.int n) [.int l, .int g]) = canW x y l g m k n from by rw [up, c5, c6, ← eI2]; rfl]
                exact hQ _ ((Same.upd n1).trans (.upd n2))
end
end K93

set_option Elab.async false
set_option linter.all false
set_option maxRecDepth 100000
set_option maxHeartbeats 4000000
namespace K93
open PySem PySem.Spec PyProof.Rows L2 Nam SetP
abbrev s_fixed : Stmt := top 19
abbrev N_fixed : List Str := ["value", "part"]
theorem sc_fixed : FnScope N_fixed ["value"] (defScope s_fixed) := ⟨rfl, rfl, rfl, by decide +kernel, rfl, by decide +kernel, by decide +kernel⟩
def spFixed (K : PySem.W.Frag) (N : Nat) : Sp := fun vs H Q _ => ∃ v d, vs = [v] ∧ Dp K H v d ∧ slim d = true ∧ PyData.depth d < N ∧ ∀ v' H', Same H H' → Dp K H' v' (fixD d) → Q v' H'
theorem prts_or : ∀ {d : PyData} {ds : List PyData}, prts d = some ds → d = .list ds ∨ d = .tuple ds
  | .list _, _, h => .inl (by cases h; rfl)
  | .tuple _, _, h => .inr (by cases h; rfl)
  | .none, _, h => nomatch h
  | .bool _, _, h => nomatch h
  | .int _, _, h => nomatch h
  | .str _, _, h => nomatch h
  | .dict _, _, h => nomatch h
section
variable {P : Program} {w : World} {K : PySem.W.Frag} {mg : Str → Option Value} {base : Heap}
theorem d_fixed0 (S0 : St0 K mg "fixed" s_fixed ["value"]) : Df P w K mg base CX0 0 "fixed" s_fixed ["value"] (spFixed K 0) := by
  obtain ⟨f, fd, a, b, d⟩ := S0.ex
  refine ⟨f, fd, a, b, ⟨fun vs H Q E h => ?_, fun A outer s H args us vs Q E _ _ _ _ h => ?_⟩, d⟩
  · obtain ⟨v, d, rfl, _⟩ := h
    rfl
  · obtain ⟨v, d, rfl, _, _, hn, _⟩ := h
    exact absurd hn (Nat.not_lt_zero _)
theorem d_fixed (M : MG mg) (S0 : St0 K mg "fixed" s_fixed ["value"]) : ∀ N, Df P w K mg base CX0 N "fixed" s_fixed ["value"] (spFixed K N)
  | 0 => d_fixed0 S0
  | N + 1 => by
    have D_fixed := d_fixed M S0 N
    refine S0.df sc_fixed (fun vs H Q E h => ?_) (fun f cdv A outer s H vs Q E hr h => ?_)
    · obtain ⟨v, d, rfl, _⟩ := h
      rfl
    · refine ⟨_, PSs.nox (pss_cons (ps_if (pt_val (pe_callB call_isiTD (by rfl) M.isinstance (by decide +kernel) (pa_cons (pv 0) (pa_cons (pe_tup (pa_cons (pbl "list" rfl M.list) (pa_cons (pbl "tuple" rfl M.tuple) pa_nil))) pa_nil)))) (pss_one (ps_ret (pe_callTy call_tuple_of (by rfl) M.tuple (by decide +kernel) (pa_cons (pe_lc (own := [("part", 1)]) rfl sc_fixed.nd (pi_seq (pv 0)) (blkOk_by (own := [("part", 1)]) (N := N_fixed) (sc := defScope s_fixed) (by decide +kernel)) (fun _ _ _ _ _ => (pg_name (i := 1) sc_fixed.nd rfl (Or.inl rfl))) (fun _ _ _ _ _ => pts_nil) (fun _ _ _ _ _ => (pd D_fixed (hr.mono (Nat.le_refl _)) rfl (pa_cons (pv 1) pa_nil)))) pa_nil)))) pss_nil)
  (pss_one (ps_ret (pv 0)))), ?_⟩
      obtain ⟨v, d, rfl, hd, hs, hn, hQ⟩ := h
      refine ⟨v, rfl, by show 2 ≤ sizeLine; decide, fun p np => ?_⟩
      have s1 : Same H (upd H p (.tup [.ty "list", .ty "tuple"])) := .upd np
      refine ⟨v, d, p, "list", "tuple", rfl, by simp [tyNames], by simp [tyNames], Dp.same s1 d v hd, upd_same, ?_⟩
      have e : (isTy (dty d) "list" || isTy (dty d) "tuple") = listedD d := by cases d <;> rfl
      rw [e]
      refine ⟨_, rfl, ?_⟩
      cases q : prts d with
      | none =>
        have e1 : listedD d = false := by unfold listedD; rw [q]; rfl
        have e2 : fixD d = d := by cases d <;> first | rfl | exact absurd q (by simp [prts])
        rw [e1]
        exact iteF ⟨v, rfl, hQ v _ s1 (by rw [e2]; exact Dp.same s1 d v hd)⟩
      | some ds =>
        have e1 : listedD d = true := by unfold listedD; rw [q]; rfl
        have e2 : fixD d = .tuple (fixL ds) := by rcases prts_or q with z | z <;> subst z <;> rfl
        have e3 : slimL ds = true ∧ ds.length ≤ 1000 := by
          rcases prts_or q with z | z <;> (subst z; rw [slim, Bool.and_eq_true] at hs; exact ⟨hs.2, of_decide_eq_true hs.1⟩)
        have e4 : ∀ x ∈ ds, PyData.depth x < N := fun x hx => by
          have := depth_le x hx
          have e5 : PyData.depth d = PyData.depthAll ds + 1 := by rcases prts_or q with z | z <;> subst z <;> rfl
          omega
        rw [e1]
        refine iteT ?_
        obtain ⟨a, xs, rfl, hS, hA⟩ := (Dp.same s1 d v hd).prts q
        have hlen : xs.length = ds.length := hA.len
        refine ⟨.ref a, rfl, a, xs, rfl, hS, fun J G wk hG D hD => ?_⟩
        refine lc_it wk (fun i H2 => Same (upd H p (.tup [.ty "list", .ty "tuple"])) H2 ∧ ∃ acc, H2 D = some (.lst acc) ∧ DpAll K H2 acc (fixL (ds.take i))) ⟨.upd hD, [], upd_same, .nil⟩ (fun i H2 _ z => hG H2 z.1) (fun i x H2 H3 hi z y => ?_) (fun H2 z => ?_)
        · obtain ⟨rfl, hx⟩ := y
          obtain ⟨s2, acc, hacc, hall⟩ := z
          obtain ⟨dx, hdx, hpx⟩ := hA.at_ hx
          have mem := List.mem_of_getElem? hdx
          have hl : acc.length ≤ 1000 := by
            rw [hall.len, fixL_map, List.length_map, List.length_take]
            omega
          refine ⟨rfl, _, rfl, x, dx, rfl, Dp.same s2 dx x hpx, slimL_all e3.1 dx mem, e4 dx mem, fun v' H4 s4 hv' => ?_⟩
          refine ⟨acc, s4 _ _ hacc, Nat.lt_of_le_of_lt hl (by decide), fun b o h => ?_, acc ++ [v'], upd_same, ?_⟩
          · rw [upd_ne (ne_of_none h hD)]
            exact s4 b o (s2 b o h)
          · have et : ds.take (i + 1) = ds.take i ++ [dx] := by rw [List.take_add_one, hdx]; rfl
            have ef : fixL (ds.take (i + 1)) = fixL (ds.take i) ++ [fixD dx] := by rw [et, fixL_map, fixL_map, List.map_append]; rfl
            rw [ef]
            have al : Alm H4 (upd H4 D (.lst (acc ++ [v']))) := Alm.upd (s4 _ _ hacc)
            exact DpAll.snoc (Dp.alm al _ _ (noList_fix dx) hv') (DpAll.alm (s4.alm.trans al) _ _ (noListL_fix _) hall)
        · obtain ⟨s2, acc, hacc, hall⟩ := z
          rw [hlen, List.take_length] at hall
          refine ⟨D, acc, rfl, .inl ⟨.inl (.inl hacc), fun l nl => ?_⟩⟩
          refine hQ (.ref l) _ ((s1.trans s2).trans (.upd nl)) ?_
          rw [e2]
          exact .tup (.inl (.inl upd_same)) (DpAll.same (.upd nl) _ _ hall)
end
end K93
set_option Elab.async false
set_option linter.all false
set_option maxRecDepth 100000
set_option maxHeartbeats 4000000
namespace K93
open PySem PySem.Spec PyProof.Rows L2 Nam SetP PlugX
theorem fo_part : FOk "part" := ⟨by decide +kernel, by decide +kernel, by decide +kernel, by decide +kernel, fun _ _ _ _ _ _ _ _ _ _ _ => rfl⟩
/-- an own error told of a part -/
def BadP (C : Addr) (E : XK) (H : Hp) (part : Str) : Prop := ∀ H' d, Same H H' → H' d = some (.xd [("part", .str part)]) → E (.ref C) (some d) H'
abbrev s_may_have : Stmt := top 28
abbrev N_may_have : List Str := ["fence", "key", "number"]
theorem sc_may_have : FnScope N_may_have ["fence", "key", "number"] (defScope s_may_have) := ⟨rfl, rfl, rfl, by decide +kernel, rfl, by decide +kernel, by decide +kernel⟩
def mayD (d e z : PyData) : Bool := match prts d, e, z with
  | some [.str x, .str y, .int l, .int g, .int m], .str k, .int n => canW x.cps.toList y.cps.toList l g m k.cps.toList n
  | _, _, _ => false
def spMay (K : PySem.W.Frag) (C C2 : Addr) : Sp := fun vs H Q E => ∃ v u t d e z, vs = [v, u, t] ∧ Dp K H v d ∧ Dp K H u e ∧ Dp K H t z ∧ small5 d ∧ slim d = true ∧ PyData.depth d < 4 ∧ small e ∧
  (fenceD d = false → BadP C E H "fence") ∧ (fenceD d = true → nameD e = false → BadP C E H "key") ∧ (fenceD d = true → nameD e = true → intD z = false → BadP C2 E H "number") ∧
  (fenceD d = true → nameD e = true → intD z = true → ∀ H', Same H H' → Q (.bl (mayD d e z)) H')
theorem fenceD_parts {d : PyData} (h : fenceD d = true) : ∃ x y l g m, prts d = some [.str (S x), .str (S y), .int l, .int g, .int m] := by
  unfold fenceD at h
  cases q : prts d with
  | none => rw [q] at h; exact nomatch h
  | some ds =>
    rw [q] at h
    match ds, h with
    | [a, b, c, e, m], h =>
      simp only [Bool.and_eq_true] at h
      obtain ⟨h1, h2, ⟨h3, h4, h5⟩, _⟩ := h
      obtain ⟨x, rfl, _⟩ := nameD_nm h1
      obtain ⟨y, rfl, _⟩ := nameD_nm h2
      obtain ⟨l, rfl, _⟩ := within_int h3
      obtain ⟨g, rfl, _⟩ := within_int h4
      obtain ⟨m, rfl, _⟩ := within_int h5
      exact ⟨x, y, l, g, m, rfl⟩
section
variable {P : Program} {w : World} {K : PySem.W.Frag} {mg : Str → Option Value} {base : Heap} {C fI cda cc C2 fI2 cda2 cc2 : Addr}
theorem d_may_have (M : MG mg) (S0 : St0 K mg "may_have" s_may_have ["fence", "key", "number"]) (T_BadValue : ExT P K mg "BadValue" "part" C fI cda cc) (T_BadNumber : ExT P K mg "BadNumber" "part" C2 fI2 cda2 cc2)
    (D_is_fence : Df P w K mg base CX0 3 "is_fence" s_is_fence ["value"] (spFence K)) (D_is_name : Df P w K mg base CX0 1 "is_name" s_is_name ["value"] (spName K)) (D_is_integer : Df P w K mg base CX0 1 "is_integer" s_is_integer ["value"] (spInteger K))
    (D_fixed : Df P w K mg base CX0 4 "fixed" s_fixed ["value"] (spFixed K 4)) (D_can_have : Df P w K mg base CX0 1 "can_have" s_can_have ["fence", "key", "number"] (spCan K)) :
    Df P w K mg base (L2.CX P w) 5 "may_have" s_may_have ["fence", "key", "number"] (spMay K C C2) := by
  refine S0.df sc_may_have (fun vs H Q E h => ?_) (fun f cdv A outer s H vs Q E hr h => ?_)
  · obtain ⟨v, u, t, d, e, z, rfl, _⟩ := h
    rfl
  · refine ⟨_, (pss_cons (ps_if (pt_not (pt_val (pd D_is_fence (hr.mono (by decide)) rfl (pa_cons (pv 0) pa_nil)))) (pss_one (ps_raisePlug rfl T_BadValue fo_part (hr.mono (j := 2) (by decide)) (takes_of rfl rfl rfl rfl) (pa_cons pe_str pa_nil) rfl (by decide))) pss_nil)
  (pss_cons (ps_if (pt_not (pt_val (pd D_is_name (hr.mono (by decide)) rfl (pa_cons (pv 1) pa_nil)))) (pss_one (ps_raisePlug rfl T_BadValue fo_part (hr.mono (j := 2) (by decide)) (takes_of rfl rfl rfl rfl) (pa_cons pe_str pa_nil) rfl (by decide))) pss_nil)
  (pss_cons (ps_if (pt_not (pt_val (pd D_is_integer (hr.mono (by decide)) rfl (pa_cons (pv 2) pa_nil)))) (pss_one (ps_raisePlug rfl T_BadNumber fo_part (hr.mono (j := 2) (by decide)) (takes_of rfl rfl rfl rfl) (pa_cons pe_str pa_nil) rfl (by decide))) pss_nil)
  (pss_one (ps_ret (pd D_can_have (hr.mono (by decide)) rfl (pa_cons (pd D_fixed (hr.mono (by decide)) rfl (pa_cons (pv 0) pa_nil)) (pa_cons (pv 1) (pa_cons (pv 2) pa_nil))))))))), ?_⟩
    obtain ⟨v, u, t, d, e, z, rfl, hd, he, hz, hs5, hsl, hdp, hse, n1, n2, n3, hy⟩ := h
    refine ⟨_, rfl, v, d, rfl, hd, hs5, fun H1 s1 => ⟨_, rfl, ?_⟩⟩
    cases q1 : fenceD d with
    | false => exact iteT ⟨_, rfl, fun x new => n1 q1 _ x (s1.trans (.upd new)) upd_same⟩
    | true =>
      refine iteF ⟨_, rfl, u, e, rfl, Dp.same s1 e u he, hse, fun H2 s2 => ⟨_, rfl, ?_⟩⟩
      have s12 := s1.trans s2
      cases q2 : nameD e with
      | false => exact iteT ⟨_, rfl, fun x new => n2 q1 q2 _ x (s12.trans (.upd new)) upd_same⟩
      | true =>
        refine iteF ⟨_, rfl, t, z, rfl, Dp.same s12 z t hz, ⟨_, rfl, ?_⟩⟩
        cases q3 : intD z with
        | false => exact iteT ⟨_, rfl, fun x new => n3 q1 q2 q3 _ x (s12.trans (.upd new)) upd_same⟩
        | true =>
          obtain ⟨x, y, l, g, m, ep⟩ := fenceD_parts q1
          obtain ⟨k, rfl, nk⟩ := nameD_nm q2
          obtain ⟨n, rfl⟩ : ∃ n, z = .int n := by cases z <;> first | exact ⟨_, rfl⟩ | exact nomatch q3
          cases he; cases hz
          have ef : fixD d = .tuple [.str (S x), .str (S y), .int l, .int g, .int m] := by rcases prts_or ep with e | e <;> (subst e; rfl)
          refine iteF ⟨_, rfl, v, d, rfl, Dp.same s12 d v hd, hsl, hdp, fun v' H3 s3 hv' => ?_⟩
          rw [ef] at hv'
          cases hv' with
          | tup hT hA =>
            rename_i a xs
            have exs : xs = [.str (S x), .str (S y), .int l, .int g, .int m] := by
              cases hA with
              | cons h1 hA => cases hA with
                | cons h2 hA => cases hA with
                  | cons h3 hA => cases hA with
                    | cons h4 hA => cases hA with
                      | cons h5 hA =>
                        cases hA
                        cases h1; cases h2; cases h3; cases h4; cases h5
                        rfl
            rw [exs] at hT
            refine ⟨_, rfl, _, rfl, a, x, y, l, g, m, k, n, rfl, hT, fun H4 s4 => ?_⟩
            have em : mayD d (.str (S k)) (.int n) = canW x y l g m k n := by unfold mayD; rw [ep]; rfl
            rw [← em]
            exact hy q1 q2 q3 H4 (s12.trans (s3.trans s4))
end
end K93
set_option Elab.async false
set_option linter.all false
set_option maxRecDepth 100000
set_option maxHeartbeats 4000000
namespace K93
open PySem PySem.Spec PyProof.Rows L2 Nam SetP PlugX
/-- a version's key and number -/
def prD (d : PyData) : Str × Int := match prts d with
  | some (.str x :: .int n :: _) => (x, n)
  | _ => (⟨#[]⟩, 0)
def mnI (ns : List Int) : Int := ns.min?.getD 0
def mxI (ns : List Int) : Int := ns.max?.getD 0
theorem mnI_eq {ns : List Int} {m : Int} (h : m ∈ ns) (g : ∀ y ∈ ns, m ≤ y) : mnI ns = m := by
  unfold mnI
  rw [List.min?_eq_some_iff.mpr ⟨h, g⟩]; rfl
theorem mxI_eq {ns : List Int} {m : Int} (h : m ∈ ns) (g : ∀ y ∈ ns, y ≤ m) : mxI ns = m := by
  unfold mxI
  rw [List.max?_eq_some_iff.mpr ⟨h, g⟩]; rfl
/-- the fence of rows of keys and numbers -/
def fenR (rs : List (Str × Int)) : PyData := .tuple [.str (rs.headD (⟨#[]⟩, 0)).1, .str (rs.getLastD (⟨#[]⟩, 0)).1, .int (mnI (rs.map (·.2))), .int (mxI (rs.map (·.2))), .int (rs.length : Nat)]
def rowsD (d : PyData) : List (Str × Int) := ((prts d).getD []).map prD
theorem verD_pr {d : PyData} (h : verD d = true) : ∃ x n z, prts d = some [.str x, .int n, z] ∧ prD d = (x, n) := by
  obtain ⟨x, n, z, e, _⟩ := verD_pair h
  exact ⟨x, n, z, e, by unfold prD; rw [e]⟩
theorem ver_pr {K : PySem.W.Frag} {H : Hp} {v : V} {d : PyData} (h : Dp K H v d) (hv : verD d = true) : ∃ a z, v = .ref a ∧ (SqL K H a [.str (prD d).1, .int (prD d).2, z] ∨ SqT K H a [.str (prD d).1, .int (prD d).2, z]) := by
  obtain ⟨x, n, z, e, ep⟩ := verD_pr hv
  obtain ⟨a, ys, rfl, hS, hA⟩ := h.prts e
  cases hA with
  | cons h1 hA => cases hA with
    | cons h2 hA => cases hA with
      | cons h3 hA =>
        cases hA
        cases h1
        cases h2
        rw [ep]
        exact ⟨a, _, rfl, hS⟩
theorem atI_neg1 {α : List V} {v : V} (h : α.getLast? = some v) : atI α (-1) = some v := by
  obtain ⟨l, rfl⟩ : ∃ l, α = l ++ [v] := by
    rcases List.eq_nil_or_concat α with e | ⟨l, x, e⟩
    · rw [e] at h; cases h
    · rw [e, List.concat_eq_append, List.getLast?_concat] at h
      cases h
      exact ⟨l, by rw [e, List.concat_eq_append]⟩
  exact atI_last _ _
abbrev s_fence_by : Stmt := top 25
abbrev N_fence_by : List Str := ["block", "numbers", "version"]
theorem sc_fence_by : FnScope N_fence_by ["block"] (defScope s_fence_by) := ⟨rfl, rfl, rfl, by decide +kernel, rfl, by decide +kernel, by decide +kernel⟩
def spFenceBy (K : PySem.W.Frag) : Sp := fun vs H Q _ => ∃ v d ds, vs = [v] ∧ Dp K H v d ∧ prts d = some ds ∧ ds ≠ [] ∧ ds.length ≤ 1000 ∧ (∀ x ∈ ds, verD x = true) ∧ ∀ v' H', Same H H' → Dp K H' v' (fenR (rowsD d)) → Q v' H'
section
variable {P : Program} {w : World} {K : PySem.W.Frag} {mg : Str → Option Value} {base : Heap}
theorem d_fence_by (M : MG mg) (S0 : St0 K mg "fence_by" s_fence_by ["block"]) : Df P w K mg base CX0 1 "fence_by" s_fence_by ["block"] (spFenceBy K) := by
  refine S0.df sc_fence_by (fun vs H Q E h => ?_) (fun f cdv A outer s H vs Q E hr h => ?_)
  · obtain ⟨v, d, ds, rfl, _⟩ := h
    rfl
  · refine ⟨_, PSs.nox (pss_cons (ps_setLc (i := 1) (own := [("version", 2)]) rfl sc_fence_by.nd rfl rfl (sw_true rfl rfl rfl (by decide +kernel)) (pi_seq (pv 0)) (blkOk_by (own := [("version", 2)]) (N := N_fence_by) (sc := defScope s_fence_by) (by decide +kernel)) (fun _ _ _ _ _ => (pg_name (i := 2) sc_fence_by.nd rfl (Or.inl rfl))) (fun _ _ _ _ _ => pts_nil) (fun _ _ _ _ _ => (pe_ix (r := rIx K) ix_seq (pv 2) pe_int (fun _ _ => rfl))))
  (pss_one (ps_ret (pe_tup (pa_cons (pe_ix (r := rIx K) ix_seq (pe_ix (r := rIx K) ix_seq (pv 0) pe_int (fun _ _ => rfl)) pe_int (fun _ _ => rfl)) (pa_cons (pe_ix (r := rIx K) ix_seq (pe_ix (r := rIx K) ix_seq (pv 0) (pe_un un_neg pe_int) (fun _ _ => rfl)) pe_int (fun _ _ => rfl)) (pa_cons (pe_callB (cr_min rfl) (by rfl) M.min (by decide +kernel) (pa_cons (pv 1) pa_nil)) (pa_cons (pe_callB (cr_max rfl) (by rfl) M.max (by decide +kernel) (pa_cons (pv 1) pa_nil)) (pa_cons (pe_callB call_len (by rfl) M.len boot_len (pa_cons (pv 0) pa_nil)) pa_nil))))))))), ?_⟩
    obtain ⟨v, d, ds, rfl, hd, q, ne, hsz, hv, hQ⟩ := h
    obtain ⟨a, xs, rfl, hS, hA⟩ := hd.prts q
    have hlen : xs.length = ds.length := hA.len
    refine ⟨.ref a, rfl, a, xs, rfl, hS, fun J G wk hG D hD => ?_⟩
    refine lc_ix wk rfl (ds.map fun x => some (.int (prD x).2)) (by rw [List.length_map, hlen]) hD (Nat.lt_of_le_of_lt (show xs.length ≤ 1000 by omega) (by decide)) hG (fun i x o hx ho H2 acc s2 hl2 hz2 Nx n1 n2 => ?_) (fun H2 s2 hl2 => ?_)
    · obtain ⟨dx, hdx, hpx⟩ := hA.at_ hx
      have eo : o = some (.int (prD dx).2) := by rw [List.getElem?_map, hdx] at ho; exact (Option.some.inj ho).symm
      obtain ⟨ax, zx, rfl, hSx⟩ := ver_pr (Dp.same s2 dx x hpx) (hv dx (List.mem_of_getElem? hdx))
      exact ⟨rfl, _, rfl, ixAt hSx (i := 1) rfl ⟨acc, hl2, hz2, n1 H2 _ (.refl H2) eo⟩⟩
    · have hl3 : H2 D = some (.lst ((ds.map fun x => (prD x).2).map V.int)) := by
        rw [hl2]
        simp [List.filterMap_map, Function.comp_def, List.filterMap_eq_map]
      have hS2 := s2.sq hS
      have hA2 := DpAll.same s2 ds xs hA
      obtain ⟨d0, hd0⟩ : ∃ d0, ds[0]? = some d0 := by cases ds with
        | nil => exact absurd rfl ne
        | cons x l => exact ⟨x, rfl⟩
      obtain ⟨x0, hx0, hp0⟩ := hA2.to hd0
      obtain ⟨dl, hdl⟩ : ∃ dl, ds.getLast? = some dl := ⟨_, List.getLast?_eq_some_getLast ne⟩
      have hdl2 : ds[ds.length - 1]? = some dl := by rw [← hdl, List.getLast?_eq_getElem?]
      obtain ⟨xl, hxl, hpl⟩ := hA2.to hdl2
      have hxl2 : xs.getLast? = some xl := by rw [List.getLast?_eq_getElem?, hlen]; exact hxl
      obtain ⟨a0, z0, rfl, hS0⟩ := ver_pr hp0 (hv d0 (List.mem_of_getElem? hd0))
      obtain ⟨al, zl, rfl, hSl⟩ := ver_pr hpl (hv dl (List.mem_of_getElem? hdl2))
      refine ⟨_, rfl, ixAt hS2 (i := 0) (atI_nat hx0) (ixAt hS0 (i := 0) rfl ?_)⟩
      refine ⟨_, rfl, 1, rfl, ixAt hS2 (i := -1) (atI_neg1 hxl2) (ixAt hSl (i := 0) rfl ?_)⟩
      have h0 : 0 < (ds.map fun x => (prD x).2).length := by rw [List.length_map]; exact List.length_pos_iff.mpr ne
      refine ⟨_, rfl, D, _, rfl, .inl (.inl hl3), h0, fun m m1 m2 => ?_⟩
      refine ⟨_, rfl, D, _, rfl, .inl (.inl hl3), h0, fun g g1 g2 => ?_⟩
      refine ⟨.ref a, rfl, .ref a, _, rfl, lenAt hS2, by show 5 ≤ sizeLine; decide, fun p np => ?_⟩
      refine hQ _ _ (s2.trans (.upd np)) ?_
      have e1 : rowsD d = ds.map prD := by unfold rowsD; rw [q]; rfl
      have e2 : (ds.map prD).map (·.2) = ds.map fun x => (prD x).2 := by rw [List.map_map]; rfl
      have e3 : ((ds.map prD).headD (⟨#[]⟩, 0)).1 = (prD d0).1 := by
        cases ds with
        | nil => exact absurd rfl ne
        | cons x l => cases hd0; rfl
      have e4 : ((ds.map prD).getLastD (⟨#[]⟩, 0)).1 = (prD dl).1 := by
        rw [List.getLastD_eq_getLast?, List.getLast?_map, hdl]; rfl
      have ef : fenR (rowsD d) = .tuple [.str (prD d0).1, .str (prD dl).1, .int m, .int g, .int (xs.length : Nat)] := by
        rw [e1]
        unfold fenR
        rw [e2, e3, e4, mnI_eq m1 m2, mxI_eq g1 g2, List.length_map, hlen]
      rw [ef]
      exact .tup (.inl (.inl upd_same)) (.cons (.str _) (.cons (.str _) (.cons (.int _) (.cons (.int _) (.cons (.int _) .nil)))))
abbrev s_fence_of : Stmt := top 27
abbrev N_fence_of : List Str := ["block"]
theorem sc_fence_of : FnScope N_fence_of ["block"] (defScope s_fence_of) := ⟨rfl, rfl, rfl, by decide +kernel, rfl, by decide +kernel, by decide +kernel⟩
def spFenceOf (K : PySem.W.Frag) (C : Addr) : Sp := fun vs H Q E => ∃ v d, vs = [v] ∧ Dp K H v d ∧ small3 d ∧ (blockD d = false → BadP C E H "block") ∧ (blockD d = true → ∀ v' H', Same H H' → Dp K H' v' (fenR (rowsD d)) → Q v' H')
theorem d_fence_of {C fI cda cc : Addr} (M : MG mg) (S0 : St0 K mg "fence_of" s_fence_of ["block"]) (T_BadValue : ExT P K mg "BadValue" "part" C fI cda cc) (D_is_block : Df P w K mg base CX0 4 "is_block" s_is_block ["value"] (spBlock K))
    (D_fence_by : Df P w K mg base CX0 1 "fence_by" s_fence_by ["block"] (spFenceBy K)) : Df P w K mg base (L2.CX P w) 5 "fence_of" s_fence_of ["block"] (spFenceOf K C) := by
  refine S0.df sc_fence_of (fun vs H Q E h => ?_) (fun f cdv A outer s H vs Q E hr h => ?_)
  · obtain ⟨v, d, rfl, _⟩ := h
    rfl
  · refine ⟨_, (pss_cons (ps_if (pt_not (pt_val (pd D_is_block (hr.mono (by decide)) rfl (pa_cons (pv 0) pa_nil)))) (pss_one (ps_raisePlug rfl T_BadValue fo_part (hr.mono (j := 2) (by decide)) (takes_of rfl rfl rfl rfl) (pa_cons pe_str pa_nil) rfl (by decide))) pss_nil)
  (pss_one (ps_ret (pd D_fence_by (hr.mono (by decide)) rfl (pa_cons (pv 0) pa_nil))))), ?_⟩
    obtain ⟨v, d, rfl, hd, hs, n1, hQ⟩ := h
    refine ⟨v, rfl, v, d, rfl, hd, hs, fun H1 s1 => ⟨_, rfl, ?_⟩⟩
    cases q1 : blockD d with
    | false => exact iteT ⟨_, rfl, fun x new => n1 q1 _ x (s1.trans (.upd new)) upd_same⟩
    | true =>
      obtain ⟨ds, q⟩ : ∃ ds, prts d = some ds := by
        unfold blockD at q1
        cases q : prts d with
        | none => rw [q] at q1; exact nomatch q1
        | some ds => exact ⟨ds, rfl⟩
      have q2 := q1
      unfold blockD at q2
      rw [q] at q2
      simp only [Bool.and_eq_true, Bool.not_eq_true', List.all_eq_true] at q2
      refine iteF ⟨v, rfl, v, d, ds, rfl, Dp.same s1 d v hd, q, ?_, (hs ds q).1, q2.2.1, fun v' H2 s2 hv' => hQ q1 v' H2 (s1.trans s2) hv'⟩
      intro e
      rw [e] at q2
      exact nomatch q2.1
end
end K93
set_option Elab.async false
set_option linter.all false
set_option maxRecDepth 100000
set_option maxHeartbeats 4000000
namespace L2
open PySem PySem.Spec PyProof.Rows
/-- the turns of range(0, len, step) -/
def turnsN (len s : Int) : Nat := (Builtin.Range.rangeSize 0 len s).toNat
theorem size_nonneg {len s : Int} (h0 : 0 ≤ len) (h2 : 1 ≤ s) : 0 ≤ Builtin.Range.rangeSize 0 len s := by
  unfold Builtin.Range.rangeSize
  rw [if_pos (by omega)]
  split
  · have := Int.ediv_nonneg (a := len - 0 - 1) (b := s) (by omega) (by omega)
    omega
  · exact Int.le_refl _
theorem size_le {len s : Int} (h0 : 0 ≤ len) (h2 : 1 ≤ s) : Builtin.Range.rangeSize 0 len s ≤ len := by
  unfold Builtin.Range.rangeSize
  rw [if_pos (by omega)]
  split
  · have := Int.ediv_le_self (a := len - 0 - 1) s (by omega)
    omega
  · exact h0
theorem RgC.chunk {len s : Int} (h0 : 0 ≤ len) (h1 : len ≤ 1000000) (h2 : 1 ≤ s) (h3 : s ≤ 1000000) : RgC 0 len s (turnsN len s) := by
  have e0 := size_nonneg h0 h2
  have e1 := size_le h0 h2
  refine ⟨by omega, by omega, ?_, by unfold turnsN; omega⟩
  unfold Builtin.Range.small
  simp only [Builtin.Range.rangeFitsLong, Bool.and_eq_true, Bool.or_eq_true, decide_eq_true_eq, beq_iff_eq]
  rw [if_pos (show s > 0 by omega)]
  simp only [Bool.and_eq_true, decide_eq_true_eq]
  omega
/-- a slice of a tuple -/
theorem slT {K : PySem.W.Frag} {H : Hp} {a : Addr} {xs : List V} {lo hi : Option Int} {Q : VK} (h : SqT K H a xs) (q : ∀ p H', Same H H' → SqT K H' p (cutV xs lo hi) → Q (.ref p) H') : rSlQ K (.ref a) lo hi H Q :=
  .inr ⟨a, xs, rfl, h, fun w => q a H (.refl H) (by rw [cutV_all w]; exact h), fun _ p np => q p _ (.upd np) (.inl (.inl upd_same))⟩
/-- .. of a list -/
theorem slL {K : PySem.W.Frag} {H : Hp} {a : Addr} {xs : List V} {lo hi : Option Int} {Q : VK} (h : SqL K H a xs) (q : ∀ p, H p = none → Q (.ref p) (L2.upd H p (.lst (cutV xs lo hi)))) : rSlQ K (.ref a) lo hi H Q := .inl ⟨a, xs, rfl, h, q⟩
/-- the parts of ds[lo:hi] -/
def cutP (ds : List PyData) (lo hi : Option Int) : List PyData := (ds.drop (HT.sIx ds.length 0 lo)).take (HT.sIx ds.length ds.length hi - HT.sIx ds.length 0 lo)
theorem DpAll.drop {K : PySem.W.Frag} {H : Hp} : ∀ {vs : List V} {ds : List PyData} (n : Nat), DpAll K H vs ds → DpAll K H (vs.drop n) (ds.drop n)
  | _, _, 0, h => h
  | _, _, _ + 1, .nil => .nil
  | _, _, n + 1, .cons _ t => t.drop n
theorem DpAll.take {K : PySem.W.Frag} {H : Hp} : ∀ {vs : List V} {ds : List PyData} (n : Nat), DpAll K H vs ds → DpAll K H (vs.take n) (ds.take n)
  | _, _, 0, _ => .nil
  | _, _, _ + 1, .nil => .nil
  | _, _, n + 1, .cons h t => .cons h (t.take n)
theorem DpAll.cut {K : PySem.W.Frag} {H : Hp} {vs : List V} {ds : List PyData} (h : DpAll K H vs ds) (lo hi : Option Int) : DpAll K H (cutV vs lo hi) (cutP ds lo hi) := by
  unfold cutV cutP
  rw [h.len]
  exact (h.drop _).take _
theorem noListL_cut {ds : List PyData} (h : noListL ds = true) (lo hi : Option Int) : noListL (cutP ds lo hi) = true := by
  rw [noListL_all] at h ⊢
  exact fun x hx => h x (List.mem_of_mem_drop (List.mem_of_mem_take hx))
/-- xs in pieces of s, tuples -/
def chunkL (s : Int) (ds : List PyData) : List PyData := (List.range (turnsN (ds.length : Int) s)).map fun i => .tuple (cutP ds (some (0 + ((i : Nat) : Int) * s)) (some (0 + ((i : Nat) : Int) * s + s)))
theorem noListL_chunk {s : Int} {ds : List PyData} (h : noListL ds = true) : noListL (chunkL s ds) = true := by
  rw [noListL_all]
  intro x hx
  obtain ⟨i, _, rfl⟩ := List.mem_map.mp hx
  exact noListL_cut h _ _
theorem chunkL_succ {s : Int} {ds : List PyData} {i : Nat} (hi : i < turnsN (ds.length : Int) s) : (chunkL s ds).take (i + 1) = (chunkL s ds).take i ++ [.tuple (cutP ds (some (0 + ((i : Nat) : Int) * s)) (some (0 + ((i : Nat) : Int) * s + s)))] := by
  rw [List.take_add_one]
  congr 1
  unfold chunkL
  simp [hi]
end L2
namespace K93
open PySem PySem.Spec PyProof.Rows L2 Nam SetP PlugX
abbrev s_blocks_of : Stmt := top 26
abbrev N_blocks_of : List Str := ["versions", "size", "told", "at"]
theorem sc_blocks_of : FnScope N_blocks_of ["versions", "size"] (defScope s_blocks_of) := ⟨rfl, rfl, rfl, by decide +kernel, rfl, by decide +kernel, by decide +kernel⟩
/-- what blocks_of takes -/
def runD (d : PyData) : Bool := match prts d with
  | some [] => true
  | some _ => blockD d
  | none => false
def spBlocksOf (K : PySem.W.Frag) (C C2 : Addr) : Sp := fun vs H Q E => ∃ v u d e, vs = [v, u] ∧ Dp K H v d ∧ Dp K H u e ∧ small3 d ∧ slim d = true ∧ PyData.depth d < 4 ∧
  (runD d = false → BadP C E H "versions") ∧ (runD d = true → withinD e (some 1) (some 100) = false → BadP C2 E H "size") ∧
  (∀ ds s, runD d = true → prts d = some ds → e = .int s → withinD e (some 1) (some 100) = true → ∀ v' H', Same H H' → Dp K H' v' (.tuple (chunkL s (fixL ds))) → Q v' H')
section
variable {P : Program} {w : World} {K : PySem.W.Frag} {mg : Str → Option Value} {base : Heap} {C fI cda cc C2 fI2 cda2 cc2 : Addr}
theorem d_blocks_of (M : MG mg) (S0 : St0 K mg "blocks_of" s_blocks_of ["versions", "size"]) (T_BadValue : ExT P K mg "BadValue" "part" C fI cda cc) (T_BadNumber : ExT P K mg "BadNumber" "part" C2 fI2 cda2 cc2)
    (D_is_listed : Df P w K mg base CX0 1 "is_listed" s_is_listed ["value"] (spListed K)) (D_is_block : Df P w K mg base CX0 4 "is_block" s_is_block ["value"] (spBlock K)) (D_is_within : Df P w K mg base CX0 2 "is_within" s_is_within ["value", "least", "most"] (spWithin K))
    (D_fixed : Df P w K mg base CX0 4 "fixed" s_fixed ["value"] (spFixed K 4)) : Df P w K mg base (L2.CX P w) 5 "blocks_of" s_blocks_of ["versions", "size"] (spBlocksOf K C C2) := by
  refine S0.df sc_blocks_of (fun vs H Q E h => ?_) (fun f cdv A outer s H vs Q E hr h => ?_)
  · obtain ⟨v, u, d, e, rfl, _⟩ := h
    rfl
  · refine ⟨_, (pss_cons (ps_if (PW.pt (pw_or (pt_not (pt_val (pd D_is_listed (hr.mono (by decide)) rfl (pa_cons (pv 0) pa_nil)))) (pw_or1 (PW.pt (pw_and (pt_cmpR op_gt (pe_callB call_len (by rfl) M.len boot_len (pa_cons (pv 0) pa_nil)) pe_int (nomark _)) (pw_and1 (pt_not (pt_val (pd D_is_block (hr.mono (by decide)) rfl (pa_cons (pv 0) pa_nil)))))))))) (pss_one (ps_raisePlug rfl T_BadValue fo_part (hr.mono (j := 2) (by decide)) (takes_of rfl rfl rfl rfl) (pa_cons pe_str pa_nil) rfl (by decide))) pss_nil)
  (pss_cons (ps_if (pt_not (pt_val (pd D_is_within (hr.mono (by decide)) rfl (pa_cons (pv 1) (pa_cons pe_int (pa_cons (pgc rfl M.MOST_SIZE) pa_nil)))))) (pss_one (ps_raisePlug rfl T_BadNumber fo_part (hr.mono (j := 2) (by decide)) (takes_of rfl rfl rfl rfl) (pa_cons pe_str pa_nil) rfl (by decide))) pss_nil)
  (pss_cons (ps_set (i := 2) sc_blocks_of.nd rfl (Or.inr rfl) (pd D_fixed (hr.mono (by decide)) rfl (pa_cons (pv 0) pa_nil)))
  (pss_one (ps_ret (pe_callTy call_tuple_of (by rfl) M.tuple (by decide +kernel) (pa_cons (pe_lc (own := [("at", 3)]) rfl sc_blocks_of.nd (pi_range3 rfl M.range (pa_cons pe_int (pa_cons (pe_callB call_len (by rfl) M.len boot_len (pa_cons (pv 2) pa_nil)) (pa_cons (pv 1) pa_nil)))) (blkOk_by (own := [("at", 3)]) (N := N_blocks_of) (sc := defScope s_blocks_of) (by decide +kernel)) (fun _ _ _ _ _ => (pg_name (i := 3) sc_blocks_of.nd rfl (Or.inl rfl))) (fun _ _ _ _ _ => pts_nil) (fun _ _ _ _ _ => (pe_slice (r := rSlQ K) sl_seq (pv 2) (po_some (pv 3)) (po_some (pe_op op_add (pv 3) (pv 1)))))) pa_nil))))))), ?_⟩
    obtain ⟨v, u, d, e, rfl, hd, he, hs3, hsl, hdp, n1, n2, hQ⟩ := h
    refine seq_D (fun b H' => Same H H' ∧ b = !runD d) (fun G hG => ?_) (fun H1 z => ?_) (fun H1 z => ?_)
    · refine ⟨_, rfl, v, d, rfl, hd, fun H1 s1 => ⟨_, rfl, ?_⟩⟩
      cases q : prts d with
      | none =>
        have e1 : listedD d = false := by unfold listedD; rw [q]; rfl
        have e2 : runD d = false := by unfold runD; rw [q]
        rw [e1]
        exact iteT (hG _ H1 ⟨s1, by rw [e2]; rfl⟩)
      | some ds =>
        have e1 : listedD d = true := by unfold listedD; rw [q]; rfl
        rw [e1]
        refine iteF ?_
        obtain ⟨a, xs, rfl, hS, hA⟩ := (Dp.same s1 d v hd).prts q
        have hlen : xs.length = ds.length := hA.len
        refine ⟨.ref a, rfl, .ref a, _, rfl, lenAt hS, _, _, rfl, rfl, _, rfl, ite2 (fun h1 => ?_) (fun h1 => ?_)⟩
        · have hpos : 0 < xs.length := by have := of_decide_eq_true h1; omega
          have eb : runD d = blockD d := by
            unfold runD
            rw [q]
            cases ds with
            | nil => rw [hlen] at hpos; exact absurd hpos (Nat.lt_irrefl 0)
            | cons x l => rfl
          refine ⟨.ref a, rfl, .ref a, d, rfl, Dp.same s1 d _ hd, hs3, fun H2 s2 => ⟨_, rfl, hG _ H2 ⟨s1.trans s2, by rw [eb]⟩⟩⟩
        · have h0 : ds = [] := by
            have : ¬ 0 < xs.length := fun z => h1 (decide_eq_true (by omega))
            exact List.eq_nil_of_length_eq_zero (by omega)
          exact hG _ H1 ⟨s1, by unfold runD; rw [q, h0]; rfl⟩
    · obtain ⟨s1, e⟩ := z
      have e2 : runD d = false := by cases q : runD d <;> first | rfl | (rw [q] at e; cases e)
      exact ⟨_, rfl, fun x new => n1 e2 _ x (s1.trans (.upd new)) upd_same⟩
    · obtain ⟨s1, e2⟩ := z
      have ok : runD d = true := by cases q : runD d <;> first | rfl | (rw [q] at e2; cases e2)
      obtain ⟨ds, q⟩ : ∃ ds, prts d = some ds := by
        unfold runD at ok
        cases q : prts d with
        | none => rw [q] at ok; exact nomatch ok
        | some ds => exact ⟨ds, rfl⟩
      refine ⟨_, rfl, u, e, some 1, some 100, rfl, Dp.same s1 e u he, ⟨_, rfl, ?_⟩⟩
      cases q1 : withinD e (some 1) (some 100) with
      | false => exact iteT ⟨_, rfl, fun x new => n2 ok q1 _ x (s1.trans (.upd new)) upd_same⟩
      | true =>
        obtain ⟨s, rfl, h1s, hs100⟩ : ∃ s, e = .int s ∧ 1 ≤ s ∧ s ≤ 100 := by
          cases e with
          | int s => exact ⟨s, rfl, by simpa [withinD] using q1⟩
          | _ => exact nomatch q1
        cases he
        refine iteF ⟨v, rfl, v, d, rfl, Dp.same s1 d v hd, hsl, hdp, fun v' H2 s2 hv' => ?_⟩
        have efx : fixD d = .tuple (fixL ds) := by rcases prts_or q with z | z <;> subst z <;> rfl
        rw [efx] at hv'
        cases hv' with
        | tup hT hA =>
          rename_i a xs
          have hlen := hA.len
          have hsz : (fixL ds).length ≤ 1000 := by rw [fixL_map, List.length_map]; exact (hs3 ds q).1
          refine ⟨.ref a, rfl, .ref a, _, rfl, lenAt (.inr hT), _, rfl, 0, (xs.length : Int), s, turnsN ((fixL ds).length : Int) s, rfl, ?_, fun D hD => ?_⟩
          · rw [hlen]
            exact RgC.chunk (by omega) (by omega) h1s (by omega)
          · refine lc_it walk_rangeC (fun i H3 => Same H2 H3 ∧ ∃ acc, H3 D = some (.lst acc) ∧ DpAll K H3 acc ((chunkL s (fixL ds)).take i)) ⟨.upd hD, [], upd_same, .nil⟩ (fun _ _ _ _ => True.intro) (fun i x H3 H4 hi z y => ?_) (fun H3 z => ?_)
            · obtain ⟨rfl, rfl⟩ := y
              obtain ⟨s3, acc, hacc, hall⟩ := z
              have hl : acc.length ≤ 1000 := by
                rw [hall.len, List.length_take]
                have := size_le (len := ((fixL ds).length : Int)) (s := s) (by omega) h1s
                have : turnsN ((fixL ds).length : Int) s ≤ 1000 := by unfold turnsN; omega
                omega
              have hT3 := s3.tup hT
              refine ⟨rfl, .ref a, rfl, _, rfl, _, rfl, _, rfl, _, rfl, _, _, rfl, rfl, _, rfl, slT hT3 fun p H5 s5 alt => ?_⟩
              refine ⟨acc, s5 _ _ hacc, Nat.lt_of_le_of_lt hl (by decide), fun b o h => ?_, acc ++ [.ref p], upd_same, ?_⟩
              · rw [upd_ne (ne_of_none h hD)]
                exact s5 b o (s3 b o h)
              · rw [chunkL_succ hi]
                have al : Alm H5 (upd H5 D (.lst (acc ++ [.ref p]))) := Alm.upd (s5 _ _ hacc)
                have hc : noList (.tuple (cutP (fixL ds) (some (0 + ((i : Nat) : Int) * s)) (some (0 + ((i : Nat) : Int) * s + s)))) = true := by rw [noList]; exact noListL_cut (noListL_fix ds) _ _
                refine DpAll.snoc (Dp.alm al _ _ hc ?_) (DpAll.alm (s5.alm.trans al) _ _ ?_ hall)
                · have hA5 := (DpAll.same (s3.trans s5) _ _ hA).cut (some (0 + ((i : Nat) : Int) * s)) (some (0 + ((i : Nat) : Int) * s + s))
                  exact .tup alt hA5
                · rw [noListL_all]
                  intro x hx
                  exact noListL_all.mp (noListL_chunk (noListL_fix ds)) x (List.mem_of_mem_take hx)
            · obtain ⟨s3, acc, hacc, hall⟩ := z
              rw [List.take_of_length_le (by unfold chunkL; rw [List.length_map, List.length_range]; exact Nat.le_refl _)] at hall
              refine ⟨D, acc, rfl, .inl ⟨.inl (.inl hacc), fun l nl => ?_⟩⟩
              refine hQ ds s ok q rfl q1 (.ref l) _ (s1.trans (s2.trans (s3.trans (.upd nl)))) ?_
              exact .tup (.inl (.inl upd_same)) (DpAll.same (.upd nl) _ _ hall)
end
end K93
set_option Elab.async false
set_option linter.all false
set_option maxRecDepth 100000
set_option maxHeartbeats 4000000
namespace K93
open PySem PySem.Spec PyProof.Rows L2 Pen
abbrev s_law_pen : Stmt := top 31
abbrev N_law_pen : List Str := ["script"]
theorem sc_law_pen : FnScope N_law_pen ["script"] (defScope s_law_pen) := ⟨rfl, rfl, rfl, by decide +kernel, rfl, by decide +kernel, by decide +kernel⟩
abbrev s_law_draw : Stmt := top 32
abbrev N_law_draw : List Str := ["pen", "many", "digit", "lap", "cell", "great", "mixed"]
theorem sc_law_draw : FnScope N_law_draw ["pen", "many"] (defScope s_law_draw) := ⟨rfl, rfl, rfl, by decide +kernel, rfl, by decide +kernel, by decide +kernel⟩
abbrev s_law_pick : Stmt := top 33
abbrev N_law_pick : List Str := ["pen", "some"]
theorem sc_law_pick : FnScope N_law_pick ["pen", "some"] (defScope s_law_pick) := ⟨rfl, rfl, rfl, by decide +kernel, rfl, by decide +kernel, by decide +kernel⟩
section
variable {P : Program} {w : World} {K : PySem.W.Frag} {mg : Str → Option Value} {base : Heap}
theorem d_law_pen (M : MG mg) (S0 : St0 K mg "_law_pen" s_law_pen ["script"]) : Df P w K mg base CX0 1 "_law_pen" s_law_pen ["script"] (spPen K) := by
  refine S0.df sc_law_pen (fun vs H Q E h => ?_) (fun f cdv A outer s H vs Q E hr h => ?_)
  · obtain ⟨a, ns, rfl, _⟩ := h
    rfl
  · refine ⟨_, PSs.nox (pss_one (ps_ret (pe_lst (pa_cons (pe_callTy call_list_of (by rfl) M.list (by decide +kernel) (pa_cons (pe_slice sl_list (pv 0) po_none (po_some pe_int)) pa_nil)) (pa_cons pe_int (pa_cons pe_int pa_nil)))))), ?_⟩
    obtain ⟨a, ns, rfl, hS, hn, hQ⟩ := h
    refine ⟨.ref a, rfl, 63, rfl, a, _, rfl, hS, fun p np => ?_⟩
    refine ⟨p, _, rfl, .inl (.inl (.inl upd_same)), fun l nl => ⟨by show 3 ≤ sizeLine; decide, fun q nq => ?_⟩⟩
    have nlH : H l = none := (Same.upd np).free nl
    have nqH : H q = none := ((Same.upd np).trans (.upd nl)).free nq
    have nlq : l ≠ q := fun z => by
      rw [← z, upd_same] at nq
      cases nq
    have s2 := (Same.upd (o := .lst (cutV (ns.map V.int) none (some 63))) np).trans (.upd (o := .lst (cutV (ns.map V.int) none (some 63))) nl)
    refine hQ _ q l (s2.trans (.upd nq)) nqH nlH ⟨(ns.drop (HT.sIx ns.length 0 none)).take (HT.sIx ns.length ns.length (some 63) - HT.sIx ns.length 0 none), 0, 0, nlq, upd_same, ?_, by decide, by decide, by decide⟩
    rw [upd_ne nlq, upd_same, List.map_take, List.map_drop]
    unfold cutV
    rw [List.length_map]
theorem d_law_draw (M : MG mg) (S0 : St0 K mg "_law_draw" s_law_draw ["pen", "many"]) : Df P w K mg base CX0 1 "_law_draw" s_law_draw ["pen", "many"] spDraw := by
  refine S0.df sc_law_draw (fun vs H Q E h => ?_) (fun f cdv A outer s H vs Q E hr h => ?_)
  · obtain ⟨p, c, many, n, rfl, _⟩ := h
    rfl
  · refine ⟨_, PSs.nox (pss_cons (ps_if (pt_cmpR op_gt (pe_ix ix_list (pv 0) pe_int (fun _ _ => rfl)) pe_int (nomark _)) (pss_cons (ps_set (i := 2) sc_law_draw.nd rfl (Or.inl rfl) (pe_op op_mod (pe_callTy call_int1 (by rfl) M.int (by decide +kernel) (pa_cons (pe_ix ix_list (pv 0) pe_int (fun _ _ => rfl)) pa_nil)) (pv 1)))
  (pss_cons (ps_asg (pe_op op_fdiv (pe_callTy call_int1 (by rfl) M.int (by decide +kernel) (pa_cons (pe_ix ix_list (pv 0) pe_int (fun _ _ => rfl)) pa_nil)) (pv 1)) (pg_sub (pv 0) pe_int set_list))
  (pss_one (ps_ret (pv 2))))) pss_nil)
  (pss_cons (ps_set (i := 3) sc_law_draw.nd rfl (Or.inl rfl) (pe_ix ix_list (pv 0) pe_int (fun _ _ => rfl)))
  (pss_cons (ps_asg (pe_op op_add (pv 3) pe_int) (pg_sub (pv 0) pe_int set_list))
  (pss_cons (ps_set (i := 4) sc_law_draw.nd rfl (Or.inl rfl) (pe_op op_add (pe_op op_mul pe_int (pv 3)) pe_int))
  (pss_cons (ps_if (pt_cmpR (op_neD hr.units) (pe_ix ix_list (pv 0) pe_int (fun _ _ => rfl)) (pe_lst pa_nil) (nomark _)) (pss_one (ps_set (i := 4) sc_law_draw.nd rfl (Or.inl rfl) (pe_ix ix_list (pe_ix ix_list (pv 0) pe_int (fun _ _ => rfl)) (pe_op op_mod (pe_callTy call_int1 (by rfl) M.int (by decide +kernel) (pa_cons (pv 3) pa_nil)) (pe_callB call_len (by rfl) M.len boot_len (pa_cons (pe_ix ix_list (pv 0) pe_int (fun _ _ => rfl)) pa_nil))) (fun _ _ => rfl)))) pss_nil)
  (pss_cons (ps_if (PW.pt (pw_and (pt_cmpR op_lt (pv 3) (pe_callB call_len (by rfl) M.len boot_len (pa_cons (pe_ix ix_list (pv 0) pe_int (fun _ _ => rfl)) pa_nil)) (nomark _)) (pw_and1 (pt_cmpR op_ge (pe_callB call_abs (by rfl) M.abs (by decide +kernel) (pa_cons (pv 4) pa_nil)) (pe_op op_pow pe_int pe_int) (nomark _))))) (pss_cons (ps_set (i := 5) sc_law_draw.nd rfl (Or.inl rfl) (pe_op op_add (pe_op op_mul pe_int (pe_op op_sub (pe_callB call_abs (by rfl) M.abs (by decide +kernel) (pa_cons (pv 4) pa_nil)) (pe_op op_pow pe_int pe_int))) (pe_callTy call_int1 (by rfl) M.int (by decide +kernel) (pa_cons (pe_cmpR op_lt (pv 4) pe_int (nomark _)) pa_nil))))
  (pss_cons (ps_asg (pe_op op_fdiv (pe_callTy call_int1 (by rfl) M.int (by decide +kernel) (pa_cons (pv 5) pa_nil)) (pv 1)) (pg_sub (pv 0) pe_int set_list))
  (pss_one (ps_ret (pe_op op_mod (pe_callTy call_int1 (by rfl) M.int (by decide +kernel) (pa_cons (pv 5) pa_nil)) (pv 1)))))) pss_nil)
  (pss_cons (ps_set (i := 6) sc_law_draw.nd rfl (Or.inl rfl) (pe_op op_mod (pe_callTy call_int1 (by rfl) M.int (by decide +kernel) (pa_cons (pe_op op_pow (pe_op op_add (pe_op op_add (pe_op op_mod (pe_callTy call_int1 (by rfl) M.int (by decide +kernel) (pa_cons (pv 4) pa_nil)) pe_int) (pe_op op_mul pe_int (pv 3))) pe_int) pe_int) pa_nil)) pe_int))
  (pss_cons (ps_set (i := 6) sc_law_draw.nd rfl (Or.inl rfl) (pe_op op_mod (pe_callTy call_int1 (by rfl) M.int (by decide +kernel) (pa_cons (pe_op op_pow (pe_op op_add (pe_op op_add (pe_op op_mul (pv 6) (pe_op op_add (pe_op op_mul pe_int (pv 3)) pe_int)) (pe_op op_mul (pe_op op_mul pe_int (pv 3)) (pv 3))) pe_int) pe_int) pa_nil)) pe_int))
  (pss_one (ps_ret (pe_op op_mod (pe_callTy call_int1 (by rfl) M.int (by decide +kernel) (pa_cons (pe_op op_fdiv (pv 6) pe_int) pa_nil)) (pv 1)))))))))))), ?_⟩
    obtain ⟨p, c, many, n, rfl, hm, hm2, ⟨ns, lap, rest, hcp, hp, hc, hl0, hln, hr0⟩, hn, hQ⟩ := h
    refine ⟨_, rfl, p, _, 2, .int rest, rfl, rfl, .inl (.inl hp), rfl, _, _, rfl, rfl, _, rfl, ite2 (fun h1 => ?_) (fun h1 => ?_)⟩
    · have hpos : 0 < rest := of_decide_eq_true h1
      refine ⟨_, rfl, p, _, 2, .int rest, rfl, rfl, .inl (.inl hp), rfl, .inl ⟨_, rfl, _, rfl, _, _, rfl, rfl, hm, ?_⟩⟩
      refine ⟨_, rfl, p, _, 2, .int rest, rfl, rfl, .inl (.inl hp), rfl, .inl ⟨_, rfl, _, rfl, _, _, rfl, rfl, ⟨hm, by omega⟩, ?_⟩⟩
      refine ⟨_, rfl, p, _, 2, 2, rfl, rfl, hp, rfl, _, rfl, ?_⟩
      refine hQ _ _ (Int.emod_nonneg _ (by omega)) (Int.emod_lt_of_pos _ hm) .write ⟨ns, lap, rest / many, hcp, upd_same, by rw [upd_ne hcp]; exact hc, hl0, by omega, Int.ediv_nonneg hr0 (by omega)⟩
    · have hr00 : rest = 0 := by
        have : ¬ 0 < rest := fun z => h1 (decide_eq_true z)
        omega
      subst hr00
      refine ⟨_, rfl, p, _, 1, .int lap, rfl, rfl, .inl (.inl hp), rfl, ?_⟩
      refine ⟨_, rfl, _, _, rfl, rfl, _, rfl, p, _, 1, 1, rfl, rfl, hp, rfl, ?_⟩
      have hc1 : ∀ o, upd H p o c = some (.lst (ns.map V.int)) := fun o => by rw [upd_ne hcp]; exact hc
      have hl1 : lap ≤ 1000000 := by omega
      refine ⟨_, rfl, _, _, rfl, rfl, .inl ⟨by decide, by decide⟩, ?_⟩
      refine ⟨_, _, rfl, rfl, ?_⟩
      refine ⟨_, rfl, p, _, 0, .ref c, rfl, rfl, .inl (.inl upd_same), rfl, by show 0 ≤ sizeLine; exact Nat.zero_le _, fun p2 np2 => ?_⟩
      have np2p : p ≠ p2 := fun z => by
        rw [← z, upd_same] at np2
        cases np2
      have np2c : c ≠ p2 := fun z => by
        rw [← z, hc1] at np2
        cases np2
      refine ne_nil (xs := ns.map V.int) (ds := ns.map PyData.int) (.inl (.inl (by rw [upd_ne np2c, hc1]))) (dpMap ns fun i _ => .int i) (fun d hd => ?_) upd_same ⟨_, rfl, ?_⟩
      · obtain ⟨i, _, rfl⟩ := List.mem_map.mp hd
        exact ⟨rfl, Nat.zero_le _⟩
      have fin : ∀ rest' : Int, 0 ≤ rest' → ∀ r : Int, 0 ≤ r → r < many → ∀ H', Kp p H H' → H' p = some (.lst [.ref c, .int (lap + 1), .int rest']) → H' c = some (.lst (ns.map V.int)) → Q (.int r) H' := fun rest' h0 r r0 r1 H' k e1 e2 =>
        hQ r H' r0 r1 k ⟨ns, lap + 1, rest', hcp, e1, e2, by omega, by omega, h0⟩
      refine ite2 (fun h2 => ?b1) (fun h2 => ?b2)
      have hne : 0 < ns.length := by
        cases ns with
        | nil => cases h2
        | cons a b => simp
      have hj : (lap % (ns.length : Int)).toNat < ns.length := by
        have e1 := Int.emod_nonneg lap (show (ns.length : Int) ≠ 0 by omega)
        have e2 := Int.emod_lt_of_pos lap (show (0 : Int) < ns.length by omega)
        omega
      have hat : atI (ns.map V.int) (lap % ((ns.map V.int).length : Int)) = some (.int ns[(lap % (ns.length : Int)).toNat]) := by
        have e1 := Int.emod_nonneg lap (show (ns.length : Int) ≠ 0 by omega)
        have e2 : lap % ((ns.map V.int).length : Int) = (((lap % (ns.length : Int)).toNat : Nat) : Int) := by
          rw [List.length_map]
          omega
        rw [e2]
        exact atI_nat (by simp [hj])
      refine ⟨_, rfl, p, _, 0, .ref c, rfl, rfl, .inl (.inl (by rw [upd_ne np2p]; exact upd_same)), rfl, ?_⟩
      refine ⟨_, rfl, .inl ⟨_, rfl, _, rfl, p, _, 0, .ref c, rfl, rfl, .inl (.inl (by rw [upd_ne np2p]; exact upd_same)), rfl, ?_⟩⟩
      refine ⟨.ref c, _, rfl, .inl ⟨_, .inl (.inl (by rw [upd_ne np2c, hc1])), rfl⟩, _, _, rfl, rfl, by rw [List.length_map]; omega, ?_⟩
      refine ⟨c, _, _, _, rfl, rfl, .inl (.inl (by rw [upd_ne np2c, hc1])), hat, ?_⟩
      all_goals
        have hp2 : upd (upd H p (.lst [V.ref c, .int (lap + 1), .int 0])) p2 (.lst []) p = some (.lst [V.ref c, .int (lap + 1), .int 0]) := by rw [upd_ne np2p, upd_same]
        have hc2 : upd (upd H p (.lst [V.ref c, .int (lap + 1), .int 0])) p2 (.lst []) c = some (.lst (ns.map V.int)) := by rw [upd_ne np2c, hc1]
        have kp2 : Kp p H (upd (upd H p (.lst [V.ref c, .int (lap + 1), .int 0])) p2 (.lst [])) := fun b o nb hb => by
          rw [upd_ne (show b ≠ p2 from fun z => ?_), upd_ne nb]
          · exact hb
          · rw [z] at hb nb
            rw [upd_ne nb, hb] at np2
            cases np2
        refine ⟨_, rfl, _, rfl, p, _, 0, .ref c, rfl, rfl, .inl (.inl hp2), rfl, .ref c, _, rfl, .inl ⟨_, .inl (.inl hc2), rfl⟩, _, _, rfl, rfl, _, rfl, ite2 (fun h3 => ⟨_, rfl, _, rfl, _, _, rfl, rfl, ⟨by decide, by decide, by decide⟩, _, _, rfl, rfl, _, rfl, ite2 (fun h4 => ?g) (fun h4 => ?_)⟩) (fun h3 => iteF ?_)⟩
        case g =>
          have h5 := of_decide_eq_true h4
          refine ⟨_, rfl, _, rfl, _, _, rfl, rfl, ⟨by decide, by decide, by decide⟩, _, _, rfl, rfl, _, _, rfl, rfl, .inl ⟨by decide, by decide⟩, _, rfl, _, _, rfl, rfl, .inr ⟨_, rfl, _, _, rfl, rfl, ?_⟩⟩
          refine ⟨_, rfl, .inl ⟨_, rfl, _, rfl, _, _, rfl, rfl, ⟨hm, by omega⟩, _, rfl, p, _, 2, 2, rfl, rfl, hp2, rfl, ?_⟩⟩
          refine ⟨_, rfl, .inl ⟨_, rfl, _, rfl, _, _, rfl, rfl, hm, fin _ (Int.ediv_nonneg ?_ (by omega)) _ (Int.emod_nonneg _ (by omega)) (Int.emod_lt_of_pos _ hm) _ (kp2.trans .write) upd_same (by rw [upd_ne hcp]; exact hc2)⟩⟩
          split <;> omega
        all_goals
          refine ⟨_, rfl, .inl ⟨_, rfl, _, _, rfl, rfl, by show (0 : Int) < 2147483587; decide, _, rfl, _, _, rfl, rfl, .inl ⟨by decide, by decide⟩, _, _, rfl, rfl, _, _, rfl, rfl, _, _, rfl, rfl, ⟨by decide, by decide, mix1 hl0 hl1 178266 24384 (by decide) (by decide) (by decide) (by decide)⟩, .inl ⟨_, rfl, _, _, rfl, rfl, by show (0 : Int) < 2147483563; decide, ?_⟩⟩⟩
          have m0 : ∀ x : Int, 0 ≤ x % 2147483563 := fun x => Int.emod_nonneg x (by decide)
          have m1 : ∀ x : Int, x % 2147483563 < 2147483563 := fun x => Int.emod_lt_of_pos x (by decide)
          refine ⟨_, rfl, _, rfl, _, _, rfl, rfl, .inl ⟨by decide, by decide⟩, _, _, rfl, rfl, _, _, rfl, rfl, .inl ⟨Int.lt_of_lt_of_le (by decide) (m0 _), Int.lt_trans (m1 _) (by decide)⟩, _, rfl, _, _, rfl, rfl, .inl ⟨by decide, by decide⟩, _, rfl, _, _, rfl, rfl, .inl (mixM hl0 hl1 (by decide) (by decide)), _, _, rfl, rfl, _, _, rfl, rfl, _, _, rfl, rfl, ⟨by decide, by decide, mix2 (m0 _) (m1 _) hl0 hl1 (by decide) (by decide) (by decide) (by decide) (by decide) (by decide)⟩, .inl ⟨_, rfl, _, _, rfl, rfl, by show (0 : Int) < 2147483549; decide, ?_⟩⟩
          exact ⟨_, rfl, _, _, rfl, rfl, ⟨by decide, by decide⟩, .inl ⟨_, rfl, _, rfl, _, _, rfl, rfl, hm, fin 0 (by decide) _ (Int.emod_nonneg _ (by omega)) (Int.emod_lt_of_pos _ hm) _ kp2 hp2 hc2⟩⟩
theorem d_law_pick (M : MG mg) (S0 : St0 K mg "_law_pick" s_law_pick ["pen", "some"]) (D__law_draw : Df P w K mg base CX0 1 "_law_draw" s_law_draw ["pen", "many"] spDraw) : Df P w K mg base CX0 2 "_law_pick" s_law_pick ["pen", "some"] (spPick K) := by
  refine S0.df sc_law_pick (fun vs H Q E h => ?_) (fun f cdv A outer s H vs Q E hr h => ?_)
  · obtain ⟨p, c, a, xs, n, rfl, _⟩ := h
    rfl
  · refine ⟨_, PSs.nox (pss_one (ps_ret (pe_ix ix_list (pv 1) (pd D__law_draw (hr.mono (by decide)) rfl (pa_cons (pv 0) (pa_cons (pe_callB call_len (by rfl) M.len boot_len (pa_cons (pv 1) pa_nil)) pa_nil))) (fun _ _ => rfl)))), ?_⟩
    obtain ⟨p, c, a, xs, n, rfl, nap, hS, h0, h1, hP, hn, hQ⟩ := h
    refine ⟨_, rfl, _, rfl, _, rfl, .ref a, _, rfl, .inl ⟨_, hS, rfl⟩, p, c, (xs.length : Int), n, rfl, by omega, by omega, hP, hn, fun r H1 r0 r1 k1 P1 => ?_⟩
    have hr1 : r.toNat < xs.length := by omega
    have e : atI xs r = some xs[r.toNat] := by
      have := atI_nat (xs := xs) (j := r.toNat) (v := xs[r.toNat]) (List.getElem?_eq_getElem hr1)
      rwa [Int.toNat_of_nonneg r0] at this
    exact ⟨a, xs, r, _, rfl, rfl, k1.seq nap hS, e, hQ _ H1 (List.getElem_mem hr1) k1 P1⟩
end
end K93
set_option Elab.async false
set_option linter.all false
set_option maxRecDepth 100000
set_option maxHeartbeats 4000000
namespace K93
open PySem PySem.Spec PyProof.Rows L2 PlugX LamX LamB
abbrev s_law_error : Stmt := top 34
abbrev N_law_error : List Str := ["ask", "found", "caught", "error", "kinds", "words", "word", "is_so"]
theorem sc_law_error : FnScope N_law_error ["ask"] (defScope s_law_error) := ⟨rfl, rfl, rfl, by decide +kernel, rfl, by decide +kernel, by decide +kernel⟩
/-- the error classes behind the top -/
structure ErrK (K : PySem.W.Frag) (mg : Str → Option Value) (CP CV CN CM CNn CE CT : Addr) : Prop where
  gP : mg "PlugError" = some (.ref CP)
  BadValue : Gc mg "BadValue" (.ref CV)
  BadNumber : Gc mg "BadNumber" (.ref CN)
  Misfit : Gc mg "Misfit" (.ref CM)
  NoName : Gc mg "NoName" (.ref CNn)
  BadEvent : Gc mg "BadEvent" (.ref CE)
  TooMany : Gc mg "TooMany" (.ref CT)
/-- which of the three words -/
def Wd (bv bn bm : Bool) (wd : Str) : Prop := (bv = true ∧ bn = false ∧ bm = false ∧ wd = "value") ∨ (bv = false ∧ bn = true ∧ bm = false ∧ wd = "number") ∨ (bv = false ∧ bn = false ∧ bm = true ∧ wd = "misfit")
/-- an error class C with the field part, and its word -/
structure ErrR (K : PySem.W.Frag) (CP CV CN CM C : Addr) (wd : Str) : Prop where
  exm : PySem.W.exmOne K (.ref C) (.ref CP) = some true
  ex : ExcC K C
  xf : XfC K C
  noF : PySem.W.findIn K (.ref C) "part" = some none
  kit : ∃ bv bn bm, PySem.W.kitOne K (.ref C) (.ref CV) = some bv ∧ PySem.W.kitOne K (.ref C) (.ref CN) = some bn ∧ PySem.W.kitOne K (.ref C) (.ref CM) = some bm ∧ Wd bv bn bm wd
/-- what _law_error makes of what it asks -/
def TErr (K : PySem.W.Frag) (CP CV CN CM : Addr) : (XK → Hp → VK → Prop) → Hp → VK → Prop := fun tl H Q => ∀ H1 Q', Same H H1 → (∀ v H', (∀ p, H' p = none → Q (.ref p) (upd H' p (.lst [v]))) → Q' v H') →
  tl (fun cls d H' => ∃ C wd dd v, ErrR K CP CV CN CM C wd ∧ cls = .ref C ∧ d = some dd ∧ H' dd = some (.xd [("part", v)]) ∧ ∀ H'' p, Same H' H'' → H' p = none → H'' p = some (.tup [.str wd, v]) → Q (.ref p) H'') H1 Q'
def wdO (b : Bool) (x : Str) : Option V := if b then some (.str x) else none
theorem wd_words {bv bn bm : Bool} {wd : Str} (h : Wd bv bn bm wd) : [wdO bv "value", wdO bn "number", wdO bm "misfit"].filterMap id = [V.str wd] := by
  rcases h with ⟨rfl, rfl, rfl, rfl⟩ | ⟨rfl, rfl, rfl, rfl⟩ | ⟨rfl, rfl, rfl, rfl⟩ <;> rfl
theorem wd_lay {bv bn bm : Bool} {wd : Str} (h : Wd bv bn bm wd) : PyData.canLay0 (.str wd) = true := by
  rcases h with ⟨_, _, _, rfl⟩ | ⟨_, _, _, rfl⟩ | ⟨_, _, _, rfl⟩ <;> decide +kernel
theorem xs_walk {K : PySem.W.Frag} (a : Addr) (xs : List V) : Walk (Itl K a) xs.length (fun H => SqL K H a xs) (fun i H x H' => H' = H ∧ xs[i]? = some x) := walk_list
theorem err_gives {X : Cx} {g CP CV CN CM CNn CE CT : Addr} {cdg : Value} {q : Str} {k : Nat} (M : MG X.mg) (K1 : ErrK X.K X.mg CP CV CN CM CNn CE CT) (hr : Room (k + 1) X.A) :
    GivesTo X N_law_error "_law_error" (defScope s_law_error) g cdg (defBody s_law_error) "ask" q (TErr X.K CP CV CN CM) := by
  intro f c' s H Q tl act hc h
  have hr' : Room k (cxOf C8.CX0 X.prog X.w X.K X.mg X.base N_law_error "_law_error" (defScope s_law_error) g cdg X.A X.stack s H C8.E0).nox.A := hr.deeper _
  refine ⟨_, (pss_cons (ps_asg (pe_tup (pa_cons pe_non (pa_cons pe_non pa_nil))) (pg_tup rfl (pgs_cons (pg_name (i := 1) sc_law_error.nd rfl (Or.inl rfl)) (pgs_cons (pg_name (i := 2) sc_law_error.nd rfl (Or.inl rfl)) pgs_nil))))
  (pss_cons (ps_try_keep (X := (cxOf C8.CX0 X.prog X.w X.K X.mg X.base N_law_error "_law_error" (defScope s_law_error) g cdg X.A X.stack s H C8.E0).nox) (i := 3) (j := 2) (c := .ref CP)
      (tb := fun W D σ H => ∃ Ech : XK, (∀ cls d σ' H', Ech cls d H' → W cls d σ' H') ∧ σ[0]? = some (some (.ref f)) ∧ H c' = some (CodeO c' q) ∧ tl Ech H fun v H' => D.nx (σ.set 1 (some v)) H')
      rfl rfl rfl sc_law_error.nd rfl rfl (by decide) rfl rfl ⟨rfl, by decide, .inl K1.gP⟩ takes0 (by decide) (by decide) rfl (fun W pn xe tk _ => ?_))
  (pss_cons (ps_if (pt_cmpR op_isN (pv 2) pe_non (nomark _)) (pss_one (ps_ret (pe_lst (pa_cons (pv 1) pa_nil)))) pss_nil)
  (pss_cons (ps_set (i := 4) sc_law_error.nd rfl (Or.inl rfl) (pe_lst (pa_cons (pe_tup (pa_cons pe_str (pa_cons (pe_callB call_isV (by rfl) M.isinstance (by decide +kernel) (pa_cons (pv 2) (pa_cons (pgc rfl K1.BadValue) pa_nil))) pa_nil))) (pa_cons (pe_tup (pa_cons pe_str (pa_cons (pe_callB call_isV (by rfl) M.isinstance (by decide +kernel) (pa_cons (pv 2) (pa_cons (pgc rfl K1.BadNumber) pa_nil))) pa_nil))) (pa_cons (pe_tup (pa_cons pe_str (pa_cons (pe_callB call_isV (by rfl) M.isinstance (by decide +kernel) (pa_cons (pv 2) (pa_cons (pgc rfl K1.Misfit) pa_nil))) pa_nil))) pa_nil)))))
  (pss_cons (ps_setLc (i := 5) (own := [("word", 6), ("is_so", 7)]) (g := gTup X.K 2 (gCons (gName 6) (gCons (gName 7) gNil))) rfl sc_law_error.nd rfl rfl (sw_true rfl rfl rfl (by decide +kernel)) (pi_list (pv 4)) (blkOk_by (own := [("word", 6), ("is_so", 7)]) (N := N_law_error) (sc := defScope s_law_error) (by decide +kernel)) (fun _ _ _ _ _ => (pg_tup (n := 2) rfl (pgs_cons (pg_name (i := 6) sc_law_error.nd rfl (Or.inl rfl)) (pgs_cons (pg_name (i := 7) sc_law_error.nd rfl (Or.inl rfl)) pgs_nil)))) (fun _ _ _ _ _ => (pts_one (pt_val (pv 7)))) (fun _ _ _ _ _ => (pv 6)))
  (pss_cons (ps_if (pt_cmpR (op_neD hr'.units) (pv 5) (pe_lst pa_nil) (nomark _)) (pss_one (ps_ret (pe_ifExp (pt_cmpR op_eq (pe_callB call_len (by rfl) M.len boot_len (pa_cons (pv 5) pa_nil)) pe_int (nomark _)) (pe_tup (pa_cons (pe_ix ix_list (pv 5) pe_int (fun _ _ => rfl)) (pa_cons (pe_xv (pv 2)) pa_nil))) (pe_tup (pa_cons pe_str pa_nil))))) pss_nil)
  (pss_cons (ps_if (pt_val (pe_callB call_isV (by rfl) M.isinstance (by decide +kernel) (pa_cons (pv 2) (pa_cons (pgc rfl K1.NoName) pa_nil)))) (pss_one (ps_ret (pe_tup (pa_cons pe_str (pa_cons (pe_xv (pv 2)) pa_nil))))) pss_nil)
  (pss_cons (ps_if (pt_val (pe_callB call_isV (by rfl) M.isinstance (by decide +kernel) (pa_cons (pv 2) (pa_cons (pgc rfl K1.BadEvent) pa_nil)))) (pss_one (ps_ret (pe_tup (pa_cons pe_str (pa_cons (pe_xv (pv 2)) pa_nil))))) pss_nil)
  (pss_one (ps_ret (pe_ifExp (pt_val (pe_callB call_isV (by rfl) M.isinstance (by decide +kernel) (pa_cons (pv 2) (pa_cons (pgc rfl K1.TooMany) pa_nil)))) (pe_tup (pa_cons pe_str (pa_cons (pe_xv (pv 2)) (pa_cons (pe_xv (pv 2)) pa_nil)))) (pe_tup (pa_cons pe_str pa_nil))))))))))))), ?_⟩
  · refine ⟨fun pins s' σ H' D I h' => ?_⟩
    obtain ⟨Ech, hW, h1, h2, h3⟩ := h'
    refine (pss_one (ps_set (X := (cxOf C8.CX0 X.prog X.w X.K X.mg X.base N_law_error "_law_error" (defScope s_law_error) g cdg X.A X.stack s H C8.E0).nox.tr pn xe) (i := 1) sc_law_error.nd rfl (Or.inl rfl) (act W pn xe Ech _ _ tk hW))).run pins s' σ H' D I ?_
    exact ⟨h1, h2, h3⟩
  · refine ⟨by show 2 ≤ sizeLine; decide, fun T nT => ⟨T, _, rfl, .inl (.inl upd_same), rfl, _, _, rfl, _, _, rfl, rfl, ?_⟩⟩
    have sT : Same H (upd H T (.tup [.non, .non])) := .upd nT
    refine ⟨_, ?_, rfl, sT _ _ hc, h _ _ sT fun v H' hv => ?_⟩
    rotate_left
    · refine ⟨_, rfl, rfl, _, rfl, iteT ⟨_, rfl, by show 1 ≤ sizeLine; decide, fun p np => hv p np⟩⟩
    rintro cls d σ' H' ⟨C, wd, dd, v, R, rfl, rfl, hdd, hQ⟩
    obtain ⟨bv, bn, bm, kv, kn, km, hw⟩ := R.kit
    refine ⟨true, R.exm, fun _ a na hlen => ?_, fun z => nomatch z⟩
    have hlen : σ'.length = 8 := hlen
    match σ', hlen with
    | [x0, x1, x2, x3, x4, x5, x6, x7], _ =>
      refine ⟨_, rfl, rfl, _, rfl, iteF ?_⟩
      obtain ⟨HX, eX⟩ : ∃ HX, HX = upd H' a (ExV (.ref C) (some dd) a) := ⟨_, rfl⟩
      have sX : Same H' HX := by
        rw [eX]
        exact .upd na
      have iX : ∀ H2, Same HX H2 → IsXv H2 a C dd [("part", v)] := fun H2 s2 => ⟨s2 _ _ (by rw [eX]; exact upd_same), s2 _ _ (sX _ _ hdd)⟩
      rw [← eX]
      show tSeq _ _ _ _ HX
      refine ⟨_, rfl, a, C, dd, _, _, _, bv, rfl, iX _ (.refl _), R.ex, .own CV, kv, by show 2 ≤ sizeLine; decide, fun t1 n1 => ?_⟩
      have s1 := Same.upd (o := .tup [.str "value", .bl bv]) n1
      refine ⟨_, rfl, a, C, dd, _, _, _, bn, rfl, iX _ s1, R.ex, .own CN, kn, by show 2 ≤ sizeLine; decide, fun t2 n2 => ?_⟩
      have s2 := Same.upd (o := .tup [.str "number", .bl bn]) n2
      refine ⟨_, rfl, a, C, dd, _, _, _, bm, rfl, iX _ (s1.trans s2), R.ex, .own CM, km, by show 2 ≤ sizeLine; decide, fun t3 n3 => ?_⟩
      have s3 := Same.upd (o := .tup [.str "misfit", .bl bm]) n3
      refine ⟨by show 3 ≤ sizeLine; decide, fun l nl => ?_⟩
      have s4 := Same.upd (o := .lst [.ref t1, .ref t2, .ref t3]) nl
      have e1 := s4 _ _ (s3 _ _ (s2 _ _ (upd_same (H := HX) (a := t1) (o := .tup [.str "value", .bl bv]))))
      have e2 := s4 _ _ (s3 _ _ (upd_same (a := t2) (o := .tup [.str "number", .bl bn])))
      have e3 := s4 _ _ (upd_same (a := t3) (o := .tup [.str "misfit", .bl bm]))
      have sA := ((s1.trans s2).trans s3).trans s4
      refine ⟨_, rfl, l, rfl, ⟨_, .inl (.inl upd_same)⟩, fun D nD => ?_⟩
      refine lc_ix (xs_walk l [.ref t1, .ref t2, .ref t3]) rfl [wdO bv "value", wdO bn "number", wdO bm "misfit"] rfl nD (by show 3 < sizeLine; decide) (fun H2 s => s.seq (.inl (.inl upd_same))) (fun i z o hz ho H2 acc s5 hl5 hz5 Nx m1 m2 => ?_) (fun H2 s5 hl5 => ?_)
      · obtain ⟨t, x, b, rfl, eo, ht⟩ : ∃ (t : Addr) (x : Str) (b : Bool), z = .ref t ∧ o = wdO b x ∧ H2 t = some (.tup [.str x, .bl b]) := by
          match i with
          | 0 =>
            cases hz; cases ho
            exact ⟨t1, "value", bv, rfl, rfl, s5 _ _ e1⟩
          | 1 =>
            cases hz; cases ho
            exact ⟨t2, "number", bn, rfl, rfl, s5 _ _ e2⟩
          | 2 =>
            cases hz; cases ho
            exact ⟨t3, "misfit", bm, rfl, rfl, s5 _ _ e3⟩
          | i + 3 => exact nomatch hz
        refine ⟨t, _, rfl, .inl (.inl ht), rfl, _, _, rfl, _, _, rfl, rfl, rfl, _, rfl, b, rfl, ?_⟩
        cases b with
        | true => exact iteT ⟨_, rfl, acc, hl5, hz5, m1 H2 _ (.refl _) eo⟩
        | false => exact iteF (m2 H2 (.refl _) eo)
      · rw [wd_words hw] at hl5
        refine ⟨_, rfl, Nat.zero_le _, fun q1 nq => ?_⟩
        have s6 := Same.upd (o := .lst []) nq
        refine ne_nil (xs := [.str wd]) (ds := [.str wd]) (.inl (.inl (s6 _ _ hl5))) (.cons (.str _) .nil) (fun d hd => ?_) upd_same ⟨_, rfl, iteT ?_⟩
        · rw [List.mem_singleton.mp hd]
          exact ⟨wd_lay hw, Nat.zero_le _⟩
        · refine ⟨_, rfl, .ref D, _, rfl, .inl ⟨_, .inl (.inl (s6 _ _ hl5)), rfl⟩, rfl, _, rfl, iteT ?_⟩
          refine ⟨_, rfl, D, _, 0, _, rfl, rfl, .inl (.inl (s6 _ _ hl5)), rfl, _, rfl, a, C, dd, _, v, rfl, iX _ ((sA.trans s5).trans s6), R.xf, R.noF, rfl, by show 2 ≤ sizeLine; decide, fun p np => ?_⟩
          have sB := sX.trans ((sA.trans s5).trans s6)
          exact hQ _ p (sB.trans (.upd np)) (sB.free np) upd_same
section
variable {X : Cx} {CP CV CN CM CNn CE CT c P : Addr} {T : List (Addr × Str)} {k : Nat} {p lpos pos : Pos} {body : Expr} {scope : Scope} {t : XK → TE}
/-- _law_error(lambda: body) -/
theorem pe_err {params : Arguments} (M : MG X.mg) (K1 : ErrK X.K X.mg CP CV CN CM CNn CE CT) (S0 : St0 X.K X.mg "_law_error" s_law_error ["ask"]) (hg : Gl X "_law_error")
    (TB : LamX.TabB X.base X.mg c P) (hcode : X.env.code = .ref c) (hmT : (P, X.env.qual ++ "<lambda>") ∈ T) (hu : ∀ p ∈ T, p.1 = P → p.2 = X.env.qual ++ "<lambda>") (hr : Room (k + 2) X.A) (L : LamS X.env.scope scope) (hdef : defaultsOf params X.env = ([], []))
    (hbind : ∀ (q : Str) (cl : List (Str × Addr)) (pm cv ctv : Value), bindArgs (PySem.W.kla_fn "<lambda>" q params body scope cl pm cv ctv) ⟨[], []⟩ = pure [])
    (hbody : ∀ (A : Around) (outer : List Env) (s : Shared) (H : Hp) (E : XK) (f c' : Addr), Room k (A.deeper (lamEnv X scope s.heap.objs.size f c')) → PE (lamCx X A outer s H E scope f c') body (t E)) :
    PE X (.Call (.Name "_law_error" p) [.Lambda params body scope lpos] [] pos) (tLam T (TErr X.K CP CV CN CM) t) := by
  obtain ⟨f, fd, a, b, d⟩ := S0.ex
  obtain ⟨oc, od, dV, kV, doc, pm, an, cdv, ct, osl, rfl, lk, hcd, _, _⟩ := b.ex
  exact pe_lamcall hg a b.kp lk hcd d sc_law_error rfl (.inl rfl) (err_gives M K1 hr) TB hcode hmT hu hr L hdef hbind hbody
/-- _law_error(lambda b=i: body) -/
theorem pe_err1 {b : Str} {i0 : Int} {p1 p2 : Pos} {j0 : Nat} (M : MG X.mg) (K1 : ErrK X.K X.mg CP CV CN CM CNn CE CT) (S0 : St0 X.K X.mg "_law_error" s_law_error ["ask"]) (hg : Gl X "_law_error")
    (TB : LamX.TabB X.base X.mg c P) (hcode : X.env.code = .ref c) (hmT : (P, X.env.qual ++ "<lambda>") ∈ T) (hu : ∀ p ∈ T, p.1 = P → p.2 = X.env.qual ++ "<lambda>") (hr : Room (k + 2) X.A) (L : LamS1 X.N b X.env.scope scope)
    (hbody : ∀ (A : Around) (outer : List Env) (s : Shared) (H : Hp) (E : XK) (f c' : Addr), Room k (A.deeper (lamEnv X scope s.heap.objs.size f c')) → PE (lamCx X A outer s H E scope f c') body (t E)) :
    PE X (.Call (.Name "_law_error" p) [.Lambda (prms b i0 p1 p2 j0) body scope lpos] [] pos) (tLam T (TErr X.K CP CV CN CM) t) := by
  obtain ⟨f, fd, a, b, d⟩ := S0.ex
  obtain ⟨oc, od, dV, kV, doc, pm, an, cdv, ct, osl, rfl, lk, hcd, _, _⟩ := b.ex
  exact pe_lamcall1 hg a b.kp lk hcd d sc_law_error rfl (.inl rfl) (err_gives M K1 hr) TB hcode hmT hu hr L hbody
end
theorem step_err {K : PySem.W.Frag} {T : List (Addr × Str)} {CP CV CN CM C : Addr} {wd : Str} {t : XK → TE} {σ : L2.St} {H : Hp} {Q : VK} (R : ErrR K CP CV CN CM C wd) (part : Str) (hT : Tabs T H) (hcall : ∀ Hb E Q', ExtN H Hb → BadP C E Hb part → t E σ Hb Q')
    (hc : ∀ Hd p1, ExtN H Hd → Tabs T Hd → Hd p1 = some (.tup [.str wd, .str part]) → Q (.ref p1) Hd) : tLam T (TErr K CP CV CN CM) t σ H Q := by
  refine ⟨hT, fun Ha ea Ta Hb Q' sb _ => hcall Hb _ Q' (ea.trans (.of sb)) fun Hc d sc hd => ⟨C, wd, d, .str part, R, rfl, rfl, hd, fun Hd p1 sd np hp => ?_⟩⟩
  exact hc Hd p1 (ea.trans (.of ((sb.trans sc).trans sd))) (Ta.ext ((sb.trans sc).trans sd)) hp
end K93
set_option Elab.async false
set_option linter.all false
set_option maxRecDepth 100000
set_option maxHeartbeats 4000000
/-! # All blocks, and their fences. -/
namespace K93
open PySem PySem.Spec PyProof.Rows L2 SetP
abbrev s_law_blocks_all : Stmt := top 35
abbrev N_law_blocks_all : List Str := ["names", "numbers", "most", "pairs", "found", "name", "pair", "number", "row"]
theorem sc_law_blocks_all : FnScope N_law_blocks_all ["names", "numbers", "most"] (defScope s_law_blocks_all) := ⟨rfl, rfl, rfl, by decide +kernel, rfl, by decide +kernel, by decide +kernel⟩
def pairsB {α β : Type} (ns : List α) (js : List β) : List (α × β) := ns.flatMap fun n => js.map fun j => (n, j)
/-- one more pair -/
def stepB {α : Type} (m : Nat) (found : List (List α)) (p : α) : List (List α) := found ++ (found.filterMap fun r => if r.length < m then some (r ++ [p]) else none)
def foundB {α : Type} (m : Nat) (ps : List α) : List (List α) := ps.foldl (stepB m) [[]]
def blocksB {α : Type} (m : Nat) (ps : List α) : List (List α) := (foundB m ps).filter fun r => !r.isEmpty
def pairD (p : Str × Int) : PyData := .tuple [.str p.1, .int p.2]
def rowD (r : List (Str × Int)) : PyData := .tuple (r.map pairD)
theorem noList_pair (p : Str × Int) : noList (pairD p) = true := rfl
theorem noList_row (r : List (Str × Int)) : noList (rowD r) = true := by
  unfold rowD
  rw [noList, noListL_all]
  intro x hx
  obtain ⟨p, _, rfl⟩ := List.mem_map.mp hx
  rfl
theorem DpAll.app {K : PySem.W.Frag} {H : Hp} : ∀ {xs : List V} {ds : List PyData} {ys : List V} {es : List PyData}, DpAll K H xs ds → DpAll K H ys es → DpAll K H (xs ++ ys) (ds ++ es)
  | _, _, _, _, .nil, h => h
  | _, _, _, _, .cons h t, g => .cons h (DpAll.app t g)
theorem pairsB_len {α β : Type} (ns : List α) (js : List β) : (pairsB ns js).length = ns.length * js.length := by
  induction ns with
  | nil => simp [pairsB]
  | cons x l ih =>
    have e : pairsB (x :: l) js = js.map (fun j => (x, j)) ++ pairsB l js := by simp [pairsB]
    rw [e, List.length_append, List.length_map, ih, List.length_cons, Nat.succ_mul]
    omega
theorem pairsB_snoc {α β : Type} (ns : List α) (n : α) (js : List β) : pairsB (ns ++ [n]) js = pairsB ns js ++ js.map fun j => (n, j) := by
  unfold pairsB
  rw [List.flatMap_append]
  simp
theorem stepB_len {α : Type} (m : Nat) (f : List (List α)) (p : α) : (stepB m f p).length ≤ 2 * f.length := by
  unfold stepB
  rw [List.length_append]
  have := List.length_filterMap_le (fun r => if r.length < m then some (r ++ [p]) else none) f
  omega
theorem foundB_snoc {α : Type} (m : Nat) (ps : List α) (p : α) : foundB m (ps ++ [p]) = stepB m (foundB m ps) p := by
  unfold foundB
  rw [List.foldl_append]
  rfl
theorem foldB_len {α : Type} (m : Nat) : ∀ (ps : List α) (f : List (List α)), (ps.foldl (stepB m) f).length ≤ 2 ^ ps.length * f.length
  | [], f => by simp
  | p :: ps, f => by
    have h := foldB_len m ps (stepB m f p)
    have g := stepB_len m f p
    rw [List.foldl_cons, List.length_cons, Nat.pow_succ]
    refine Nat.le_trans h (Nat.le_trans (Nat.mul_le_mul_left _ g) ?_)
    rw [Nat.mul_assoc]
    exact Nat.le_refl _
theorem foundB_len {α : Type} (m : Nat) (ps : List α) : (foundB m ps).length ≤ 2 ^ ps.length := by
  have h := foldB_len m ps [[]]
  rw [List.length_singleton, Nat.mul_one] at h
  exact h
theorem take_snoc {α : Type} {l : List α} {i : Nat} {x : α} (h : l[i]? = some x) : l.take (i + 1) = l.take i ++ [x] := by
  rw [List.take_add_one, h]; rfl
theorem eqv_row (r : List (Str × Int)) : PyData.eqv (rowD r) (.tuple []) = r.isEmpty := by
  cases r <;> rfl
theorem shaped_tuple {ds : List PyData} (h : ∀ d ∈ ds, d.canLay0 = true ∧ d.depth ≤ 62) : SeqAt.shaped (.tuple ds) = true := by
  obtain ⟨a, b⟩ := lay_all h
  unfold SeqAt.shaped
  rw [Bool.and_eq_true]
  refine ⟨a, decide_eq_true ?_⟩
  show PyData.depthAll ds + 1 ≤ 64
  omega
theorem pair_lay {p : Str × Int} (h : PyData.canLay0 (.str p.1) = true) : (pairD p).canLay0 = true ∧ (pairD p).depth ≤ 2 := by
  refine ⟨?_, by show 1 ≤ 2; decide⟩
  show (PyData.canLay0 (.str p.1) && (PyData.canLay0 (.int p.2) && true)) = true
  rw [h]; rfl
theorem shaped_row {r : List (Str × Int)} (h : ∀ p ∈ r, PyData.canLay0 (.str p.1) = true) : SeqAt.shaped (rowD r) = true := by
  refine shaped_tuple fun d hd => ?_
  obtain ⟨p, hp, rfl⟩ := List.mem_map.mp hd
  exact ⟨(pair_lay (h p hp)).1, Nat.le_trans (pair_lay (h p hp)).2 (by decide)⟩
theorem row_lay {r : List (Str × Int)} (h : ∀ p ∈ r, PyData.canLay0 (.str p.1) = true) : (rowD r).canLay0 = true ∧ (rowD r).depth ≤ 3 := by
  obtain ⟨a, b⟩ := lay_all (ds := r.map pairD) (n := 2) fun d hd => by
    obtain ⟨p, hp, rfl⟩ := List.mem_map.mp hd
    exact pair_lay (h p hp)
  exact ⟨a, by show PyData.depthAll (r.map pairD) + 1 ≤ 3; omega⟩
theorem stepB_mem {α : Type} {m : Nat} {f : List (List α)} {p : α} {r : List α} (h : r ∈ stepB m f p) : ∃ q ∈ f, r = q ∨ r = q ++ [p] := by
  unfold stepB at h
  rcases List.mem_append.mp h with h | h
  · exact ⟨r, h, .inl rfl⟩
  · obtain ⟨q, hq, e⟩ := List.mem_filterMap.mp h
    split at e
    · exact ⟨q, hq, .inr (Option.some.inj e).symm⟩
    · cases e
theorem foldB_mem {α : Type} {m : Nat} : ∀ (ps : List α) (f : List (List α)) (S : α → Prop), (∀ r ∈ f, ∀ p ∈ r, S p) → (∀ p ∈ ps, S p) → ∀ r ∈ ps.foldl (stepB m) f, ∀ p ∈ r, S p
  | [], _, _, h, _ => h
  | x :: ps, f, S, h, g => foldB_mem ps (stepB m f x) S (fun r hr p hp => by
      obtain ⟨q, hq, e⟩ := stepB_mem hr
      rcases e with e | e
      · subst e; exact h _ hq p hp
      · subst e
        rcases List.mem_append.mp hp with z | z
        · exact h q hq p z
        · rw [List.mem_singleton.mp z]; exact g x List.mem_cons_self) fun p hp => g p (List.mem_cons_of_mem _ hp)
theorem pairsB_mem {α β : Type} {ns : List α} {js : List β} {p : α × β} (h : p ∈ pairsB ns js) : p.1 ∈ ns ∧ p.2 ∈ js := by
  unfold pairsB at h
  obtain ⟨n, hn, h⟩ := List.mem_flatMap.mp h
  obtain ⟨j, hj, rfl⟩ := List.mem_map.mp h
  exact ⟨hn, hj⟩
def spBlocksAll (K : PySem.W.Frag) : Sp := fun vs H Q _ => ∃ (a b : Addr) (ns : List Str) (js : List Int) (m : Nat), vs = [.ref a, .ref b, .int m] ∧ SqL K H a (ns.map V.str) ∧ SqL K H b (js.map V.int) ∧ ns.length ≤ 4 ∧ js.length ≤ 3 ∧ m ≤ 100 ∧ (∀ n ∈ ns, PyData.canLay0 (.str n) = true) ∧
  ∀ l H' xs, Same H H' → H l = none → H' l = some (.lst xs) → DpAll K H' xs ((blocksB m (pairsB ns js)).map rowD) → Q (.ref l) H'
section
variable {P : Program} {w : World} {K : PySem.W.Frag} {mg : Str → Option Value} {base : Heap}
theorem d_law_blocks_all (M : MG mg) (S0 : St0 K mg "_law_blocks_all" s_law_blocks_all ["names", "numbers", "most"]) : Df P w K mg base CX0 1 "_law_blocks_all" s_law_blocks_all ["names", "numbers", "most"] (spBlocksAll K) := by
  refine S0.df sc_law_blocks_all (fun vs H Q E h => ?_) (fun f cdv A outer s H vs Q E hr h => ?_)
  · obtain ⟨a, b, ns, js, m, rfl, _⟩ := h
    rfl
  · refine ⟨_, PSs.nox (pss_cons (ps_par (i := 3) (j := 4) rfl sc_law_blocks_all.nd rfl rfl (by decide) rfl rfl (pa_cons (pe_lst pa_nil) (pa_cons (pe_lst (pa_cons (pe_tup pa_nil) pa_nil)) pa_nil)) (by rfl))
  (pss_cons (ps_for PassesOwn.never rfl (pi_list (pv 0)) (pg_name (i := 5) sc_law_blocks_all.nd rfl (Or.inr rfl))
  (pss_one (ps_set (i := 3) sc_law_blocks_all.nd rfl (Or.inl rfl) (pe_op op_cat (pv 3) (pe_lc (own := [("number", 7)]) rfl sc_law_blocks_all.nd (pi_list (pv 1)) (blkOk_by (own := [("number", 7)]) (N := N_law_blocks_all) (sc := defScope s_law_blocks_all) (by decide +kernel)) (fun _ _ _ _ _ => (pg_name (i := 7) sc_law_blocks_all.nd rfl (Or.inl rfl))) (fun _ _ _ _ _ => pts_nil) (fun _ _ _ _ _ => (pe_tup (pa_cons (pv 5) (pa_cons (pv 7) pa_nil)))))))))
  (pss_cons (ps_for PassesOwn.never rfl (pi_list (pv 3)) (pg_name (i := 6) sc_law_blocks_all.nd rfl (Or.inr rfl))
  (pss_one (ps_set (i := 4) sc_law_blocks_all.nd rfl (Or.inl rfl) (pe_op op_cat (pv 4) (pe_lc (own := [("row", 8)]) rfl sc_law_blocks_all.nd (pi_list (pv 4)) (blkOk_by (own := [("row", 8)]) (N := N_law_blocks_all) (sc := defScope s_law_blocks_all) (by decide +kernel)) (fun _ _ _ _ _ => (pg_name (i := 8) sc_law_blocks_all.nd rfl (Or.inl rfl))) (fun _ _ _ _ _ => (pts_one (pt_cmpR op_lt (pe_callB (r := rLenV K) call_lenK (by rfl) M.len boot_len (pa_cons (pv 8) pa_nil)) (pv 2) (nomark _)))) (fun _ _ _ _ _ => (pe_op (r := rCatA K) op_catA (pv 8) (pe_tup (pa_cons (pv 6) pa_nil)))))))))
  (pss_one (ps_ret (pe_lc (own := [("row", 8)]) rfl sc_law_blocks_all.nd (pi_list (pv 4)) (blkOk_by (own := [("row", 8)]) (N := N_law_blocks_all) (sc := defScope s_law_blocks_all) (by decide +kernel)) (fun _ _ _ _ _ => (pg_name (i := 8) sc_law_blocks_all.nd rfl (Or.inl rfl))) (fun _ _ _ _ _ => (pts_one (pt_cmpR (r := rNeD K) (op_neD hr.units) (pv 8) (pe_tup pa_nil) (nomark _)))) (fun _ _ _ _ _ => (pv 8)))))))), ?_⟩
    obtain ⟨a, b, ns, js, m, rfl, hA, hB, hn, hj, hm, hok, hQ⟩ := h
    refine ⟨Nat.zero_le _, fun l1 n1 => ⟨Nat.zero_le _, fun t nt => ⟨by show 1 ≤ sizeLine; decide, fun l2 n2 => ⟨_, _, rfl, ?_⟩⟩⟩⟩
    have z1 := Same.upd (o := .lst []) n1
    have z2 := Same.upd (o := .tup []) nt
    have z3 := Same.upd (o := .lst [.ref t]) n2
    refine ⟨_, rfl, a, rfl, ⟨_, (z1.trans (z2.trans z3)).seq hA⟩, ?_⟩
    refine for_it (xs_walk (K := K) a (ns.map V.str)) (fun i σ H' => ∃ pl fl xs ys v5, σ = [some (.ref a), some (.ref b), some (.int m), some (.ref pl), some (.ref fl), v5, none, none, none] ∧ Same H H' ∧ H' pl = some (.lst xs) ∧ DpAll K H' xs ((pairsB (ns.take i) js).map pairD) ∧ H' fl = some (.lst ys) ∧ DpAll K H' ys [rowD []])
      ⟨l1, l2, [], _, none, rfl, z1.trans (z2.trans z3), z3 _ _ (z2 _ _ upd_same), .nil, upd_same, .cons (.tup (.inl (.inl (z3 _ _ upd_same))) .nil) .nil⟩ (fun i σ H' _ z => ?_) (fun i x σ H' H'' hi z y => ?_) (fun σ H' z => ?_)
    · obtain ⟨pl, fl, xs, ys, v5, _, sm, _⟩ := z
      exact sm.seq hA
    · obtain ⟨pl, fl, xs, ys, v5, rfl, sm, hpl, hxs, hfl, hys⟩ := z
      obtain ⟨rfl, hx⟩ := y
      obtain ⟨n, hnm, rfl⟩ : ∃ n, ns[i]? = some n ∧ x = .str n := by
        rw [List.getElem?_map] at hx
        cases q : ns[i]? with
        | none => rw [q] at hx; exact nomatch hx
        | some n => rw [q] at hx; exact ⟨n, rfl, (Option.some.inj hx).symm⟩
      refine ⟨_, rfl, _, rfl, b, rfl, ⟨_, sm.seq hB⟩, fun D hD => ?_⟩
      refine lc_dm (K := K) (tb := false) (W := []) (xs_walk (K := K) b (js.map V.int)) (fun i H0 x H1 y => by rw [y.1]; exact .refl _) (js.map fun j => some (pairD (n, j))) (fun d hd => ?_) (by simp) hD (by simp) (Nat.lt_of_le_of_lt (show (js.map V.int).length ≤ 3 by rw [List.length_map]; exact hj) (by decide)) (fun _ _ => True) trivial (fun _ _ _ _ _ => trivial) (fun H2 s2 => (sm.trans s2.same).seq hB)
        (fun k x o H2 H3 s2 y ho acc hacc hlt _ Nx m1 m2 => ?_) (fun H2 zs s2 hD2 hzs _ => ?_)
      · obtain ⟨j, _, e⟩ := List.mem_map.mp hd
        cases e
        rfl
      · obtain ⟨rfl, hx2⟩ := y
        rw [List.getElem?_map] at hx2 ho
        cases q : js[k]? with
        | none => rw [q] at hx2; exact nomatch hx2
        | some j =>
          rw [q] at hx2 ho
          cases hx2
          cases ho
          refine ⟨rfl, _, rfl, _, rfl, by show 2 ≤ sizeLine; decide, fun p np => ⟨acc, Same.upd np _ _ hacc, hlt, ?_⟩⟩
          exact m1 _ _ _ (Same.upd np).mv rfl (.tup (.inl (.inl upd_same)) (.cons (.str _) (.cons (.int _) .nil))) trivial
      · have s2 := s2.same
        have hlen : xs.length ≤ 12 := by
          rw [hxs.len, List.length_map, pairsB_len, List.length_take]
          have : min i ns.length * js.length ≤ 4 * 3 := Nat.mul_le_mul (by omega) hj
          exact this
        have hzl : zs.length ≤ 3 := by
          rw [hzs.len]
          exact Nat.le_trans (List.length_filterMap_le _ _) (by rw [List.length_map]; exact hj)
        refine ⟨pl, D, xs, zs, rfl, rfl, s2 _ _ hpl, hD2, Nat.le_trans (show xs.length + zs.length ≤ 15 by omega) (by decide), fun p np => ?_⟩
        have s3 := Same.upd (o := .lst (xs ++ zs)) np
        refine ⟨p, fl, xs ++ zs, ys, some (.str n), rfl, sm.trans (s2.trans s3), upd_same, ?_, s3 _ _ (s2 _ _ hfl), DpAll.same (s2.trans s3) _ _ hys⟩
        rw [take_snoc hnm, pairsB_snoc, List.map_append]
        refine DpAll.app (DpAll.same (s2.trans s3) _ _ hxs) ?_
        have e : (js.map fun j => some (pairD (n, j))).filterMap id = (js.map fun j => (n, j)).map pairD := by
          rw [List.filterMap_map, List.map_map]
          simp [Function.comp_def, List.filterMap_eq_map]
        rw [e] at hzs
        exact DpAll.same s3 _ _ hzs
    · obtain ⟨pl, fl, xs, ys, v5, rfl, sm, hpl, hxs, hfl, hys⟩ := z
      rw [List.length_map, List.take_length] at hxs
      obtain ⟨ps, eps⟩ : ∃ ps, ps = pairsB ns js := ⟨_, rfl⟩
      rw [← eps] at hxs hQ
      have hpl12 : ps.length ≤ 12 := by
        rw [eps, pairsB_len]
        have : ns.length * js.length ≤ 4 * 3 := Nat.mul_le_mul hn hj
        exact this
      have hxl : xs.length = ps.length := by rw [hxs.len, List.length_map]
      have hlay : ∀ p ∈ ps, PyData.canLay0 (.str p.1) = true := fun p hp => hok _ (pairsB_mem (by rw [← eps]; exact hp)).1
      have pow : ∀ i, i ≤ 12 → 2 ^ i ≤ 4096 := fun i hi => Nat.le_trans (Nat.pow_le_pow_right (by decide) hi) (by decide)
      refine ⟨_, rfl, pl, rfl, ⟨_, .inl (.inl hpl)⟩, ?_⟩
      refine for_it (xs_walk (K := K) pl xs) (fun i σ H' => ∃ fl ys v5 v6, σ = [some (.ref a), some (.ref b), some (.int m), some (.ref pl), some (.ref fl), v5, v6, none, none] ∧ Same H H' ∧ H' pl = some (.lst xs) ∧ DpAll K H' xs (ps.map pairD) ∧ H' fl = some (.lst ys) ∧ DpAll K H' ys ((foundB m (ps.take i)).map rowD))
        ⟨fl, ys, v5, none, rfl, sm, hpl, hxs, hfl, hys⟩ (fun i σ H' _ z => ?_) (fun i x σ H' H'' hi z y => ?_) (fun σ H' z => ?_)
      · obtain ⟨fl, ys, v5, v6, _, _, hpl, _⟩ := z
        exact .inl (.inl hpl)
      · obtain ⟨fl, ys, v5, v6, rfl, sm, hpl, hxs, hfl, hys⟩ := z
        obtain ⟨rfl, hx⟩ := y
        obtain ⟨dx, hdx, hpx⟩ := hxs.at_ hx
        rw [List.getElem?_map] at hdx
        obtain ⟨p, hp, rfl⟩ : ∃ p, ps[i]? = some p ∧ dx = pairD p := by
          cases q : ps[i]? with
          | none => rw [q] at hdx; exact nomatch hdx
          | some p => rw [q] at hdx; exact ⟨p, rfl, (Option.some.inj hdx).symm⟩
        have hi12 : i ≤ 12 := by omega
        have hfo : (foundB m (ps.take i)).length ≤ 4096 := Nat.le_trans (foundB_len m _) (pow _ (by rw [List.length_take]; omega))
        have hyl : ys.length = (foundB m (ps.take i)).length := by rw [hys.len, List.length_map]
        refine ⟨_, rfl, _, rfl, fl, rfl, ⟨_, .inl (.inl hfl)⟩, fun D hD => ?_⟩
        refine lc_dm (K := K) (tb := false) (W := []) (xs_walk (K := K) fl ys) (fun i H0 x H1 y => by rw [y.1]; exact .refl _) ((foundB m (ps.take i)).map fun r => if r.length < m then some (rowD (r ++ [p])) else none) (fun d hd => ?_) (by rw [List.length_map, hyl]) hD (by simp) (Nat.lt_of_le_of_lt (show ys.length ≤ 4096 by omega) (by decide)) (fun _ _ => True) trivial (fun _ _ _ _ _ => trivial) (fun H2 s2 => s2.same.seq (.inl (.inl hfl)))
          (fun k x' o H2 H3 s2 y ho acc hacc hlt _ Nx m1 m2 => ?_) (fun H2 zs s2 hD2 hzs _ => ?_)
        · obtain ⟨r, _, e⟩ := List.mem_map.mp hd
          split at e
          · cases e; exact noList_row _
          · cases e
        · obtain ⟨rfl, hx2⟩ := y
          obtain ⟨dr, hdr, hpr⟩ := hys.at_ hx2
          rw [List.getElem?_map] at ho hdr
          cases q : (foundB m (ps.take i))[k]? with
          | none => rw [q] at hdr; exact nomatch hdr
          | some r =>
            rw [q] at hdr ho
            cases hdr
            have ho : o = if r.length < m then some (rowD (r ++ [p])) else none := (Option.some.inj ho).symm
            have hpr3 := DpAll.same s2.same _ _ hys
            have hpr2 := Dp.same s2.same _ _ hpr
            cases hpr2 with
            | tup hT hAr =>
              rename_i q1 us
              have hul : us.length = r.length := by rw [hAr.len, List.length_map]
              refine ⟨rfl, .ref q1, rfl, .ref q1, _, rfl, lenAt (.inr hT), _, rfl, _, _, rfl, rfl, _, rfl, ite2 (fun h1 => ?_) (fun h1 => ?_)⟩
              · have hlm : r.length < m := by have := of_decide_eq_true h1; omega
                rw [if_pos hlm] at ho
                refine ⟨_, rfl, _, rfl, by show 1 ≤ sizeLine; decide, fun t nt => ?_⟩
                have st := Same.upd (o := .tup [x]) nt
                have hpx3 := Dp.same (s2.same.trans st) _ _ hpx
                refine ⟨q1, t, us, [x], rfl, rfl, st.tup hT, .inl (.inl upd_same), Nat.le_trans (show us.length + 1 ≤ 101 by omega) (by decide), fun e => ?_, fun _ e => (nomatch e), fun _ _ p2 np2 => ?_⟩
                · have er : r = [] := List.eq_nil_of_length_eq_zero (by rw [← hul, e]; rfl)
                  refine ⟨acc, st _ _ hacc, hlt, m1 _ _ _ st.mv ho ?_ trivial⟩
                  rw [er]
                  exact .tup (.inl (.inl upd_same)) (.cons hpx3 .nil)
                · have s3 := Same.upd (o := .tup (us ++ [x])) np2
                  refine ⟨acc, s3 _ _ (st _ _ hacc), hlt, m1 _ _ _ (st.trans s3).mv ho ?_ trivial⟩
                  refine .tup (.inl (.inl upd_same)) ?_
                  rw [List.map_append]
                  exact DpAll.app (DpAll.same (st.trans s3) _ _ hAr) (.cons (Dp.same s3 _ _ hpx3) .nil)
              · have hlm : ¬ r.length < m := fun z => h1 (decide_eq_true (by omega))
                rw [if_neg hlm] at ho
                exact m2 _ (Mv.refl _ _) ho trivial
        · have s2 := s2.same
          have hzl : zs.length ≤ 4096 := by
            rw [hzs.len]
            exact Nat.le_trans (List.length_filterMap_le _ _) (by rw [List.length_map]; exact hfo)
          refine ⟨fl, D, ys, zs, rfl, rfl, s2 _ _ hfl, hD2, Nat.le_trans (show ys.length + zs.length ≤ 8192 by omega) (by decide), fun p2 np2 => ?_⟩
          have s3 := Same.upd (o := .lst (ys ++ zs)) np2
          refine ⟨p2, ys ++ zs, v5, some x, rfl, sm.trans (s2.trans s3), s3 _ _ (s2 _ _ hpl), DpAll.same (s2.trans s3) _ _ hxs, upd_same, ?_⟩
          rw [take_snoc hp, foundB_snoc]
          unfold stepB
          rw [List.map_append]
          refine DpAll.app (DpAll.same (s2.trans s3) _ _ hys) ?_
          have e : ((foundB m (ps.take i)).map fun r => if r.length < m then some (rowD (r ++ [p])) else none).filterMap id = ((foundB m (ps.take i)).filterMap fun r => if r.length < m then some (r ++ [p]) else none).map rowD := by
            rw [List.filterMap_map, List.map_filterMap]
            congr 1
            funext r
            simp only [Function.comp_def, id]
            split <;> rfl
          rw [e] at hzs
          exact DpAll.same s3 _ _ hzs
      · obtain ⟨fl, ys, v5, v6, rfl, sm, hpl, hxs, hfl, hys⟩ := z
        rw [hxl, List.take_length] at hys
        have hfo : (foundB m ps).length ≤ 4096 := Nat.le_trans (foundB_len m _) (pow _ hpl12)
        have hyl : ys.length = (foundB m ps).length := by rw [hys.len, List.length_map]
        have hin : ∀ r ∈ foundB m ps, ∀ p ∈ r, p ∈ ps := fun r hr => foldB_mem ps [[]] (fun p => p ∈ ps) (fun r hr p hp => by rw [List.mem_singleton.mp hr] at hp; exact nomatch hp) (fun p hp => hp) r hr
        refine ⟨_, rfl, fl, rfl, ⟨_, .inl (.inl hfl)⟩, fun D hD => ?_⟩
        refine lc_dm (K := K) (tb := false) (W := []) (xs_walk (K := K) fl ys) (fun i H0 x H1 y => by rw [y.1]; exact .refl _) ((foundB m ps).map fun r => if r.isEmpty then none else some (rowD r)) (fun d hd => ?_) (by rw [List.length_map, hyl]) hD (by simp) (Nat.lt_of_le_of_lt (show ys.length ≤ 4096 by omega) (by decide)) (fun _ _ => True) trivial (fun _ _ _ _ _ => trivial) (fun H2 s2 => s2.same.seq (.inl (.inl hfl)))
          (fun k x' o H2 H3 s2 y ho acc hacc hlt _ Nx m1 m2 => ?_) (fun H2 zs s2 hD2 hzs _ => ?_)
        · obtain ⟨r, _, e⟩ := List.mem_map.mp hd
          split at e
          · cases e
          · cases e; exact noList_row _
        · obtain ⟨rfl, hx2⟩ := y
          obtain ⟨dr, hdr, hpr⟩ := hys.at_ hx2
          rw [List.getElem?_map] at ho hdr
          cases q : (foundB m ps)[k]? with
          | none => rw [q] at hdr; exact nomatch hdr
          | some r =>
            rw [q] at hdr ho
            cases hdr
            have ho : o = if r.isEmpty then none else some (rowD r) := (Option.some.inj ho).symm
            refine ⟨rfl, x', rfl, Nat.zero_le _, fun t nt => ?_⟩
            have st := Same.upd (o := .tup []) nt
            have hr2 : ∀ p ∈ r, PyData.canLay0 (.str p.1) = true := fun p hp => hlay p (hin r (List.mem_of_getElem? q) p hp)
            refine ⟨rowD r, .tuple [], Dp.same (s2.same.trans st) _ _ hpr, .tup (.inl (.inl upd_same)) .nil, shaped_row hr2, by decide, _, rfl, ?_⟩
            rw [eqv_row]
            cases er : r.isEmpty with
            | true =>
              rw [er] at ho
              exact iteF (m2 _ st.mv ho trivial)
            | false =>
              rw [er] at ho
              exact iteT ⟨_, rfl, acc, st _ _ hacc, hlt, m1 _ _ _ st.mv ho (Dp.same (s2.same.trans st) _ _ hpr) trivial⟩
        · refine hQ D H2 zs (sm.trans s2.same) (sm.free hD) hD2 ?_
          have e : ((foundB m ps).map fun r => if r.isEmpty then none else some (rowD r)).filterMap id = (blocksB m ps).map rowD := by
            unfold blocksB
            rw [List.filterMap_map, ← List.filterMap_eq_map, ← List.filterMap_eq_filter, List.filterMap_filterMap]
            congr 1
            funext r
            simp only [Function.comp_def, id]
            cases r <;> rfl
          rw [e] at hzs
          exact hzs
end
end K93
set_option Elab.async false
set_option linter.all false
set_option maxRecDepth 100000
set_option maxHeartbeats 4000000
namespace K93
open PySem PySem.Spec PyProof.Rows L2 SetP
abbrev s_law_fence : Stmt := top 36
abbrev N_law_fence : List Str := ["row", "numbers", "pair"]
theorem sc_law_fence : FnScope N_law_fence ["row"] (defScope s_law_fence) := ⟨rfl, rfl, rfl, by decide +kernel, rfl, by decide +kernel, by decide +kernel⟩
/-- a fence as a key -/
def fenK (rs : List (Str × Int)) : List Key := [.inr (rs.headD (⟨#[]⟩, 0)).1, .inr (rs.getLastD (⟨#[]⟩, 0)).1, .inl (mnI (rs.map (·.2))), .inl (mxI (rs.map (·.2))), .inl (rs.length : Nat)]
theorem fenK_R (rs : List (Str × Int)) : fenR rs = .tuple ((fenK rs).map kD) := rfl
def spLawFence (K : PySem.W.Frag) : Sp := fun vs H Q _ => ∃ v r, vs = [v] ∧ Dp K H v (rowD r) ∧ r ≠ [] ∧ r.length ≤ 60 ∧ ∀ p H', Same H H' → H p = none → H' p = some (.tup ((fenK r).map kV)) → Q (.ref p) H'
theorem sorted_ends {ns ns' : List Int} (p : ns'.Perm ns) (s : ns'.Pairwise (· ≤ ·)) (h : ns ≠ []) : ∃ m g, ns'[0]? = some m ∧ ns'.getLast? = some g ∧ mnI ns = m ∧ mxI ns = g := by
  have h' : ns' ≠ [] := fun e => h (by rw [e] at p; exact List.nil_perm.mp p)
  obtain ⟨m, t, e⟩ := List.exists_cons_of_ne_nil h'
  refine ⟨m, ns'.getLast h', by rw [e]; rfl, List.getLast?_eq_some_getLast h', mnI_eq (p.mem_iff.mp (by rw [e]; exact List.mem_cons_self)) fun y hy => ?_, mxI_eq (p.mem_iff.mp (List.getLast_mem h')) fun y hy => ?_⟩
  · have hy' := p.mem_iff.mpr hy
    rw [e] at hy' s
    rcases List.mem_cons.mp hy' with z | z
    · rw [z]; exact Int.le_refl _
    · exact (List.pairwise_cons.mp s).1 y z
  · have hy' := p.mem_iff.mpr hy
    have eL : ns' = ns'.dropLast ++ [ns'.getLast h'] := (List.dropLast_concat_getLast h').symm
    rw [eL] at hy' s
    rcases List.mem_append.mp hy' with z | z
    · exact (List.pairwise_append.mp s).2.2 y z _ (List.mem_singleton.mpr rfl)
    · rw [List.mem_singleton.mp z]; exact Int.le_refl _
theorem pair_at {K : PySem.W.Frag} {H : Hp} {v : V} {p : Str × Int} (h : Dp K H v (pairD p)) : ∃ a, v = .ref a ∧ SqT K H a [.str p.1, .int p.2] := by
  cases h with
  | tup hT hA =>
    cases hA with
    | cons h1 hA => cases hA with
      | cons h2 hA =>
        cases hA
        cases h1
        cases h2
        exact ⟨_, rfl, hT⟩
section
variable {P : Program} {w : World} {K : PySem.W.Frag} {mg : Str → Option Value} {base : Heap}
theorem d_law_fence (M : MG mg) (S0 : St0 K mg "_law_fence" s_law_fence ["row"]) : Df P w K mg base CX0 1 "_law_fence" s_law_fence ["row"] (spLawFence K) := by
  refine S0.df sc_law_fence (fun vs H Q E h => ?_) (fun f cdv A outer s H vs Q E hr h => ?_)
  · obtain ⟨v, r, rfl, _⟩ := h
    rfl
  · refine ⟨_, PSs.nox (pss_cons (ps_set (i := 1) sc_law_fence.nd rfl (Or.inl rfl) (pe_callB cr_sorted (by rfl) M.sorted (by decide +kernel) (pa_cons (pe_lc (own := [("pair", 2)]) rfl sc_law_fence.nd (pi_seq (pv 0)) (blkOk_by (own := [("pair", 2)]) (N := N_law_fence) (sc := defScope s_law_fence) (by decide +kernel)) (fun _ _ _ _ _ => (pg_name (i := 2) sc_law_fence.nd rfl (Or.inl rfl))) (fun _ _ _ _ _ => pts_nil) (fun _ _ _ _ _ => (pe_ix (r := rIx K) ix_seq (pv 2) pe_int (fun _ _ => rfl)))) pa_nil)))
  (pss_one (ps_ret (pe_tup (pa_cons (pe_ix (r := rIx K) ix_seq (pe_ix (r := rIx K) ix_seq (pv 0) pe_int (fun _ _ => rfl)) pe_int (fun _ _ => rfl)) (pa_cons (pe_ix (r := rIx K) ix_seq (pe_ix (r := rIx K) ix_seq (pv 0) (pe_un un_neg pe_int) (fun _ _ => rfl)) pe_int (fun _ _ => rfl)) (pa_cons (pe_ix (r := rIx K) ix_seq (pv 1) pe_int (fun _ _ => rfl)) (pa_cons (pe_ix (r := rIx K) ix_seq (pv 1) (pe_un un_neg pe_int) (fun _ _ => rfl)) (pa_cons (pe_callB call_len (by rfl) M.len boot_len (pa_cons (pv 0) pa_nil)) pa_nil))))))))), ?_⟩
    obtain ⟨v, r, rfl, hd, ne, hsz, hQ⟩ := h
    obtain ⟨a, xs, rfl, hS, hA⟩ := hd.prts (ds := r.map pairD) rfl
    have hlen : xs.length = r.length := by rw [hA.len, List.length_map]
    refine ⟨.ref a, rfl, a, xs, rfl, hS, fun J G wk hG D hD => ?_⟩
    refine lc_ix wk rfl (r.map fun x => some (.int x.2)) (by rw [List.length_map, hlen]) hD (Nat.lt_of_le_of_lt (show xs.length ≤ 60 by omega) (by decide)) hG (fun i x o hx ho H2 acc s2 hl2 hz2 Nx n1 n2 => ?_) (fun H2 s2 hl2 => ?_)
    · obtain ⟨dx, hdx, hpx⟩ := hA.at_ hx
      rw [List.getElem?_map] at hdx ho
      cases q : r[i]? with
      | none => rw [q] at hdx; exact nomatch hdx
      | some p =>
        rw [q] at hdx ho
        cases hdx
        obtain ⟨q1, rfl, hT⟩ := pair_at (Dp.same s2 _ x hpx)
        exact ⟨rfl, _, rfl, ixAt (.inr hT) (i := 1) rfl ⟨acc, hl2, hz2, n1 H2 _ (.refl H2) (Option.some.inj ho).symm⟩⟩
    · have hl3 : H2 D = some (.lst ((r.map (·.2)).map V.int)) := by
        rw [hl2]
        simp [List.filterMap_map, Function.comp_def, List.filterMap_eq_map]
      refine ⟨D, _, rfl, .inl (.inl hl3), by rw [List.length_map]; omega, fun ns' l pm so nl => ?_⟩
      have hne : r.map (·.2) ≠ [] := fun e => ne (List.map_eq_nil_iff.mp e)
      obtain ⟨m, g, em, eg, e1, e2⟩ := sorted_ends pm so hne
      have s3 := s2.trans (Same.upd (o := .lst (ns'.map V.int)) nl)
      have hS2 := s3.sq hS
      have hA2 := DpAll.same s3 _ xs hA
      have hL : SqL K (upd H2 l (.lst (ns'.map V.int))) l (ns'.map V.int) := .inl (.inl upd_same)
      obtain ⟨p0, hp0⟩ : ∃ p0, r[0]? = some p0 := by cases r with
        | nil => exact absurd rfl ne
        | cons x l => exact ⟨x, rfl⟩
      obtain ⟨x0, hx0, hd0⟩ := hA2.to (show (r.map pairD)[0]? = some (pairD p0) by rw [List.getElem?_map, hp0]; rfl)
      obtain ⟨pl, hpl⟩ : ∃ pl, r.getLast? = some pl := ⟨_, List.getLast?_eq_some_getLast ne⟩
      have hpl2 : r[r.length - 1]? = some pl := by rw [← hpl, List.getLast?_eq_getElem?]
      obtain ⟨xl, hxl, hdl⟩ := hA2.to (show (r.map pairD)[r.length - 1]? = some (pairD pl) by rw [List.getElem?_map, hpl2]; rfl)
      have hxl2 : xs.getLast? = some xl := by rw [List.getLast?_eq_getElem?, hlen]; exact hxl
      obtain ⟨a0, rfl, hS0⟩ := pair_at hd0
      obtain ⟨al, rfl, hSl⟩ := pair_at hdl
      refine ⟨_, rfl, ixAt hS2 (i := 0) (atI_nat hx0) (ixAt (.inr hS0) (i := 0) rfl ?_)⟩
      refine ⟨_, rfl, 1, rfl, ixAt hS2 (i := -1) (atI_neg1 hxl2) (ixAt (.inr hSl) (i := 0) rfl ?_)⟩
      refine ⟨_, rfl, ixAt (.inl hL) (i := 0) (v := .int m) (atI_nat (by rw [List.getElem?_map, em]; rfl)) ?_⟩
      refine ⟨_, rfl, 1, rfl, ixAt (.inl hL) (i := -1) (v := .int g) (atI_neg1 (by rw [List.getLast?_map, eg]; rfl)) ?_⟩
      refine ⟨.ref a, rfl, .ref a, _, rfl, lenAt hS2, by show 5 ≤ sizeLine; decide, fun p np => ?_⟩
      refine hQ p _ (s3.trans (.upd np)) (s3.free np) ?_
      have ef : (fenK r).map kV = [.str p0.1, .str pl.1, .int m, .int g, .int (xs.length : Nat)] := by
        unfold fenK
        have e3 : r.headD (⟨#[]⟩, 0) = p0 := by
          cases r with
          | nil => exact absurd rfl ne
          | cons x l => cases hp0; rfl
        have e4 : r.getLastD (⟨#[]⟩, 0) = pl := by rw [List.getLastD_eq_getLast?, hpl]; rfl
        rw [e1, e2, e3, e4, hlen]
        rfl
      rw [ef]
      exact upd_same
end
end K93
set_option Elab.async false
set_option linter.all false
set_option maxRecDepth 100000
set_option maxHeartbeats 4000000
/-! # The finite facts: four names, three numbers, by their places. -/
namespace K93
open PySem PySem.Spec PyProof.Rows L2 Nam SetP
abbrev pairs12 : List (Nat × Nat) := pairsB [0, 1, 2, 3] [0, 1, 2]
def rowsI : List (List (Nat × Nat)) := blocksB 4 pairs12
def mnN (r : List (Nat × Nat)) : Nat := r.foldl (fun m p => bif Nat.ble m p.2 then m else p.2) 2
def mxN (r : List (Nat × Nat)) : Nat := r.foldl (fun m p => bif Nat.ble p.2 m then m else p.2) 0
def hdN (r : List (Nat × Nat)) : Nat := (r.headD (0, 0)).1
def lsN (r : List (Nat × Nat)) : Nat := (r.getLastD (0, 0)).1
def cod (a b l g m : Nat) : Nat := a + 4 * (b + 4 * (l + 3 * (g + 3 * m)))
def codeI (r : List (Nat × Nat)) : Nat := cod (hdN r) (lsN r) (mnN r) (mxN r) r.length
def maskI (r : List (Nat × Nat)) : Nat := r.foldl (fun m p => m ||| 2 ^ (3 * p.1 + p.2)) 0
def tabI : List (Nat × Nat) := rowsI.map fun r => (codeI r, maskI r)
def orI (c : Nat) : Nat := tabI.foldl (fun acc t => bif Nat.beq t.1 c then acc ||| t.2 else acc) 0
def canI (a b l g m i j : Nat) : Bool := ((Nat.ble a i && Nat.ble i b) && (Nat.ble l j && Nat.ble j g)) && (Nat.ble 3 m || ((Nat.beq a i || Nat.beq b i) && (Nat.beq l j || Nat.beq g j)))
def fencI (a b l g m : Nat) : Bool := Nat.ble a b && (Nat.ble l g && ((Nat.beq m 1 == (Nat.beq a b && Nat.beq l g)) && Nat.ble m ((b + 1 - a) * (g + 1 - l))))
def canM (a b l g m : Nat) : Nat := pairs12.foldl (fun acc p => bif canI a b l g m p.1 p.2 then acc ||| 2 ^ (3 * p.1 + p.2) else acc) 0
def chk1 (a b l g m : Nat) : Bool := bif fencI a b l g m then Nat.beq (orI (cod a b l g m)) (canM a b l g m) && !(Nat.beq (orI (cod a b l g m)) 0) else Nat.beq (orI (cod a b l g m)) 0
def chkA (a : Nat) : Bool := [0, 1, 2, 3].all fun b => [0, 1, 2].all fun l => [0, 1, 2].all fun g => [1, 2, 3, 4].all fun m => chk1 a b l g m
theorem chk_0 : chkA 0 = true := by decide +kernel
theorem chk_1 : chkA 1 = true := by decide +kernel
theorem chk_2 : chkA 2 = true := by decide +kernel
theorem chk_3 : chkA 3 = true := by decide +kernel
theorem chk_any {a b l g m : Nat} (ha : a < 4) (hb : b < 4) (hl : l < 3) (hg : g < 3) (hm : 1 ≤ m) (hm' : m ≤ 4) : chk1 a b l g m = true := by
  have hA : chkA a = true := by
    match a, ha with
    | 0, _ => exact chk_0
    | 1, _ => exact chk_1
    | 2, _ => exact chk_2
    | 3, _ => exact chk_3
  unfold chkA at hA
  have h1 := List.all_eq_true.mp hA b (by match b, hb with | 0, _ => simp | 1, _ => simp | 2, _ => simp | 3, _ => simp)
  have h2 := List.all_eq_true.mp h1 l (by match l, hl with | 0, _ => simp | 1, _ => simp | 2, _ => simp)
  have h3 := List.all_eq_true.mp h2 g (by match g, hg with | 0, _ => simp | 1, _ => simp | 2, _ => simp)
  exact List.all_eq_true.mp h3 m (by match m, hm, hm' with | 1, _, _ => simp | 2, _, _ => simp | 3, _, _ => simp | 4, _, _ => simp)
/-- a row's pairs rise -/
def incI : List (Nat × Nat) → Bool
  | x :: y :: t => (Nat.blt x.1 y.1 || (Nat.beq x.1 y.1 && Nat.blt x.2 y.2)) && incI (y :: t)
  | _ => true
def chkRow (r : List (Nat × Nat)) : Bool := !r.isEmpty && (Nat.ble r.length 4 && (r.all (fun p => Nat.blt p.1 4 && Nat.blt p.2 3) && incI r))
theorem chk_rows : rowsI.all chkRow = true := by decide +kernel
theorem chk_pairs : (pairs12.all (fun p => Nat.blt p.1 4 && Nat.blt p.2 3) && incI pairs12) = true := by decide +kernel
structure RowOk (r : List (Nat × Nat)) : Prop where
  ne : r ≠ []
  len : r.length ≤ 4
  lt : ∀ p ∈ r, p.1 < 4 ∧ p.2 < 3
  inc : incI r = true
theorem row_ok {r : List (Nat × Nat)} (h : r ∈ rowsI) : RowOk r := by
  have q := List.all_eq_true.mp chk_rows r h
  unfold chkRow at q
  simp only [Bool.and_eq_true, Bool.not_eq_true', List.all_eq_true, Nat.blt_eq, Nat.ble_eq] at q
  refine ⟨fun e => ?_, q.2.1, q.2.2.1, q.2.2.2⟩
  rw [e] at q; exact nomatch q.1
theorem testBit_or {k : Nat} : ∀ (t : List (Nat × Nat)) (c acc : Nat), (t.foldl (fun acc t => bif Nat.beq t.1 c then acc ||| t.2 else acc) acc).testBit k = (acc.testBit k || t.any fun x => Nat.beq x.1 c && x.2.testBit k)
  | [], _, _ => by simp
  | x :: t, c, acc => by
    rw [List.foldl_cons, testBit_or t c, List.any_cons]
    cases q : Nat.beq x.1 c with
    | true => simp [Nat.testBit_or, Bool.or_assoc]
    | false => simp
theorem testBit_mask {k : Nat} : ∀ (r : List (Nat × Nat)) (acc : Nat), (r.foldl (fun m p => m ||| 2 ^ (3 * p.1 + p.2)) acc).testBit k = (acc.testBit k || r.any fun p => decide (3 * p.1 + p.2 = k))
  | [], _ => by simp
  | x :: t, acc => by
    rw [List.foldl_cons, testBit_mask t, List.any_cons, Nat.testBit_or, Nat.testBit_two_pow, Bool.or_assoc]
theorem testBit_can {k : Nat} (f : Nat → Nat → Bool) : ∀ (r : List (Nat × Nat)) (acc : Nat), (r.foldl (fun acc p => bif f p.1 p.2 then acc ||| 2 ^ (3 * p.1 + p.2) else acc) acc).testBit k = (acc.testBit k || r.any fun p => f p.1 p.2 && decide (3 * p.1 + p.2 = k))
  | [], _ => by simp
  | x :: t, acc => by
    rw [List.foldl_cons, testBit_can f t, List.any_cons]
    cases q : f x.1 x.2 with
    | true => simp [Nat.testBit_or, Nat.testBit_two_pow, Bool.or_assoc]
    | false => simp
theorem mem_pairs {i j : Nat} (hi : i < 4) (hj : j < 3) : (i, j) ∈ pairs12 := by
  unfold pairs12 pairsB
  refine List.mem_flatMap.mpr ⟨i, ?_, List.mem_map.mpr ⟨j, ?_, rfl⟩⟩
  · match i, hi with | 0, _ => simp | 1, _ => simp | 2, _ => simp | 3, _ => simp
  · match j, hj with | 0, _ => simp | 1, _ => simp | 2, _ => simp
theorem or_iff {c i j : Nat} (hi : i < 4) (hj : j < 3) : (orI c).testBit (3 * i + j) = true ↔ ∃ r ∈ rowsI, codeI r = c ∧ (i, j) ∈ r := by
  unfold orI
  rw [testBit_or]
  simp only [Nat.zero_testBit, Bool.false_or, List.any_eq_true, Bool.and_eq_true]
  constructor
  · rintro ⟨x, hx, h1, h2⟩
    obtain ⟨r, hr, rfl⟩ := List.mem_map.mp hx
    refine ⟨r, hr, Nat.eq_of_beq_eq_true h1, ?_⟩
    have h3 : (maskI r).testBit (3 * i + j) = true := h2
    unfold maskI at h3
    rw [testBit_mask] at h3
    simp only [Nat.zero_testBit, Bool.false_or, List.any_eq_true, decide_eq_true_eq] at h3
    obtain ⟨p, hp, e⟩ := h3
    have hp3 := (row_ok hr).lt p hp
    have : p = (i, j) := by
      obtain ⟨p1, p2⟩ := p
      simp only at e hp3
      have e1 : p1 = i := by omega
      have e2 : p2 = j := by omega
      rw [e1, e2]
    exact this ▸ hp
  · rintro ⟨r, hr, h1, h2⟩
    refine ⟨_, List.mem_map.mpr ⟨r, hr, rfl⟩, by show Nat.beq (codeI r) c = true; rw [h1]; exact Nat.beq_refl c, ?_⟩
    show (maskI r).testBit (3 * i + j) = true
    unfold maskI
    rw [testBit_mask]
    simp only [Nat.zero_testBit, Bool.false_or, List.any_eq_true, decide_eq_true_eq]
    exact ⟨(i, j), h2, rfl⟩
theorem can_iff {a b l g m i j : Nat} (hi : i < 4) (hj : j < 3) : (canM a b l g m).testBit (3 * i + j) = canI a b l g m i j := by
  unfold canM
  rw [testBit_can (canI a b l g m)]
  simp only [Nat.zero_testBit, Bool.false_or]
  rw [Bool.eq_iff_iff, List.any_eq_true]
  constructor
  · rintro ⟨p, hp, h⟩
    rw [Bool.and_eq_true, decide_eq_true_eq] at h
    have hp3 := List.all_eq_true.mp (Bool.and_eq_true _ _ ▸ chk_pairs : _ ∧ _).1 p hp
    simp only [Bool.and_eq_true, Nat.blt_eq] at hp3
    have e1 : p.1 = i := by omega
    have e2 : p.2 = j := by omega
    rw [← e1, ← e2]; exact h.1
  · intro h
    exact ⟨(i, j), mem_pairs hi hj, by rw [Bool.and_eq_true]; exact ⟨h, decide_eq_true rfl⟩⟩
theorem getLastD_mem {α : Type} {r : List α} {d : α} (h : r ≠ []) : r.getLastD d ∈ r := by
  rw [List.getLastD_eq_getLast?, List.getLast?_eq_some_getLast h]
  exact List.getLast_mem h
theorem headD_mem {α : Type} {r : List α} {d : α} (h : r ≠ []) : r.headD d ∈ r := by
  cases r with
  | nil => exact absurd rfl h
  | cons x l => exact List.mem_cons_self
theorem mn_spec : ∀ (r : List (Nat × Nat)) (m : Nat), (∀ p ∈ r, p.2 ≤ 2) → m ≤ 2 → (r.foldl (fun m p => bif Nat.ble m p.2 then m else p.2) m ≤ m ∧ (∀ p ∈ r, r.foldl (fun m p => bif Nat.ble m p.2 then m else p.2) m ≤ p.2) ∧ (r.foldl (fun m p => bif Nat.ble m p.2 then m else p.2) m = m ∨ ∃ p ∈ r, p.2 = r.foldl (fun m p => bif Nat.ble m p.2 then m else p.2) m))
  | [], m, _, _ => ⟨Nat.le_refl _, fun _ h => (nomatch h), .inl rfl⟩
  | x :: r, m, h, hm => by
    rw [List.foldl_cons]
    have hx := h x List.mem_cons_self
    have hr : ∀ p ∈ r, p.2 ≤ 2 := fun p hp => h p (List.mem_cons_of_mem _ hp)
    cases q : Nat.ble m x.2 with
    | true =>
      have q' := Nat.le_of_ble_eq_true q
      obtain ⟨i1, i2, i3⟩ := mn_spec r m hr hm
      refine ⟨i1, fun p hp => ?_, i3.imp id fun ⟨p, hp, e⟩ => ⟨p, List.mem_cons_of_mem _ hp, e⟩⟩
      rcases List.mem_cons.mp hp with z | z
      · rw [z]; exact Nat.le_trans i1 q'
      · exact i2 p z
    | false =>
      have q' : ¬ m ≤ x.2 := fun z => by rw [Nat.ble_eq_true_of_le z] at q; exact nomatch q
      obtain ⟨i1, i2, i3⟩ := mn_spec r x.2 hr hx
      have i1 : r.foldl (fun m p => bif Nat.ble m p.2 then m else p.2) x.2 ≤ x.2 := i1
      refine ⟨Nat.le_trans i1 (by omega), fun p hp => ?_, .inr ?_⟩
      · rcases List.mem_cons.mp hp with z | z
        · rw [z]; exact i1
        · exact i2 p z
      · rcases i3 with e | ⟨p, hp, e⟩
        · exact ⟨x, List.mem_cons_self, e.symm⟩
        · exact ⟨p, List.mem_cons_of_mem _ hp, e⟩
theorem mx_spec : ∀ (r : List (Nat × Nat)) (m : Nat), (m ≤ r.foldl (fun m p => bif Nat.ble p.2 m then m else p.2) m ∧ (∀ p ∈ r, p.2 ≤ r.foldl (fun m p => bif Nat.ble p.2 m then m else p.2) m) ∧ (r.foldl (fun m p => bif Nat.ble p.2 m then m else p.2) m = m ∨ ∃ p ∈ r, p.2 = r.foldl (fun m p => bif Nat.ble p.2 m then m else p.2) m))
  | [], m => ⟨Nat.le_refl _, fun _ h => (nomatch h), .inl rfl⟩
  | x :: r, m => by
    rw [List.foldl_cons]
    cases q : Nat.ble x.2 m with
    | true =>
      have q' := Nat.le_of_ble_eq_true q
      obtain ⟨i1, i2, i3⟩ := mx_spec r m
      refine ⟨i1, fun p hp => ?_, i3.imp id fun ⟨p, hp, e⟩ => ⟨p, List.mem_cons_of_mem _ hp, e⟩⟩
      rcases List.mem_cons.mp hp with z | z
      · rw [z]; exact Nat.le_trans q' i1
      · exact i2 p z
    | false =>
      have q' : ¬ x.2 ≤ m := fun z => by rw [Nat.ble_eq_true_of_le z] at q; exact nomatch q
      obtain ⟨i1, i2, i3⟩ := mx_spec r x.2
      have i1 : x.2 ≤ r.foldl (fun m p => bif Nat.ble p.2 m then m else p.2) x.2 := i1
      refine ⟨Nat.le_trans (by omega) i1, fun p hp => ?_, .inr ?_⟩
      · rcases List.mem_cons.mp hp with z | z
        · rw [z]; exact i1
        · exact i2 p z
      · rcases i3 with e | ⟨p, hp, e⟩
        · exact ⟨x, List.mem_cons_self, e.symm⟩
        · exact ⟨p, List.mem_cons_of_mem _ hp, e⟩
theorem mn_of {r : List (Nat × Nat)} (h : RowOk r) : (∃ p ∈ r, p.2 = mnN r) ∧ ∀ p ∈ r, mnN r ≤ p.2 := by
  obtain ⟨_, i2, i3⟩ := mn_spec r 2 (fun p hp => by have := (h.lt p hp).2; omega) (Nat.le_refl _)
  refine ⟨?_, i2⟩
  rcases i3 with e | e
  · obtain ⟨x, hx⟩ := List.exists_mem_of_ne_nil r h.ne
    refine ⟨x, hx, ?_⟩
    have h1 := i2 x hx
    have h2 := (h.lt x hx).2
    have e : mnN r = 2 := e
    have h1 : mnN r ≤ x.2 := h1
    omega
  · exact e
theorem mx_of {r : List (Nat × Nat)} (h : RowOk r) : (∃ p ∈ r, p.2 = mxN r) ∧ ∀ p ∈ r, p.2 ≤ mxN r := by
  obtain ⟨_, i2, i3⟩ := mx_spec r 0
  refine ⟨?_, i2⟩
  rcases i3 with e | e
  · obtain ⟨x, hx⟩ := List.exists_mem_of_ne_nil r h.ne
    refine ⟨x, hx, ?_⟩
    have h1 : x.2 ≤ mxN r := i2 x hx
    have e : mxN r = 0 := e
    omega
  · exact e
structure Rng (r : List (Nat × Nat)) : Prop where
  a : hdN r < 4
  b : lsN r < 4
  l : mnN r < 3
  g : mxN r < 3
  m : 1 ≤ r.length
  m' : r.length ≤ 4
theorem RowOk.rng {r : List (Nat × Nat)} (h : RowOk r) : Rng r := by
  obtain ⟨p, hp, e⟩ := (mn_of h).1
  obtain ⟨q, hq, e'⟩ := (mx_of h).1
  refine ⟨(h.lt _ (headD_mem h.ne)).1, (h.lt _ (getLastD_mem h.ne)).1, ?_, ?_, List.length_pos_iff.mpr h.ne, h.len⟩
  · rw [← e]; exact (h.lt p hp).2
  · rw [← e']; exact (h.lt q hq).2
theorem cod_inj {a b l g m a' b' l' g' m' : Nat} (ha : a < 4) (hb : b < 4) (hl : l < 3) (hg : g < 3) (ha' : a' < 4) (hb' : b' < 4) (hl' : l' < 3) (hg' : g' < 3) (h : cod a b l g m = cod a' b' l' g' m') : a = a' ∧ b = b' ∧ l = l' ∧ g = g' ∧ m = m' := by
  unfold cod at h
  omega
/-- a fence that may be is one -/
theorem fence_some {a b l g m : Nat} (ha : a < 4) (hb : b < 4) (hl : l < 3) (hg : g < 3) (hm : 1 ≤ m) (hm' : m ≤ 4) (h : fencI a b l g m = true) : ∃ r ∈ rowsI, codeI r = cod a b l g m := by
  have q := chk_any ha hb hl hg hm hm'
  unfold chk1 at q
  rw [h] at q
  simp only [cond_true, Bool.and_eq_true, Bool.not_eq_true'] at q
  have hne : orI (cod a b l g m) ≠ 0 := fun z => by
    have := q.2
    rw [z] at this
    exact nomatch this
  -- some bit stands
  have hbit : ∃ i j, i < 4 ∧ j < 3 ∧ (orI (cod a b l g m)).testBit (3 * i + j) = true := by
    have e := Nat.eq_of_beq_eq_true q.1
    refine Classical.byContradiction fun no => hne ?_
    refine Nat.eq_of_testBit_eq fun k => ?_
    rw [Nat.zero_testBit, e]
    unfold canM
    rw [testBit_can (canI a b l g m)]
    simp only [Nat.zero_testBit, Bool.false_or]
    rw [Bool.eq_false_iff]
    intro hk
    obtain ⟨p, hp, hk⟩ := List.any_eq_true.mp hk
    rw [Bool.and_eq_true, decide_eq_true_eq] at hk
    have hp3 := List.all_eq_true.mp (Bool.and_eq_true _ _ ▸ chk_pairs : _ ∧ _).1 p hp
    simp only [Bool.and_eq_true, Nat.blt_eq] at hp3
    exact no ⟨p.1, p.2, hp3.1, hp3.2, by rw [e, can_iff hp3.1 hp3.2]; exact hk.1⟩
  obtain ⟨i, j, hi, hj, hb2⟩ := hbit
  obtain ⟨r, hr, e, _⟩ := (or_iff hi hj).mp hb2
  exact ⟨r, hr, e⟩
/-- a version that may be stands in one of the blocks with the fence -/
theorem can_some {r0 : List (Nat × Nat)} (h0 : r0 ∈ rowsI) {i j : Nat} (hi : i < 4) (hj : j < 3) : canI (hdN r0) (lsN r0) (mnN r0) (mxN r0) r0.length i j = true ↔ ∃ r ∈ rowsI, codeI r = codeI r0 ∧ (i, j) ∈ r := by
  have R := (row_ok h0).rng
  have q := chk_any R.a R.b R.l R.g R.m R.m'
  have hne : orI (codeI r0) ≠ 0 := fun z => by
    obtain ⟨p, hp⟩ := List.exists_mem_of_ne_nil r0 (row_ok h0).ne
    have hp3 := (row_ok h0).lt p hp
    have := (or_iff (c := codeI r0) hp3.1 hp3.2).mpr ⟨r0, h0, rfl, hp⟩
    rw [z, Nat.zero_testBit] at this
    exact nomatch this
  rw [← can_iff hi hj, ← or_iff hi hj]
  unfold chk1 at q
  cases f : fencI (hdN r0) (lsN r0) (mnN r0) (mxN r0) r0.length with
  | true =>
    rw [f] at q
    simp only [cond_true, Bool.and_eq_true] at q
    have e := Nat.eq_of_beq_eq_true q.1
    rw [← e]
    rfl
  | false =>
    rw [f] at q
    exact absurd (Nat.eq_of_beq_eq_true q) hne
end K93
set_option Elab.async false
set_option linter.all false
set_option maxRecDepth 100000
set_option maxHeartbeats 4000000
/-! # The same, with the names and numbers themselves. -/
namespace K93
open PySem PySem.Spec PyProof.Rows L2 Nam SetP
structure N4 (nm : Nat → List Nat) : Prop where
  ok : ∀ i, i < 4 → Nm (nm i)
  lt : ∀ i j, i < 4 → j < 4 → (nm i < nm j ↔ i < j)
  eq : ∀ i j, i < 4 → j < 4 → nm i = nm j → i = j
  rk : ∀ i j, i < 4 → j < 4 → (R 8 (nm j) : Int) - R 8 (nm i) = (j : Int) - i
section
variable (nm : Nat → List Nat) (low : Int)
def rl (p : Nat × Nat) : Str × Int := (S (nm p.1), low + (p.2 : Int))
abbrev rr (r : List (Nat × Nat)) : List (Str × Int) := r.map (rl nm low)
end
theorem stepB_map {α β : Type} (f : α → β) (m : Nat) (found : List (List α)) (p : α) : stepB m (found.map (List.map f)) (f p) = (stepB m found p).map (List.map f) := by
  unfold stepB
  rw [List.map_append, List.map_filterMap, List.filterMap_map]
  congr 1
  congr 1
  funext r
  simp only [Function.comp_def, List.length_map]
  split
  · simp
  · rfl
theorem foldB_map {α β : Type} (f : α → β) (m : Nat) : ∀ (ps : List α) (found : List (List α)), (ps.map f).foldl (stepB m) (found.map (List.map f)) = (ps.foldl (stepB m) found).map (List.map f)
  | [], _ => rfl
  | p :: ps, found => by
    rw [List.map_cons, List.foldl_cons, List.foldl_cons, stepB_map, foldB_map f m ps]
theorem blocksB_map {α β : Type} (f : α → β) (m : Nat) (ps : List α) : blocksB m (ps.map f) = (blocksB m ps).map (List.map f) := by
  unfold blocksB foundB
  have e : ([[]] : List (List β)) = ([[]] : List (List α)).map (List.map f) := rfl
  rw [e, foldB_map, List.filter_map]
  congr 1
  congr 1
  funext r
  cases r <;> rfl
variable {nm : Nat → List Nat} {low : Int}
theorem pairs_real : pairsB ([0, 1, 2, 3].map fun i => S (nm i)) ([0, 1, 2].map fun j : Nat => low + (j : Int)) = pairs12.map (rl nm low) := rfl
theorem rows_real : blocksB 4 (pairsB ([0, 1, 2, 3].map fun i => S (nm i)) ([0, 1, 2].map fun j : Nat => low + (j : Int))) = rowsI.map (rr nm low) := by
  rw [pairs_real, blocksB_map]; rfl
theorem rl_inj (N : N4 nm) {p q : Nat × Nat} (hp : p.1 < 4) (hq : q.1 < 4) (h : rl nm low p = rl nm low q) : p = q := by
  unfold rl at h
  have h1 := N.eq _ _ hp hq (S_inj (Prod.mk.inj h).1)
  have h2 := (Prod.mk.inj h).2
  obtain ⟨p1, p2⟩ := p
  obtain ⟨q1, q2⟩ := q
  simp only at h1 h2
  have e2 : p2 = q2 := by omega
  rw [h1, e2]
/-- a row's fence -/
theorem fen_real {r : List (Nat × Nat)} (h : RowOk r) : fenK (rr nm low r) = [.inr (S (nm (hdN r))), .inr (S (nm (lsN r))), .inl (low + (mnN r : Nat)), .inl (low + (mxN r : Nat)), .inl (r.length : Nat)] := by
  have e1 : ((rr nm low r).headD (⟨#[]⟩, 0)).1 = S (nm (hdN r)) := by
    cases r with
    | nil => exact absurd rfl h.ne
    | cons x l => rfl
  have e2 : ((rr nm low r).getLastD (⟨#[]⟩, 0)).1 = S (nm (lsN r)) := by
    unfold lsN
    rw [List.getLastD_eq_getLast?, List.getLastD_eq_getLast?, List.getLast?_map, List.getLast?_eq_some_getLast h.ne]
    rfl
  have em : (rr nm low r).map (·.2) = r.map fun p => low + (p.2 : Int) := by rw [List.map_map]; rfl
  have e3 : mnI ((rr nm low r).map (·.2)) = low + (mnN r : Nat) := by
    rw [em]
    obtain ⟨⟨p, hp, e⟩, g⟩ := mn_of h
    refine mnI_eq (List.mem_map.mpr ⟨p, hp, by rw [e]⟩) fun y hy => ?_
    obtain ⟨q, hq, rfl⟩ := List.mem_map.mp hy
    have := g q hq
    omega
  have e4 : mxI ((rr nm low r).map (·.2)) = low + (mxN r : Nat) := by
    rw [em]
    obtain ⟨⟨p, hp, e⟩, g⟩ := mx_of h
    refine mxI_eq (List.mem_map.mpr ⟨p, hp, by rw [e]⟩) fun y hy => ?_
    obtain ⟨q, hq, rfl⟩ := List.mem_map.mp hy
    have := g q hq
    omega
  unfold fenK
  rw [e1, e2, e3, e4, List.length_map]
theorem fen_code (N : N4 nm) {r r' : List (Nat × Nat)} (h : r ∈ rowsI) (h' : r' ∈ rowsI) : fenK (rr nm low r) = fenK (rr nm low r') ↔ codeI r = codeI r' := by
  have R := (row_ok h).rng
  have R' := (row_ok h').rng
  rw [fen_real (row_ok h), fen_real (row_ok h')]
  constructor
  · intro e
    injection e with e1 e
    injection e with e2 e
    injection e with e3 e
    injection e with e4 e
    injection e with e5 e
    have h1 := N.eq _ _ R.a R'.a (S_inj (Sum.inr.inj e1))
    have h2 := N.eq _ _ R.b R'.b (S_inj (Sum.inr.inj e2))
    have h3 : mnN r = mnN r' := by have := Sum.inl.inj e3; omega
    have h4 : mxN r = mxN r' := by have := Sum.inl.inj e4; omega
    have h5 : r.length = r'.length := by have := Sum.inl.inj e5; omega
    unfold codeI
    rw [h1, h2, h3, h4, h5]
  · intro e
    obtain ⟨h1, h2, h3, h4, h5⟩ := cod_inj R.a R.b R.l R.g R'.a R'.b R'.l R'.g e
    rw [h1, h2, h3, h4, h5]
theorem ble_dec (a b : Nat) : Nat.ble a b = decide (a ≤ b) := by
  cases q : Nat.ble a b with
  | true => exact (decide_eq_true (Nat.le_of_ble_eq_true q)).symm
  | false => exact (decide_eq_false fun z => by rw [Nat.ble_eq_true_of_le z] at q; exact nomatch q).symm
theorem beq_dec (a b : Nat) : Nat.beq a b = decide (a = b) := by
  cases q : Nat.beq a b with
  | true => exact (decide_eq_true (Nat.eq_of_beq_eq_true q)).symm
  | false => exact (decide_eq_false (Nat.ne_of_beq_eq_false q)).symm
theorem can_real (N : N4 nm) {a b l g m i j : Nat} (ha : a < 4) (hb : b < 4) (hi : i < 4) : canW (nm a) (nm b) (low + (l : Nat)) (low + (g : Nat)) (m : Nat) (nm i) (low + (j : Nat)) = canI a b l g m i j := by
  unfold canW canI
  simp only [ble_dec, beq_dec]
  have e1 : (!decide (nm i < nm a)) = decide (a ≤ i) := by rw [← decide_not]; exact decide_eq_decide.mpr (by rw [N.lt _ _ hi ha]; omega)
  have e2 : (!decide (nm b < nm i)) = decide (i ≤ b) := by rw [← decide_not]; exact decide_eq_decide.mpr (by rw [N.lt _ _ hb hi]; omega)
  have e3 : decide (low + (l : Int) ≤ low + (j : Int)) = decide (l ≤ j) := decide_eq_decide.mpr (by omega)
  have e4 : decide (low + (j : Int) ≤ low + (g : Int)) = decide (j ≤ g) := decide_eq_decide.mpr (by omega)
  have e5 : decide ((2 : Int) < (m : Int)) = decide (3 ≤ m) := decide_eq_decide.mpr (by omega)
  have e6 : decide (nm a = nm i) = decide (a = i) := decide_eq_decide.mpr ⟨N.eq _ _ ha hi, fun z => by rw [z]⟩
  have e7 : decide (nm b = nm i) = decide (b = i) := decide_eq_decide.mpr ⟨N.eq _ _ hb hi, fun z => by rw [z]⟩
  have e8 : decide (low + (l : Int) = low + (j : Int)) = decide (l = j) := decide_eq_decide.mpr (by omega)
  have e9 : decide (low + (g : Int) = low + (j : Int)) = decide (g = j) := decide_eq_decide.mpr (by omega)
  rw [e1, e2, e3, e4, e5, e6, e7, e8, e9]
theorem list_lt_irr {l : List Nat} (h : l < l) : False := List.lt_irrefl l h
/-- may_have answers as the blocks tell -/
theorem due_real (N : N4 nm) {r0 : List (Nat × Nat)} (h0 : r0 ∈ rowsI) {k : List Nat} {n : Int} (hk : (∃ i, i < 4 ∧ k = nm i) ∨ k < nm 0 ∨ nm 3 < k) :
    canW (nm (hdN r0)) (nm (lsN r0)) (low + (mnN r0 : Nat)) (low + (mxN r0 : Nat)) (r0.length : Nat) k n = true ↔ ∃ r ∈ rowsI, codeI r = codeI r0 ∧ (S k, n) ∈ rr nm low r := by
  have R := (row_ok h0).rng
  have lt_tr : ∀ {a b c : List Nat}, a < b → b < c → a < c := fun h g => List.lt_trans h g
  constructor
  · intro h
    have h' := h
    unfold canW at h'
    simp only [Bool.and_eq_true, Bool.not_eq_true', decide_eq_true_eq, decide_eq_false_iff_not] at h'
    obtain ⟨⟨⟨h1, h2⟩, h3, h4⟩, _⟩ := h'
    obtain ⟨i, hi, rfl⟩ : ∃ i, i < 4 ∧ k = nm i := by
      rcases hk with hk | hk | hk
      · exact hk
      · exfalso
        apply h1
        by_cases e : hdN r0 = 0
        · rw [e]; exact hk
        · exact lt_tr hk ((N.lt _ _ (by decide) R.a).mpr (by omega))
      · exfalso
        apply h2
        by_cases e : lsN r0 = 3
        · rw [e]; exact hk
        · exact lt_tr ((N.lt _ _ R.b (by decide)).mpr (by have := R.b; omega)) hk
    obtain ⟨j, hj, rfl⟩ : ∃ j : Nat, j < 3 ∧ n = low + (j : Nat) := ⟨(n - low).toNat, by have := R.g; omega, by omega⟩
    rw [can_real N R.a R.b hi] at h
    obtain ⟨r, hr, e, hm⟩ := (can_some h0 hi hj).mp h
    exact ⟨r, hr, e, List.mem_map.mpr ⟨(i, j), hm, rfl⟩⟩
  · rintro ⟨r, hr, e, hm⟩
    obtain ⟨⟨i, j⟩, hp, e2⟩ := List.mem_map.mp hm
    have hlt := (row_ok hr).lt _ hp
    unfold rl at e2
    have e3 : nm i = k := S_inj (Prod.mk.inj e2).1
    have e4 : low + (j : Int) = n := (Prod.mk.inj e2).2
    subst e3 e4
    rw [can_real N R.a R.b hlt.1]
    exact (can_some h0 hlt.1 hlt.2).mpr ⟨r, hr, e, hp⟩
theorem fence_real (N : N4 nm) {a b l g m : Nat} (ha : a < 4) (hb : b < 4) (hm : 1 ≤ m) : fenceW (nm a) (nm b) (low + (l : Nat)) (low + (g : Nat)) (m : Nat) = fencI a b l g m := by
  unfold fenceW fencI
  simp only [ble_dec, beq_dec]
  have e1 : (!decide (nm b < nm a)) = decide (a ≤ b) := by rw [← decide_not]; exact decide_eq_decide.mpr (by rw [N.lt _ _ hb ha]; omega)
  have e2 : decide (low + (l : Int) ≤ low + (g : Int)) = decide (l ≤ g) := decide_eq_decide.mpr (by omega)
  have e3 : decide ((m : Int) = 1) = decide (m = 1) := decide_eq_decide.mpr (by omega)
  have e4 : decide (nm a = nm b) = decide (a = b) := decide_eq_decide.mpr ⟨N.eq _ _ ha hb, fun z => by rw [z]⟩
  have e5 : decide (low + (l : Int) = low + (g : Int)) = decide (l = g) := decide_eq_decide.mpr (by omega)
  rw [e1, e2, e3, e4, e5]
  cases q1 : decide (a ≤ b) with
  | false => rfl
  | true =>
    cases q2 : decide (l ≤ g) with
    | false => rfl
    | true =>
      congr 3
      refine decide_eq_decide.mpr ?_
      have h1 := of_decide_eq_true q1
      have h2 := of_decide_eq_true q2
      have h3 := N.rk a b ha hb
      have h4 : ((R 8 (nm b) : Int) - R 8 (nm a) + 1) * (low + (g : Int) - (low + (l : Int)) + 1) = (((b + 1 - a) * (g + 1 - l) : Nat) : Int) := by
        have f1 : (R 8 (nm b) : Int) - R 8 (nm a) + 1 = ((b + 1 - a : Nat) : Int) := by omega
        have f2 : low + (g : Int) - (low + (l : Int)) + 1 = ((g + 1 - l : Nat) : Int) := by omega
        rw [f1, f2, Int.natCast_mul]
      rw [h4]
      omega
/-- a near fence that may be is a row's -/
theorem near_real (N : N4 nm) {a b l g m : Nat} (ha : a < 4) (hb : b < 4) (hl : l < 3) (hg : g < 3) (hm : 1 ≤ m) (hm' : m ≤ 4) (h : fenceW (nm a) (nm b) (low + (l : Nat)) (low + (g : Nat)) (m : Nat) = true) :
    ∃ r ∈ rowsI, fenK (rr nm low r) = [.inr (S (nm a)), .inr (S (nm b)), .inl (low + (l : Nat)), .inl (low + (g : Nat)), .inl (m : Nat)] := by
  rw [fence_real N ha hb hm] at h
  obtain ⟨r, hr, e⟩ := fence_some ha hb hl hg hm hm' h
  have R := (row_ok hr).rng
  obtain ⟨h1, h2, h3, h4, h5⟩ := cod_inj R.a R.b R.l R.g ha hb hl hg e
  refine ⟨r, hr, ?_⟩
  rw [fen_real (row_ok hr), h1, h2, h3, h4, h5]
end K93
set_option Elab.async false
set_option linter.all false
set_option maxRecDepth 100000
set_option maxHeartbeats 4000000
/-! # Names of the law, blocks as data. -/
namespace K93
open PySem PySem.Spec PyProof.Rows L2 Nam SetP
def heads : List (List Nat) := [[97, 98, 99, 100, 101, 102, 103], [122, 122, 122, 122, 122, 122, 122], [97, 97, 97, 97, 97, 97, 97]]
def letters : List (List Nat) := [[97, 98, 99, 100], [119, 120, 121, 122], [109, 110, 111, 112]]
def nmOf (h ls : List Nat) (i : Nat) : List Nat := h ++ [ls.getD i 97]
def nmB (l : List Nat) : Bool := decide (1 ≤ l.length) && (decide (l.length ≤ 8) && l.all fun c => decide (97 ≤ c) && decide (c ≤ 122))
theorem nmB_ok {l : List Nat} (h : nmB l = true) : Nm l := by
  unfold nmB at h
  simp only [Bool.and_eq_true, decide_eq_true_eq, List.all_eq_true] at h
  exact ⟨h.1, h.2.1, fun c hc => h.2.2 c hc⟩
def chkN (h ls : List Nat) : Bool := [0, 1, 2, 3].all fun i => nmB (nmOf h ls i) && ([0, 1, 2, 3].all fun j => (decide (nmOf h ls i < nmOf h ls j) == decide (i < j)) && ((!decide (nmOf h ls i = nmOf h ls j) || decide (i = j)) && decide ((R 8 (nmOf h ls j) : Int) - R 8 (nmOf h ls i) = (j : Int) - i)))
def outK (h ls k : List Nat) : Bool := nmB k && (([0, 1, 2, 3].any fun i => decide (k = nmOf h ls i)) || (decide (k < nmOf h ls 0) || decide (nmOf h ls 3 < k)))
theorem chk_names : (heads.all fun h => letters.all fun ls => chkN h ls && (outK h ls h && (outK h ls (h ++ [122]) && outK h ls [97]))) = true := by decide +kernel
theorem mem4 {i : Nat} (h : i < 4) : i ∈ [0, 1, 2, 3] := by match i, h with | 0, _ => simp | 1, _ => simp | 2, _ => simp | 3, _ => simp
def KeyOk (h ls k : List Nat) : Prop := Nm k ∧ ((∃ i, i < 4 ∧ k = nmOf h ls i) ∨ k < nmOf h ls 0 ∨ nmOf h ls 3 < k)
theorem outK_ok {h ls k : List Nat} (q : outK h ls k = true) : KeyOk h ls k := by
  unfold outK at q
  simp only [Bool.and_eq_true, Bool.or_eq_true, List.any_eq_true, decide_eq_true_eq] at q
  refine ⟨nmB_ok q.1, q.2.imp (fun ⟨i, hi, e⟩ => ⟨i, ?_, e⟩) id⟩
  simp only [List.mem_cons, List.not_mem_nil, or_false] at hi
  omega
theorem names_ok {h ls : List Nat} (hh : h ∈ heads) (hl : ls ∈ letters) : N4 (nmOf h ls) ∧ KeyOk h ls h ∧ KeyOk h ls (h ++ [122]) ∧ KeyOk h ls [97] := by
  have q := List.all_eq_true.mp (List.all_eq_true.mp chk_names h hh) ls hl
  simp only [Bool.and_eq_true] at q
  refine ⟨?_, outK_ok q.2.1, outK_ok q.2.2.1, outK_ok q.2.2.2⟩
  have c := q.1
  unfold chkN at c
  have c1 := fun i hi => Bool.and_eq_true _ _ ▸ List.all_eq_true.mp c i (mem4 hi)
  have c2 : ∀ i j, i < 4 → j < 4 → _ := fun i j hi hj => List.all_eq_true.mp (c1 i hi).2 j (mem4 hj)
  simp only [Bool.and_eq_true, Bool.or_eq_true, Bool.not_eq_true', decide_eq_true_eq, decide_eq_false_iff_not, beq_iff_eq] at c2
  refine ⟨fun i hi => nmB_ok (c1 i hi).1, fun i j hi hj => ?_, fun i j hi hj e => ?_, fun i j hi hj => (c2 i j hi hj).2.2⟩
  · exact decide_eq_decide.mp (c2 i j hi hj).1
  · exact (c2 i j hi hj).2.1.elim (fun z => absurd e z) id
/-! ### blocks as data -/
def keyP (nm : Nat → List Nat) (low : Int) (p : Nat × Nat) : List Key := [Sum.inr (S (nm p.1)), Sum.inl (low + (p.2 : Int))]
/-- a version: a tuple or a list -/
def verT (tp : Bool) (nm : Nat → List Nat) (low : Int) (p : Nat × Nat) (v : PyData) : PyData := if tp then .tuple [.str (S (nm p.1)), .int (low + (p.2 : Int)), v] else .list [.str (S (nm p.1)), .int (low + (p.2 : Int)), v]
def ValOk (v : PyData) : Prop := v = .none ∨ (nameD v = true ∧ ∃ x, v = .str x)
section
variable {nm : Nat → List Nat} {low : Int}
theorem nameD_S {l : List Nat} (h : Nm l) : nameD (.str (S l)) = true := by
  show (decide (1 ≤ (S l).length) && (decide ((S l).length ≤ 8) && (S l).cps.toList.all fun c => decide (Let c))) = true
  rw [S_len, S_list]
  simp only [Bool.and_eq_true, decide_eq_true_eq, List.all_eq_true]
  exact ⟨h.pos, h.len, h.let_⟩
theorem verT_prts (tp : Bool) (p : Nat × Nat) (v : PyData) : prts (verT tp nm low p v) = some [.str (S (nm p.1)), .int (low + (p.2 : Int)), v] := by
  unfold verT
  cases tp <;> rfl
theorem verT_ok (N : N4 nm) (h1 : 1 ≤ low) (tp : Bool) {p : Nat × Nat} {v : PyData} (hp : p.1 < 4) (hv : ValOk v) : verD (verT tp nm low p v) = true ∧ pairK (verT tp nm low p v) = keyP nm low p ∧ prD (verT tp nm low p v) = rl nm low p := by
  have e := verT_prts (nm := nm) (low := low) tp p v
  refine ⟨?_, ?_, ?_⟩
  · unfold verD
    rw [e]
    have g1 := nameD_S (N.ok _ hp)
    have g2 : withinD (.int (low + (p.2 : Int))) (some 1) none = true := by
      unfold withinD
      simp only [Option.all_some, Option.all_none, Bool.and_true, decide_eq_true_eq]
      omega
    have g3 : (noneD v || nameD v) = true := by
      rcases hv with e | ⟨e, _⟩
      · rw [e]; rfl
      · rw [e, Bool.or_true]
    show (nameD (.str (S (nm p.1))) && (withinD (.int (low + (p.2 : Int))) (some 1) none && (noneD v || nameD v))) = true
    rw [g1, g2, g3]; rfl
  · unfold pairK
    rw [e]; rfl
  · unfold prD
    rw [e]; rfl
theorem keyP_lt (N : N4 nm) {p q : Nat × Nat} (hp : p.1 < 4) (hq : q.1 < 4) : lexK (keyP nm low p) (keyP nm low q) = (Nat.blt p.1 q.1 || (Nat.beq p.1 q.1 && Nat.blt p.2 q.2)) := by
  have b1 : Nat.blt p.1 q.1 = decide (p.1 < q.1) := ble_dec _ _
  have b2 : Nat.blt p.2 q.2 = decide (p.2 < q.2) := ble_dec _ _
  rw [b1, b2, beq_dec]
  unfold keyP
  simp only [lexK]
  by_cases e : p.1 = q.1
  · rw [e, if_pos rfl, decide_eq_false (Nat.lt_irrefl _), decide_eq_true rfl]
    simp only [Bool.false_or, Bool.true_and]
    by_cases e2 : p.2 = q.2
    · rw [e2, if_pos rfl, decide_eq_false (Nat.lt_irrefl _)]
    · rw [if_neg (fun z => e2 (by have := Sum.inl.inj z; omega))]
      show decide (low + (p.2 : Int) < low + (q.2 : Int)) = decide (p.2 < q.2)
      exact decide_eq_decide.mpr (by omega)
  · rw [if_neg (fun z => e (N.eq _ _ hp hq (S_inj (Sum.inr.inj z)))), decide_eq_false e]
    simp only [Bool.false_and, Bool.or_false]
    show decide (nm p.1 < nm q.1) = decide (p.1 < q.1)
    exact decide_eq_decide.mpr (N.lt _ _ hp hq)
theorem rising_of (N : N4 nm) : ∀ (ds : List PyData) (r : List (Nat × Nat)), ds.map pairK = r.map (keyP nm low) → (∀ p ∈ r, p.1 < 4) → incI r = true → rising ds = true
  | [], _, _, _, _ => rfl
  | [_], _, _, _, _ => rfl
  | d :: e :: t, r, h, hr, hi => by
    match r, h, hr, hi with
    | [_], h, _, _ => exact absurd (congrArg List.length h) (by simp)
    | p :: q :: u, h, hr, hi =>
      rw [List.map_cons, List.map_cons, List.map_cons, List.map_cons] at h
      injection h with h1 h
      injection h with h2 h
      have hi : ((Nat.blt p.1 q.1 || (Nat.beq p.1 q.1 && Nat.blt p.2 q.2)) && incI (q :: u)) = true := hi
      rw [Bool.and_eq_true] at hi
      have ih := rising_of N (e :: t) (q :: u) (by rw [List.map_cons, List.map_cons, h2, h]) (fun x hx => hr x (List.mem_cons_of_mem _ hx)) hi.2
      have up : rising (d :: e :: t) = (lexK (pairK d) (pairK e) && rising (e :: t)) := by simp [rising]
      rw [up, ih, h1, h2, keyP_lt N (hr p (by simp)) (hr q (by simp)), hi.1]; rfl
/-- versions of the pairs r with the values vs -/
def versT (tp : Bool) (nm : Nat → List Nat) (low : Int) (r : List (Nat × Nat)) (vs : List PyData) : List PyData := (r.zip vs).map fun x => verT tp nm low x.1 x.2
theorem versT_all (N : N4 nm) (h1 : 1 ≤ low) (tp : Bool) : ∀ (r : List (Nat × Nat)) (vs : List PyData), r.length = vs.length → (∀ p ∈ r, p.1 < 4) → (∀ v ∈ vs, ValOk v) →
    (∀ d ∈ versT tp nm low r vs, verD d = true) ∧ (versT tp nm low r vs).map pairK = r.map (keyP nm low) ∧ (versT tp nm low r vs).map prD = r.map (rl nm low)
  | [], _, _, _, _ => ⟨fun _ h => (nomatch h), rfl, rfl⟩
  | p :: r, [], h, _, _ => nomatch h
  | p :: r, v :: vs, h, hr, hv => by
    obtain ⟨a, b, c⟩ := versT_all N h1 tp r vs (by simpa using h) (fun x hx => hr x (List.mem_cons_of_mem _ hx)) (fun x hx => hv x (List.mem_cons_of_mem _ hx))
    obtain ⟨x1, x2, x3⟩ := verT_ok N h1 tp (hr p List.mem_cons_self) (hv v List.mem_cons_self)
    have e : versT tp nm low (p :: r) (v :: vs) = verT tp nm low p v :: versT tp nm low r vs := rfl
    rw [e]
    refine ⟨fun d hd => ?_, ?_, ?_⟩
    · rcases List.mem_cons.mp hd with z | z
      · rw [z]; exact x1
      · exact a d z
    · rw [List.map_cons, List.map_cons, x2, b]
    · rw [List.map_cons, List.map_cons, x3, c]
theorem versT_len (tp : Bool) (r : List (Nat × Nat)) (vs : List PyData) : (versT tp nm low r vs).length = min r.length vs.length := by
  unfold versT
  rw [List.length_map, List.length_zip]
structure Inc (r : List (Nat × Nat)) : Prop where
  lt : ∀ p ∈ r, p.1 < 4 ∧ p.2 < 3
  inc : incI r = true
theorem RowOk.Inc {r : List (Nat × Nat)} (h : RowOk r) : Inc r := ⟨h.lt, h.inc⟩
theorem inc12 : Inc pairs12 := by
  have h := chk_pairs
  rw [Bool.and_eq_true] at h
  refine ⟨fun p hp => ?_, h.2⟩
  have := List.all_eq_true.mp h.1 p hp
  simpa only [Bool.and_eq_true, Nat.blt_eq] using this
theorem block_ok (N : N4 nm) (h1 : 1 ≤ low) (tp : Bool) {r : List (Nat × Nat)} {vs : List PyData} {d : PyData} (hd : prts d = some (versT tp nm low r vs)) (hl : r.length = vs.length) (hr : Inc r) (hne : r ≠ []) (hv : ∀ v ∈ vs, ValOk v) : blockD d = true ∧ rowsD d = rr nm low r := by
  obtain ⟨a, b, c⟩ := versT_all N h1 tp r vs hl (fun p hp => (hr.lt p hp).1) hv
  refine ⟨?_, ?_⟩
  · unfold blockD
    rw [hd]
    have e1 : (versT tp nm low r vs).isEmpty = false := by
      cases q : versT tp nm low r vs with
      | nil =>
        have := versT_len (nm := nm) (low := low) tp r vs
        rw [q, ← hl, Nat.min_self] at this
        exact absurd (List.eq_nil_of_length_eq_zero this.symm) hne
      | cons x l => rfl
    have e2 : (versT tp nm low r vs).all verD = true := List.all_eq_true.mpr a
    have e3 := rising_of N _ _ b (fun p hp => (hr.lt p hp).1) hr.inc
    show (!(versT tp nm low r vs).isEmpty && ((versT tp nm low r vs).all verD && rising (versT tp nm low r vs))) = true
    rw [e1, e2, e3]; rfl
  · unfold rowsD
    rw [hd]
    exact c
theorem ValOk.small {v : PyData} (h : ValOk v) : small v := by
  rcases h with e | ⟨e, x, rfl⟩
  · rw [e]; trivial
  · show x.length ≤ sizeLine
    have : nameD (.str x) = true := e
    unfold nameD at this
    simp only [Bool.and_eq_true, decide_eq_true_eq] at this
    exact Nat.le_trans this.2.1 (by decide)
theorem small_S {l : List Nat} (h : Nm l) : small (.str (S l)) := by
  show (S l).length ≤ sizeLine
  rw [S_len]
  exact Nat.le_trans h.len (by decide)
theorem versT_mem {tp : Bool} {r : List (Nat × Nat)} {vs : List PyData} {d : PyData} (h : d ∈ versT tp nm low r vs) : ∃ p ∈ r, ∃ v ∈ vs, d = verT tp nm low p v := by
  unfold versT at h
  obtain ⟨⟨p, v⟩, hx, rfl⟩ := List.mem_map.mp h
  exact ⟨p, (List.of_mem_zip hx).1, v, (List.of_mem_zip hx).2, rfl⟩
theorem small3_vers (N : N4 nm) {tp : Bool} {r : List (Nat × Nat)} {vs : List PyData} {d : PyData} (hd : prts d = some (versT tp nm low r vs)) (hr : ∀ p ∈ r, p.1 < 4) (hn : r.length ≤ 1000) (hv : ∀ v ∈ vs, ValOk v) : small3 d := by
  intro ds e
  rw [hd] at e
  cases e
  refine ⟨by rw [versT_len]; omega, fun x hx => ?_⟩
  obtain ⟨p, hp, v, hvv, rfl⟩ := versT_mem hx
  intro es e y hy
  rw [verT_prts] at e
  cases e
  simp only [List.mem_cons, List.not_mem_nil, or_false] at hy
  rcases hy with z | z | z
  · rw [z]; exact small_S (N.ok _ (hr p hp))
  · rw [z]; trivial
  · rw [z]; exact (hv v hvv).small
end
end K93
set_option Elab.async false
set_option linter.all false
set_option maxRecDepth 100000
set_option maxHeartbeats 4000000
/-! # What stands in the law's dict. -/
namespace K93
open PySem PySem.Spec PyProof.Rows L2 Nam SetP
section
variable {K : PySem.W.Frag} {W : List Addr} {H H' : Hp} {nm : Nat → List Nat} {low : Int}
theorem dw_strs : ∀ (l : List Str) (xs : List V), DWAll K W H xs (l.map .str) → xs = l.map V.str
  | [], _, h => by cases h; rfl
  | x :: l, _, h => by
    cases h with
    | cons h1 h2 => cases h1; rw [dw_strs l _ h2]; rfl
theorem dw_ints : ∀ (l : List Int) (xs : List V), DWAll K W H xs (l.map .int) → xs = l.map V.int
  | [], _, h => by cases h; rfl
  | x :: l, _, h => by
    cases h with
    | cons h1 h2 => cases h1; rw [dw_ints l _ h2]; rfl
theorem dw_list {a : Addr} {ds : List PyData} (h : DW K W H (.ref a) (.list ds)) : a ∉ W ∧ ∃ xs, H a = some (.lst xs) ∧ DWAll K W H xs ds := by
  cases h with
  | lst n hs ha => exact ⟨n, _, hs, ha⟩
/-- the rows of a block's pairs -/
theorem rows_of : ∀ (r : List (Nat × Nat)) (xs : List V), DpAll K H xs ((rr nm low r).map pairD) → ∃ rows : List SetP.Row, xs = vrefs rows ∧ RowsAt K H rows ∧ rows.map (·.2) = r.map (keyP nm low)
  | [], _, h => by cases h; exact ⟨[], rfl, fun _ z => (nomatch z), rfl⟩
  | p :: r, _, h => by
    cases h with
    | cons h1 h2 =>
      obtain ⟨rows, e, g, m⟩ := rows_of r _ h2
      obtain ⟨a, e1, hT⟩ := pair_at h1
      subst e1
      rw [e]
      refine ⟨(a, keyP nm low p) :: rows, rfl, fun x hx => ?_, by rw [List.map_cons, List.map_cons, m]⟩
      rcases List.mem_cons.mp hx with z | z
      · rw [z]; exact hT
      · exact g x z
theorem shp_key (p : Nat × Nat) : shp (keyP nm low p) = [true, false] := rfl
theorem len_nodup {α : Type} [DecidableEq α] : ∀ (l m : List α), l.Nodup → (∀ x ∈ l, x ∈ m) → l.length ≤ m.length
  | [], _, _, _ => Nat.zero_le _
  | x :: l, m, h, s => by
    have hx := s x List.mem_cons_self
    have h1 := List.nodup_cons.mp h
    have ih := len_nodup l (m.erase x) h1.2 fun y hy => (List.mem_erase_of_ne (fun e => h1.1 (by rw [← e]; exact hy))).mpr (s y (List.mem_cons_of_mem _ hy))
    rw [List.length_erase_of_mem hx] at ih
    have := List.length_pos_of_mem hx
    rw [List.length_cons]
    omega
/-- the list of what the first i rows with the fence of r tell -/
structure Lot (K : PySem.W.Frag) (W : List Addr) (nm : Nat → List Nat) (low : Int) (i : Nat) (r : List (Nat × Nat)) (H : Hp) (v : V) : Prop where
  ex : ∃ (l : Addr) (rows : List SetP.Row), v = .ref l ∧ l ∉ W ∧ H l = some (.lst (vrefs rows)) ∧ RowsAt K H rows ∧ (rows.map (·.2)).Nodup ∧ ∀ k, k ∈ rows.map (·.2) ↔ ∃ r' ∈ rowsI.take i, codeI r' = codeI r ∧ ∃ p ∈ r', k = keyP nm low p
theorem Lot.mv {tb : Bool} {i : Nat} {r : List (Nat × Nat)} {v : V} (h : Lot K W nm low i r H v) (s : Mv tb W H H') : Lot K W nm low i r H' v := by
  obtain ⟨l, rows, e, n, hl, ha, nd, m⟩ := h.ex
  exact ⟨l, rows, e, n, s.at_ hl (.inl n) fun x z => (nomatch z), fun x hx => s.sqT (ha x hx), nd, m⟩
theorem Lot.few {i : Nat} {r : List (Nat × Nat)} {v : V} (h : Lot K W nm low i r H v) : ∃ (l : Addr) (rows : List SetP.Row), v = .ref l ∧ H l = some (.lst (vrefs rows)) ∧ rows.length ≤ 12 := by
  obtain ⟨l, rows, e, n, hl, ha, nd, m⟩ := h.ex
  refine ⟨l, rows, e, hl, ?_⟩
  have := len_nodup (rows.map (·.2)) (pairs12.map (keyP nm low)) nd fun k hk => by
    obtain ⟨r', hr', _, p, hp, rfl⟩ := (m k).mp hk
    have := (row_ok (List.mem_of_mem_take hr')).lt p hp
    exact List.mem_map.mpr ⟨p, mem_pairs this.1 this.2, rfl⟩
  rw [List.length_map, List.length_map] at this
  exact this
/-- the dict behind i rows -/
structure Has (K : PySem.W.Frag) (W : List Addr) (nm : Nat → List Nat) (low : Int) (i : Nat) (H : Hp) (kvs : List (List Key × V)) : Prop where
  len : kvs.length ≤ i
  key : ∀ x ∈ kvs, ∃ r ∈ rowsI, x.1 = fenK (rr nm low r)
  nil : ∀ r ∈ rowsI, valV kvs (fenK (rr nm low r)) = none → ∀ r' ∈ rowsI.take i, codeI r' ≠ codeI r
  lot : ∀ r ∈ rowsI, ∀ v, valV kvs (fenK (rr nm low r)) = some v → Lot K W nm low i r H v
theorem Has.mv {tb : Bool} {i : Nat} {kvs : List (List Key × V)} (h : Has K W nm low i H kvs) (s : Mv tb W H H') : Has K W nm low i H' kvs :=
  ⟨h.len, h.key, h.nil, fun r hr v e => (h.lot r hr v e).mv s⟩
theorem putK_mem {κ : Type} [DecidableEq κ] {kvs : List (κ × V)} {k : κ} {v : V} {x : κ × V} (h : x ∈ putK kvs k v) : x ∈ kvs ∨ x.1 = k := by
  unfold putK at h
  split at h
  · obtain ⟨y, hy, e⟩ := List.mem_map.mp h
    split at e
    · rename_i q
      rw [← e]
      exact .inr q
    · rw [← e]; exact .inl hy
  · rcases List.mem_append.mp h with z | z
    · exact .inl z
    · rw [List.mem_singleton.mp z]; exact .inr rfl
/-- one more row -/
theorem Has.step (N : N4 nm) {i : Nat} {r : List (Nat × Nat)} {kvs : List (List Key × V)} {l : Addr} {rows : List SetP.Row} (h : Has K W nm low i H kvs) (hr : rowsI[i]? = some r) (hl : l ∉ W) (e : H l = some (.lst (vrefs rows))) (ha : RowsAt K H rows) (nd : (rows.map (·.2)).Nodup)
    (m : ∀ k, k ∈ rows.map (·.2) ↔ (∃ r' ∈ rowsI.take i, codeI r' = codeI r ∧ ∃ p ∈ r', k = keyP nm low p) ∨ ∃ p ∈ r, k = keyP nm low p) : Has K W nm low (i + 1) H (putK kvs (fenK (rr nm low r)) (.ref l)) := by
  have mr := List.mem_of_getElem? hr
  have tk : ∀ x, x ∈ rowsI.take (i + 1) ↔ x ∈ rowsI.take i ∨ x = r := fun x => by
    rw [take_snoc hr]; simp
  refine ⟨?_, fun x hx => ?_, fun r1 hr1 z => ?_, fun r1 hr1 v z => ?_⟩
  · have := L2.putK_len kvs (fenK (rr nm low r)) (.ref l)
    have := h.len
    omega
  · rcases putK_mem hx with z | z
    · exact h.key x z
    · exact ⟨r, mr, z⟩
  · rw [valV_put] at z
    split at z
    · cases z
    · rename_i q
      intro r' hr' ec
      rcases (tk r').mp hr' with y | y
      · exact h.nil r1 hr1 z r' y ec
      · subst y
        exact q ((fen_code N hr1 mr).mpr ec.symm)
  · rw [valV_put] at z
    split at z
    · rename_i q
      have ec := (fen_code N hr1 mr).mp q
      cases z
      refine ⟨l, rows, rfl, hl, e, ha, nd, fun k => ?_⟩
      rw [m k]
      constructor
      · rintro (⟨r', h1, h2, h3⟩ | h3)
        · exact ⟨r', (tk r').mpr (.inl h1), by rw [h2, ec], h3⟩
        · exact ⟨r, (tk r).mpr (.inr rfl), ec.symm, h3⟩
      · rintro ⟨r', h1, h2, h3⟩
        rcases (tk r').mp h1 with y | y
        · exact .inl ⟨r', y, by rw [h2, ec], h3⟩
        · subst y; exact .inr h3
    · rename_i q
      obtain ⟨l1, rows1, e1, n1, hl1, ha1, nd1, m1⟩ := (h.lot r1 hr1 v z).ex
      refine ⟨l1, rows1, e1, n1, hl1, ha1, nd1, fun k => ?_⟩
      rw [m1 k]
      constructor
      · rintro ⟨r', h1, h2⟩
        exact ⟨r', (tk r').mpr (.inl h1), h2⟩
      · rintro ⟨r', h1, h2, h3⟩
        rcases (tk r').mp h1 with y | y
        · exact ⟨r', y, h2, h3⟩
        · subst y
          exact absurd ((fen_code N hr1 mr).mpr h2.symm) q
/-- keys as data -/
theorem eqv_keys : ∀ (k m : List Key), PyData.eqvAll (k.map kD) (m.map kD) = decide (k = m)
  | [], [] => rfl
  | [], _ :: _ => rfl
  | _ :: _, [] => rfl
  | x :: k, y :: m => by
    rw [List.map_cons, List.map_cons]
    have ih := eqv_keys k m
    have e : PyData.eqvAll (kD x :: k.map kD) (kD y :: m.map kD) = (PyData.eqv (kD x) (kD y) && PyData.eqvAll (k.map kD) (m.map kD)) := by rw [PyData.eqvAll]
    rw [e, ih, eqv_kD]
    by_cases h1 : x = y
    · by_cases h2 : k = m
      · rw [h1, h2]; simp
      · simp [h1, h2]
    · simp [h1]
theorem eqv_key (k m : List Key) : PyData.eqv (.tuple (k.map kD)) (.tuple (m.map kD)) = decide (k = m) := by
  rw [PyData.eqv]
  exact eqv_keys k m
theorem dp_rows : ∀ (rows : List SetP.Row), RowsAt K H rows → DpAll K H (vrefs rows) (rows.map fun r => .tuple (r.2.map kD))
  | [], _ => .nil
  | r :: rows, h => .cons (.tup (h r List.mem_cons_self) (dp_kVs r.2)) (dp_rows rows fun x hx => h x (List.mem_cons_of_mem _ hx))
theorem keyP_D (p : Nat × Nat) : PyData.tuple ((keyP nm low p).map kD) = pairD (rl nm low p) := rfl
/-- what the dict's lots tell of a version -/
theorem lot_any {r : List (Nat × Nat)} {rows : List SetP.Row} {x : Str} {n : Int} (m : ∀ k, k ∈ rows.map (·.2) ↔ ∃ r' ∈ rowsI.take rowsI.length, codeI r' = codeI r ∧ ∃ p ∈ r', k = keyP nm low p) :
    ((rows.map fun r => PyData.tuple (r.2.map kD)).any fun z => PyData.eqv z (.tuple [.str x, .int n])) = true ↔ ∃ r' ∈ rowsI, codeI r' = codeI r ∧ (x, n) ∈ rr nm low r' := by
  have e0 : PyData.tuple [.str x, .int n] = .tuple (([Sum.inr x, Sum.inl n] : List Key).map kD) := rfl
  rw [List.take_length] at m
  rw [e0, List.any_map, List.any_eq_true]
  constructor
  · rintro ⟨y, hy, h⟩
    have h : PyData.eqv (.tuple (y.2.map kD)) (.tuple (([Sum.inr x, Sum.inl n] : List Key).map kD)) = true := h
    rw [eqv_key, decide_eq_true_eq] at h
    obtain ⟨r', h1, h2, p, hp, e⟩ := (m y.2).mp (List.mem_map.mpr ⟨y, hy, rfl⟩)
    refine ⟨r', h1, h2, List.mem_map.mpr ⟨p, hp, ?_⟩⟩
    rw [h] at e
    unfold keyP at e
    injection e with e1 e
    injection e with e2 e
    unfold rl
    rw [← Sum.inr.inj e1, ← Sum.inl.inj e2]
  · rintro ⟨r', h1, h2, h3⟩
    obtain ⟨p, hp, e⟩ := List.mem_map.mp h3
    obtain ⟨y, hy, ey⟩ := List.mem_map.mp ((m (keyP nm low p)).mpr ⟨r', h1, h2, p, hp, rfl⟩)
    refine ⟨y, hy, ?_⟩
    show PyData.eqv (.tuple (y.2.map kD)) (.tuple (([Sum.inr x, Sum.inl n] : List Key).map kD)) = true
    rw [eqv_key, decide_eq_true_eq]
    have ey : y.2 = keyP nm low p := ey
    rw [ey]
    unfold rl at e
    unfold keyP
    rw [(Prod.mk.inj e).1, (Prod.mk.inj e).2]
end
end K93
set_option Elab.async false
set_option linter.all false
set_option maxRecDepth 100000
set_option maxHeartbeats 4000000
namespace K93
open PySem PySem.Spec PyProof.Rows L2 Nam SetP Pen LamX LamB
abbrev s_law : Stmt := top 37
abbrev N_law : List Str := ["script", "pen", "head", "names", "low", "numbers", "every", "has", "row", "fence", "fences", "lap", "due", "at", "key", "number", "block", "size", "told", "some", "heard", "away", "bad", "near", "odd", "versions", "letter", "one", "name"]
theorem sc_law : FnScope N_law ["script"] (defScope s_law) := ⟨rfl, rfl, rfl, by decide +kernel, rfl, by decide +kernel, by decide +kernel⟩
def forBody : Stmt → List Stmt
  | .For _ _ b _ _ => b
  | _ => []
abbrev lawRow : List Stmt := forBody ((defBody s_law).getD 5 (.Pass ⟨0, 0, 0, 0⟩))
abbrev lawTurn : List Stmt := forBody ((defBody s_law).getD 7 (.Pass ⟨0, 0, 0, 0⟩))
abbrev lawTail : List Stmt := (defBody s_law).drop 8
abbrev XL (P : Program) (w : World) (K : PySem.W.Frag) (mg : Str → Option Value) (base : Heap) (f c : Addr) (A : Around) (outer : List Env) (s : Shared) (H : Hp) (E : XK) : Cx := (cxOf CX0 P w K mg base N_law "law" (defScope s_law) f (.ref c) A outer s H E).nox
structure Ds (P : Program) (w : World) (K : PySem.W.Frag) (mg : Str → Option Value) (base : Heap) (CV CN : Addr) : Prop where
  pen : Df P w K mg base CX0 1 "_law_pen" s_law_pen ["script"] (spPen K)
  draw : Df P w K mg base CX0 1 "_law_draw" s_law_draw ["pen", "many"] spDraw
  pick : Df P w K mg base CX0 2 "_law_pick" s_law_pick ["pen", "some"] (spPick K)
  all : Df P w K mg base CX0 1 "_law_blocks_all" s_law_blocks_all ["names", "numbers", "most"] (spBlocksAll K)
  fence : Df P w K mg base CX0 1 "_law_fence" s_law_fence ["row"] (spLawFence K)
  may : Df P w K mg base (L2.CX P w) 5 "may_have" s_may_have ["fence", "key", "number"] (spMay K CV CN)
  fof : Df P w K mg base (L2.CX P w) 5 "fence_of" s_fence_of ["block"] (spFenceOf K CV)
  bof : Df P w K mg base (L2.CX P w) 5 "blocks_of" s_blocks_of ["versions", "size"] (spBlocksOf K CV CN)
section
variable {P : Program} {w : World} {K : PySem.W.Frag} {mg : Str → Option Value} {base : Heap} {CV CN c : Addr}
theorem law_row (M : MG mg) (D : Ds P w K mg base CV CN) (f : Addr) (A : Around) (outer : List Env) (s : Shared) (H : Hp) (E : XK) (hr : Room 7 (A.deeper (envOfC "law" (defScope s_law) s.heap.objs.size f (.ref c)))) :
    ∃ t, PSs (XL P w K mg base f c A outer s H E) lawRow t ∧ ∀ (De : Ends) (x0 x1 x2 x3 x4 x5 x6 x9 : Option V) (hd q : Addr) (W : List Addr) (nm : Nat → List Nat) (low : Int) (i : Nat) (r : List (Nat × Nat)) (H1 : Hp) (kvs : List (List Key × V)), N4 nm → hd ∈ W → (∀ a ∈ W, ∃ o, H1 a = some o) →
      rowsI[i]? = some r → i ≤ 1000 → Dp K H1 (.ref q) (rowD (rr nm low r)) → H1 hd = some (.dT kvs) → Has K W nm low i H1 kvs →
      (∀ x9 H' kvs', Mv false W H1 H' → H' hd = some (.dT kvs') → Has K W nm low (i + 1) H' kvs' → De.nx [x0, x1, x2, x3, x4, x5, x6, some (.ref hd), some (.ref q), x9, none, none, none, none, none, none, none, none, none, none, none, none, none, none, none, none, none, none, none] H') →
      t De [x0, x1, x2, x3, x4, x5, x6, some (.ref hd), some (.ref q), x9, none, none, none, none, none, none, none, none, none, none, none, none, none, none, none, none, none, none, none] H1 := by
  refine ⟨_, pss_cons (ps_set (i := 9) sc_law.nd rfl (Or.inl rfl) (pd D.fence (hr.mono (by decide)) rfl (pa_cons (pv 8) pa_nil)))
    (pss_one (ps_dput (hu_of hr) (pv 7) (pv 9) (pe_callB (cr_sortS rfl) (by rfl) M.sorted (by decide +kernel) (pa_cons (pe_callTy (cr_setP rfl hr.units) (by rfl) M.set (by decide +kernel) (pa_cons (pe_op op_cat (pe_dget2 (hu_of hr) (pv 7) (pv 9) (pe_lst pa_nil) ⟨by rfl, by rfl, by rfl, by rfl⟩) (pe_callTy call_list_of (by rfl) M.list (by decide +kernel) (pa_cons (pv 8) pa_nil))) pa_nil)) pa_nil)) rfl)), ?_⟩
  intro De x0 x1 x2 x3 x4 x5 x6 x9 hd q W nm low i r H1 kvs N hdW hWt hri hi hq hkvs hHas hnx
  have mr := List.mem_of_getElem? hri
  have RO := row_ok mr
  refine ⟨_, rfl, _, rr nm low r, rfl, hq, fun e => RO.ne (List.map_eq_nil_iff.mp e), by rw [List.length_map]; exact Nat.le_trans RO.len (by decide), fun pf H2 s2 npf hpf => ?_⟩
  have hd2 := s2 _ _ hkvs
  refine ⟨_, rfl, hd, rfl, .inr ⟨kvs, .inl hd2⟩, _, rfl, Nat.zero_le _, fun l0 n0 => ?_⟩
  have s3 := Same.upd (o := .lst []) n0
  refine ⟨_, DGet.t (s3 _ _ hd2) (s3 _ _ hpf), ?_⟩
  have s13 := s2.trans s3
  have npW : ∀ {H' : Hp} {z : Addr}, Mv false W H1 H' → H' z = none → z ∉ W := fun m h hz => by
    obtain ⟨o, ho⟩ := hWt _ hz
    rcases m _ _ ho with ⟨_, _, o', h1, _⟩ | ⟨h1, _⟩ | h1
    · rw [h] at h1; cases h1
    · exact nomatch h1
    · rw [h] at h1; cases h1
  -- the list that stood there
  obtain ⟨l, rows, el, hl, ha, hcount, hm⟩ : ∃ (l : Addr) (rows : List SetP.Row), (valV kvs (fenK (rr nm low r))).getD (.ref l0) = .ref l ∧ upd H2 l0 (.lst []) l = some (.lst (vrefs rows)) ∧ RowsAt K (upd H2 l0 (.lst [])) rows ∧ rows.length ≤ 12 ∧
      ∀ k, k ∈ rows.map (·.2) ↔ ∃ r' ∈ rowsI.take i, codeI r' = codeI r ∧ ∃ p ∈ r', k = keyP nm low p := by
    cases e : valV kvs (fenK (rr nm low r)) with
    | none => exact ⟨l0, [], rfl, upd_same, fun _ z => (nomatch z), Nat.zero_le _, fun k => ⟨fun z => (nomatch z), fun ⟨r', h1, h2, _⟩ => absurd h2 (hHas.nil r mr e r' h1)⟩⟩
    | some v =>
      have hL := (hHas.lot r mr v e).mv (s13.mv (tb := false))
      obtain ⟨l', rows', e', hl', hc⟩ := hL.few
      obtain ⟨l, rows, ev, _, hl, ha, nd, m⟩ := hL.ex
      obtain rfl : l = l' := V.ref.inj (ev.symm.trans e')
      subst ev
      rw [hl] at hl'
      have el : rows.length = rows'.length := by
        have := congrArg List.length (HO.lst.inj (Option.some.inj hl'))
        simpa using this
      exact ⟨l, rows, rfl, hl, ha, by omega, m⟩
  rw [el]
  obtain ⟨aq, xs, e0, hS, hA⟩ := (Dp.same s13 _ _ hq).prts (ds := (rr nm low r).map pairD) rfl
  cases e0
  obtain ⟨rows2, rfl, ha2, hm2⟩ := rows_of r xs hA
  refine ⟨_, rfl, q, _, rfl, hS, fun l2 n2 => ?_⟩
  have s4 := Same.upd (o := .lst (vrefs rows2)) n2
  have hc2 : rows2.length ≤ 4 := by
    have := congrArg List.length hm2
    rw [List.length_map, List.length_map] at this
    have := RO.len
    omega
  refine ⟨l, l2, _, _, rfl, rfl, s4 _ _ hl, upd_same, Nat.le_trans (show (vrefs rows).length + (vrefs rows2).length ≤ 16 by rw [List.length_map, List.length_map]; omega) (by decide), fun l3 n3 => ?_⟩
  have s5 := Same.upd (o := .lst (vrefs rows ++ vrefs rows2)) n3
  have hcat : vrefs rows ++ vrefs rows2 = vrefs (rows ++ rows2) := List.map_append.symm
  have ha3 : RowsAt K (upd (upd (upd H2 l0 (.lst [])) l2 (.lst (vrefs rows2))) l3 (.lst (vrefs rows ++ vrefs rows2))) (rows ++ rows2) := fun x hx => by
    rcases List.mem_append.mp hx with z | z
    · exact s5.tup (s4.tup (ha x z))
    · exact s5.tup (s4.tup (ha2 x z))
  refine ⟨l3, rows ++ rows2, rfl, .inl (.inl (by rw [← hcat]; exact upd_same)), ha3, by rw [List.length_append]; omega, fun a4 L n4 hL1 hL2 nd => ?_⟩
  have s6 := Same.upd (o := SetO P w a4 L) n4
  have hsh : ∀ x ∈ L, shp x.2 = [true, false] := fun x hx => by
    have hk : x.2 ∈ (rows ++ rows2).map (·.2) := List.mem_map.mpr ⟨x, hL1 x hx, rfl⟩
    rw [List.map_append] at hk
    rcases List.mem_append.mp hk with z | z
    · obtain ⟨_, _, _, p, _, e⟩ := (hm x.2).mp z
      rw [e]; rfl
    · rw [hm2] at z
      obtain ⟨p, _, e⟩ := List.mem_map.mp z
      rw [← e]; rfl
  refine ⟨a4, L, true, [false], rfl, upd_same, fun x hx => s6.tup (ha3 x (hL1 x hx)), hsh, fun rows' l5 n5 pm _ => ?_⟩
  have s7 := Same.upd (o := .lst (vrefs rows')) n5
  have s17 := ((((s13.trans s4).trans s5).trans s6).trans s7)
  have s37 := ((s4.trans s5).trans s6).trans s7
  refine ⟨_, rfl, _, rfl, hd, _, rfl, DPut.t (s37 _ _ (s3 _ _ hd2)) (s37 _ _ (s3 _ _ hpf)) (Nat.lt_of_le_of_lt (Nat.le_trans hHas.len hi) (by decide)), ?_⟩
  have m17 : Mv false W H1 _ := s17.mv
  have n5W : l5 ∉ W := npW ((((s13.trans s4).trans s5).trans s6).mv) n5
  have hd7 := s37 _ _ (s3 _ _ hd2)
  have mU : ∀ o', mutO o' = true → Mv false W _ (upd (upd (upd (upd (upd (upd H2 l0 (.lst [])) l2 (.lst (vrefs rows2))) l3 (.lst (vrefs rows ++ vrefs rows2))) a4 (SetO P w a4 L)) l5 (.lst (vrefs rows'))) hd o') := fun o' h => Mv.upd hdW hd7 rfl h
  refine hnx _ _ _ (m17.trans (mU _ rfl)) upd_same ?_
  refine ((hHas.mv m17).mv (mU (.dT (putK kvs (fenK (rr nm low r)) (.ref l5))) rfl)).step N hri n5W ((mU (.dT (putK kvs (fenK (rr nm low r)) (.ref l5))) rfl).at_ upd_same (.inl n5W) fun x z => (nomatch z)) (fun x hx => ?_) ?_ fun k => ?_
  · exact (mU _ rfl).sqT (s7.tup (s6.tup (ha3 x (hL1 x (pm.mem_iff.mp hx)))))
  · exact (pm.map (·.2)).nodup_iff.mpr nd
  · have e1 : k ∈ rows'.map (·.2) ↔ k ∈ L.map (·.2) := (pm.map (·.2)).mem_iff
    have e2 : k ∈ L.map (·.2) ↔ k ∈ (rows ++ rows2).map (·.2) := ⟨fun z => by
      obtain ⟨x, hx, rfl⟩ := List.mem_map.mp z
      exact List.mem_map.mpr ⟨x, hL1 x hx, rfl⟩, fun z => by
      obtain ⟨x, hx, rfl⟩ := List.mem_map.mp z
      exact hL2 x hx⟩
    rw [e1, e2, List.map_append, List.mem_append, hm k, hm2]
    refine or_congr Iff.rfl ⟨fun z => ?_, fun ⟨p, hp, e⟩ => List.mem_map.mpr ⟨p, hp, e.symm⟩⟩
    obtain ⟨p, hp, e⟩ := List.mem_map.mp z
    exact ⟨p, hp, e.symm⟩
end
end K93
set_option Elab.async false
set_option linter.all false
set_option maxRecDepth 100000
set_option maxHeartbeats 4000000
namespace K93
open PySem PySem.Spec PyProof.Rows L2 Nam SetP Pen LamX LamB PlugX
/-! ### fences as data -/
section
variable {nm : Nat → List Nat} {low : Int}
def fenDs (nm : Nat → List Nat) (low : Int) (a b l g m : Nat) : List PyData := [.str (S (nm a)), .str (S (nm b)), .int (low + (l : Int)), .int (low + (g : Int)), .int (m : Nat)]
theorem fenceD_ds (N : N4 nm) (h1 : 1 ≤ low) {a b l g m : Nat} (ha : a < 4) (hb : b < 4) (hm : 1 ≤ m) {d : PyData} (hd : prts d = some (fenDs nm low a b l g m)) : fenceD d = fenceW (nm a) (nm b) (low + (l : Int)) (low + (g : Int)) (m : Nat) := by
  have wi : ∀ i : Int, 1 ≤ i → withinD (.int i) (some 1) none = true := fun i h => by
    unfold withinD
    simp only [Option.all_some, Option.all_none, Bool.and_true, decide_eq_true_eq]
    exact h
  unfold fenceD
  rw [hd]
  show (nameD (.str (S (nm a))) && (nameD (.str (S (nm b))) && ((withinD (.int (low + (l : Int))) (some 1) none && (withinD (.int (low + (g : Int))) (some 1) none && withinD (.int (m : Nat)) (some 1) none)) && fW5 (.str (S (nm a))) (.str (S (nm b))) (.int (low + (l : Int))) (.int (low + (g : Int))) (.int (m : Nat))))) = _
  rw [nameD_S (N.ok a ha), nameD_S (N.ok b hb), wi _ (by omega), wi _ (by omega), wi _ (by omega)]
  rfl
theorem small5_ds (N : N4 nm) (hl : low ≤ 2 ^ 40) {a b l g m : Nat} (ha : a < 4) (hb : b < 4) (h3 : l < 3) (h4 : g < 3) (h5 : m ≤ 1000) {d : PyData} (hd : prts d = some (fenDs nm low a b l g m)) : small5 d := by
  intro ds e
  rw [hd] at e
  cases e
  refine ⟨by show 5 ≤ 1000; decide, fun x hx => ?_, fun x hx => ?_⟩
  · simp only [fenDs, List.mem_cons, List.not_mem_nil, or_false] at hx
    rcases hx with z | z | z | z | z <;> rw [z]
    · exact small_S (N.ok a ha)
    · exact small_S (N.ok b hb)
    all_goals trivial
  · simp only [fenDs, List.mem_cons, List.not_mem_nil, or_false] at hx
    rcases hx with z | z | z | z | z <;> rw [z]
    · trivial
    · trivial
    · show low + (l : Int) < 2 ^ 62; omega
    · show low + (g : Int) < 2 ^ 62; omega
    · show (m : Int) < 2 ^ 62; omega
theorem slim_ds {a b l g m : Nat} {d : PyData} (hd : prts d = some (fenDs nm low a b l g m)) : slim d = true ∧ PyData.depth d < 4 := by
  rcases prts_or hd with e | e <;> (subst e; exact ⟨by simp [slim, slimL, fenDs], by simp [fenDs, PyData.depth, PyData.depthAll]⟩)
theorem mayD_ds {a b l g m : Nat} {d : PyData} (hd : prts d = some (fenDs nm low a b l g m)) (k : List Nat) (n : Int) : mayD d (.str (S k)) (.int n) = canW (nm a) (nm b) (low + (l : Int)) (low + (g : Int)) (m : Nat) k n := by
  unfold mayD
  rw [hd]; rfl
theorem fence_yes {r : List (Nat × Nat)} (h : r ∈ rowsI) : fencI (hdN r) (lsN r) (mnN r) (mxN r) r.length = true := by
  have R := (row_ok h).rng
  have q := chk_any R.a R.b R.l R.g R.m R.m'
  unfold chk1 at q
  cases f : fencI (hdN r) (lsN r) (mnN r) (mxN r) r.length with
  | true => rfl
  | false =>
    rw [f] at q
    exfalso
    obtain ⟨p, hp⟩ := List.exists_mem_of_ne_nil r (row_ok h).ne
    have hp3 := (row_ok h).lt p hp
    have := (or_iff (c := codeI r) hp3.1 hp3.2).mpr ⟨r, h, rfl, hp⟩
    have e : orI (codeI r) = 0 := Nat.eq_of_beq_eq_true q
    rw [e, Nat.zero_testBit] at this
    exact nomatch this
theorem fen_vals {r : List (Nat × Nat)} (h : RowOk r) : (fenK (rr nm low r)).map kV = [.str (S (nm (hdN r))), .str (S (nm (lsN r))), .int (low + (mnN r : Nat)), .int (low + (mxN r : Nat)), .int (r.length : Nat)] := by
  rw [fen_real h]; rfl
theorem dp_fen {K : PySem.W.Frag} {H : Hp} (a b l g m : Nat) : DpAll K H [.str (S (nm a)), .str (S (nm b)), .int (low + (l : Int)), .int (low + (g : Int)), .int (m : Nat)] (fenDs nm low a b l g m) :=
  .cons (.str _) (.cons (.str _) (.cons (.int _) (.cons (.int _) (.cons (.int _) .nil))))
end
/-! ### one turn of the laps -/
theorem tabs_mv {T : List (Addr × Str)} {W : List Addr} {H H' : Hp} (h : Tabs T H) (s : Mv false W H H') : Tabs T H' := fun p hp => by
  obtain ⟨ps, h1, h2, h3⟩ := h p hp
  have at_ : ∀ {a : Addr} {o : HO}, H a = some o → mutO o = false → H' a = some o := fun {a o} e m => by
    rcases s a o e with ⟨_, q, _⟩ | ⟨q, _⟩ | q
    · rw [m] at q; cases q
    · cases q
    · exact q
  refine ⟨ps, at_ h1 rfl, h2, fun pos cv hc => ?_⟩
  obtain ⟨c, e1, e2⟩ := h3 pos cv hc
  exact ⟨c, e1, at_ e2 rfl⟩
structure LS (K : PySem.W.Frag) (T : List (Addr × Str)) (nm : Nat → List Nat) (low : Int) (p q nl ml el hd fl : Addr) (n : Nat) (H : Hp) : Prop where
  pen : PenAt H p q n
  tabs : Tabs T H
  names : DW K [p] H (.ref nl) (.list (([0, 1, 2, 3].map fun i => S (nm i)).map .str))
  nums : DW K [p] H (.ref ml) (.list (([0, 1, 2].map fun j : Nat => low + (j : Int)).map .int))
  every : DW K [p] H (.ref el) (.list ((rowsI.map (rr nm low)).map rowD))
  has : ∃ kvs, H hd = some (.dT kvs) ∧ Has K [p] nm low rowsI.length H kvs
  hne : hd ≠ p
  fne : fl ≠ p
  fen : ∃ xs, H fl = some (.lst xs) ∧ 0 < xs.length ∧ xs.length ≤ 1000 ∧ ∀ x ∈ xs, ∃ b r, x = .ref b ∧ r ∈ rowsI ∧ H b = some (.tup ((fenK (rr nm low r)).map kV))
theorem LS.mv {tb : Bool} {K : PySem.W.Frag} {T : List (Addr × Str)} {nm : Nat → List Nat} {low : Int} {p q nl ml el hd fl : Addr} {n n' : Nat} {H H' : Hp} (h : LS K T nm low p q nl ml el hd fl n H) (s : Mv tb [p] H H') (hp : PenAt H' p q n') (ht : Tabs T H') : LS K T nm low p q nl ml el hd fl n' H' := by
  obtain ⟨kvs, h1, h2⟩ := h.has
  obtain ⟨xs, f1, f2, f3, f4⟩ := h.fen
  refine ⟨hp, ht, s.dw' h.names, s.dw' h.nums, s.dw' h.every, ⟨kvs, s.at_ h1 (.inl fun z => h.hne (List.mem_singleton.mp z)) fun x z => (nomatch z), h2.mv s⟩, h.hne, h.fne, xs, s.at_ f1 (.inl fun z => h.fne (List.mem_singleton.mp z)) fun x z => (nomatch z), f2, f3, fun x hx => ?_⟩
  obtain ⟨b, r, e, hr, hb⟩ := f4 x hx
  exact ⟨b, r, e, hr, s.at_ hb (.inr rfl) fun x z => nomatch z⟩
def rev3 {α : Type} : List α → List α
  | [a, b, c] => [c, b, a]
  | l => l
theorem KB_may : ∀ (kV doc pm : Value) (an : Option Addr) (cdv ct : Value) (ws : List Value), (rev3 ws).length = (["fence", "key", "number"] : List Str).length → bindArgs (PySem.W.fnOf "may_have" "may_have" (defArgs s_may_have) (defBody s_may_have) (defScope s_may_have) .none kV doc pm an cdv ct) ⟨[], (["number", "key", "fence"] : List Str).zip ws⟩ = pure ((["fence", "key", "number"] : List Str).zip (rev3 ws)) :=
  fun _ _ _ _ _ _ ws hl => match ws, hl with
  | [], h => nomatch h
  | [_], h => nomatch h
  | [_, _], h => nomatch h
  | [_, _, _], _ => rfl
  | _ :: _ :: _ :: _ :: _, h => (nomatch h)
theorem KR_rev {zs : List V} {ws : List Value} (h : Vals zs ws) : Vals (rev3 zs) (rev3 ws) := by
  cases h with
  | nil => exact .nil
  | cons a r => cases r with
    | nil => exact .cons a .nil
    | cons b t => cases t with
      | nil => exact .cons a (.cons b .nil)
      | cons c u => cases u with
        | nil => exact .cons c (.cons b (.cons a .nil))
        | cons d v => exact .cons a (.cons b (.cons c (.cons d v)))
theorem pen_ext {H H' : Hp} {p q : Addr} {n : Nat} (h : PenAt H p q n) (e : ExtN H H') : PenAt H' p q n := by
  obtain ⟨ns, lap, rest, h1, h2, h3, h4⟩ := h
  exact ⟨ns, lap, rest, h1, e _ _ h2 fun x z => (nomatch z), e _ _ h3 fun x z => (nomatch z), h4⟩
theorem tCons_R {te : TE} {ta : TA} {σ : L2.St} {H : Hp} {Q : List V → Hp → Prop} (R : V → Hp → Prop) (h : ∀ Q' : VK, (∀ v H', R v H' → Q' v H') → te σ H Q') (g : ∀ v H', R v H' → ta σ H' fun vs H2 => Q (v :: vs) H2) : tCons te ta σ H Q := h _ g
theorem shaped_pair {k : List Nat} (h : Nm k) (n : Int) : SeqAt.shaped (.tuple [.str (S k), .int n]) = true := by
  refine shaped_tuple fun d hd => ?_
  simp only [List.mem_cons, List.not_mem_nil, or_false] at hd
  rcases hd with e | e <;> rw [e]
  · exact ⟨strOk_nm h, Nat.zero_le _⟩
  · exact ⟨rfl, Nat.zero_le _⟩
theorem shaped_lots {nm : Nat → List Nat} {low : Int} (N : N4 nm) {rows : List SetP.Row} (h : ∀ x ∈ rows, ∃ p : Nat × Nat, p.1 < 4 ∧ x.2 = keyP nm low p) : SeqAt.shaped (.list (rows.map fun r => .tuple (r.2.map kD))) = true := by
  refine shaped_list fun d hd => ?_
  obtain ⟨x, hx, rfl⟩ := List.mem_map.mp hd
  obtain ⟨p, hp, e⟩ := h x hx
  rw [e, keyP_D]
  obtain ⟨a, b⟩ := pair_lay (p := rl nm low p) (strOk_nm (N.ok _ hp))
  exact ⟨a, Nat.le_trans b (by decide)⟩
/-- a key that is picked -/
theorem key_pick {h ls : List Nat} {x : V} (hh : h ∈ heads) (hl : ls ∈ letters) (hx : x ∈ ([0, 1, 2, 3].map fun i => S (nmOf h ls i)).map V.str ++ [V.str (S h), .str (S h ++ "z"), .str "a"]) : ∃ k, x = .str (S k) ∧ KeyOk h ls k := by
  obtain ⟨N, k1, k2, k3⟩ := names_ok hh hl
  rcases List.mem_append.mp hx with z | z
  · obtain ⟨y, hy, rfl⟩ := List.mem_map.mp z
    obtain ⟨i, hi, rfl⟩ := List.mem_map.mp hy
    have hi4 : i < 4 := by
      simp only [List.mem_cons, List.not_mem_nil, or_false] at hi
      omega
    exact ⟨_, rfl, N.ok i hi4, .inl ⟨i, hi4, rfl⟩⟩
  · simp only [List.mem_cons, List.not_mem_nil, or_false] at z
    rcases z with e | e | e
    · exact ⟨h, e, k1⟩
    · exact ⟨h ++ [122], by rw [e, ← S_app, ← z_S], k2⟩
    · exact ⟨[97], by rw [e, ← a_S], k3⟩
theorem num_pick {low : Int} {x : V} (hx : x ∈ ([0, 1, 2].map fun j : Nat => low + (j : Int)).map V.int ++ [V.int 0, .int (low + 3), .int (-1), .int (low - 1)]) : ∃ n, x = .int n := by
  rcases List.mem_append.mp hx with z | z
  · obtain ⟨y, _, rfl⟩ := List.mem_map.mp z
    exact ⟨y, rfl⟩
  · simp only [List.mem_cons, List.not_mem_nil, or_false] at z
    rcases z with e | e | e | e <;> exact ⟨_, e⟩
/-- a fence with one part otherwise -/
theorem near_set {nm : Nat → List Nat} {low : Int} {a b l g m : Nat} (ha : a < 4) (hb : b < 4) (hl : l < 3) (hg : g < 3) (hm : 1 ≤ m) (hm' : m ≤ 4) {d : Int} (d0 : 0 ≤ d) (d1 : d < 5) {x : V}
    (hx : (d < 2 → x ∈ ([0, 1, 2, 3].map fun i => S (nm i)).map V.str) ∧ (¬ d < 2 → d < 4 → x ∈ ([0, 1, 2].map fun j : Nat => low + (j : Int)).map V.int) ∧ (¬ d < 2 → ¬ d < 4 → x ∈ [V.int 1, .int 2, .int 3, .int 4])) :
    ∃ a' b' l' g' m' : Nat, a' < 4 ∧ b' < 4 ∧ l' < 3 ∧ g' < 3 ∧ 1 ≤ m' ∧ m' ≤ 4 ∧ [V.str (S (nm a)), .str (S (nm b)), .int (low + (l : Int)), .int (low + (g : Int)), .int (m : Nat)].set d.toNat x = [V.str (S (nm a')), .str (S (nm b')), .int (low + (l' : Int)), .int (low + (g' : Int)), .int (m' : Nat)] := by
  have hs : d < 2 → ∃ i, i < 4 ∧ x = .str (S (nm i)) := fun h => by
    obtain ⟨y, hy, rfl⟩ := List.mem_map.mp (hx.1 h)
    obtain ⟨i, hi, rfl⟩ := List.mem_map.mp hy
    refine ⟨i, ?_, rfl⟩
    simp only [List.mem_cons, List.not_mem_nil, or_false] at hi
    omega
  have hn : ¬ d < 2 → d < 4 → ∃ j : Nat, j < 3 ∧ x = .int (low + (j : Int)) := fun h h' => by
    obtain ⟨y, hy, rfl⟩ := List.mem_map.mp (hx.2.1 h h')
    obtain ⟨j, hj, rfl⟩ := List.mem_map.mp hy
    refine ⟨j, ?_, rfl⟩
    simp only [List.mem_cons, List.not_mem_nil, or_false] at hj
    omega
  have hq : ¬ d < 2 → ¬ d < 4 → ∃ j : Nat, 1 ≤ j ∧ j ≤ 4 ∧ x = .int (j : Nat) := fun h h' => by
    have z := hx.2.2 h h'
    simp only [List.mem_cons, List.not_mem_nil, or_false] at z
    rcases z with e | e | e | e
    · exact ⟨1, by decide, by decide, e⟩
    · exact ⟨2, by decide, by decide, e⟩
    · exact ⟨3, by decide, by decide, e⟩
    · exact ⟨4, by decide, by decide, e⟩
  have hd : d = 0 ∨ d = 1 ∨ d = 2 ∨ d = 3 ∨ d = 4 := by omega
  rcases hd with e | e | e | e | e <;> subst e
  · obtain ⟨i, hi, rfl⟩ := hs (by decide)
    exact ⟨i, b, l, g, m, hi, hb, hl, hg, hm, hm', rfl⟩
  · obtain ⟨i, hi, rfl⟩ := hs (by decide)
    exact ⟨a, i, l, g, m, ha, hi, hl, hg, hm, hm', rfl⟩
  · obtain ⟨i, hi, rfl⟩ := hn (by decide) (by decide)
    exact ⟨a, b, i, g, m, ha, hb, hi, hg, hm, hm', rfl⟩
  · obtain ⟨i, hi, rfl⟩ := hn (by decide) (by decide)
    exact ⟨a, b, l, i, m, ha, hb, hl, hi, hm, hm', rfl⟩
  · obtain ⟨i, hi, hi', rfl⟩ := hq (by decide) (by decide)
    exact ⟨a, b, l, g, i, ha, hb, hl, hg, hi, hi', rfl⟩
section
variable {P : Program} {w : World} {K : PySem.W.Frag} {mg : Str → Option Value} {base : Heap} {CP CV CN CM CNn CE CT c Pt : Addr}
theorem law_turn (M : MG mg) (K1 : ErrK K mg CP CV CN CM CNn CE CT) (RV : ErrR K CP CV CN CM CV "value") (D : Ds P w K mg base CV CN) (S0 : St0 K mg "_law_error" s_law_error ["ask"]) (TB : LamX.TabB base mg c Pt)
    (f : Addr) (A : Around) (outer : List Env) (s : Shared) (H : Hp) (E : XK) (hr : Room 7 (A.deeper (envOfC "law" (defScope s_law) s.heap.objs.size f (.ref c)))) (T : List (Addr × Str)) (eT : T = [(Pt, (XL P w K mg base f c A outer s H E).env.qual ++ "<lambda>")]) :
    ∃ t, PSs (XL P w K mg base f c A outer s H E) lawTurn t ∧ ∀ (De : Ends) (x0 x6 x8 x9 x11 x12 x13 x14 x15 x23 : Option V) (h : List Nat) (p q nl ml el hd fl : Addr) (ls : List Nat) (low : Int) (n : Nat) (H1 : Hp), h ∈ heads → ls ∈ letters → 1 ≤ low → low ≤ 2 ^ 40 → n ≤ 900000 → LS K T (nmOf h ls) low p q nl ml el hd fl n H1 →
      (∀ x9 x12 x13 x14 x15 x23 H', LS K T (nmOf h ls) low p q nl ml el hd fl (n + 5) H' → De.nx [x0, some (.ref p), some (.str (S h)), some (.ref nl), some (.int low), some (.ref ml), x6, some (.ref hd), x8, x9, some (.ref fl), x11, x12, x13, x14, x15, none, none, none, none, none, none, none, x23, none, none, none, none, none] H') →
      t De [x0, some (.ref p), some (.str (S h)), some (.ref nl), some (.int low), some (.ref ml), x6, some (.ref hd), x8, x9, some (.ref fl), x11, x12, x13, x14, x15, none, none, none, none, none, none, none, x23, none, none, none, none, none] H1 := by
  have hmT : (Pt, (XL P w K mg base f c A outer s H E).env.qual ++ "<lambda>") ∈ T := by rw [eT]; exact List.mem_cons_self
  have hu : ∀ p ∈ T, p.1 = Pt → p.2 = (XL P w K mg base f c A outer s H E).env.qual ++ "<lambda>" := fun p hp _ => by
    rw [eT] at hp
    rw [List.mem_singleton.mp hp]
  have h65 : (XL P w K mg base f c A outer s H E).A.units + 65 < cLine := by
    have := hr.un
    show (A.deeper (envOfC "law" (defScope s_law) s.heap.objs.size f (.ref c))).units + 65 < cLine
    omega
  refine ⟨_, (pss_cons (ps_set (i := 9) sc_law.nd rfl (Or.inl rfl) (pd D.pick (hr.mono (by decide)) rfl (pa_cons (pv 1) (pa_cons (pv 10) pa_nil))))
  (pss_cons (ps_asg (pe_tup (pa_cons (pd D.pick (hr.mono (by decide)) rfl (pa_cons (pv 1) (pa_cons (pe_op op_cat (pv 3) (pe_lst (pa_cons (pv 2) (pa_cons (pe_op op_add_str (pv 2) pe_str) (pa_cons pe_str pa_nil))))) pa_nil))) (pa_cons (pd D.pick (hr.mono (by decide)) rfl (pa_cons (pv 1) (pa_cons (pe_op op_cat (pv 5) (pe_lst (pa_cons pe_int (pa_cons (pe_op op_add (pv 4) pe_int) (pa_cons (pe_un un_neg pe_int) (pa_cons (pe_op op_sub (pv 4) pe_int) pa_nil)))))) pa_nil))) pa_nil))) (pg_tup rfl (pgs_cons (pg_name (i := 14) sc_law.nd rfl (Or.inr rfl)) (pgs_cons (pg_name (i := 15) sc_law.nd rfl (Or.inr rfl)) pgs_nil))))
  (pss_cons (ps_set (i := 12) sc_law.nd rfl (Or.inl rfl) (pe_callB call_repr_bool (by rfl) M.repr (by decide +kernel) (pa_cons (pe_cmpR (op_inD h65) (pe_tup (pa_cons (pv 14) (pa_cons (pv 15) pa_nil))) (pe_dget (hu_of hr) (pv 7) (pv 9) (fun _ _ => rfl)) (by rfl)) pa_nil)))
  (pss_cons (ps_if (PW.pt (pw_or (pt_cmpR op_ne (pe_callB call_repr_bool (by rfl) M.repr (by decide +kernel) (pa_cons (pdN D.may (hr.mono (by decide)) rfl (pa_cons (pv 9) (pa_cons (pv 14) (pa_cons (pv 15) pa_nil)))) pa_nil)) (pv 12) (nomark _)) (pw_or1 (pt_cmpR op_ne (pe_callB call_repr_bool (by rfl) M.repr (by decide +kernel) (pa_cons (pdK (ks := ["number", "key", "fence"]) (g := rev3) D.may (hr.mono (by decide)) rfl passN KB_may KR_rev (pk_cons (pv 15) (pk_cons (pv 14) (pk_cons (pe_callTy call_list_of (by rfl) M.list (by decide +kernel) (pa_cons (pv 9) pa_nil)) pk_nil)))) pa_nil)) (pv 12) (nomark _))))) (pss_one (ps_ret pe_bl)) pss_nil)
  (pss_cons (ps_set (i := 23) sc_law.nd rfl (Or.inr rfl) (pe_callTy call_list_of (by rfl) M.list (by decide +kernel) (pa_cons (pv 9) pa_nil)))
  (pss_cons (ps_set (i := 13) sc_law.nd rfl (Or.inl rfl) (pd D.draw (hr.mono (by decide)) rfl (pa_cons (pv 1) (pa_cons pe_int pa_nil))))
  (pss_cons (ps_asg (pd D.pick (hr.mono (by decide)) rfl (pa_cons (pv 1) (pa_cons (pe_ifExp (pt_cmpR op_lt (pv 13) pe_int (nomark _)) (pv 3) (pe_ifExp (pt_cmpR op_lt (pv 13) pe_int (nomark _)) (pv 5) (pe_lst (pa_cons pe_int (pa_cons pe_int (pa_cons pe_int (pa_cons pe_int pa_nil))))))) pa_nil))) (pg_sub (pv 23) (pv 13) set_list))
  (pss_one (ps_if (PW.pt (pw_and (pt_cmp (pc_dnotin (hu_of hr) (pe_callTy call_tuple_of (by rfl) M.tuple (by decide +kernel) (pa_cons (pv 23) pa_nil)) (pv 7))) (pw_and1 (pt_cmpR (op_neD hr.units) (pe_err (T := T) (k := 5) M K1 S0 rfl TB rfl hmT hu (hr.mono (by decide)) (show LamS (defScope s_law) _ from lamS_by (by decide +kernel)) rfl (fun _ _ _ _ _ => rfl) (fun A' o' s' H' E' f' c' hr' => pdX (fun _ _ _ _ h => h) (takes_of rfl rfl rfl rfl) D.may (hr'.mono (by decide)) rfl (pa_cons (pv 23) (pa_cons (pv 14) (pa_cons (pv 15) pa_nil))))) (pe_tup (pa_cons pe_str (pa_cons pe_str pa_nil))) (nomark _))))) (pss_one (ps_ret pe_bl)) pss_nil))))))))), ?_⟩
  intro De x0 x6 x8 x9 x11 x12 x13 x14 x15 x23 h p q nl ml el hd fl ls low n H1 hh hls h1 hlow hn LS0 hnx
  obtain ⟨N, _, _, _⟩ := names_ok hh hls
  obtain ⟨nm, enm⟩ : ∃ nm, nm = nmOf h ls := ⟨_, rfl⟩
  have W1 : ∀ {a : Addr}, a ∉ [p] → a ≠ p := fun h z => h (by rw [z]; exact List.mem_singleton.mpr rfl)
  have W2 : ∀ {a : Addr}, a ≠ p → a ∉ [p] := fun h z => h (List.mem_singleton.mp z)
  have pW : p ∈ [p] := List.mem_singleton.mpr rfl
  obtain ⟨xsf, hf1, hf2, hf3, hf4⟩ := LS0.fen
  refine ⟨_, rfl, _, rfl, p, q, fl, xsf, n, rfl, LS0.fne, .inl (.inl hf1), hf2, by omega, LS0.pen, by omega, fun x H2 hx k2 P2 => ?_⟩
  have m2 : Mv false [p] H1 H2 := k2.pen pW LS0.pen P2
  have L2' := LS0.mv m2 P2 (tabs_mv LS0.tabs m2)
  obtain ⟨b, r0, rfl, hr0, hb1⟩ := hf4 x hx
  have hb2 : H2 b = some (.tup ((fenK (rr (nmOf h ls) low r0)).map kV)) := m2.at_ hb1 (.inr rfl) fun x z => (nomatch z)
  have RO := row_ok hr0
  have R := RO.rng
  -- key
  obtain ⟨nln, xn, hn1, hn2⟩ := dw_list L2'.names
  have exn := dw_strs _ _ hn2
  subst exn
  have lenS : (S h ++ "z").length ≤ sizeLine := by
    have e : (S h ++ "z" : Str) = S (h ++ [122]) := by rw [← S_app, ← z_S]
    rw [e, S_len, List.length_append]
    have : h.length = 7 := by
      simp only [heads, List.mem_cons, List.not_mem_nil, or_false] at hh
      rcases hh with e | e | e <;> rw [e] <;> rfl
    rw [this]; decide
  refine ⟨_, rfl, _, rfl, _, rfl, _, rfl, _, _, rfl, rfl, ?_, by show 3 ≤ sizeLine; decide, fun l3 n3 => ?_⟩
  · have e : ∀ x y : Str, (x ++ y).length = x.length + y.length := fun x y => by
      show (x.cps ++ y.cps).size = _
      rw [Array.size_append]; rfl
    rw [← e]; exact lenS
  have s3 := Same.upd (o := .lst [.str (S h), .str (S h ++ "z"), .str "a"]) n3
  refine ⟨nl, l3, _, _, rfl, rfl, s3 _ _ hn1, upd_same, by show 7 ≤ sizeLine; decide, fun p4 n4 => ?_⟩
  have s4 := Same.upd (o := .lst (([0, 1, 2, 3].map fun i => S (nmOf h ls i)).map V.str ++ [.str (S h), .str (S h ++ "z"), .str "a"])) n4
  have s24 := s3.trans s4
  have P4 := P2.same s24
  refine ⟨p, q, p4, _, n + 1, rfl, ((P2.same s3).hp n4).1, .inl (.inl upd_same), by simp, by simp, P4, by omega, fun key H5 hkey k5 P5 => ?_⟩
  obtain ⟨k, rfl, hkOk⟩ := key_pick hh hls hkey
  have m5 : Mv false [p] H2 H5 := s24.mv.trans (k5.pen pW P4 P5)
  have L5 := L2'.mv m5 P5 (tabs_mv L2'.tabs m5)
  -- number
  obtain ⟨nlm, xm, hm1, hm2⟩ := dw_list L5.nums
  have exm := dw_ints _ _ hm2
  subst exm
  refine ⟨_, rfl, _, rfl, _, rfl, _, _, rfl, rfl, 1, rfl, _, rfl, _, _, rfl, rfl, by show 4 ≤ sizeLine; decide, fun l6 n6 => ?_⟩
  have s6 := Same.upd (o := .lst [V.int 0, .int (low + 3), .int (-1), .int (low - 1)]) n6
  refine ⟨ml, l6, _, _, rfl, rfl, s6 _ _ hm1, upd_same, by show 7 ≤ sizeLine; decide, fun p7 n7 => ?_⟩
  have s7 := Same.upd (o := .lst (([0, 1, 2].map fun j : Nat => low + (j : Int)).map V.int ++ [V.int 0, .int (low + 3), .int (-1), .int (low - 1)])) n7
  have s57 := s6.trans s7
  have P7 := P5.same s57
  refine ⟨p, q, p7, _, n + 2, rfl, ((P5.same s6).hp n7).1, .inl (.inl upd_same), by simp, by simp, P7, by omega, fun num H8 hnum k8 P8 => ?_⟩
  obtain ⟨z, rfl⟩ := num_pick hnum
  have m8 : Mv false [p] H5 H8 := s57.mv.trans (k8.pen pW P7 P8)
  refine ⟨by show 2 ≤ sizeLine; decide, fun T9 nT9 => ⟨T9, _, rfl, .inl (.inl upd_same), rfl, _, _, rfl, _, _, rfl, rfl, ?_⟩⟩
  obtain ⟨H9, eH9⟩ : ∃ H9, H9 = upd H8 T9 (.tup [.str (S k), .int z]) := ⟨_, rfl⟩
  have s9 : Same H8 H9 := by rw [eH9]; exact .upd nT9
  rw [← eH9]
  have m29 : Mv false [p] H2 H9 := (m5.trans m8).trans s9.mv
  have L9 := L2'.mv m29 (P8.same s9) (tabs_mv L2'.tabs m29)
  have hb9 : H9 b = some (.tup ((fenK (rr (nmOf h ls) low r0)).map kV)) := m29.at_ hb2 (.inr rfl) fun x z => (nomatch z)
  -- due
  refine ⟨_, rfl, _, rfl, by show 2 ≤ sizeLine; decide, fun t3 nt3 => ?_⟩
  have s10 := Same.upd (o := .tup [.str (S k), .int z]) nt3
  obtain ⟨kvs, hkv, hHas⟩ := L9.has
  obtain ⟨v, hv⟩ : ∃ v, valV kvs (fenK (rr (nmOf h ls) low r0)) = some v := by
    cases e : valV kvs (fenK (rr (nmOf h ls) low r0)) with
    | none => exact absurd rfl (hHas.nil r0 hr0 e r0 (by rw [List.take_length]; exact hr0))
    | some v => exact ⟨v, rfl⟩
  refine ⟨_, rfl, _, rfl, hd, v, rfl, by rw [← hv]; exact DGet.t (s10 _ _ hkv) (s10 _ _ hb9), ?_⟩
  obtain ⟨l, rows, rfl, nlW, hl, ha, nd, hm⟩ := (hHas.lot r0 hr0 v hv).ex
  have hkeys : ∀ x ∈ rows, ∃ p : Nat × Nat, p.1 < 4 ∧ x.2 = keyP (nmOf h ls) low p := fun x hx => by
    obtain ⟨r', hr', _, p', hp', e⟩ := (hm x.2).mp (List.mem_map.mpr ⟨x, hx, rfl⟩)
    exact ⟨p', ((row_ok (List.mem_of_mem_take hr')).lt p' hp').1, e⟩
  have hdp := dp_rows (K := K) rows fun x hx => s10.tup (ha x hx)
  refine ⟨.tuple [.str (S k), .int z], rows.map fun r : SetP.Row => PyData.tuple (List.map kD r.2), .tup (.inl (.inl upd_same)) (.cons (.str _) (.cons (.int _) .nil)), .lst (.inl (.inl (s10 _ _ hl))) hdp, shaped_pair hkOk.1 z, shaped_lots N hkeys, _, rfl, ?_⟩
  obtain ⟨B, eB⟩ : ∃ B, B = canW (nmOf h ls (hdN r0)) (nmOf h ls (lsN r0)) (low + (mnN r0 : Nat)) (low + (mxN r0 : Nat)) (r0.length : Nat) k z := ⟨_, rfl⟩
  have eAny : ((rows.map fun r => PyData.tuple (r.2.map kD)).any fun y => PyData.eqv y (.tuple [.str (S k), .int z])) = B := by
    rw [eB, Bool.eq_iff_iff, due_real N hr0 hkOk.2]
    exact lot_any hm
  rw [eAny]
  obtain ⟨H11, eH11⟩ : ∃ H11, H11 = upd H9 t3 (.tup [.str (S k), .int z]) := ⟨_, rfl⟩
  rw [← eH11]
  rw [← eH11] at s10
  have m11 : Mv false [p] H9 H11 := s10.mv
  have L11 := L9.mv m11 (L9.pen.same s10) (tabs_mv L9.tabs m11)
  have hb11 := s10 _ _ hb9
  rw [fen_vals RO] at hb11
  have hyes : fenceW (nmOf h ls (hdN r0)) (nmOf h ls (lsN r0)) (low + (mnN r0 : Nat)) (low + (mxN r0 : Nat)) (r0.length : Nat) = true := by rw [fence_real N R.a R.b R.m]; exact fence_yes hr0
  -- may_have
  have pk : ∀ d : PyData, prts d = some (fenDs (nmOf h ls) low (hdN r0) (lsN r0) (mnN r0) (mxN r0) r0.length) → fenceD d = true ∧ small5 d ∧ (slim d = true ∧ PyData.depth d < 4) ∧ mayD d (.str (S k)) (.int z) = B := fun d hp' =>
    ⟨by rw [fenceD_ds N h1 R.a R.b R.m hp']; exact hyes, small5_ds N hlow R.a R.b R.l R.g (by have := R.m'; omega) hp', slim_ds hp', by rw [mayD_ds hp', ← eB]⟩
  have ny : nameD (.str (S k)) = true := nameD_S hkOk.1
  have ff : ∀ {b : Bool} {G : Prop}, b = true → b = false → G := fun e e' => by rw [e] at e'; cases e'
  have noNe : ∀ x : V, (!decide (x = x)) = false := fun x => by rw [decide_eq_true rfl]; rfl
  dsimp only [gName]
  refine seq_F (fun H' => Same H11 H') (fun G hG => ?_) (fun H12 s12 => ?_)
  · obtain ⟨y1, y2, y3, y4⟩ := pk (.tuple (fenDs (nmOf h ls) low (hdN r0) (lsN r0) (mnN r0) (mxN r0) r0.length)) rfl
    refine ⟨_, rfl, _, rfl, _, rfl, _, _, _, .tuple (fenDs (nmOf h ls) low (hdN r0) (lsN r0) (mnN r0) (mxN r0) r0.length), .str (S k), .int z, rfl, .tup (.inl (.inl hb11)) (dp_fen _ _ _ _ _), .str _, .int _, y2, y3.1, y3.2, small_S hkOk.1, ff y1, fun _ => ff ny, fun _ _ e => (nomatch e), fun _ _ _ H' s' => ?_⟩
    rw [y4]
    refine ⟨_, rfl, _, rfl, rfl, _, rfl, ?_⟩
    rw [noNe]
    refine iteF ⟨_, rfl, _, rfl, _, rfl, b, _, rfl, .inr (.inl (.inl (s' _ _ hb11))), fun l8 nl8 => ?_⟩
    have s8' := Same.upd (o := .lst [V.str (S (nmOf h ls (hdN r0))), .str (S (nmOf h ls (lsN r0))), .int (low + (mnN r0 : Nat)), .int (low + (mxN r0 : Nat)), .int (r0.length : Nat)]) nl8
    obtain ⟨y1, y2, y3, y4⟩ := pk (.list (fenDs (nmOf h ls) low (hdN r0) (lsN r0) (mnN r0) (mxN r0) r0.length)) rfl
    refine ⟨_, _, _, .list (fenDs (nmOf h ls) low (hdN r0) (lsN r0) (mnN r0) (mxN r0) r0.length), .str (S k), .int z, rfl, .lst (.inl (.inl upd_same)) (dp_fen _ _ _ _ _), .str _, .int _, y2, y3.1, y3.2, small_S hkOk.1, ff y1, fun _ => ff ny, fun _ _ e => (nomatch e), fun _ _ _ H'' s'' => ?_⟩
    rw [y4]
    refine ⟨_, rfl, _, rfl, rfl, _, rfl, ?_⟩
    rw [noNe]
    exact hG _ ((s'.trans s8').trans s'')
  have m12 : Mv false [p] H11 H12 := s12.mv
  have L12 := L11.mv m12 (L11.pen.same s12) (tabs_mv L11.tabs m12)
  -- near
  refine ⟨_, rfl, b, _, rfl, .inr (.inl (.inl (s12 _ _ hb11))), fun nr nnr => ?_⟩
  obtain ⟨H13, eH13⟩ : ∃ H13, H13 = upd H12 nr (.lst [V.str (S (nmOf h ls (hdN r0))), .str (S (nmOf h ls (lsN r0))), .int (low + (mnN r0 : Nat)), .int (low + (mxN r0 : Nat)), .int (r0.length : Nat)]) := ⟨_, rfl⟩
  have s13 : Same H12 H13 := by rw [eH13]; exact .upd nnr
  have hnr13 : H13 nr = some (.lst [V.str (S (nmOf h ls (hdN r0))), .str (S (nmOf h ls (lsN r0))), .int (low + (mnN r0 : Nat)), .int (low + (mxN r0 : Nat)), .int (r0.length : Nat)]) := by rw [eH13]; exact upd_same
  rw [← eH13]
  have nrp : nr ≠ p := (L12.pen.hp nnr).1
  have m13 : Mv false [p] H12 H13 := s13.mv
  have L13 := L12.mv m13 (L12.pen.same s13) (tabs_mv L12.tabs m13)
  refine ⟨_, rfl, p, q, 5, n + 3, rfl, by decide, by decide, L13.pen, by omega, fun d H14 d0 d1 k14 P14 => ?_⟩
  have m14 : Mv false [p] H13 H14 := k14.pen pW L13.pen P14
  have L14 := L13.mv m14 P14 (tabs_mv L13.tabs m14)
  have hnr14 := k14.at nrp hnr13
  -- near[at] = ..
  have hnl14 := dw_list L14.names
  obtain ⟨nln', xn', hn1', hn2'⟩ := hnl14
  have exn' := dw_strs _ _ hn2'
  subst exn'
  obtain ⟨nlm', xm', hm1', hm2'⟩ := dw_list L14.nums
  have exm' := dw_ints _ _ hm2'
  subst exm'
  refine ⟨_, rfl, ?_⟩
  refine tCons_R (fun lv H' => Same H14 H' ∧ ∃ la xs, lv = .ref la ∧ la ≠ p ∧ H' la = some (.lst xs) ∧ 0 < xs.length ∧ xs.length ≤ 10 ∧ ∀ x ∈ xs, (d < 2 → x ∈ ([0, 1, 2, 3].map fun i => S (nmOf h ls i)).map V.str) ∧ (¬ d < 2 → d < 4 → x ∈ ([0, 1, 2].map fun j : Nat => low + (j : Int)).map V.int) ∧ (¬ d < 2 → ¬ d < 4 → x ∈ [V.int 1, .int 2, .int 3, .int 4])) (fun Q' hQ' => ?_) (fun lv H15 hlv => ?_)
  · refine ⟨_, rfl, _, _, rfl, rfl, _, rfl, ite2 (fun g1 => ?_) (fun g1 => ?_)⟩
    · have g1' := of_decide_eq_true g1
      exact ⟨_, rfl, hQ' _ _ ⟨.refl _, nl, _, rfl, W1 nln', hn1', by simp, by simp, fun x hx => ⟨fun _ => hx, fun z => absurd g1' z, fun z => absurd g1' z⟩⟩⟩
    · have g1' : ¬ d < 2 := fun z => g1 (decide_eq_true z)
      refine ⟨_, rfl, _, _, rfl, rfl, _, rfl, ite2 (fun g2 => ?_) (fun g2 => ?_)⟩
      · have g2' := of_decide_eq_true g2
        exact ⟨_, rfl, hQ' _ _ ⟨.refl _, ml, _, rfl, W1 nlm', hm1', by simp, by simp, fun x hx => ⟨fun z => absurd z g1', fun _ _ => hx, fun _ z => absurd g2' z⟩⟩⟩
      · have g2' : ¬ d < 4 := fun z => g2 (decide_eq_true z)
        refine ⟨by show 4 ≤ sizeLine; decide, fun l9 nl9 => ?_⟩
        exact hQ' _ _ ⟨.upd nl9, l9, _, rfl, (P14.hp nl9).1, upd_same, by decide, by decide, fun x hx => ⟨fun z => absurd z g1', fun _ z => absurd z g2', fun _ _ => hx⟩⟩
  obtain ⟨s15, la, xs, rfl, lap, hla, l0, l1, hxs⟩ := hlv
  have P15 := P14.same s15
  refine ⟨p, q, la, xs, n + 3 + 1, rfl, lap, .inl (.inl hla), l0, by omega, P15, by omega, fun x H16 hx16 k16 P16 => ?_⟩
  have m16 : Mv false [p] H14 H16 := s15.mv.trans (k16.pen pW P15 P16)
  have L16 := L14.mv m16 P16 (tabs_mv L14.tabs m16)
  have hnr16 := k16.at nrp (s15 _ _ hnr14)
  have d0' : d < 5 := d1
  have hix : ixN 5 d = some d.toNat := by
    unfold ixN
    rw [if_pos d0, if_pos (show d < ((5 : Nat) : Int) from d0')]
  obtain ⟨a', b', l', g', m', ha', hb', hl', hg', hm1'', hm2'', eset⟩ := near_set R.a R.b R.l R.g R.m R.m' d0 d0' (hxs x hx16)
  refine ⟨_, rfl, _, rfl, nr, _, d, d.toNat, rfl, rfl, hnr16, hix, ?_⟩
  rw [eset]
  obtain ⟨H17, eH17⟩ : ∃ H17, H17 = upd H16 nr (.lst [V.str (S (nmOf h ls a')), .str (S (nmOf h ls b')), .int (low + (l' : Int)), .int (low + (g' : Int)), .int (m' : Nat)]) := ⟨_, rfl⟩
  rw [← eH17]
  have hnr17 : H17 nr = some (.lst [V.str (S (nmOf h ls a')), .str (S (nmOf h ls b')), .int (low + (l' : Int)), .int (low + (g' : Int)), .int (m' : Nat)]) := by rw [eH17]; exact upd_same
  have hne17 : ∀ {a : Addr}, a ≠ nr → H17 a = H16 a := fun h => by rw [eH17]; exact upd_ne h
  -- seen from before near was made
  have L17 : LS K T (nmOf h ls) low p q nl ml el hd fl (n + 5) H17 := by
    have mA : Mv false [p] H12 H17 := by
      rw [eH17]
      exact (m13.trans (m14.trans m16)).new nnr
    have hq : q ≠ nr := fun z => by
      obtain ⟨_, _, _, _, _, hq, _⟩ := L12.pen
      rw [z, nnr] at hq; cases hq
    exact L12.mv mA (by rw [eH17]; exact P16.upd nrp (Ne.symm hq)) (tabs_mv L12.tabs mA)
  obtain ⟨kvs2, hkv2, hHas2⟩ := L17.has
  dsimp only
  refine if_F (fun H' => LS K T (nmOf h ls) low p q nl ml el hd fl (n + 5) H') (fun G hG => ?_) (fun H18 L18 => hnx _ _ _ _ _ _ H18 L18)
  refine ⟨_, rfl, nr, _, rfl, .inl ⟨.inl (.inl hnr17), fun t8 nt8 => ?_⟩⟩
  have s18 := Same.upd (o := .tup [V.str (S (nmOf h ls a')), .str (S (nmOf h ls b')), .int (low + (l' : Int)), .int (low + (g' : Int)), .int (m' : Nat)]) nt8
  have m18 : Mv false [p] H17 _ := s18.mv
  have L18 := L17.mv m18 (L17.pen.same s18) (tabs_mv L17.tabs m18)
  obtain ⟨kk, ekk⟩ : ∃ kk : List Key, kk = [.inr (S (nmOf h ls a')), .inr (S (nmOf h ls b')), .inl (low + (l' : Int)), .inl (low + (g' : Int)), .inl (m' : Nat)] := ⟨_, rfl⟩
  refine ⟨_, rfl, hd, _, rfl, DGet.t (k := kk) (s18 _ _ hkv2) (by rw [ekk]; exact upd_same), _, rfl, ?_⟩
  cases ev : valV kvs2 kk with
  | some v => exact iteF (hG _ L18)
  | none =>
    refine iteT ?_
    have fno : fenceW (nmOf h ls a') (nmOf h ls b') (low + (l' : Int)) (low + (g' : Int)) (m' : Nat) = false := by
      cases e : fenceW (nmOf h ls a') (nmOf h ls b') (low + (l' : Int)) (low + (g' : Int)) (m' : Nat) with
      | false => rfl
      | true =>
        obtain ⟨r, hr', e2⟩ := near_real N ha' hb' hl' hg' hm1'' hm2'' e
        rw [ekk, ← e2] at ev
        exact absurd rfl (hHas2.nil r hr' ev r (by rw [List.take_length]; exact hr'))
    refine step_err RV "fence" L18.tabs (fun Hb E' Q' eb hB' => ?_) (fun Hd p1 ed Td hp1 => ?_)
    · have hnb := eb _ _ (s18 _ _ hnr17) fun x z => (nomatch z)
      have pr : prts (.list (fenDs (nmOf h ls) low a' b' l' g' m')) = some (fenDs (nmOf h ls) low a' b' l' g' m') := rfl
      have fy : fenceD (.list (fenDs (nmOf h ls) low a' b' l' g' m')) = false := by rw [fenceD_ds N h1 ha' hb' hm1'' pr]; exact fno
      have sl := slim_ds pr
      exact ⟨_, rfl, _, rfl, _, rfl, _, _, _, .list (fenDs (nmOf h ls) low a' b' l' g' m'), .str (S k), .int z, rfl, .lst (.inl (.inl hnb)) (dp_fen _ _ _ _ _), .str _, .int _, small5_ds N hlow ha' hb' hl' hg' (by omega) pr, sl.1, sl.2, small_S hkOk.1, fun _ => hB', fun e => ff e fy, fun e => ff e fy, fun e => ff e fy⟩
    · refine ⟨by show 2 ≤ sizeLine; decide, fun p9 n9 => ?_⟩
      have s19 := Same.upd (o := .tup [V.str "value", .str "fence"]) n9
      refine ⟨.tuple [.str "value", .str "fence"], .tuple [.str "value", .str "fence"], .tup (.inl (.inl (s19 _ _ hp1))) (.cons (.str _) (.cons (.str _) .nil)), .tup (.inl (.inl upd_same)) (.cons (.str _) (.cons (.str _) .nil)), by decide +kernel, by decide +kernel, _, rfl, ?_⟩
      rw [show (!PyData.eqv (.tuple [.str "value", .str "fence"]) (.tuple [.str "value", .str "fence"])) = false from by decide +kernel]
      refine hG _ ?_
      have mE : Mv true [p] _ (upd Hd p9 (.tup [V.str "value", .str "fence"])) := (ed.mv (W := [p])).trans s19.mv
      exact L18.mv mE ((pen_ext L18.pen ed).same s19) (Td.ext s19)
end
end K93
set_option Elab.async false
set_option linter.all false
set_option maxRecDepth 100000
set_option maxHeartbeats 4000000
/-! # Behind the laps: a block and its fence. -/
namespace K93
open PySem PySem.Spec PyProof.Rows L2 Nam SetP Pen LamX LamB PlugX
theorem KB_fof : ∀ (kV doc pm : Value) (an : Option Addr) (cdv ct : Value) (ws : List Value), (id ws).length = (["block"] : List Str).length → bindArgs (PySem.W.fnOf "fence_of" "fence_of" (defArgs s_fence_of) (defBody s_fence_of) (defScope s_fence_of) .none kV doc pm an cdv ct) ⟨[], (["block"] : List Str).zip ws⟩ = pure ((["block"] : List Str).zip (id ws)) :=
  fun _ _ _ _ _ _ ws hl => match ws, hl with
  | [_], _ => rfl
theorem KR_id {zs : List V} {ws : List Value} (h : Vals zs ws) : Vals (id zs) (id ws) := h
theorem versT_snoc {nm : Nat → List Nat} {low : Int} {tp : Bool} {r : List (Nat × Nat)} {vs : List PyData} {i : Nat} {p : Nat × Nat} {v : PyData} (hl : vs.length = i) (hp : r[i]? = some p) : versT tp nm low (r.take (i + 1)) (vs ++ [v]) = versT tp nm low (r.take i) vs ++ [verT tp nm low p v] := by
  have hi : i < r.length := (List.getElem?_eq_some_iff.mp hp).1
  unfold versT
  rw [take_snoc hp, List.zip_append (by rw [List.length_take, hl]; omega), List.map_append]
  rfl
theorem val_pick {K : PySem.W.Frag} {W : List Addr} {H : Hp} {x : V} (h : x ∈ [V.str "x", .non, .str "y"]) : ∃ d, ValOk d ∧ DW K W H x d ∧ LayN d 0 := by
  simp only [List.mem_cons, List.not_mem_nil, or_false] at h
  rcases h with e | e | e <;> rw [e]
  · exact ⟨.str "x", .inr ⟨by decide +kernel, _, rfl⟩, .str _, LayN.str (by decide +kernel) 0⟩
  · exact ⟨.none, .inl rfl, .non, LayN.none 0⟩
  · exact ⟨.str "y", .inr ⟨by decide +kernel, _, rfl⟩, .str _, LayN.str (by decide +kernel) 0⟩
theorem ValOk.lay {d : PyData} (h : ValOk d) : LayN d 0 := by
  rcases h with e | ⟨e, x, rfl⟩
  · rw [e]; exact LayN.none 0
  · obtain ⟨l, e2, hl⟩ := nameD_nm e
    rw [e2]
    exact LayN.str (strOk_nm hl) 0
theorem verT_no {nm : Nat → List Nat} {low : Int} {p : Nat × Nat} {v : PyData} (h : ValOk v) : noList (verT true nm low p v) = true := by
  unfold verT
  rcases h with e | ⟨_, x, e⟩ <;> (rw [e]; rfl)
theorem fenR_lay {nm : Nat → List Nat} {low : Int} (N : N4 nm) {r : List (Nat × Nat)} (h : RowOk r) : LayN (fenR (rr nm low r)) 1 := by
  have R := h.rng
  rw [fenK_R, fen_real h]
  refine LayN.tuple fun d hd => ?_
  simp only [List.map_cons, List.map_nil, kD, List.mem_cons, List.not_mem_nil, or_false] at hd
  rcases hd with e | e | e | e | e <;> rw [e]
  · exact LayN.str (strOk_nm (N.ok _ R.a)) 0
  · exact LayN.str (strOk_nm (N.ok _ R.b)) 0
  all_goals exact LayN.int _ 0
theorem dp_fenK {K : PySem.W.Frag} {H : Hp} {p : Addr} {rs : List (Str × Int)} (h : H p = some (.tup ((fenK rs).map kV))) : Dp K H (.ref p) (fenR rs) := by
  rw [fenK_R]
  exact .tup (.inl (.inl h)) (dp_kVs _)
section
variable {P : Program} {w : World} {K : PySem.W.Frag} {mg : Str → Option Value} {base : Heap} {CV CN c : Addr}
theorem tail_1 (M : MG mg) (D : Ds P w K mg base CV CN) (f : Addr) (A : Around) (outer : List Env) (s : Shared) (H : Hp) (E : XK) (hr : Room 7 (A.deeper (envOfC "law" (defScope s_law) s.heap.objs.size f (.ref c)))) (T : List (Addr × Str))
    {tr : TS} (hrest : PSs (XL P w K mg base f c A outer s H E) ((defBody s_law).drop 11) tr) :
    ∃ t, PSs (XL P w K mg base f c A outer s H E) ((defBody s_law).drop 8) t ∧ ∀ (De : Ends) (x0 x8 x9 x11 x12 x13 x14 x15 x23 : Option V) (h : List Nat) (p q nl ml el hd fl : Addr) (ls : List Nat) (low : Int) (n : Nat) (H1 : Hp), h ∈ heads → ls ∈ letters → 1 ≤ low → low ≤ 2 ^ 40 → n ≤ 900000 → LS K T (nmOf h ls) low p q nl ml el hd fl n H1 →
      (∀ x8 x16 H', LS K T (nmOf h ls) low p q nl ml el hd fl (n + 10) H' → tr De [x0, some (.ref p), some (.str (S h)), some (.ref nl), some (.int low), some (.ref ml), some (.ref el), some (.ref hd), x8, x9, some (.ref fl), x11, x12, x13, x14, x15, x16, none, none, none, none, none, none, x23, none, none, none, none, none] H') →
      t De [x0, some (.ref p), some (.str (S h)), some (.ref nl), some (.int low), some (.ref ml), some (.ref el), some (.ref hd), x8, x9, some (.ref fl), x11, x12, x13, x14, x15, none, none, none, none, none, none, none, x23, none, none, none, none, none] H1 := by
  refine ⟨_, (pss_cons (ps_set (i := 8) sc_law.nd rfl (Or.inl rfl) (pd D.pick (hr.mono (by decide)) rfl (pa_cons (pv 1) (pa_cons (pv 6) pa_nil))))
  (pss_cons (ps_setLc (i := 16) (own := [("key", 14), ("number", 15)]) (g := gTup K 2 (gCons (gName 14) (gCons (gName 15) gNil))) rfl sc_law.nd rfl rfl (sw_true rfl rfl rfl (by decide +kernel)) (pi_tup (pv 8)) (blkOk_by (own := [("key", 14), ("number", 15)]) (N := N_law) (sc := defScope s_law) (by decide +kernel)) (fun _ _ _ _ _ => (pg_tup (n := 2) rfl (pgs_cons (pg_name (i := 14) sc_law.nd rfl (Or.inl rfl)) (pgs_cons (pg_name (i := 15) sc_law.nd rfl (Or.inl rfl)) pgs_nil)))) (fun _ _ _ _ _ => pts_nil) (fun _ _ _ _ _ => (pe_tup (pa_cons (pv 14) (pa_cons (pv 15) (pa_cons (pd D.pick (hr.mono (by decide)) rfl (pa_cons (pv 1) (pa_cons (pe_lst (pa_cons pe_str (pa_cons pe_non (pa_cons pe_str pa_nil)))) pa_nil))) pa_nil))))))
  (pss_cons (ps_if (PW.pt (pw_or (pt_cmpR (op_neD hr.units) (pdK (ks := ["block"]) (g := id) D.fof (hr.mono (by decide)) rfl passN KB_fof KR_id (pk_cons (pe_lc (own := [("one", 27)]) rfl sc_law.nd (pi_list (pv 16)) (blkOk_by (own := [("one", 27)]) (N := N_law) (sc := defScope s_law) (by decide +kernel)) (fun _ _ _ _ _ => (pg_name (i := 27) sc_law.nd rfl (Or.inl rfl))) (fun _ _ _ _ _ => pts_nil) (fun _ _ _ _ _ => (pe_callTy (r := rListOf K) call_listK (by rfl) M.list (by decide +kernel) (pa_cons (pv 27) pa_nil)))) pk_nil)) (pd D.fence (hr.mono (by decide)) rfl (pa_cons (pv 8) pa_nil)) (nomark _)) (pw_or1 (pt_cmpR (op_neD hr.units) (pdN D.fof (hr.mono (by decide)) rfl (pa_cons (pv 16) pa_nil)) (pd D.fence (hr.mono (by decide)) rfl (pa_cons (pv 8) pa_nil)) (nomark _))))) (pss_one (ps_ret pe_bl)) pss_nil) hrest))), ?_⟩
  intro De x0 x8 x9 x11 x12 x13 x14 x15 x23 h p q nl ml el hd fl ls low n H1 hh hls h1 hlow hn LS0 hnx
  obtain ⟨N, _, _, _⟩ := names_ok hh hls
  have W1 : ∀ {a : Addr}, a ∉ [p] → a ≠ p := fun h z => h (by rw [z]; exact List.mem_singleton.mpr rfl)
  have W2 : ∀ {a : Addr}, a ≠ p → a ∉ [p] := fun h z => h (List.mem_singleton.mp z)
  have pW : p ∈ [p] := List.mem_singleton.mpr rfl
  obtain ⟨elW, xe, he1, he2⟩ := dw_list LS0.every
  have hel : xe.length = 793 := by
    rw [he2.len, List.length_map, List.length_map]
    decide +kernel
  refine ⟨_, rfl, _, rfl, p, q, el, xe, n, rfl, W1 elW, .inl (.inl he1), by omega, by omega, LS0.pen, by omega, fun x H2 hx k2 P2 => ?_⟩
  have m2 : Mv false [p] H1 H2 := k2.pen pW LS0.pen P2
  have L2' := LS0.mv m2 P2 (tabs_mv LS0.tabs m2)
  obtain ⟨dx, hdx, hpx⟩ := he2.mem hx
  obtain ⟨rw', hrw, rfl⟩ := List.mem_map.mp hdx
  obtain ⟨r, hr0, rfl⟩ := List.mem_map.mp hrw
  have RO := row_ok hr0
  have hpx2 := m2.dw' hpx
  obtain ⟨qr, us, rfl, hT, hA⟩ : ∃ qr us, x = .ref qr ∧ SqT K H2 qr us ∧ DWAll K [p] H2 us ((rr (nmOf h ls) low r).map pairD) := by
    cases hpx2 with
    | tup hT hA => exact ⟨_, _, rfl, hT, hA⟩
  have hul : us.length = r.length := by rw [hA.len, List.length_map, List.length_map]
  -- the block
  refine ⟨_, rfl, qr, rfl, ⟨us, hT⟩, fun D0 hD0 => ?_⟩
  obtain ⟨nDp, nDq⟩ := P2.hp hD0
  have lenR := RO.len
  refine lc_dw (K := K) (tb := false) (W := [p]) (xt_walk (K := K) qr us) (fun i H0 x H1 y => by rw [y.1]; exact .refl _) (fun i ds => ∃ vs, vs.length = i ∧ (∀ v ∈ vs, ValOk v) ∧ ds = versT true (nmOf h ls) low (r.take i) vs) ⟨[], rfl, fun _ z => (nomatch z), by cases r <;> rfl⟩ hD0 (W2 nDp) (Nat.lt_of_le_of_lt (show us.length ≤ 4 by omega) (by decide))
    (fun i H' => PenAt H' p q (n + 1 + i)) (P2.same (.upd hD0)) (fun i H H' a b => a.same b) (fun H' m => m.sqT hT)
    (fun i x ds H3 H4 hi m3 y sd acc hacc hlt P4 Nx n1 n2 => ?_) (fun H3 xs ds m3 hD3 hds _ sd P3 => ?_)
  · obtain ⟨rfl, hx⟩ := y
    obtain ⟨vs, hvl, hvs, rfl⟩ := sd
    obtain ⟨dx, hdx, hpx⟩ := hA.at_ hx
    rw [List.getElem?_map, List.getElem?_map] at hdx
    cases e : r[i]? with
    | none => rw [e] at hdx; exact nomatch hdx
    | some pi =>
      rw [e] at hdx
      cases hdx
      obtain ⟨ap, rfl, hTp⟩ := pair_at ((m3.dw' hpx).dp)
      refine ⟨ap, _, rfl, hTp, rfl, _, _, rfl, _, _, rfl, rfl, rfl, ?_⟩
      refine ⟨_, rfl, _, rfl, _, rfl, by show 3 ≤ sizeLine; decide, fun l5 nl5 => ?_⟩
      have s5 := Same.upd (o := .lst [V.str "x", .non, .str "y"]) nl5
      refine ⟨p, q, l5, _, n + 1 + i, rfl, (P4.hp nl5).1, .inl (.inl upd_same), by simp, by simp, P4.same s5, by omega, fun v H6 hv k6 P6 => ?_⟩
      obtain ⟨dv, hdv, hpv, _⟩ := val_pick (K := K) (W := D0 :: [p]) (H := H6) hv
      have m6 : Mv false [p] H4 H6 := s5.mv.trans (k6.pen pW (P4.same s5) P6)
      refine ⟨by show 3 ≤ sizeLine; decide, fun t7 nt7 => ?_⟩
      have s7 := Same.upd (o := .tup [.str (rl (nmOf h ls) low pi).1, .int (rl (nmOf h ls) low pi).2, v]) nt7
      have hacc6 := m6.at_ hacc (.inl (W2 nDp)) (fun x z => (nomatch z))
      refine ⟨acc, s7 _ _ hacc6, hlt, n1 _ _ (verT true (nmOf h ls) low pi dv) (m6.trans s7.mv) ⟨vs ++ [dv], by rw [List.length_append, hvl]; rfl, fun z hz => ?_, (versT_snoc hvl e).symm⟩ ?_ ((P6.same s7).upd nDp nDq)⟩
      · rcases List.mem_append.mp hz with y | y
        · exact hvs z y
        · rw [List.mem_singleton.mp y]; exact hdv
      · exact .tup (.inl (.inl upd_same)) (.cons (.str _) (.cons (.int _) (.cons (s7.dw hpv) .nil)))
  · obtain ⟨vs, hvl, hvs, rfl⟩ := sd
    rw [hul, List.take_length] at hds
    rw [hul] at hvl P3
    have P3 : PenAt H3 p q (n + 10) := P3.mono (by omega)
    have m13 : Mv false [p] H2 H3 := m3
    have L3 := L2'.mv m3 P3 (tabs_mv L2'.tabs m3)
    have hpx3 := (m3.dw' hpx2).dp
    dsimp only [gName]
    refine seq_F (fun H' => Same H3 H') (fun G hG => ?_) (fun H4 s4 => hnx _ _ _ (L3.mv (s4.mv (tb := false)) (P3.same s4) (tabs_mv L3.tabs (s4.mv (W := [p])))))
    have okF := block_ok (d := .list (versT false (nmOf h ls) low r vs)) N h1 false rfl hvl.symm RO.Inc RO.ne hvs
    have okT := block_ok (d := .list (versT true (nmOf h ls) low r vs)) N h1 true rfl hvl.symm RO.Inc RO.ne hvs
    have smF := small3_vers (d := .list (versT false (nmOf h ls) low r vs)) N rfl (fun p hp => (RO.lt p hp).1) (by omega) hvs
    have smT := small3_vers (d := .list (versT true (nmOf h ls) low r vs)) N rfl (fun p hp => (RO.lt p hp).1) (by omega) hvs
    have ff : ∀ {b : Bool} {G : Prop}, b = true → b = false → G := fun e e' => by rw [e] at e'; cases e'
    have hxl : xs.length = r.length := by rw [hds.len, versT_len, hvl, Nat.min_self]
    refine ⟨_, rfl, D0, rfl, ⟨_, .inl (.inl hD3)⟩, fun D1 hD1 => ?_⟩
    refine lc_dw (K := K) (tb := false) (W := []) (xl_walk (K := K) D0 xs) (fun i H0 x H1 y => by rw [y.1]; exact .refl _) (fun i ds => ds = (versT false (nmOf h ls) low r vs).take i) rfl hD1 (by simp) (Nat.lt_of_le_of_lt (show xs.length ≤ 4 by omega) (by decide)) (fun _ _ => True) trivial (fun _ _ _ _ _ => trivial) (fun H' m => .inl (.inl (m.same _ _ hD3)))
      (fun i x ds H4 H5 hi m4 y sd acc hacc hlt _ Nx n1 n2 => ?_) (fun H4 ys ds m4 hD4 hys _ sd _ => ?_)
    · obtain ⟨rfl, hx⟩ := y
      subst sd
      obtain ⟨dx, hdx, hpx⟩ := hds.at_ hx
      have hz : ∃ pi dv, r[i]? = some pi ∧ vs[i]? = some dv ∧ dx = verT true (nmOf h ls) low pi dv := by
        unfold versT at hdx
        rw [List.getElem?_map] at hdx
        cases e : (r.zip vs)[i]? with
        | none => rw [e] at hdx; exact nomatch hdx
        | some z =>
          rw [e] at hdx
          obtain ⟨a, b⟩ := List.getElem?_zip_eq_some.mp e
          exact ⟨z.1, z.2, a, b, (Option.some.inj hdx).symm⟩
      obtain ⟨pi, dv, e1, e2, rfl⟩ := hz
      have m4p : Mv false [p] H3 H5 := m4.mono fun x z => nomatch z
      have hpx4 : DW K [D1] H5 x (verT true (nmOf h ls) low pi dv) := m4p.dw (fun a ha => .inr (by rw [List.mem_singleton.mp ha]; exact hD1)) _ _ hpx
      unfold verT at hpx4
      cases hpx4 with
      | tup hTv hAv =>
        rename_i av vsv
        refine ⟨rfl, _, rfl, av, vsv, rfl, .inr hTv, fun l nl => ?_⟩
        have sl := Same.upd (o := .lst vsv) nl
        refine ⟨acc, sl _ _ hacc, hlt, n1 _ _ (verT false (nmOf h ls) low pi dv) sl.mv ?_ ?_ trivial⟩
        · rw [take_snoc]
          unfold versT
          rw [List.getElem?_map, (List.getElem?_zip_eq_some (z := (pi, dv))).mpr ⟨e1, e2⟩]
          rfl
        · refine .lst (fun z => ?_) upd_same (sl.dwAll hAv)
          have e := List.mem_singleton.mp z
          rw [e, hacc] at nl
          cases nl
    · subst sd
      have hyl : (versT false (nmOf h ls) low r vs).length = r.length := by rw [versT_len, hvl, Nat.min_self]
      rw [hxl, List.take_of_length_le (by rw [hyl]; exact Nat.le_refl _)] at hys
      have s4 := m4.same
      refine ⟨_, _, rfl, .lst (.inl (.inl hD4)) hys.dp, smF, ff okF.1, fun _ v' H5 s5 hv' => ?_⟩
      rw [okF.2] at hv'
      refine ⟨_, rfl, _, rr (nmOf h ls) low r, rfl, Dp.same (s4.trans s5) _ _ hpx3, fun e => RO.ne (List.map_eq_nil_iff.mp e), by rw [List.length_map]; omega, fun pf H6 s6 npf hpf => ?_⟩
      refine ne_same (Dp.same s6 _ _ hv') (dp_fenK hpf) (fenR_lay N RO) (by decide) ⟨_, rfl, iteF ?_⟩
      have s36 := (s4.trans s5).trans s6
      refine ⟨_, rfl, _, _, rfl, .lst (.inl (.inl (s36 _ _ hD3))) (s36.dwAll hds).dp, smT, ff okT.1, fun _ v2 H7 s7 hv2 => ?_⟩
      rw [okT.2] at hv2
      refine ⟨_, rfl, _, rr (nmOf h ls) low r, rfl, Dp.same (s36.trans s7) _ _ hpx3, fun e => RO.ne (List.map_eq_nil_iff.mp e), by rw [List.length_map]; omega, fun pg H8 s8 npg hpg => ?_⟩
      exact ne_same (Dp.same s8 _ _ hv2) (dp_fenK hpg) (fenR_lay N RO) (by decide) ⟨_, rfl, hG _ (s36.trans (s7.trans s8))⟩
end
end K93
set_option Elab.async false
set_option linter.all false
set_option maxRecDepth 100000
set_option maxHeartbeats 4000000
/-! # Behind the laps: a run in blocks. -/
namespace K93
open PySem PySem.Spec PyProof.Rows L2 Nam SetP Pen LamX LamB PlugX
theorem KB_bof : ∀ (kV doc pm : Value) (an : Option Addr) (cdv ct : Value) (ws : List Value), (id ws).length = (["versions", "size"] : List Str).length → bindArgs (PySem.W.fnOf "blocks_of" "blocks_of" (defArgs s_blocks_of) (defBody s_blocks_of) (defScope s_blocks_of) .none kV doc pm an cdv ct) ⟨[], (["versions", "size"] : List Str).zip ws⟩ = pure ((["versions", "size"] : List Str).zip (id ws)) :=
  fun _ _ _ _ _ _ ws hl => match ws, hl with
  | [_, _], _ => rfl
theorem one_blocks : blocksB 1 pairs12 = pairs12.map fun p => [p] := by decide +kernel
theorem pairs_sorted : pairs12.Pairwise fun p q => (Nat.blt q.1 p.1 || (Nat.beq q.1 p.1 && Nat.blt q.2 p.2)) = false := by decide +kernel
theorem pairs_nodup : pairs12.Nodup := by decide +kernel
theorem chunkL_nil (s : Int) : chunkL s [] = [] := by
  unfold chunkL turnsN
  have e : Builtin.Range.rangeSize 0 ((([] : List PyData).length : Nat) : Int) s = 0 := by
    unfold Builtin.Range.rangeSize
    split <;> rfl
  rw [e]; rfl
section
variable {nm : Nat → List Nat} {low : Int}
theorem keys_sorted (N : N4 nm) : SrtO.Srtd lexK (pairs12.map (keyP nm low)) := by
  refine List.pairwise_map.mpr (pairs_sorted.imp_of_mem fun {p q} hp hq h => ?_)
  show lexK (keyP nm low q) (keyP nm low p) = false
  rw [keyP_lt N (inc12.lt q hq).1 (inc12.lt p hp).1]
  exact h
theorem keys_nodup (N : N4 nm) : (pairs12.map (keyP nm low)).Nodup := by
  refine List.pairwise_map.mpr (pairs_nodup.imp_of_mem fun {p q} hp hq h e => h ?_)
  unfold keyP at e
  injection e with e1 e
  injection e with e2 e
  have h1 := N.eq _ _ (inc12.lt p hp).1 (inc12.lt q hq).1 (S_inj (Sum.inr.inj e1))
  have h2 := Sum.inl.inj e2
  obtain ⟨p1, p2⟩ := p
  obtain ⟨q1, q2⟩ := q
  simp only at h1 h2
  have h3 : p2 = q2 := by omega
  rw [h1, h3]
theorem verT_lay (N : N4 nm) {p : Nat × Nat} {v : PyData} (hp : p.1 < 4) (hv : ValOk v) : LayN (verT true nm low p v) 1 := by
  refine LayN.tuple fun d hd => ?_
  simp only [List.mem_cons, List.not_mem_nil, or_false] at hd
  rcases hd with e | e | e <;> rw [e]
  · exact LayN.str (strOk_nm (N.ok _ hp)) 0
  · exact LayN.int _ 0
  · exact hv.lay
theorem slim_val {v : PyData} (h : ValOk v) : slim v = true := by
  rcases h with e | ⟨_, x, e⟩ <;> (rw [e]; rfl)
theorem slimL_of {ds : List PyData} (h : ∀ d ∈ ds, slim d = true) : slimL ds = true := by
  induction ds with
  | nil => rfl
  | cons x l ih =>
    rw [slimL, h x List.mem_cons_self, ih fun d hd => h d (List.mem_cons_of_mem _ hd)]; rfl
/-- the law's versions -/
abbrev VS (nm : Nat → List Nat) (low : Int) (vs : List PyData) : List PyData := versT true nm low pairs12 vs
theorem VS_lay (N : N4 nm) {vs : List PyData} (hv : ∀ v ∈ vs, ValOk v) : ∀ d ∈ VS nm low vs, LayN d 1 := fun d hd => by
  obtain ⟨p, hp, v, hvv, rfl⟩ := versT_mem hd
  exact verT_lay N (inc12.lt p hp).1 (hv v hvv)
theorem VS_no {vs : List PyData} (hv : ∀ v ∈ vs, ValOk v) : noListL (VS nm low vs) = true := by
  rw [noListL_all]
  intro d hd
  obtain ⟨p, hp, v, hvv, rfl⟩ := versT_mem hd
  exact verT_no (hv v hvv)
theorem VS_slim (N : N4 nm) {vs : List PyData} (hl : vs.length = 12) (hv : ∀ v ∈ vs, ValOk v) : slim (.list (VS nm low vs)) = true ∧ PyData.depth (.list (VS nm low vs)) < 4 := by
  refine ⟨?_, ?_⟩
  · rw [slim, Bool.and_eq_true]
    refine ⟨decide_eq_true (by rw [versT_len]; omega), slimL_of fun d hd => ?_⟩
    obtain ⟨p, hp, v, hvv, rfl⟩ := versT_mem hd
    show slim (.tuple [.str (S (nm p.1)), .int (low + (p.2 : Int)), v]) = true
    rw [slim]
    simp only [slimL, slim_val (hv v hvv)]
    rfl
  · have := (LayN.list (VS_lay (low := low) N hv)).2
    omega
theorem chunk_lay {s : Int} {ds : List PyData} {n : Nat} (h : ∀ d ∈ ds, LayN d n) : LayN (.tuple (chunkL s ds)) (n + 2) := by
  refine LayN.tuple fun d hd => ?_
  unfold chunkL at hd
  obtain ⟨i, _, rfl⟩ := List.mem_map.mp hd
  exact LayN.tuple fun x hx => h x (List.mem_of_mem_drop (List.mem_of_mem_take hx))
end
section
variable {P : Program} {w : World} {K : PySem.W.Frag} {mg : Str → Option Value} {base : Heap} {CV CN c : Addr}
theorem tail_2 (M : MG mg) (D : Ds P w K mg base CV CN) (f : Addr) (A : Around) (outer : List Env) (s : Shared) (H : Hp) (E : XK) (hr : Room 7 (A.deeper (envOfC "law" (defScope s_law) s.heap.objs.size f (.ref c)))) (T : List (Addr × Str))
    {tr : TS} (hrest : PSs (XL P w K mg base f c A outer s H E) ((defBody s_law).drop 15) tr) :
    ∃ t, PSs (XL P w K mg base f c A outer s H E) ((defBody s_law).drop 11) t ∧ ∀ (De : Ends) (x0 x8 x9 x11 x12 x13 x14 x15 x16 x23 : Option V) (h : List Nat) (p q nl ml el hd fl : Addr) (ls : List Nat) (low : Int) (n : Nat) (H1 : Hp), h ∈ heads → ls ∈ letters → 1 ≤ low → low ≤ 2 ^ 40 → n ≤ 900000 → LS K T (nmOf h ls) low p q nl ml el hd fl n H1 →
      (∀ x17 x18 vl vs H', vs.length = 12 → (∀ v ∈ vs, ValOk v) → DW K [p] H' (.ref vl) (.list (VS (nmOf h ls) low vs)) → LS K T (nmOf h ls) low p q nl ml el hd fl (n + 20) H' →
        tr De [x0, some (.ref p), some (.str (S h)), some (.ref nl), some (.int low), some (.ref ml), some (.ref el), some (.ref hd), x8, x9, some (.ref fl), x11, x12, x13, x14, x15, x16, x17, x18, none, none, none, none, x23, none, some (.ref vl), none, none, none] H') →
      t De [x0, some (.ref p), some (.str (S h)), some (.ref nl), some (.int low), some (.ref ml), some (.ref el), some (.ref hd), x8, x9, some (.ref fl), x11, x12, x13, x14, x15, x16, none, none, none, none, none, none, x23, none, none, none, none, none] H1 := by
  refine ⟨_, (pss_cons (ps_set (i := 25) sc_law.nd rfl (Or.inr rfl) (pe_lc (own := [("name", 28), ("number", 15)]) (g := gTup K 2 (gCons (gName 28) (gCons (gName 15) gNil))) rfl sc_law.nd (pi_list (pe_callB cr_sortL (by rfl) M.sorted (by decide +kernel) (pa_cons (pe_lc (own := [("one", 27)]) rfl sc_law.nd (pi_list (pd D.all (hr.mono (by decide)) rfl (pa_cons (pv 3) (pa_cons (pv 5) (pa_cons pe_int pa_nil))))) (blkOk_by (own := [("one", 27)]) (N := N_law) (sc := defScope s_law) (by decide +kernel)) (fun _ _ _ _ _ => (pg_name (i := 27) sc_law.nd rfl (Or.inl rfl))) (fun _ _ _ _ _ => pts_nil) (fun _ _ _ _ _ => (pe_ix (r := rIx K) ix_seq (pv 27) pe_int (fun _ _ => rfl)))) pa_nil))) (blkOk_by (own := [("name", 28), ("number", 15)]) (N := N_law) (sc := defScope s_law) (by decide +kernel)) (fun _ _ _ _ _ => (pg_tup (n := 2) rfl (pgs_cons (pg_name (i := 28) sc_law.nd rfl (Or.inl rfl)) (pgs_cons (pg_name (i := 15) sc_law.nd rfl (Or.inl rfl)) pgs_nil)))) (fun _ _ _ _ _ => pts_nil) (fun _ _ _ _ _ => (pe_tup (pa_cons (pv 28) (pa_cons (pv 15) (pa_cons (pd D.pick (hr.mono (by decide)) rfl (pa_cons (pv 1) (pa_cons (pe_lst (pa_cons pe_str (pa_cons pe_non pa_nil))) pa_nil))) pa_nil)))))))
  (pss_cons (ps_set (i := 17) sc_law.nd rfl (Or.inr rfl) (pd D.pick (hr.mono (by decide)) rfl (pa_cons (pv 1) (pa_cons (pe_lst (pa_cons pe_int (pa_cons pe_int (pa_cons pe_int (pa_cons pe_int (pa_cons pe_int pa_nil)))))) pa_nil))))
  (pss_cons (ps_set (i := 18) sc_law.nd rfl (Or.inl rfl) (pdK (ks := ["versions", "size"]) (g := id) D.bof (hr.mono (by decide)) rfl passN KB_bof KR_id (pk_cons (pv 25) (pk_cons (pv 17) pk_nil))))
  (pss_cons (ps_if (PW.pt (pw_or (pt_cmpR (op_neD hr.units) (pv 18) (pe_callTy call_tuple_of (by rfl) M.tuple (by decide +kernel) (pa_cons (pe_lc (own := [("at", 13)]) rfl sc_law.nd (pi_range3 rfl M.range (pa_cons pe_int (pa_cons (pe_callB call_len (by rfl) M.len boot_len (pa_cons (pv 25) pa_nil)) (pa_cons (pv 17) pa_nil)))) (blkOk_by (own := [("at", 13)]) (N := N_law) (sc := defScope s_law) (by decide +kernel)) (fun _ _ _ _ _ => (pg_name (i := 13) sc_law.nd rfl (Or.inl rfl))) (fun _ _ _ _ _ => pts_nil) (fun _ _ _ _ _ => (pe_callTy (r := rTupleOf K) call_tupleK (by rfl) M.tuple (by decide +kernel) (pa_cons (pe_slice (r := rSlL K) sl_list (pv 25) (po_some (pv 13)) (po_some (pe_op op_add (pv 13) (pv 17)))) pa_nil)))) pa_nil)) (nomark _)) (pw_or1 (pt_cmpR (op_neD hr.units) (pdN D.bof (hr.mono (by decide)) rfl (pa_cons (pe_lst pa_nil) (pa_cons (pv 17) pa_nil))) (pe_tup pa_nil) (nomark _))))) (pss_one (ps_ret pe_bl)) pss_nil) hrest)))), ?_⟩
  intro De x0 x8 x9 x11 x12 x13 x14 x15 x16 x23 h p q nl ml el hd fl ls low n H1 hh hls h1 hlow hn LS0 hnx
  obtain ⟨N, _, _, _⟩ := names_ok hh hls
  have W1 : ∀ {a : Addr}, a ∉ [p] → a ≠ p := fun h z => h (by rw [z]; exact List.mem_singleton.mpr rfl)
  have W2 : ∀ {a : Addr}, a ≠ p → a ∉ [p] := fun h z => h (List.mem_singleton.mp z)
  have pW : p ∈ [p] := List.mem_singleton.mpr rfl
  have ff : ∀ {b : Bool} {G : Prop}, b = true → b = false → G := fun e e' => by rw [e] at e'; cases e'
  obtain ⟨nlW, xn, hn1, hn2⟩ := dw_list LS0.names
  have exn := dw_strs _ _ hn2
  subst exn
  obtain ⟨mlW, xm, hm1, hm2⟩ := dw_list LS0.nums
  have exm := dw_ints _ _ hm2
  subst exm
  refine ⟨_, rfl, _, rfl, nl, ml, [0, 1, 2, 3].map fun i => S (nmOf h ls i), [0, 1, 2].map fun j : Nat => low + (j : Int), 1, rfl, .inl (.inl hn1), .inl (.inl hm1), by simp, by simp, by decide, fun x hx => ?_, fun l2 H2 xs2 s2 nl2 hl2 hxs2 => ?_⟩
  · obtain ⟨i, hi, rfl⟩ := List.mem_map.mp hx
    refine strOk_nm (N.ok i ?_)
    simp only [List.mem_cons, List.not_mem_nil, or_false] at hi
    omega
  have e1 : (blocksB 1 (pairsB ([0, 1, 2, 3].map fun i => S (nmOf h ls i)) ([0, 1, 2].map fun j : Nat => low + (j : Int)))).map rowD = pairs12.map fun p => rowD [rl (nmOf h ls) low p] := by
    rw [pairs_real, blocksB_map, one_blocks, List.map_map, List.map_map]
    rfl
  rw [e1] at hxs2
  have hx12 : xs2.length = 12 := by rw [hxs2.len, List.length_map]; rfl
  refine ⟨l2, rfl, ⟨xs2, .inl (.inl hl2)⟩, fun D1 hD1 => ?_⟩
  refine lc_dm (K := K) (tb := false) (W := []) (xl_walk (K := K) l2 xs2) (fun i H0 x H1 y => by rw [y.1]; exact .refl _) (pairs12.map fun p => some (pairD (rl (nmOf h ls) low p))) (fun d hd => ?_) (by rw [List.length_map, hx12]; rfl) hD1 (by simp) (by rw [hx12]; decide) (fun _ _ => True) trivial (fun _ _ _ _ _ => trivial) (fun H' m => .inl (.inl (m.same _ _ hl2)))
    (fun i x o H3 H4 m3 y ho acc hacc hlt _ Nx n1 n2 => ?_) (fun H3 ys m3 hD3 hys _ => ?_)
  · obtain ⟨p, _, e⟩ := List.mem_map.mp hd
    cases e
    rfl
  · obtain ⟨rfl, hx⟩ := y
    obtain ⟨dx, hdx, hpx⟩ := hxs2.at_ hx
    rw [List.getElem?_map] at hdx ho
    cases e : pairs12[i]? with
    | none => rw [e] at hdx; exact nomatch hdx
    | some pi =>
      rw [e] at hdx ho
      cases hdx
      cases ho
      have hpx4 := Dp.same m3.same _ _ hpx
      cases hpx4 with
      | tup hT hA =>
        cases hA with
        | cons h1' hA =>
          cases hA
          exact ⟨rfl, _, rfl, ixAt (.inr hT) (i := 0) rfl ⟨acc, hacc, hlt, n1 _ _ _ (Mv.refl _ _) rfl h1' trivial⟩⟩
  have s3 := m3.same
  have e3 : (pairs12.map fun p => some (pairD (rl (nmOf h ls) low p))).filterMap id = (rr (nmOf h ls) low pairs12).map pairD := by
    rw [List.filterMap_map, List.map_map]
    simp [Function.comp_def, List.filterMap_eq_map]
  rw [e3] at hys
  obtain ⟨rows, rfl, hra, hrk⟩ := rows_of pairs12 ys hys
  refine ⟨D1, rows, true, [false], rfl, .inl (.inl hD3), hra, fun x hx => ?_, fun rows' p4 np4 pm so => ?_⟩
  · have hk : x.2 ∈ pairs12.map (keyP (nmOf h ls) low) := by rw [← hrk]; exact List.mem_map.mpr ⟨x, hx, rfl⟩
    obtain ⟨p, _, e⟩ := List.mem_map.mp hk
    rw [← e]; rfl
  have hk' : rows'.map (·.2) = pairs12.map (keyP (nmOf h ls) low) := sorted_one (by rw [← hrk]; exact pm.map _) so (keys_sorted N) (keys_nodup N)
  have hr12 : rows'.length = 12 := by
    have := congrArg List.length hk'
    rw [List.length_map, List.length_map] at this
    exact this
  have s4 := Same.upd (o := .lst (vrefs rows')) np4
  have s14 := (s2.trans s3).trans s4
  obtain ⟨H4, eH4⟩ : ∃ H4, H4 = upd H3 p4 (.lst (vrefs rows')) := ⟨_, rfl⟩
  have hp4 : H4 p4 = some (.lst (vrefs rows')) := by rw [eH4]; exact upd_same
  rw [← eH4] at s4 s14
  rw [← eH4]
  have m14 : Mv false [p] H1 H4 := s14.mv
  have P4 := LS0.pen.same s14
  have L4 := LS0.mv m14 P4 (tabs_mv LS0.tabs m14)
  have hra4 : RowsAt K H4 rows' := fun x hx => s4.tup (hra x (pm.mem_iff.mp hx))
  have p4p : p4 ≠ p := ((LS0.pen.same (s2.trans s3)).hp np4).1
  -- the versions
  refine ⟨p4, rfl, ⟨_, .inl (.inl hp4)⟩, fun D2 hD2 => ?_⟩
  obtain ⟨nDp, nDq⟩ := P4.hp hD2
  refine lc_dw (K := K) (tb := false) (W := [p]) (xl_walk (K := K) p4 (vrefs rows')) (fun i H0 x H1 y => by rw [y.1]; exact .refl _) (fun i ds => ∃ vs, vs.length = i ∧ (∀ v ∈ vs, ValOk v) ∧ ds = versT true (nmOf h ls) low (pairs12.take i) vs) ⟨[], rfl, fun _ z => (nomatch z), rfl⟩ hD2 (W2 nDp) (by rw [List.length_map, hr12]; decide)
    (fun i H' => PenAt H' p q (n + i)) (P4.same (.upd hD2)) (fun i H H' a b => a.same b) (fun H' m => m.sqL (W2 p4p) (.inl (.inl hp4)))
    (fun i x ds H5 H6 hi m5 y sd acc hacc hlt P6 Nx n1 n2 => ?_) (fun H5 xs ds m5 hD5 hds _ sd P5 => ?_)
  · obtain ⟨rfl, hx⟩ := y
    obtain ⟨vs, hvl, hvs, rfl⟩ := sd
    have hi12 : i < 12 := by rw [List.length_map, hr12] at hi; exact hi
    rw [List.getElem?_map] at hx
    cases e : rows'[i]? with
    | none => rw [e] at hx; exact nomatch hx
    | some row =>
      rw [e] at hx
      cases hx
      obtain ⟨pi, epi⟩ : ∃ pi, pairs12[i]? = some pi := ⟨_, List.getElem?_eq_getElem (show i < pairs12.length from hi12)⟩
      have ek : row.2 = keyP (nmOf h ls) low pi := by
        have := congrArg (fun l => l[i]?) hk'
        simp only [List.getElem?_map, e, epi, Option.map_some] at this
        exact Option.some.inj this
      have hTp : SqT K H6 row.1 [.str (S (nmOf h ls pi.1)), .int (low + (pi.2 : Int))] := by
        have := m5.sqT (hra4 row (List.mem_of_getElem? e))
        rw [ek] at this
        exact this
      refine ⟨row.1, _, rfl, hTp, rfl, _, _, rfl, _, _, rfl, rfl, rfl, ?_⟩
      refine ⟨_, rfl, _, rfl, _, rfl, by show 2 ≤ sizeLine; decide, fun l5 nl5 => ?_⟩
      have s5 := Same.upd (o := .lst [V.str "x", .non]) nl5
      refine ⟨p, q, l5, _, n + i, rfl, (P6.hp nl5).1, .inl (.inl upd_same), by simp, by simp, P6.same s5, by omega, fun v H7 hv k7 P7 => ?_⟩
      have hv' : v ∈ [V.str "x", .non, .str "y"] := by
        simp only [List.mem_cons, List.not_mem_nil, or_false] at hv ⊢
        exact hv.imp id .inl
      obtain ⟨dv, hdv, hpv, _⟩ := val_pick (K := K) (W := D2 :: [p]) (H := H7) hv'
      have m7 : Mv false [p] H6 H7 := s5.mv.trans (k7.pen pW (P6.same s5) P7)
      refine ⟨by show 3 ≤ sizeLine; decide, fun t8 nt8 => ?_⟩
      have s8 := Same.upd (o := .tup [.str (S (nmOf h ls pi.1)), .int (low + (pi.2 : Int)), v]) nt8
      have hacc7 := m7.at_ hacc (.inl (W2 nDp)) (fun x z => (nomatch z))
      refine ⟨acc, s8 _ _ hacc7, hlt, n1 _ _ (verT true (nmOf h ls) low pi dv) (m7.trans s8.mv) ⟨vs ++ [dv], by rw [List.length_append, hvl]; rfl, fun z hz => ?_, (versT_snoc hvl epi).symm⟩ ?_ ((P7.same s8).upd nDp nDq)⟩
      · rcases List.mem_append.mp hz with y | y
        · exact hvs z y
        · rw [List.mem_singleton.mp y]; exact hdv
      · exact .tup (.inl (.inl upd_same)) (.cons (.str _) (.cons (.int _) (.cons (s8.dw hpv) .nil)))
  obtain ⟨vs, hvl, hvs, rfl⟩ := sd
  have hvl : vs.length = 12 := by rw [hvl, List.length_map, hr12]
  have et : pairs12.take (vrefs rows').length = pairs12 := by rw [List.length_map, hr12]; rfl
  rw [et] at hds
  have P5 : PenAt H5 p q (n + 12) := P5.mono (by rw [List.length_map, hr12]; exact Nat.le_refl _)
  have L5 := L4.mv m5 P5 (tabs_mv L4.tabs m5)
  have hD2W : DW K [p] H5 (.ref D2) (.list (VS (nmOf h ls) low vs)) := .lst (W2 nDp) hD5 hds
  -- size
  refine ⟨_, rfl, by show 5 ≤ sizeLine; decide, fun l6 nl6 => ?_⟩
  have s6 := Same.upd (o := .lst [V.int 1, .int 2, .int 5, .int 12, .int 100]) nl6
  refine ⟨p, q, l6, _, n + 12, rfl, (P5.hp nl6).1, .inl (.inl upd_same), by simp, by simp, P5.same s6, by omega, fun x H7 hx k7 P7 => ?_⟩
  obtain ⟨sz, rfl, hs1, hs2⟩ : ∃ sz : Int, x = .int sz ∧ 1 ≤ sz ∧ sz ≤ 100 := by
    simp only [List.mem_cons, List.not_mem_nil, or_false] at hx
    rcases hx with e | e | e | e | e <;> exact ⟨_, e, by decide, by decide⟩
  have m7 : Mv false [p] H5 H7 := s6.mv.trans (k7.pen pW (P5.same s6) P7)
  have L7 := L5.mv m7 P7 (tabs_mv L5.tabs m7)
  have hD7 := m7.dw' hD2W
  -- told
  have ok12 := block_ok (d := .list (VS (nmOf h ls) low vs)) N h1 true rfl hvl.symm inc12 (by decide) hvs
  have sm12 := small3_vers (d := .list (VS (nmOf h ls) low vs)) N rfl (fun p hp => (inc12.lt p hp).1) (by decide) hvs
  have sl12 := VS_slim (low := low) N hvl hvs
  have run12 : runD (.list (VS (nmOf h ls) low vs)) = true := by
    unfold runD
    show (match some (VS (nmOf h ls) low vs) with | some [] => true | some _ => blockD (.list (VS (nmOf h ls) low vs)) | none => false) = true
    split
    · rfl
    · exact ok12.1
    · rename_i z; cases z
  have wiS : withinD (.int sz) (some 1) (some 100) = true := by
    unfold withinD
    simp only [Option.all_some, Bool.and_eq_true, decide_eq_true_eq]
    exact ⟨hs1, hs2⟩
  refine ⟨_, rfl, _, rfl, .ref D2, .int sz, .list (VS (nmOf h ls) low vs), .int sz, rfl, hD7.dp, .int sz, sm12, sl12.1, sl12.2, ff run12, fun _ => ff wiS, fun ds s' _ eds es _ v8 H8 s8 hv8 => ?_⟩
  cases es
  have eds : VS (nmOf h ls) low vs = ds := Option.some.inj eds
  rw [← eds, fixL_id _ (VS_no hvs)] at hv8
  have lay8 : LayN (.tuple (chunkL sz (VS (nmOf h ls) low vs))) 3 := chunk_lay (VS_lay N hvs)
  dsimp only [gName]
  have m8 : Mv false [p] H7 H8 := s8.mv
  have L8 := L7.mv m8 (P7.same s8) (tabs_mv L7.tabs m8)
  have hD8 := m8.dw' hD7
  refine seq_F (fun H' => Same H8 H') (fun G hG => ?_) (fun H9 s9 => hnx _ _ D2 vs H9 hvl hvs ((s9.mv (tb := false)).dw' hD8) (L8.mv (s9.mv (tb := false)) ((P7.same s8).same s9 |>.mono (by omega)) (tabs_mv L8.tabs (s9.mv (W := [p])))))
  obtain ⟨_, xv, hxv, hxd⟩ := dw_list hD8
  have hxl : xv.length = 12 := by rw [hxd.len, versT_len, hvl]; rfl
  have hVl : (VS (nmOf h ls) low vs).length = 12 := by rw [versT_len, hvl]; rfl
  refine ⟨_, rfl, .ref D2, rfl, .ref D2, _, rfl, lenAt (.inl (.inl (.inl hxv))), _, rfl, 0, (xv.length : Int), sz, turnsN ((VS (nmOf h ls) low vs).length : Int) sz, rfl, ?_, fun D3 hD3 => ?_⟩
  · rw [hxl, hVl]
    exact RgC.chunk (by decide) (by decide) hs1 (by omega)
  have tle : turnsN ((VS (nmOf h ls) low vs).length : Int) sz ≤ 12 := by
    have := size_le (len := ((VS (nmOf h ls) low vs).length : Int)) (s := sz) (by omega) hs1
    unfold turnsN
    omega
  have clen : (chunkL sz (VS (nmOf h ls) low vs)).length = turnsN ((VS (nmOf h ls) low vs).length : Int) sz := by
    unfold chunkL
    rw [List.length_map, List.length_range]
  refine lc_dm (K := K) (tb := false) (W := []) walk_rangeC (fun i H0 x H1 y => by rw [y.1]; exact .refl _) ((chunkL sz (VS (nmOf h ls) low vs)).map some) (fun d hd => ?_) (by rw [List.length_map, clen]) hD3 (by simp) (Nat.lt_of_le_of_lt tle (by decide)) (fun _ _ => True) trivial (fun _ _ _ _ _ => trivial) (fun _ _ => trivial)
    (fun i x o H9 H10 m9 y ho acc hacc hlt _ Nx n1 n2 => ?_) (fun H9 ys m9 hD9 hys _ => ?_)
  · obtain ⟨z, hz, e⟩ := List.mem_map.mp hd
    cases e
    exact noListL_all.mp (noListL_chunk (VS_no hvs)) _ hz
  · obtain ⟨rfl, rfl⟩ := y
    rw [List.getElem?_map] at ho
    have ho2 : o = some (.tuple (cutP (VS (nmOf h ls) low vs) (some (0 + ((i : Nat) : Int) * sz)) (some (0 + ((i : Nat) : Int) * sz + sz)))) := by
      cases e : (chunkL sz (VS (nmOf h ls) low vs))[i]? with
      | none => rw [e] at ho; exact nomatch ho
      | some z =>
        rw [e] at ho
        have ho := (Option.some.inj ho).symm
        rw [ho]
        unfold chunkL at e
        rw [List.getElem?_map] at e
        cases e5 : (List.range (turnsN ((VS (nmOf h ls) low vs).length : Int) sz))[i]? with
        | none => rw [e5] at e; exact nomatch e
        | some j =>
          rw [e5] at e
          have ej : i = j := by
            have hil := (List.getElem?_eq_some_iff.mp e5).1
            rw [List.length_range] at hil
            rw [List.getElem?_range hil] at e5
            exact Option.some.inj e5
          subst ej
          exact (Option.some.inj e).symm ▸ rfl
    have hx10 := m9.same _ _ hxv
    refine ⟨rfl, .ref D2, rfl, _, rfl, _, rfl, _, rfl, _, rfl, _, _, rfl, rfl, _, rfl, D2, xv, rfl, .inl (.inl hx10), fun p7 np7 => ?_⟩
    have s7 := Same.upd (o := .lst (cutV xv (some (0 + ((i : Nat) : Int) * sz)) (some (0 + ((i : Nat) : Int) * sz + sz)))) np7
    refine ⟨p7, _, rfl, .inl ⟨.inl (.inl upd_same), fun t7 nt7 => ?_⟩⟩
    have s8' := Same.upd (o := .tup (cutV xv (some (0 + ((i : Nat) : Int) * sz)) (some (0 + ((i : Nat) : Int) * sz + sz)))) nt7
    refine ⟨acc, s8' _ _ (s7 _ _ hacc), hlt, n1 _ _ _ (s7.trans s8').mv ho2 (.tup (.inl (.inl upd_same)) ?_) trivial⟩
    exact (DpAll.same (m9.same.trans (s7.trans s8')) _ _ hxd.dp).cut _ _
  · have e9 : ((chunkL sz (VS (nmOf h ls) low vs)).map some).filterMap id = chunkL sz (VS (nmOf h ls) low vs) := by
      rw [List.filterMap_map]
      simp [Function.comp_def]
    rw [e9] at hys
    have s9 := m9.same
    refine ⟨D3, ys, rfl, .inl ⟨.inl (.inl hD9), fun t9 nt9 => ?_⟩⟩
    have s10 := Same.upd (o := .tup ys) nt9
    refine ne_same (Dp.same (s9.trans s10) _ _ hv8) (.tup (.inl (.inl upd_same)) (DpAll.same s10 _ _ hys)) lay8 (by decide) ⟨_, rfl, iteF ?_⟩
    refine ⟨Nat.zero_le _, fun l11 nl11 => ⟨_, rfl, .ref l11, .int sz, .list [], .int sz, rfl, .lst (.inl (.inl upd_same)) .nil, .int sz, fun ds e => (by cases e; exact ⟨by decide, fun _ z => (nomatch z)⟩), rfl, by decide, fun e => (nomatch e), fun _ => ff wiS, fun ds s2' _ eds es _ v12 H12 s12 hv12 => ?_⟩⟩
    cases es
    cases eds
    have e12 : chunkL sz (fixL []) = [] := chunkL_nil sz
    rw [e12] at hv12
    refine ⟨Nat.zero_le _, fun t13 nt13 => ?_⟩
    have s13 := Same.upd (o := .tup []) nt13
    exact ne_same (n := 1) (Dp.same s13 _ _ hv12) (.tup (.inl (.inl upd_same)) .nil) (LayN.tuple fun _ z => (nomatch z)) (by decide) ⟨_, rfl, hG _ (((s9.trans s10).trans (.upd nl11)).trans (s12.trans s13))⟩
end
end K93
set_option Elab.async false
set_option linter.all false
set_option maxRecDepth 100000
set_option maxHeartbeats 4000000
/-! # The end: what is refused. -/
namespace K93
open PySem PySem.Spec PyProof.Rows L2 Nam SetP Pen LamX LamB PlugX
mutual
/-- short texts, short lists -/
def sB : PyData → Bool
  | .str x => decide (x.length ≤ 1000)
  | .list ds => decide (ds.length ≤ 1000) && sBL ds
  | .tuple ds => decide (ds.length ≤ 1000) && sBL ds
  | .none => true
  | .bool _ => true
  | .int _ => true
  | .dict _ => true
def sBL : List PyData → Bool
  | [] => true
  | d :: ds => sB d && sBL ds
end
theorem sBL_all : ∀ {ds : List PyData}, sBL ds = true → ∀ d ∈ ds, sB d = true
  | [], _, _, h => nomatch h
  | d :: ds, h, x, hx => by
    rw [sBL, Bool.and_eq_true] at h
    rcases List.mem_cons.mp hx with e | e
    · rw [e]; exact h.1
    · exact sBL_all h.2 x e
theorem sBL_of {ds : List PyData} (h : ∀ d ∈ ds, sB d = true) : sBL ds = true := by
  induction ds with
  | nil => rfl
  | cons x l ih => rw [sBL, h x List.mem_cons_self, ih fun d hd => h d (List.mem_cons_of_mem _ hd)]; rfl
theorem sB_prts {d : PyData} (h : sB d = true) {ds : List PyData} (e : prts d = some ds) : ds.length ≤ 1000 ∧ ∀ x ∈ ds, sB x = true := by
  rcases prts_or e with z | z <;> (subst z; rw [sB, Bool.and_eq_true] at h; exact ⟨of_decide_eq_true h.1, sBL_all h.2⟩)
theorem sB_small {d : PyData} (h : sB d = true) : small d := by
  cases d with
  | str x => rw [sB] at h; exact Nat.le_trans (of_decide_eq_true h) (by decide)
  | _ => trivial
theorem sB_small2 {d : PyData} (h : sB d = true) : small2 d := fun ds e x hx => sB_small ((sB_prts h e).2 x hx)
theorem sB_small3 {d : PyData} (h : sB d = true) : small3 d := fun ds e => ⟨(sB_prts h e).1, fun x hx => sB_small2 ((sB_prts h e).2 x hx)⟩
mutual
theorem sB_slim : ∀ d : PyData, sB d = true → slim d = true
  | .list ds, h => by rw [sB, Bool.and_eq_true] at h; rw [slim, h.1, sBL_slim ds h.2]; rfl
  | .tuple ds, h => by rw [sB, Bool.and_eq_true] at h; rw [slim, h.1, sBL_slim ds h.2]; rfl
  | .none, _ => rfl
  | .bool _, _ => rfl
  | .int _, _ => rfl
  | .str _, _ => rfl
  | .dict _, _ => rfl
theorem sBL_slim : ∀ ds : List PyData, sBL ds = true → slimL ds = true
  | [], _ => rfl
  | d :: ds, h => by rw [sBL, Bool.and_eq_true] at h; rw [slimL, sB_slim d h.1, sBL_slim ds h.2]; rfl
end
/-- no block -/
structure BadB (d : PyData) : Prop where
  no : blockD d = false
  run : runD d = false
  sb : sB d = true
  dep : PyData.depth d < 4
theorem run_of_block {d : PyData} (h : blockD d = false) (e : prts d ≠ some []) : runD d = false := by
  unfold runD
  cases q : prts d with
  | none => rfl
  | some ds => cases ds with
    | nil => exact absurd q e
    | cons x l => exact h
theorem rising_false {ds : List PyData} {x y : PyData} (h : (x, y) ∈ ds.zip ds.tail) (e : lexK (pairK x) (pairK y) = false) : rising ds = false := by
  rw [Bool.eq_false_iff]
  intro z
  have := List.all_eq_true.mp z (x, y) h
  rw [show lexK (pairK (x, y).1) (pairK (x, y).2) = false from e] at this
  cases this
theorem block_false {ds : List PyData} (h : rising ds = false) : blockD (.list ds) = false := by
  show (!ds.isEmpty && (ds.all verD && rising ds)) = false
  rw [h, Bool.and_false, Bool.and_false]
/-- any small data, decidable -/
def badB (d : PyData) : Bool := !blockD d && (!runD d && (sB d && decide (PyData.depth d < 4)))
theorem badB_ok {d : PyData} (h : badB d = true) : BadB d := by
  unfold badB at h
  simp only [Bool.and_eq_true, Bool.not_eq_true', decide_eq_true_eq] at h
  exact ⟨h.1, h.2.1, h.2.2.1, h.2.2.2⟩
section
variable {nm : Nat → List Nat} {low : Int}
theorem sB_verT (N : N4 nm) {p : Nat × Nat} {v : PyData} (hp : p.1 < 4) (hv : ValOk v) : sB (verT true nm low p v) = true := by
  show sB (.tuple [.str (S (nm p.1)), .int (low + (p.2 : Int)), v]) = true
  rw [sB, Bool.and_eq_true]
  refine ⟨decide_eq_true (by show 3 ≤ 1000; decide), sBL_of fun d hd => ?_⟩
  simp only [List.mem_cons, List.not_mem_nil, or_false] at hd
  rcases hd with e | e | e <;> rw [e]
  · rw [sB]
    refine decide_eq_true ?_
    rw [S_len]
    exact Nat.le_trans (N.ok _ hp).len (by decide)
  · rfl
  · rcases hv with e | ⟨e, x, rfl⟩
    · rw [e]; rfl
    · rw [sB]
      unfold nameD at e
      simp only [Bool.and_eq_true, decide_eq_true_eq] at e
      exact decide_eq_true (Nat.le_trans e.2.1 (by decide))
theorem VS_list {vs : List PyData} (hl : vs.length = 12) : ∃ v0 v1 v2 v3 v4 v5 v6 v7 v8 v9 v10 v11, vs = [v0, v1, v2, v3, v4, v5, v6, v7, v8, v9, v10, v11] := by
  match vs, hl with
  | [v0, v1, v2, v3, v4, v5, v6, v7, v8, v9, v10, v11], _ => exact ⟨v0, v1, v2, v3, v4, v5, v6, v7, v8, v9, v10, v11, rfl⟩
theorem rev_bad (N : N4 nm) (h1 : 1 ≤ low) {vs : List PyData} (hl : vs.length = 12) (hv : ∀ v ∈ vs, ValOk v) : BadB (.list (VS nm low vs).reverse) := by
  have hno : blockD (.list (VS nm low vs).reverse) = false := by
    obtain ⟨v0, v1, v2, v3, v4, v5, v6, v7, v8, v9, v10, v11, rfl⟩ := VS_list hl
    have a := (verT_ok N h1 true (p := (3, 2)) (by decide) (hv v11 (by simp))).2.1
    have b := (verT_ok N h1 true (p := (3, 1)) (by decide) (hv v10 (by simp))).2.1
    refine block_false (rising_false (x := verT true nm low (3, 2) v11) (y := verT true nm low (3, 1) v10) ?_ ?_)
    · exact List.mem_cons_self
    · rw [a, b, keyP_lt N (by decide) (by decide)]; rfl
  refine ⟨hno, run_of_block hno ?_, ?_, ?_⟩
  · intro e
    have := congrArg List.length (Option.some.inj e)
    rw [List.length_reverse, versT_len, hl] at this
    exact absurd this (by decide)
  · rw [sB, Bool.and_eq_true]
    refine ⟨decide_eq_true (by rw [List.length_reverse, versT_len]; omega), sBL_of fun d hd => ?_⟩
    obtain ⟨p, hp, v, hvv, rfl⟩ := versT_mem (List.mem_reverse.mp hd)
    exact sB_verT N (inc12.lt p hp).1 (hv v hvv)
  · have := (LayN.list (ds := (VS nm low vs).reverse) fun d hd => VS_lay N hv d (List.mem_reverse.mp hd)).2
    omega
theorem twice_bad (N : N4 nm) (h1 : 1 ≤ low) {vs : List PyData} (hl : vs.length = 12) (hv : ∀ v ∈ vs, ValOk v) : BadB (.list (VS nm low vs ++ cutP (VS nm low vs) (some (-1)) none)) := by
  have hsub : ∀ d ∈ VS nm low vs ++ cutP (VS nm low vs) (some (-1)) none, d ∈ VS nm low vs := fun d hd => by
    rcases List.mem_append.mp hd with z | z
    · exact z
    · exact List.mem_of_mem_drop (List.mem_of_mem_take z)
  have hlen : (VS nm low vs ++ cutP (VS nm low vs) (some (-1)) none).length ≤ 24 := by
    rw [List.length_append]
    have h2 : (cutP (VS nm low vs) (some (-1)) none).length ≤ (VS nm low vs).length := by
      unfold cutP
      rw [List.length_take, List.length_drop]
      omega
    have h3 : (VS nm low vs).length ≤ 12 := by rw [versT_len]; omega
    omega
  have hno : blockD (.list (VS nm low vs ++ cutP (VS nm low vs) (some (-1)) none)) = false := by
    obtain ⟨v0, v1, v2, v3, v4, v5, v6, v7, v8, v9, v10, v11, rfl⟩ := VS_list hl
    refine block_false (rising_false (x := verT true nm low (3, 2) v11) (y := verT true nm low (3, 2) v11) ?_ (lexK_irr _))
    refine List.mem_iff_getElem?.mpr ⟨11, ?_⟩
    rfl
  refine ⟨hno, run_of_block hno ?_, ?_, ?_⟩
  · intro e
    have := congrArg List.length (Option.some.inj e)
    rw [List.length_append, versT_len, hl] at this
    exact absurd this (by
      show ¬ (min 12 12 + _ = 0)
      omega)
  · rw [sB, Bool.and_eq_true]
    refine ⟨decide_eq_true (by omega), sBL_of fun d hd => ?_⟩
    obtain ⟨p, hp, v, hvv, rfl⟩ := versT_mem (hsub d hd)
    exact sB_verT N (inc12.lt p hp).1 (hv v hvv)
  · have := (LayN.list (ds := VS nm low vs ++ cutP (VS nm low vs) (some (-1)) none) fun d hd => VS_lay N hv d (hsub d hd)).2
    omega
end
theorem dw_cut {K : PySem.W.Frag} {W : List Addr} {H : Hp} {vs : List V} {ds : List PyData} (h : DWAll K W H vs ds) (lo hi : Option Int) : DWAll K W H (cutV vs lo hi) (cutP ds lo hi) := by
  unfold cutV cutP
  rw [h.len]
  exact (h.drop _).take _
/-- no fence -/
structure BadF (d : PyData) : Prop where
  no : fenceD d = false
  s5 : small5 d
  sl : slim d = true
  dep : PyData.depth d < 4
def mildB : PyData → Bool
  | .int i => decide (i < 2 ^ 62)
  | _ => true
theorem small5_of {d : PyData} (h : sB d = true) (g : ((prts d).getD []).all mildB = true) : small5 d := fun ds e => ⟨(sB_prts h e).1, fun x hx => sB_small ((sB_prts h e).2 x hx), fun x hx => by
  rw [e] at g
  have := List.all_eq_true.mp g x hx
  cases x with
  | int i =>
    have q : decide (i < 2 ^ 62) = true := this
    show i < 2 ^ 62
    exact of_decide_eq_true q
  | _ => trivial⟩
def badF (d : PyData) : Bool := !fenceD d && (sB d && (((prts d).getD []).all mildB && decide (PyData.depth d < 4)))
theorem badF_ok {d : PyData} (h : badF d = true) : BadF d := by
  unfold badF at h
  simp only [Bool.and_eq_true, Bool.not_eq_true', decide_eq_true_eq] at h
  exact ⟨h.1, small5_of h.2.1 h.2.2.1, sB_slim _ h.2.1, h.2.2.2⟩
theorem BadP.same {C : Addr} {E : XK} {H H' : Hp} {part : Str} (h : BadP C E H part) (s : Same H H') : BadP C E H' part := fun H2 d s2 e => h H2 d (s.trans s2) e
/-- one more that is heard -/
theorem step_acc {K : PySem.W.Frag} {T : List (Addr × Str)} {CP CV CN CM C : Addr} {wd : Str} {t : XK → TE} {σ : L2.St} {H : Hp} {Q : VK} (R : ErrR K CP CV CN CM C wd) (part : Str) (hT : Tabs T H) {vs : List V} {ds : List PyData} (hall : DWAll K [] H vs ds) (hcall : ∀ Hb E Q', ExtN H Hb → BadP C E Hb part → t E σ Hb Q')
    (hc : ∀ Hd p1, ExtN H Hd → Tabs T Hd → DWAll K [] Hd (vs ++ [.ref p1]) (ds ++ [.tuple [.str wd, .str part]]) → Q (.ref p1) Hd) : tLam T (TErr K CP CV CN CM) t σ H Q :=
  step_err R part hT hcall fun Hd p1 ed Td hp => hc Hd p1 ed Td (DWAll.snoc (.tup (.inl (.inl hp)) (.cons (.str _) (.cons (.str _) .nil))) ((ed.mv (W := [])).dwAll' hall))
def heardD : List PyData := [.tuple [.str "value", .str "versions"], .tuple [.str "number", .str "size"], .tuple [.str "value", .str "block"], .tuple [.str "value", .str "block"], .tuple [.str "value", .str "fence"], .tuple [.str "value", .str "key"], .tuple [.str "number", .str "number"]]
def goodFence : PyData := .tuple [.str "a", .str "aa", .int 1, .int 1, .int 2]
theorem good_fence : fenceD goodFence = true ∧ small5 goodFence ∧ slim goodFence = true ∧ PyData.depth goodFence < 4 := ⟨by decide +kernel, small5_of (by decide +kernel) (by decide +kernel), by decide +kernel, by decide +kernel⟩
end K93
set_option Elab.async false
set_option linter.all false
set_option maxRecDepth 100000
set_option maxHeartbeats 8000000
namespace K93
open PySem PySem.Spec PyProof.Rows L2 Nam SetP Pen LamX LamB PlugX
section
variable {P : Program} {w : World} {K : PySem.W.Frag} {mg : Str → Option Value} {base : Heap} {CP CV CN CM CNn CE CT c Pt : Addr}
theorem tail_3 (M : MG mg) (K1 : ErrK K mg CP CV CN CM CNn CE CT) (RV : ErrR K CP CV CN CM CV "value") (RN : ErrR K CP CV CN CM CN "number") (D : Ds P w K mg base CV CN) (S0 : St0 K mg "_law_error" s_law_error ["ask"]) (TB : LamX.TabB base mg c Pt)
    (f : Addr) (A : Around) (outer : List Env) (s : Shared) (H : Hp) (E : XK) (hr : Room 7 (A.deeper (envOfC "law" (defScope s_law) s.heap.objs.size f (.ref c)))) (T : List (Addr × Str)) (eT : T = [(Pt, (XL P w K mg base f c A outer s H E).env.qual ++ "<lambda>")]) :
    ∃ t, PSs (XL P w K mg base f c A outer s H E) ((defBody s_law).drop 15) t ∧ ∀ (De : Ends) (x0 x3 x4 x5 x6 x7 x8 x9 x10 x11 x12 x13 x14 x15 x16 x17 x18 x23 : Option V) (h : List Nat) (p q vl : Addr) (ls : List Nat) (low : Int) (n : Nat) (vs : List PyData) (H1 : Hp), h ∈ heads → ls ∈ letters → 1 ≤ low → low ≤ 2 ^ 40 → n ≤ 900000 → PenAt H1 p q n → Tabs T H1 →
      vs.length = 12 → (∀ v ∈ vs, ValOk v) → DW K [p] H1 (.ref vl) (.list (VS (nmOf h ls) low vs)) → (∀ H', De.rt (.bl true) H') →
      t De [x0, some (.ref p), some (.str (S h)), x3, x4, x5, x6, x7, x8, x9, x10, x11, x12, x13, x14, x15, x16, x17, x18, none, none, none, none, x23, none, some (.ref vl), none, none, none] H1 := by
  have hmT : (Pt, (XL P w K mg base f c A outer s H E).env.qual ++ "<lambda>") ∈ T := by rw [eT]; exact List.mem_cons_self
  have hu : ∀ p ∈ T, p.1 = Pt → p.2 = (XL P w K mg base f c A outer s H E).env.qual ++ "<lambda>" := fun p hp _ => by
    rw [eT] at hp
    rw [List.mem_singleton.mp hp]
  refine ⟨_, (pss_cons (ps_set (i := 22) sc_law.nd rfl (Or.inr rfl) (pd D.pick (hr.mono (by decide)) rfl (pa_cons (pv 1) (pa_cons (pe_lst (pa_cons pe_non (pa_cons pe_int (pa_cons pe_str (pa_cons (pe_lst (pa_cons pe_non pa_nil)) (pa_cons (pe_revL (pv 25)) (pa_cons (pe_op op_cat (pv 25) (pe_slice sl_list (pv 25) (po_some (pe_un un_neg pe_int)) po_none)) (pa_cons (pe_lst (pa_cons (pe_tup (pa_cons pe_str (pa_cons pe_int (pa_cons pe_str pa_nil)))) pa_nil)) (pa_cons (pe_lst (pa_cons (pe_tup (pa_cons pe_str (pa_cons pe_int (pa_cons pe_str pa_nil)))) pa_nil)) (pa_cons (pe_lst (pa_cons (pe_tup (pa_cons pe_str (pa_cons pe_int (pa_cons pe_int pa_nil)))) pa_nil)) (pa_cons (pe_lst (pa_cons (pe_tup (pa_cons pe_str (pa_cons pe_int pa_nil))) pa_nil)) (pa_cons (pe_lst (pa_cons (pe_tup (pa_cons pe_str (pa_cons pe_bl (pa_cons pe_str pa_nil)))) pa_nil)) pa_nil)))))))))))) pa_nil))))
  (pss_cons (ps_asg (pe_tup (pa_cons (pd D.pick (hr.mono (by decide)) rfl (pa_cons (pv 1) (pa_cons (pe_lst (pa_cons pe_non (pa_cons pe_int (pa_cons pe_int (pa_cons pe_bl (pa_cons pe_str pa_nil)))))) pa_nil))) (pa_cons (pe_lst (pa_cons pe_non (pa_cons pe_int (pa_cons (pe_lst pa_nil) (pa_cons (pe_tup (pa_cons pe_str (pa_cons pe_str (pa_cons pe_int (pa_cons pe_int pa_nil))))) (pa_cons (pe_tup (pa_cons pe_str (pa_cons pe_str (pa_cons pe_int (pa_cons pe_int (pa_cons pe_int pa_nil)))))) (pa_cons (pe_tup (pa_cons pe_str (pa_cons pe_str (pa_cons pe_int (pa_cons pe_int (pa_cons pe_int pa_nil)))))) (pa_cons (pe_tup (pa_cons pe_str (pa_cons pe_str (pa_cons pe_int (pa_cons pe_int (pa_cons pe_int pa_nil)))))) pa_nil)))))))) pa_nil))) (pg_tup rfl (pgs_cons (pg_name (i := 24) sc_law.nd rfl (Or.inr rfl)) (pgs_cons (pg_name (i := 19) sc_law.nd rfl (Or.inl rfl)) pgs_nil))))
  (pss_cons (ps_set (i := 21) sc_law.nd rfl (Or.inr rfl) (pd D.pick (hr.mono (by decide)) rfl (pa_cons (pv 1) (pa_cons (pe_op op_cat (pv 19) (pe_lst (pa_cons (pe_tup (pa_cons pe_str (pa_cons pe_str (pa_cons pe_int (pa_cons pe_int (pa_cons pe_int pa_nil)))))) (pa_cons (pe_tup (pa_cons pe_str (pa_cons pe_str (pa_cons pe_int (pa_cons pe_int (pa_cons pe_int pa_nil)))))) (pa_cons (pe_tup (pa_cons pe_str (pa_cons pe_str (pa_cons pe_int (pa_cons pe_int (pa_cons pe_int pa_nil)))))) pa_nil))))) pa_nil))))
  (pss_cons (ps_set (i := 20) sc_law.nd rfl (Or.inl rfl) (pe_lst (pa_cons (pe_err (T := T) (k := 5) M K1 S0 rfl TB rfl hmT hu (hr.mono (by decide)) (show LamS (defScope s_law) _ from lamS_by (by decide +kernel)) rfl (fun _ _ _ _ _ => rfl) (fun A' o' s' H' E' f' c' hr' => pdX (fun _ _ _ _ h => h) (takes_of rfl rfl rfl rfl) D.bof (hr'.mono (by decide)) rfl (pa_cons (pv 22) (pa_cons (pv 24) pa_nil)))) (pa_cons (pe_err1 (T := T) (k := 5) M K1 S0 rfl TB rfl hmT hu (hr.mono (by decide)) (show LamS1 N_law _ (defScope s_law) _ from lamS1_by (by decide +kernel)) (fun A' o' s' H' E' f' c' hr' => pdX (fun _ _ _ _ h => h) (takes_of rfl rfl rfl rfl) D.bof (hr'.mono (by decide)) rfl (pa_cons (pv 25) (pa_cons (pv 24) pa_nil)))) (pa_cons (pe_err1 (T := T) (k := 5) M K1 S0 rfl TB rfl hmT hu (hr.mono (by decide)) (show LamS1 N_law _ (defScope s_law) _ from lamS1_by (by decide +kernel)) (fun A' o' s' H' E' f' c' hr' => pdX (fun _ _ _ _ h => h) (takes_of rfl rfl rfl rfl) D.fof (hr'.mono (by decide)) rfl (pa_cons (pv 22) pa_nil))) (pa_cons (pe_err1 (T := T) (k := 5) M K1 S0 rfl TB rfl hmT hu (hr.mono (by decide)) (show LamS1 N_law _ (defScope s_law) _ from lamS1_by (by decide +kernel)) (fun A' o' s' H' E' f' c' hr' => pdX (fun _ _ _ _ h => h) (takes_of rfl rfl rfl rfl) D.fof (hr'.mono (by decide)) rfl (pa_cons (pe_lst pa_nil) pa_nil))) pa_nil))))))
  (pss_cons (ps_set (i := 20) sc_law.nd rfl (Or.inl rfl) (pe_op op_cat (pv 20) (pe_lst (pa_cons (pe_err (T := T) (k := 5) M K1 S0 rfl TB rfl hmT hu (hr.mono (by decide)) (show LamS (defScope s_law) _ from lamS_by (by decide +kernel)) rfl (fun _ _ _ _ _ => rfl) (fun A' o' s' H' E' f' c' hr' => pdX (fun _ _ _ _ h => h) (takes_of rfl rfl rfl rfl) D.may (hr'.mono (by decide)) rfl (pa_cons (pv 21) (pa_cons pe_int (pa_cons pe_str pa_nil))))) (pa_cons (pe_err1 (T := T) (k := 5) M K1 S0 rfl TB rfl hmT hu (hr.mono (by decide)) (show LamS1 N_law _ (defScope s_law) _ from lamS1_by (by decide +kernel)) (fun A' o' s' H' E' f' c' hr' => pdX (fun _ _ _ _ h => h) (takes_of rfl rfl rfl rfl) D.may (hr'.mono (by decide)) rfl (pa_cons (pe_tup (pa_cons pe_str (pa_cons pe_str (pa_cons pe_int (pa_cons pe_int (pa_cons pe_int pa_nil)))))) (pa_cons pe_int (pa_cons pe_str pa_nil))))) (pa_cons (pe_err1 (T := T) (k := 5) M K1 S0 rfl TB rfl hmT hu (hr.mono (by decide)) (show LamS1 N_law _ (defScope s_law) _ from lamS1_by (by decide +kernel)) (fun A' o' s' H' E' f' c' hr' => pdX (fun _ _ _ _ h => h) (takes_of rfl rfl rfl rfl) D.may (hr'.mono (by decide)) rfl (pa_cons (pe_tup (pa_cons pe_str (pa_cons pe_str (pa_cons pe_int (pa_cons pe_int (pa_cons pe_int pa_nil)))))) (pa_cons pe_str (pa_cons pe_bl pa_nil))))) pa_nil))))))
  (pss_one (ps_ret (pe_cmpR (op_eqD hr.units) (pv 20) (pe_lst (pa_cons (pe_tup (pa_cons pe_str (pa_cons pe_str pa_nil))) (pa_cons (pe_tup (pa_cons pe_str (pa_cons pe_str pa_nil))) (pa_cons (pe_tup (pa_cons pe_str (pa_cons pe_str pa_nil))) (pa_cons (pe_tup (pa_cons pe_str (pa_cons pe_str pa_nil))) (pa_cons (pe_tup (pa_cons pe_str (pa_cons pe_str pa_nil))) (pa_cons (pe_tup (pa_cons pe_str (pa_cons pe_str pa_nil))) (pa_cons (pe_tup (pa_cons pe_str (pa_cons pe_str pa_nil))) pa_nil)))))))) (nomark _))))))))), ?_⟩
  intro De x0 x3 x4 x5 x6 x7 x8 x9 x10 x11 x12 x13 x14 x15 x16 x17 x18 x23 h p q vl ls low n vs H1 hh hls h1 hlow hn P1 T1 hvl hvs hVS hQ
  obtain ⟨N, _, _, _⟩ := names_ok hh hls
  have W1 : ∀ {a : Addr}, a ∉ [p] → a ≠ p := fun h z => h (by rw [z]; exact List.mem_singleton.mpr rfl)
  have W2 : ∀ {a : Addr}, a ≠ p → a ∉ [p] := fun h z => h (List.mem_singleton.mp z)
  have pW : p ∈ [p] := List.mem_singleton.mpr rfl
  have ff : ∀ {b : Bool} {G : Prop}, b = true → b = false → G := fun e e' => by rw [e] at e'; cases e'
  obtain ⟨vlW, xv, hxv, hxd⟩ := dw_list hVS
  have hVl : (VS (nmOf h ls) low vs).length = 12 := by rw [versT_len, hvl]; rfl
  have hxl : xv.length = 12 := by rw [hxd.len, hVl]
  have cutl : (cutV xv (some (-1)) none).length ≤ 12 := Nat.le_trans (cutV_length _ _ _) (by omega)
  -- bad
  refine ⟨_, rfl, by show 1 ≤ sizeLine; decide, fun l1 nl1 => ?_⟩
  have be0 := Same.upd (o := .lst [V.non]) nl1
  have bs0 := be0
  refine ⟨_, rfl, vl, xv, rfl, .inl (.inl (bs0 _ _ hxv)), fun rv nrv => ?_⟩
  have be1 := Same.upd (o := .lst xv.reverse) nrv
  have bs1 := bs0.trans be1
  refine ⟨_, rfl, _, rfl, 1, rfl, -1, rfl, vl, xv, rfl, .inl (.inl (bs1 _ _ hxv)), fun sl nsl => ?_⟩
  have be2 := Same.upd (o := .lst (cutV xv (some (-1)) none)) nsl
  have bs2 := bs1.trans be2
  refine ⟨vl, sl, _, _, rfl, rfl, bs2 _ _ hxv, upd_same, Nat.le_trans (show xv.length + (cutV xv (some (-1)) none).length ≤ 24 by omega) (by decide), fun ct nct => ?_⟩
  have be3 := Same.upd (o := .lst (xv ++ cutV xv (some (-1)) none)) nct
  have bs3 := bs2.trans be3
  refine ⟨by show 3 ≤ sizeLine; decide, fun t5 nt5 => ?_⟩
  have be4 := Same.upd (o := .tup [V.str "a", .int 0, .str "x"]) nt5
  have bs4 := bs3.trans be4
  refine ⟨by show 1 ≤ sizeLine; decide, fun l6 nl6 => ?_⟩
  have be5 := Same.upd (o := .lst [V.ref t5]) nl6
  have bs5 := bs4.trans be5
  refine ⟨by show 3 ≤ sizeLine; decide, fun t7 nt7 => ?_⟩
  have be6 := Same.upd (o := .tup [V.str "A", .int 1, .str "x"]) nt7
  have bs6 := bs5.trans be6
  refine ⟨by show 1 ≤ sizeLine; decide, fun l8 nl8 => ?_⟩
  have be7 := Same.upd (o := .lst [V.ref t7]) nl8
  have bs7 := bs6.trans be7
  refine ⟨by show 3 ≤ sizeLine; decide, fun t9 nt9 => ?_⟩
  have be8 := Same.upd (o := .tup [V.str "a", .int 1, .int 5]) nt9
  have bs8 := bs7.trans be8
  refine ⟨by show 1 ≤ sizeLine; decide, fun l10 nl10 => ?_⟩
  have be9 := Same.upd (o := .lst [V.ref t9]) nl10
  have bs9 := bs8.trans be9
  refine ⟨by show 2 ≤ sizeLine; decide, fun t11 nt11 => ?_⟩
  have be10 := Same.upd (o := .tup [V.str "a", .int 1]) nt11
  have bs10 := bs9.trans be10
  refine ⟨by show 1 ≤ sizeLine; decide, fun l12 nl12 => ?_⟩
  have be11 := Same.upd (o := .lst [V.ref t11]) nl12
  have bs11 := bs10.trans be11
  refine ⟨by show 3 ≤ sizeLine; decide, fun t13 nt13 => ?_⟩
  have be12 := Same.upd (o := .tup [V.str "a", .bl true, .str "x"]) nt13
  have bs12 := bs11.trans be12
  refine ⟨by show 1 ≤ sizeLine; decide, fun l14 nl14 => ?_⟩
  have be13 := Same.upd (o := .lst [V.ref t13]) nl14
  have bs13 := bs12.trans be13
  refine ⟨by show 11 ≤ sizeLine; decide, fun lb nlb => ?_⟩
  have be14 := Same.upd (o := .lst [V.non, .int 5, .str "a", .ref l1, .ref rv, .ref ct, .ref l6, .ref l8, .ref l10, .ref l12, .ref l14]) nlb
  have bs14 := bs13.trans be14
  have PB := P1.same bs14
  have xdB := bs14.dwAll hxd
  have hallB : DWAll K [p] _ [V.non, .int 5, .str "a", .ref l1, .ref rv, .ref ct, .ref l6, .ref l8, .ref l10, .ref l12, .ref l14] [PyData.none, .int 5, .str "a", .list [.none], .list (VS (nmOf h ls) low vs).reverse, .list (VS (nmOf h ls) low vs ++ cutP (VS (nmOf h ls) low vs) (some (-1)) none), .list [.tuple [.str "a", .int 0, .str "x"]], .list [.tuple [.str "A", .int 1, .str "x"]], .list [.tuple [.str "a", .int 1, .int 5]], .list [.tuple [.str "a", .int 1]], .list [.tuple [.str "a", .bool true, .str "x"]]] := (.cons .non (.cons (.int _) (.cons (.str _) (.cons (.lst (W2 (P1.hp nl1).1) (be14 _ _ (be13 _ _ (be12 _ _ (be11 _ _ (be10 _ _ (be9 _ _ (be8 _ _ (be7 _ _ (be6 _ _ (be5 _ _ (be4 _ _ (be3 _ _ (be2 _ _ (be1 _ _ upd_same)))))))))))))) (.cons .non .nil)) (.cons (.lst (W2 ((P1.same bs0).hp nrv).1) (be14 _ _ (be13 _ _ (be12 _ _ (be11 _ _ (be10 _ _ (be9 _ _ (be8 _ _ (be7 _ _ (be6 _ _ (be5 _ _ (be4 _ _ (be3 _ _ (be2 _ _ upd_same))))))))))))) xdB.rev) (.cons (.lst (W2 ((P1.same bs2).hp nct).1) (be14 _ _ (be13 _ _ (be12 _ _ (be11 _ _ (be10 _ _ (be9 _ _ (be8 _ _ (be7 _ _ (be6 _ _ (be5 _ _ (be4 _ _ upd_same))))))))))) (xdB.app (dw_cut xdB _ _))) (.cons (.lst (W2 ((P1.same bs4).hp nl6).1) (be14 _ _ (be13 _ _ (be12 _ _ (be11 _ _ (be10 _ _ (be9 _ _ (be8 _ _ (be7 _ _ (be6 _ _ upd_same))))))))) (.cons (.tup (.inl (.inl (be14 _ _ (be13 _ _ (be12 _ _ (be11 _ _ (be10 _ _ (be9 _ _ (be8 _ _ (be7 _ _ (be6 _ _ (be5 _ _ upd_same)))))))))))) (.cons (.str _) (.cons (.int _) (.cons (.str _) .nil)))) .nil)) (.cons (.lst (W2 ((P1.same bs6).hp nl8).1) (be14 _ _ (be13 _ _ (be12 _ _ (be11 _ _ (be10 _ _ (be9 _ _ (be8 _ _ upd_same))))))) (.cons (.tup (.inl (.inl (be14 _ _ (be13 _ _ (be12 _ _ (be11 _ _ (be10 _ _ (be9 _ _ (be8 _ _ (be7 _ _ upd_same)))))))))) (.cons (.str _) (.cons (.int _) (.cons (.str _) .nil)))) .nil)) (.cons (.lst (W2 ((P1.same bs8).hp nl10).1) (be14 _ _ (be13 _ _ (be12 _ _ (be11 _ _ (be10 _ _ upd_same))))) (.cons (.tup (.inl (.inl (be14 _ _ (be13 _ _ (be12 _ _ (be11 _ _ (be10 _ _ (be9 _ _ upd_same)))))))) (.cons (.str _) (.cons (.int _) (.cons (.int _) .nil)))) .nil)) (.cons (.lst (W2 ((P1.same bs10).hp nl12).1) (be14 _ _ (be13 _ _ (be12 _ _ upd_same))) (.cons (.tup (.inl (.inl (be14 _ _ (be13 _ _ (be12 _ _ (be11 _ _ upd_same)))))) (.cons (.str _) (.cons (.int _) .nil))) .nil)) (.cons (.lst (W2 ((P1.same bs12).hp nl14).1) (be14 _ _ upd_same) (.cons (.tup (.inl (.inl (be14 _ _ (be13 _ _ upd_same)))) (.cons (.str _) (.cons (.bl _) (.cons (.str _) .nil)))) .nil)) .nil)))))))))))
  have hbadAll : ∀ d ∈ [PyData.none, .int 5, .str "a", .list [.none], .list (VS (nmOf h ls) low vs).reverse, .list (VS (nmOf h ls) low vs ++ cutP (VS (nmOf h ls) low vs) (some (-1)) none), .list [.tuple [.str "a", .int 0, .str "x"]], .list [.tuple [.str "A", .int 1, .str "x"]], .list [.tuple [.str "a", .int 1, .int 5]], .list [.tuple [.str "a", .int 1]], .list [.tuple [.str "a", .bool true, .str "x"]]], BadB d := fun d hd => by
    simp only [List.mem_cons, List.not_mem_nil, or_false] at hd
    rcases hd with e | e | e | e | e | e | e | e | e | e | e <;> rw [e]
    · exact badB_ok (by decide +kernel)
    · exact badB_ok (by decide +kernel)
    · exact badB_ok (by decide +kernel)
    · exact badB_ok (by decide +kernel)
    · exact rev_bad N h1 hvl hvs
    · exact twice_bad N h1 hvl hvs
    · exact badB_ok (by decide +kernel)
    · exact badB_ok (by decide +kernel)
    · exact badB_ok (by decide +kernel)
    · exact badB_ok (by decide +kernel)
    · exact badB_ok (by decide +kernel)
  refine ⟨p, q, lb, _, n, rfl, ((P1.same bs13).hp nlb).1, .inl (.inl upd_same), by simp, by simp, PB, by omega, fun bad H2 hbad k2 P2 => ?_⟩
  obtain ⟨dbad, hdb, hpb⟩ := hallB.mem hbad
  have hBad := hbadAll dbad hdb
  have m2 : Mv false [p] H1 H2 := (bs14.mv).trans (k2.pen pW PB P2)
  have hpb2 : DW K [p] H2 bad dbad := (k2.pen (tb := false) pW PB P2).dw' hpb
  clear hallB hbadAll hdb hbad hpb
  -- odd, some
  refine ⟨_, rfl, by show 5 ≤ sizeLine; decide, fun lo nlo => ?_⟩
  have oe0 := Same.upd (o := .lst [V.non, .int 0, .int 101, .bl true, .str "2"]) nlo
  have os0 := oe0
  refine ⟨p, q, lo, _, n + 1, rfl, (P2.hp nlo).1, .inl (.inl upd_same), by simp, by simp, P2.same os0, by omega, fun odd H3 hodd k3 P3 => ?_⟩
  have m3a : Mv false [p] H2 H3 := os0.mv.trans (k3.pen pW (P2.same os0) P3)
  obtain ⟨dodd, hdo, hoddN⟩ : ∃ dodd, (∀ H', DW K [p] H' odd dodd) ∧ withinD dodd (some 1) (some 100) = false := by
    simp only [List.mem_cons, List.not_mem_nil, or_false] at hodd
    rcases hodd with e | e | e | e | e <;> rw [e]
    · exact ⟨.none, fun _ => .non, rfl⟩
    · exact ⟨.int 0, fun _ => .int _, by decide +kernel⟩
    · exact ⟨.int 101, fun _ => .int _, by decide +kernel⟩
    · exact ⟨.bool true, fun _ => .bl _, rfl⟩
    · exact ⟨.str "2", fun _ => .str _, rfl⟩
  refine ⟨Nat.zero_le _, fun le nle => ?_⟩
  have ce0 := Same.upd (o := .lst []) nle
  have cs0 := ce0
  refine ⟨by show 4 ≤ sizeLine; decide, fun ta nta => ?_⟩
  have ce1 := Same.upd (o := .tup [V.str "a", .str "a", .int 1, .int 1]) nta
  have cs1 := cs0.trans ce1
  refine ⟨by show 5 ≤ sizeLine; decide, fun tb ntb => ?_⟩
  have ce2 := Same.upd (o := .tup [V.str "a", .str "a", .int 1, .int 1, .int 2]) ntb
  have cs2 := cs1.trans ce2
  refine ⟨by show 5 ≤ sizeLine; decide, fun tc ntc => ?_⟩
  have ce3 := Same.upd (o := .tup [V.str "a", .str "b", .int 1, .int 1, .int 1]) ntc
  have cs3 := cs2.trans ce3
  refine ⟨by show 5 ≤ sizeLine; decide, fun td ntd => ?_⟩
  have ce4 := Same.upd (o := .tup [V.str "b", .str "a", .int 1, .int 1, .int 2]) ntd
  have cs4 := cs3.trans ce4
  refine ⟨by show 7 ≤ sizeLine; decide, fun so nso => ?_⟩
  have ce5 := Same.upd (o := .lst [V.non, .int 5, .ref le, .ref ta, .ref tb, .ref tc, .ref td]) nso
  have cs5 := cs4.trans ce5
  refine ⟨by show 2 ≤ sizeLine; decide, fun T4 nT4 => ?_⟩
  have ce6 := Same.upd (o := .tup [odd, V.ref so]) nT4
  have cs6 := cs5.trans ce6
  refine ⟨T4, _, rfl, .inl (.inl upd_same), rfl, _, _, rfl, _, _, rfl, rfl, ?_⟩
  -- away
  refine ⟨_, rfl, _, rfl, by show 5 ≤ sizeLine; decide, fun te nte => ?_⟩
  have ce7 := Same.upd (o := .tup [V.str "a", .str "a", .int 2, .int 1, .int 2]) nte
  have cs7 := cs6.trans ce7
  refine ⟨by show 5 ≤ sizeLine; decide, fun tf ntf => ?_⟩
  have ce8 := Same.upd (o := .tup [V.str "a", .str "aa", .int 1, .int 1, .int 3]) ntf
  have cs8 := cs7.trans ce8
  refine ⟨by show 5 ≤ sizeLine; decide, fun tg ntg => ?_⟩
  have ce9 := Same.upd (o := .tup [V.str "a", .str "b", .int 0, .int 1, .int 2]) ntg
  have cs9 := cs8.trans ce9
  refine ⟨by show 3 ≤ sizeLine; decide, fun lg nlg => ?_⟩
  have ce10 := Same.upd (o := .lst [V.ref te, .ref tf, .ref tg]) nlg
  have cs10 := cs9.trans ce10
  refine ⟨so, lg, _, _, rfl, rfl, (ce10 _ _ (ce9 _ _ (ce8 _ _ (ce7 _ _ (ce6 _ _ upd_same))))), upd_same, by show 10 ≤ sizeLine; decide, fun lw nlw => ?_⟩
  have ce11 := Same.upd (o := .lst ([V.non, .int 5, .ref le, .ref ta, .ref tb, .ref tc, .ref td] ++ [.ref te, .ref tf, .ref tg])) nlw
  have cs11 := cs10.trans ce11
  have PC := P3.same cs11
  have hallC : DWAll K [p] _ ([V.non, .int 5, .ref le, .ref ta, .ref tb, .ref tc, .ref td] ++ [.ref te, .ref tf, .ref tg]) [PyData.none, .int 5, .list [], .tuple [.str "a", .str "a", .int 1, .int 1], .tuple [.str "a", .str "a", .int 1, .int 1, .int 2], .tuple [.str "a", .str "b", .int 1, .int 1, .int 1], .tuple [.str "b", .str "a", .int 1, .int 1, .int 2], .tuple [.str "a", .str "a", .int 2, .int 1, .int 2], .tuple [.str "a", .str "aa", .int 1, .int 1, .int 3], .tuple [.str "a", .str "b", .int 0, .int 1, .int 2]] := (.cons .non (.cons (.int _) (.cons (.lst (W2 (P3.hp nle).1) (ce11 _ _ (ce10 _ _ (ce9 _ _ (ce8 _ _ (ce7 _ _ (ce6 _ _ (ce5 _ _ (ce4 _ _ (ce3 _ _ (ce2 _ _ (ce1 _ _ upd_same))))))))))) .nil) (.cons (.tup (.inl (.inl (ce11 _ _ (ce10 _ _ (ce9 _ _ (ce8 _ _ (ce7 _ _ (ce6 _ _ (ce5 _ _ (ce4 _ _ (ce3 _ _ (ce2 _ _ upd_same)))))))))))) (.cons (.str _) (.cons (.str _) (.cons (.int _) (.cons (.int _) .nil))))) (.cons (.tup (.inl (.inl (ce11 _ _ (ce10 _ _ (ce9 _ _ (ce8 _ _ (ce7 _ _ (ce6 _ _ (ce5 _ _ (ce4 _ _ (ce3 _ _ upd_same))))))))))) (.cons (.str _) (.cons (.str _) (.cons (.int _) (.cons (.int _) (.cons (.int _) .nil)))))) (.cons (.tup (.inl (.inl (ce11 _ _ (ce10 _ _ (ce9 _ _ (ce8 _ _ (ce7 _ _ (ce6 _ _ (ce5 _ _ (ce4 _ _ upd_same)))))))))) (.cons (.str _) (.cons (.str _) (.cons (.int _) (.cons (.int _) (.cons (.int _) .nil)))))) (.cons (.tup (.inl (.inl (ce11 _ _ (ce10 _ _ (ce9 _ _ (ce8 _ _ (ce7 _ _ (ce6 _ _ (ce5 _ _ upd_same))))))))) (.cons (.str _) (.cons (.str _) (.cons (.int _) (.cons (.int _) (.cons (.int _) .nil)))))) (.cons (.tup (.inl (.inl (ce11 _ _ (ce10 _ _ (ce9 _ _ (ce8 _ _ upd_same)))))) (.cons (.str _) (.cons (.str _) (.cons (.int _) (.cons (.int _) (.cons (.int _) .nil)))))) (.cons (.tup (.inl (.inl (ce11 _ _ (ce10 _ _ (ce9 _ _ upd_same))))) (.cons (.str _) (.cons (.str _) (.cons (.int _) (.cons (.int _) (.cons (.int _) .nil)))))) (.cons (.tup (.inl (.inl (ce11 _ _ (ce10 _ _ upd_same)))) (.cons (.str _) (.cons (.str _) (.cons (.int _) (.cons (.int _) (.cons (.int _) .nil)))))) .nil))))))))))
  have hawayAll : ∀ d ∈ [PyData.none, .int 5, .list [], .tuple [.str "a", .str "a", .int 1, .int 1], .tuple [.str "a", .str "a", .int 1, .int 1, .int 2], .tuple [.str "a", .str "b", .int 1, .int 1, .int 1], .tuple [.str "b", .str "a", .int 1, .int 1, .int 2], .tuple [.str "a", .str "a", .int 2, .int 1, .int 2], .tuple [.str "a", .str "aa", .int 1, .int 1, .int 3], .tuple [.str "a", .str "b", .int 0, .int 1, .int 2]], BadF d := fun d hd => by
    simp only [List.mem_cons, List.not_mem_nil, or_false] at hd
    rcases hd with e | e | e | e | e | e | e | e | e | e <;> rw [e] <;> exact badF_ok (by decide +kernel)
  refine ⟨p, q, lw, _, n + 2, rfl, ((P3.same cs10).hp nlw).1, .inl (.inl upd_same), by simp, by simp, PC, by omega, fun away H5 haway k5 P5 => ?_⟩
  obtain ⟨daw, hdaw, hpaw⟩ := hallC.mem haway
  have hAway := hawayAll daw hdaw
  have m5a : Mv false [p] _ H5 := k5.pen pW PC P5
  have m5 : Mv false [p] H1 H5 := (m2.trans m3a).trans (cs11.mv.trans m5a)
  have hAw : DW K [p] H5 away daw := m5a.dw' hpaw
  have hBd : DW K [p] H5 bad dbad := (m3a.trans (cs11.mv.trans m5a)).dw' hpb2
  have hVS5 := m5.dw' hVS
  have T5 := tabs_mv T1 m5
  clear hallC hawayAll hdaw haway hpaw
  have ok12 := block_ok (d := .list (VS (nmOf h ls) low vs)) N h1 true rfl hvl.symm inc12 (by decide) hvs
  have sm12 := small3_vers (d := .list (VS (nmOf h ls) low vs)) N rfl (fun p hp => (inc12.lt p hp).1) (by decide) hvs
  have sl12 := VS_slim (low := low) N hvl hvs
  have run12 : runD (.list (VS (nmOf h ls) low vs)) = true := by
    unfold runD
    show (match some (VS (nmOf h ls) low vs) with | some [] => true | some _ => blockD (.list (VS (nmOf h ls) low vs)) | none => false) = true
    split
    · rfl
    · exact ok12.1
    · rename_i z; cases z
  have up : ∀ {Hx : Hp} {v : V} {d : PyData}, ExtN H5 Hx → DW K [p] H5 v d → Dp K Hx v d := fun e hd => ((e.mv (W := [p])).dw' hd).dp
  obtain ⟨gf1, gf2, gf3, gf4⟩ := good_fence
  -- heard
  refine step_acc RV "versions" T5 (vs := []) (ds := []) .nil (fun Hb E Q' eb hB' => ?_) (fun Ha p1 ea Ta ha1 => ?_)
  · exact ⟨_, rfl, _, rfl, bad, odd, dbad, dodd, rfl, up eb hBd, (hdo _).dp, sB_small3 hBad.sb, sB_slim _ hBad.sb, hBad.dep, fun _ => hB', fun z => ff z hBad.run, fun _ _ z => ff z hBad.run⟩
  refine step_acc RN "size" Ta ha1 (fun Hx E Q' ex hB' => ?_) (fun Hb p2 eb Tb ha2 => ?_)
  · exact ⟨_, rfl, _, rfl, _, odd, .list (VS (nmOf h ls) low vs), dodd, rfl, up (ea.trans ex) hVS5, (hdo _).dp, sm12, sl12.1, sl12.2, ff run12, fun _ _ => hB', fun _ _ _ _ _ z => ff z hoddN⟩
  refine step_acc RV "block" Tb ha2 (fun Hx E Q' ex hB' => ?_) (fun Hc p3 ec Tc ha3 => ?_)
  · exact ⟨_, rfl, bad, dbad, rfl, up ((ea.trans eb).trans ex) hBd, sB_small3 hBad.sb, fun _ => hB', fun z => ff z hBad.no⟩
  refine step_acc RV "block" Tc ha3 (fun Hx E Q' ex hB' => ?_) (fun Hd p4 ed Td ha4 => ?_)
  · exact ⟨Nat.zero_le _, fun l nl => ⟨_, .list [], rfl, .lst (.inl (.inl upd_same)) .nil, fun ds e => (by cases e; exact ⟨by decide, fun _ z => (nomatch z)⟩), fun _ => hB'.same (.upd nl), fun z => (nomatch z)⟩⟩
  refine ⟨by show 4 ≤ sizeLine; decide, fun hl nhl => ?_⟩
  have sH := Same.upd (o := .lst [V.ref p1, .ref p2, .ref p3, .ref p4]) nhl
  have e5 := ((((ea.trans eb).trans ec).trans ed).trans (.of sH))
  refine ⟨_, rfl, ?_⟩
  refine step_acc RV "fence" (Td.ext sH) (sH.dwAll ha4) (fun Hx E Q' ex hB' => ?_) (fun He p5 ee Te ha5 => ?_)
  · exact ⟨_, rfl, away, .int 5, .str "x", daw, .int 5, .str "x", rfl, up (e5.trans ex) hAw, .int 5, .str _, hAway.s5, hAway.sl, hAway.dep, trivial, fun _ => hB', fun z => ff z hAway.no, fun z => ff z hAway.no, fun z => ff z hAway.no⟩
  refine step_acc RV "key" Te ha5 (fun Hx E Q' ex hB' => ?_) (fun Hf p6 ef Tf ha6 => ?_)
  · refine ⟨by show 5 ≤ sizeLine; decide, fun t nt => ⟨_, .int 5, .str "x", goodFence, .int 5, .str "x", rfl, .tup (.inl (.inl upd_same)) (.cons (.str _) (.cons (.str _) (.cons (.int _) (.cons (.int _) (.cons (.int _) .nil))))), .int 5, .str _, gf2, gf3, gf4, trivial, ff gf1, fun _ _ => hB'.same (.upd nt), fun _ z => (nomatch z), fun _ z => (nomatch z)⟩⟩
  refine step_acc RN "number" Tf ha6 (fun Hx E Q' ex hB' => ?_) (fun Hg p7 eg Tg ha7 => ?_)
  · refine ⟨by show 5 ≤ sizeLine; decide, fun t nt => ⟨_, .str "a", .bl true, goodFence, .str "a", .bool true, rfl, .tup (.inl (.inl upd_same)) (.cons (.str _) (.cons (.str _) (.cons (.int _) (.cons (.int _) (.cons (.int _) .nil))))), .str _, .bl _, gf2, gf3, gf4, by show (PySem.Str.ofString "a").length ≤ sizeLine; exact Nat.le_trans (show (PySem.Str.ofString "a").length ≤ 1 by decide +kernel) (by decide), ff gf1, fun _ => ff (by decide +kernel), fun _ _ _ => hB'.same (.upd nt), fun _ _ z => (nomatch z)⟩⟩
  refine ⟨by show 3 ≤ sizeLine; decide, fun hm nhm => ?_⟩
  have sI := Same.upd (o := .lst [V.ref p5, .ref p6, .ref p7]) nhm
  have hhl : Hg hl = some (.lst [.ref p1, .ref p2, .ref p3, .ref p4]) := eg _ _ (ef _ _ (ee _ _ upd_same fun _ z => (nomatch z)) fun _ z => (nomatch z)) fun _ z => (nomatch z)
  refine ⟨hl, hm, _, _, rfl, rfl, sI _ _ hhl, upd_same, by show 7 ≤ sizeLine; decide, fun hc nhc => ?_⟩
  have sJ := Same.upd (o := .lst ([V.ref p1, .ref p2, .ref p3, .ref p4] ++ [.ref p5, .ref p6, .ref p7])) nhc
  have hallH := (sI.trans sJ).dwAll ha7
  dsimp only [gName]
  obtain ⟨HG, eHG⟩ : ∃ HG, HG = upd (upd Hg hm (.lst [V.ref p5, .ref p6, .ref p7])) hc (.lst ([V.ref p1, .ref p2, .ref p3, .ref p4] ++ [.ref p5, .ref p6, .ref p7])) := ⟨_, rfl⟩
  have hhc : HG hc = some (.lst ([V.ref p1, .ref p2, .ref p3, .ref p4] ++ [.ref p5, .ref p6, .ref p7])) := by rw [eHG]; exact upd_same
  rw [← eHG] at hallH
  rw [← eHG]
  refine ⟨_, rfl, by show 2 ≤ sizeLine; decide, fun u1 nu1 => ?_⟩
  have ue0 := Same.upd (o := .tup [V.str "value", .str "versions"]) nu1
  have us0 := ue0
  refine ⟨by show 2 ≤ sizeLine; decide, fun u2 nu2 => ?_⟩
  have ue1 := Same.upd (o := .tup [V.str "number", .str "size"]) nu2
  have us1 := us0.trans ue1
  refine ⟨by show 2 ≤ sizeLine; decide, fun u3 nu3 => ?_⟩
  have ue2 := Same.upd (o := .tup [V.str "value", .str "block"]) nu3
  have us2 := us1.trans ue2
  refine ⟨by show 2 ≤ sizeLine; decide, fun u4 nu4 => ?_⟩
  have ue3 := Same.upd (o := .tup [V.str "value", .str "block"]) nu4
  have us3 := us2.trans ue3
  refine ⟨by show 2 ≤ sizeLine; decide, fun u5 nu5 => ?_⟩
  have ue4 := Same.upd (o := .tup [V.str "value", .str "fence"]) nu5
  have us4 := us3.trans ue4
  refine ⟨by show 2 ≤ sizeLine; decide, fun u6 nu6 => ?_⟩
  have ue5 := Same.upd (o := .tup [V.str "value", .str "key"]) nu6
  have us5 := us4.trans ue5
  refine ⟨by show 2 ≤ sizeLine; decide, fun u7 nu7 => ?_⟩
  have ue6 := Same.upd (o := .tup [V.str "number", .str "number"]) nu7
  have us6 := us5.trans ue6
  refine ⟨by show 7 ≤ sizeLine; decide, fun ul nul => ?_⟩
  have ue7 := Same.upd (o := .lst [V.ref u1, .ref u2, .ref u3, .ref u4, .ref u5, .ref u6, .ref u7]) nul
  have us7 := us6.trans ue7
  refine ⟨.list heardD, .list heardD, .lst (.inl (.inl (us7 _ _ hhc))) ((us7.dwAll hallH).dp), .lst (.inl (.inl upd_same)) (.cons (.tup (.inl (.inl (ue7 _ _ (ue6 _ _ (ue5 _ _ (ue4 _ _ (ue3 _ _ (ue2 _ _ (ue1 _ _ upd_same))))))))) (.cons (.str _) (.cons (.str _) .nil))) (.cons (.tup (.inl (.inl (ue7 _ _ (ue6 _ _ (ue5 _ _ (ue4 _ _ (ue3 _ _ (ue2 _ _ upd_same)))))))) (.cons (.str _) (.cons (.str _) .nil))) (.cons (.tup (.inl (.inl (ue7 _ _ (ue6 _ _ (ue5 _ _ (ue4 _ _ (ue3 _ _ upd_same))))))) (.cons (.str _) (.cons (.str _) .nil))) (.cons (.tup (.inl (.inl (ue7 _ _ (ue6 _ _ (ue5 _ _ (ue4 _ _ upd_same)))))) (.cons (.str _) (.cons (.str _) .nil))) (.cons (.tup (.inl (.inl (ue7 _ _ (ue6 _ _ (ue5 _ _ upd_same))))) (.cons (.str _) (.cons (.str _) .nil))) (.cons (.tup (.inl (.inl (ue7 _ _ (ue6 _ _ upd_same)))) (.cons (.str _) (.cons (.str _) .nil))) (.cons (.tup (.inl (.inl (ue7 _ _ upd_same))) (.cons (.str _) (.cons (.str _) .nil))) .nil))))))), by decide +kernel, by decide +kernel, ?_⟩
  rw [show PyData.eqv (.list heardD) (.list heardD) = true by decide +kernel]
  exact hQ _
end
end K93
set_option Elab.async false
set_option linter.all false
set_option maxRecDepth 100000
set_option maxHeartbeats 8000000
/-! # The law. -/
namespace K93
open PySem PySem.Spec PyProof.Rows L2 Nam SetP Pen LamX LamB PlugX
def spLaw (K : PySem.W.Frag) (Pt : Addr) : Sp := fun vs H Q _ => ∃ (a : Addr) (ns : List Int), vs = [.ref a] ∧ SqL K H a (ns.map V.int) ∧ ns.length ≤ 1000 ∧ H Pt = some (.tbl #[]) ∧ ∀ H', Q (.bl true) H'
theorem keys_rows {H : Hp} : ∀ (kvs : List (List Key × V)) (bs : List Addr), IsKeys H kvs bs → ∃ rows : List SetP.Row, bs.map V.ref = vrefs rows ∧ (∀ r ∈ rows, H r.1 = some (.tup (r.2.map kV))) ∧ (∀ r ∈ rows, ∃ kv ∈ kvs, r.2 = kv.1) ∧ rows.length = kvs.length := by
  intro kvs bs h
  induction h with
  | nil => exact ⟨[], rfl, fun _ z => (nomatch z), fun _ z => (nomatch z), rfl⟩
  | @cons kv b kvs bs h1 _ ih =>
    obtain ⟨rows, e, g1, g2, g3⟩ := ih
    refine ⟨(b, kv.1) :: rows, by rw [List.map_cons, e]; rfl, fun r hr => ?_, fun r hr => ?_, by rw [List.length_cons, List.length_cons, g3]⟩
    · rcases List.mem_cons.mp hr with z | z
      · rw [z]; exact h1
      · exact g1 r z
    · rcases List.mem_cons.mp hr with z | z
      · rw [z]; exact ⟨kv, List.mem_cons_self, rfl⟩
      · obtain ⟨kv', h, e⟩ := g2 r z
        exact ⟨kv', List.mem_cons_of_mem _ h, e⟩
theorem head_pick {x : V} (h : x ∈ [V.str "abcdefg", .str "zzzzzzz", .str "aaaaaaa"]) : ∃ l ∈ heads, x = .str (S l) := by
  simp only [List.mem_cons, List.not_mem_nil, or_false] at h
  rcases h with e | e | e
  · exact ⟨[97, 98, 99, 100, 101, 102, 103], by simp [heads], by rw [e]; exact congrArg V.str (by decide +kernel)⟩
  · exact ⟨[122, 122, 122, 122, 122, 122, 122], by simp [heads], by rw [e]; exact congrArg V.str (by decide +kernel)⟩
  · exact ⟨[97, 97, 97, 97, 97, 97, 97], by simp [heads], by rw [e]; exact congrArg V.str (by decide +kernel)⟩
theorem letter_pick {x : V} (h : x ∈ [V.str "abcd", .str "wxyz", .str "mnop"]) : ∃ l ∈ letters, x = .str (S l) := by
  simp only [List.mem_cons, List.not_mem_nil, or_false] at h
  rcases h with e | e | e
  · exact ⟨[97, 98, 99, 100], by simp [letters], by rw [e]; exact congrArg V.str (by decide +kernel)⟩
  · exact ⟨[119, 120, 121, 122], by simp [letters], by rw [e]; exact congrArg V.str (by decide +kernel)⟩
  · exact ⟨[109, 110, 111, 112], by simp [letters], by rw [e]; exact congrArg V.str (by decide +kernel)⟩
theorem names_eq {h ls : List Nat} (hl : ls ∈ letters) : ls.map (fun c => S (h ++ [c])) = [0, 1, 2, 3].map fun i => S (nmOf h ls i) := by
  simp only [letters, List.mem_cons, List.not_mem_nil, or_false] at hl
  rcases hl with e | e | e <;> (rw [e]; rfl)
theorem letters_len {ls : List Nat} (hl : ls ∈ letters) : ls.length = 4 := by
  simp only [letters, List.mem_cons, List.not_mem_nil, or_false] at hl
  rcases hl with e | e | e <;> (rw [e]; rfl)
theorem heads_len {h : List Nat} (hh : h ∈ heads) : h.length = 7 := by
  simp only [heads, List.mem_cons, List.not_mem_nil, or_false] at hh
  rcases hh with e | e | e <;> (rw [e]; rfl)
section
variable {P : Program} {w : World} {K : PySem.W.Frag} {mg : Str → Option Value} {base : Heap} {CP CV CN CM CNn CE CT c Pt f : Addr} {fd : FuncData}
theorem law_ok (M : MG mg) (K1 : ErrK K mg CP CV CN CM CNn CE CT) (RV : ErrR K CP CV CN CM CV "value") (RN : ErrR K CP CV CN CM CN "number") (D : Ds P w K mg base CV CN) (S0 : St0 K mg "_law_error" s_law_error ["ask"]) (TB : LamX.TabB base mg c Pt) (F : FnP K "law" s_law f fd) (hcode : fd.code = .ref c) :
    FnOk P w K mg base CX0 8 f fd ["script"] (spLaw K Pt) := by
  obtain ⟨oc, od, dV, kV, doc, pm, an, cdv, ct, osl, rfl, lk, hcd, _, _⟩ := F.ex
  obtain rfl : cdv = .ref c := hcode
  refine fn_of lk hcd sc_law (fun vs H Q E h => ?_) fun A outer s H vs Q E hr h => ?_
  · obtain ⟨a, ns, rfl, _⟩ := h
    rfl
  obtain ⟨T, eT⟩ : ∃ T, T = [(Pt, (XL P w K mg base f c A outer s H E).env.qual ++ "<lambda>")] := ⟨_, rfl⟩
  obtain ⟨trow, hrow, qrow⟩ := law_row M D f A outer s H E hr
  obtain ⟨tt, hturn, qturn⟩ := law_turn (Pt := Pt) M K1 RV D S0 TB f A outer s H E hr T eT
  obtain ⟨t3, h3, q3⟩ := tail_3 (Pt := Pt) M K1 RV RN D S0 TB f A outer s H E hr T eT
  obtain ⟨t2, h2, q2⟩ := tail_2 M D f A outer s H E hr T h3
  obtain ⟨t1, h1, q1⟩ := tail_1 M D f A outer s H E hr T h2
  refine ⟨_, PSs.nox (pss_cons (ps_set (i := 1) sc_law.nd rfl (Or.inr rfl) (pd D.pen (hr.mono (by decide)) rfl (pa_cons (pv 0) pa_nil)))
  (pss_cons (ps_set (i := 2) sc_law.nd rfl (Or.inr rfl) (pd D.pick (hr.mono (by decide)) rfl (pa_cons (pv 1) (pa_cons (pe_lst (pa_cons pe_str (pa_cons pe_str (pa_cons pe_str pa_nil)))) pa_nil))))
  (pss_cons (ps_par (i := 3) (j := 4) rfl sc_law.nd rfl rfl (by decide) rfl rfl (pa_cons (pe_lc (own := [("letter", 26)]) rfl sc_law.nd (pi_str (pd D.pick (hr.mono (by decide)) rfl (pa_cons (pv 1) (pa_cons (pe_lst (pa_cons pe_str (pa_cons pe_str (pa_cons pe_str pa_nil)))) pa_nil)))) (blkOk_by (own := [("letter", 26)]) (N := N_law) (sc := defScope s_law) (by decide +kernel)) (fun _ _ _ _ _ => (pg_name (i := 26) sc_law.nd rfl (Or.inl rfl))) (fun _ _ _ _ _ => pts_nil) (fun _ _ _ _ _ => (pe_op op_add_str (pv 2) (pv 26)))) (pa_cons (pe_op op_add pe_int (pd D.pick (hr.mono (by decide)) rfl (pa_cons (pv 1) (pa_cons (pe_lst (pa_cons pe_int (pa_cons pe_int (pa_cons (pe_op op_pow pe_int pe_int) pa_nil)))) pa_nil)))) pa_nil)) (by rfl))
  (pss_cons (ps_set (i := 5) sc_law.nd rfl (Or.inl rfl) (pe_lst (pa_cons (pv 4) (pa_cons (pe_op op_add (pv 4) pe_int) (pa_cons (pe_op op_add (pv 4) pe_int) pa_nil)))))
  (pss_cons (ps_par (i := 6) (j := 7) rfl sc_law.nd rfl rfl (by decide) rfl rfl (pa_cons (pd D.all (hr.mono (by decide)) rfl (pa_cons (pv 3) (pa_cons (pv 5) (pa_cons pe_int pa_nil)))) (pa_cons pe_dnewT pa_nil)) (by rfl))
  (pss_cons (ps_for PassesOwn.never rfl (pi_list (pv 6)) (pg_name (i := 8) sc_law.nd rfl (Or.inl rfl)) hrow)
  (pss_cons (ps_set (i := 10) sc_law.nd rfl (Or.inl rfl) (pe_callB cr_sortL (by rfl) M.sorted (by decide +kernel) (pa_cons (pe_callTy (call_list_dT rfl) (by rfl) M.list (by decide +kernel) (pa_cons (pv 7) pa_nil)) pa_nil)))
  (pss_cons (ps_for PassesOwn.never rfl (pi_range1 rfl M.range (pa_cons pe_int pa_nil)) (pg_name (i := 11) sc_law.nd rfl (Or.inl rfl)) hturn) h1)))))))), ?_⟩
  obtain ⟨a, ns, rfl, hS, hn, hT, hQ⟩ := h
  have T0 : Tabs T H := fun x hx => by
    rw [eT] at hx
    rw [List.mem_singleton.mp hx]
    exact TabS.nil hT
  refine ⟨_, rfl, a, ns, rfl, hS, hn, fun H1 p q s1 np nq P1 => ?_⟩
  have W1 : ∀ {a : Addr}, a ∉ [p] → a ≠ p := fun h z => h (by rw [z]; exact List.mem_singleton.mpr rfl)
  have W2 : ∀ {a : Addr}, a ≠ p → a ∉ [p] := fun h z => h (List.mem_singleton.mp z)
  have pW : p ∈ [p] := List.mem_singleton.mpr rfl
  have T1 : Tabs T H1 := tabs_mv (W := []) T0 s1.mv
  -- head
  refine ⟨_, rfl, by show 3 ≤ sizeLine; decide, fun l2 nl2 => ?_⟩
  have s2 := Same.upd (o := .lst [V.str "abcdefg", .str "zzzzzzz", .str "aaaaaaa"]) nl2
  refine ⟨p, q, l2, _, 0, rfl, (P1.hp nl2).1, .inl (.inl upd_same), by simp, by simp, P1.same s2, by omega, fun x H3 hx k3 P3 => ?_⟩
  obtain ⟨hd7, hhd, rfl⟩ := head_pick hx
  have m3 : Mv false [p] H1 H3 := s2.mv.trans (k3.pen pW (P1.same s2) P3)
  -- names
  refine ⟨_, rfl, by show 3 ≤ sizeLine; decide, fun l4 nl4 => ?_⟩
  have s4 := Same.upd (o := .lst [V.str "abcd", .str "wxyz", .str "mnop"]) nl4
  refine ⟨p, q, l4, _, 1, rfl, (P3.hp nl4).1, .inl (.inl upd_same), by simp, by simp, P3.same s4, by omega, fun x H5 hx5 k5 P5 => ?_⟩
  obtain ⟨ls, hls, rfl⟩ := letter_pick hx5
  have m5 : Mv false [p] H3 H5 := s4.mv.trans (k5.pen pW (P3.same s4) P5)
  obtain ⟨N, _, _, _⟩ := names_ok hhd hls
  refine ⟨S ls, rfl, fun nl nnl => ?_⟩
  obtain ⟨nlp, nlq⟩ := P5.hp nnl
  have hls4 : (S ls).cps.size = 4 := letters_len hls
  refine lc_dm (K := K) (tb := false) (W := []) walk_strV (fun i H0 x H1 y => by rw [y.1]; exact .refl _) (ls.map fun c => some (.str (S (hd7 ++ [c])))) (fun d hd => ?_) (by rw [List.length_map, letters_len hls, hls4]) nnl (by simp) (by rw [hls4]; decide) (fun _ _ => True) trivial (fun _ _ _ _ _ => trivial) (fun _ _ => trivial)
    (fun i x o H6 H7 m6 y ho acc hacc hlt _ Nx n1 n2 => ?_) (fun H6 ys m6 hnl6 hys _ => ?_)
  · obtain ⟨c, _, e⟩ := List.mem_map.mp hd
    cases e
    rfl
  · obtain ⟨rfl, hx6⟩ := y
    have hx6 : (ls.map fun c => V.str ⟨#[c]⟩)[i]? = some x := hx6
    rw [List.getElem?_map] at hx6 ho
    cases e : ls[i]? with
    | none => rw [e] at hx6; exact nomatch hx6
    | some cc =>
      rw [e] at hx6 ho
      cases hx6
      cases ho
      refine ⟨rfl, _, rfl, _, rfl, S hd7, ⟨#[cc]⟩, rfl, rfl, ?_, ?_⟩
      · rw [S_len, heads_len hhd]
        show 7 + 1 ≤ sizeLine
        decide
      · have e2 : S hd7 ++ (⟨#[cc]⟩ : Str) = S (hd7 ++ [cc]) := S_app hd7 [cc]
        rw [e2]
        exact ⟨acc, hacc, hlt, n1 _ _ _ (Mv.refl _ _) rfl (.str _) trivial⟩
  have s6 := m6.same
  have e6 : (ls.map fun c => some (PyData.str (S (hd7 ++ [c])))).filterMap id = ([0, 1, 2, 3].map fun i => S (nmOf hd7 ls i)).map .str := by
    rw [← names_eq hls, List.filterMap_map, List.map_map]
    simp [Function.comp_def, List.filterMap_eq_map]
  rw [e6] at hys
  have P6 := P5.same s6
  have hN6 : DW K [p] H6 (.ref nl) (.list (([0, 1, 2, 3].map fun i => S (nmOf hd7 ls i)).map .str)) := .lst (W2 nlp) hnl6 (DWAll.of _ _ (noListL_all.mpr fun x hx => by
    obtain ⟨y, _, rfl⟩ := List.mem_map.mp hx
    rfl) hys)
  -- low
  refine ⟨_, rfl, _, _, rfl, rfl, ⟨by decide, by decide, by decide⟩, by show 3 ≤ sizeLine; decide, fun l7 nl7 => ?_⟩
  have s7 := Same.upd (o := .lst [V.int 0, .int 4, .int (10 ^ (9 : Int).toNat)]) nl7
  refine ⟨p, q, l7, _, 2, rfl, (P6.hp nl7).1, .inl (.inl upd_same), by simp, by simp, P6.same s7, by omega, fun x H8 hx8 k8 P8 => ?_⟩
  obtain ⟨z, rfl, hz0, hz1⟩ : ∃ z : Int, x = .int z ∧ 0 ≤ z ∧ z ≤ 10 ^ 9 := by
    simp only [List.mem_cons, List.not_mem_nil, or_false] at hx8
    rcases hx8 with e | e | e <;> exact ⟨_, e, by decide, by decide⟩
  have m8 : Mv false [p] H6 H8 := s7.mv.trans (k8.pen pW (P6.same s7) P8)
  have hN8 := m8.dw' hN6
  refine ⟨1, z, rfl, rfl, _, _, rfl, ?_⟩
  obtain ⟨low, elow⟩ : ∃ low, low = 1 + z := ⟨_, rfl⟩
  dsimp only
  rw [← elow]
  have hlow1 : 1 ≤ low := by omega
  have hlow2 : low ≤ 2 ^ 40 := by omega
  -- numbers
  refine ⟨_, rfl, _, rfl, _, _, rfl, rfl, _, rfl, _, _, rfl, rfl, by show 3 ≤ sizeLine; decide, fun ml nml => ?_⟩
  have s9 := Same.upd (o := .lst [V.int low, .int (low + 1), .int (low + 2)]) nml
  have mlp := (P8.hp nml).1
  obtain ⟨H9, eH9⟩ : ∃ H9, H9 = upd H8 ml (.lst [V.int low, .int (low + 1), .int (low + 2)]) := ⟨_, rfl⟩
  have hml9 : H9 ml = some (.lst (([0, 1, 2].map fun j : Nat => low + (j : Int)).map V.int)) := by
    rw [eH9, upd_same]
    simp
  rw [← eH9] at s9
  rw [← eH9]
  have hN9 := s9.dw hN8
  have hM9 : DW K [p] H9 (.ref ml) (.list (([0, 1, 2].map fun j : Nat => low + (j : Int)).map .int)) := .lst (W2 mlp) hml9 (DWAll.map (f := V.int) (g := PyData.int) _ fun x _ => .int x)
  have P9 := P8.same s9
  obtain ⟨_, xn, hn1, hn2⟩ := dw_list hN9
  have exn := dw_strs _ _ hn2
  subst exn
  -- every, has
  refine ⟨_, rfl, _, rfl, nl, ml, [0, 1, 2, 3].map fun i => S (nmOf hd7 ls i), [0, 1, 2].map fun j : Nat => low + (j : Int), 4, rfl, .inl (.inl hn1), .inl (.inl hml9), by simp, by simp, by decide, fun x hx => ?_, fun el H10 xe s10 nel hel hxe => ?_⟩
  · obtain ⟨i, hi, rfl⟩ := List.mem_map.mp hx
    refine strOk_nm (N.ok i ?_)
    simp only [List.mem_cons, List.not_mem_nil, or_false] at hi
    omega
  rw [rows_real] at hxe
  intro hd nhd
  have elp := (P9.hp nel).1
  have s11 := Same.upd (o := .dT []) nhd
  obtain ⟨H11, eH11⟩ : ∃ H11, H11 = upd H10 hd (.dT []) := ⟨_, rfl⟩
  have hhd11 : H11 hd = some (.dT []) := by rw [eH11]; exact upd_same
  rw [← eH11] at s11
  rw [← eH11]
  have P11 := (P9.same s10).same s11
  have hdp := ((P9.same s10).hp nhd).1
  have hel11 := s11 _ _ hel
  have hxe11 := DpAll.same s11 _ _ hxe
  have hel_hd : el ≠ hd := fun e => by rw [e, hhd11] at hel11; cases hel11
  have m11 : Mv false [p] H H11 := (s1.mv.trans m3).trans ((m5.trans s6.mv).trans (m8.trans (s9.mv.trans (s10.trans s11).mv)))
  have hN11 := (s10.trans s11).dw hN9
  have hM11 := (s10.trans s11).dw hM9
  have hE11 : DW K [p] H11 (.ref el) (.list ((rowsI.map (rr (nmOf hd7 ls) low)).map rowD)) := .lst (W2 elp) hel11 (DWAll.of _ _ (noListL_all.mpr fun x hx => by
    obtain ⟨y, _, rfl⟩ := List.mem_map.mp hx
    exact noList_row y) hxe11)
  have T11 := tabs_mv T0 m11
  refine ⟨_, _, rfl, ?_⟩
  have hrl : rowsI.length = 793 := by decide +kernel
  have hel793 : xe.length = rowsI.length := by rw [hxe.len, List.length_map, List.length_map]
  -- the rows
  refine ⟨_, rfl, el, rfl, ⟨_, .inl (.inl hel11)⟩, ?_⟩
  refine for_it (xl_walk (K := K) el xe) (fun i σ H' => ∃ x8 x9 kvs, σ = [some (.ref a), some (.ref p), some (.str (S hd7)), some (.ref nl), some (.int low), some (.ref ml), some (.ref el), some (.ref hd), x8, x9, none, none, none, none, none, none, none, none, none, none, none, none, none, none, none, none, none, none, none] ∧ Mv false [hd] H11 H' ∧ H' hd = some (.dT kvs) ∧ Has K [hd] (nmOf hd7 ls) low i H' kvs)
    ⟨none, none, [], rfl, .refl _ _, hhd11, ⟨Nat.le_refl _, fun _ z => (nomatch z), fun r hr _ r' hr' => (nomatch hr'), fun r hr v e => (nomatch e)⟩⟩ (fun i σ H' _ z => ?_) (fun i x σ H' H'' hi z y => ?_) (fun σ H' z => ?_)
  · obtain ⟨x8, x9, kvs, _, m, _, _⟩ := z
    exact m.sqL (fun z => hel_hd (List.mem_singleton.mp z)) (.inl (.inl hel11))
  · obtain ⟨x8, x9, kvs, rfl, m, hkv, hHas⟩ := z
    obtain ⟨rfl, hx⟩ := y
    obtain ⟨dx, hdx, hpx⟩ := hxe11.at_ hx
    rw [List.getElem?_map, List.getElem?_map] at hdx
    cases e : rowsI[i]? with
    | none => rw [e] at hdx; exact nomatch hdx
    | some r =>
      rw [e] at hdx
      cases hdx
      have hpx2 := m.dp _ _ (noList_row _) hpx
      obtain ⟨qr, rfl⟩ : ∃ qr, x = .ref qr := by cases hpx2 with | tup h _ => exact ⟨_, rfl⟩
      exact qrow _ _ _ _ _ _ _ _ x9 hd qr [hd] (nmOf hd7 ls) low i r _ kvs N List.mem_cons_self (fun b hb => by rw [List.mem_singleton.mp hb]; exact ⟨_, hkv⟩) e (by omega) hpx2 hkv hHas fun x9' H3 kvs' m' hk' hH' => ⟨_, x9', kvs', rfl, m.trans m', hk', hH'⟩
  obtain ⟨x8, x9, kvs, rfl, m12, hkv, hHas⟩ := z
  rw [hel793] at hHas
  -- fences
  have P12 : PenAt H' p q 3 := by
    obtain ⟨ns', lap, rest, g1, g2, g3, g4⟩ := P11
    have nph : p ≠ hd := fun e => hdp e.symm
    have nqh : q ≠ hd := fun e => by rw [e, hhd11] at g3; cases g3
    exact ⟨ns', lap, rest, g1, m12.at_ g2 (.inl fun z => nph (List.mem_singleton.mp z)) fun x z => (nomatch z), m12.at_ g3 (.inl fun z => nqh (List.mem_singleton.mp z)) fun x z => (nomatch z), g4⟩
  have hH12 : Has K [p] (nmOf hd7 ls) low rowsI.length H' kvs := by
    refine ⟨hHas.len, hHas.key, hHas.nil, fun r hr v e => ?_⟩
    obtain ⟨l, rows, ev, _, hl, g⟩ := (hHas.lot r hr v e).ex
    refine ⟨l, rows, ev, W2 fun z => ?_, hl, g⟩
    obtain ⟨_, lap, _, _, g2, _⟩ := P12
    rw [z, g2] at hl
    have := HO.lst.inj (Option.some.inj hl)
    match rows, this with
    | [], h => exact nomatch h
    | [_], h => exact nomatch h
    | _ :: _ :: _, h =>
      injection h with _ h
      injection h with h _
      cases h
  have up12 : ∀ {b : Addr} {ds : List PyData}, DW K [p] H11 (.ref b) (.list ds) → noListL ds = true → DW K [p] H' (.ref b) (.list ds) := fun {b ds} g no => by
    obtain ⟨n0, xs, hs, ha⟩ := dw_list g
    refine .lst n0 (m12.at_ hs (.inl fun z => ?_) fun x z => (nomatch z)) (DWAll.of _ _ no (m12.dpAll _ _ no ha.dp))
    rw [List.mem_singleton.mp z, hhd11] at hs
    cases hs
  have T12 : Tabs T H' := tabs_mv T11 m12
  refine ⟨_, rfl, hd, kvs, rfl, .inl hkv, fun l13 bs nl13 hk13 => ?_⟩
  obtain ⟨rows, erows, hr1, hr2, hr3⟩ := keys_rows kvs bs hk13
  rw [erows]
  have s13 := Same.upd (o := .lst (vrefs rows)) nl13
  refine ⟨l13, rows, true, [true, false, false, false], rfl, .inl (.inl upd_same), fun x hx => .inl (.inl (s13 _ _ (hr1 x hx))), fun x hx => ?_, fun rows' fl nfl pm _ => ?_⟩
  · obtain ⟨kv, hkv', e⟩ := hr2 x hx
    obtain ⟨r, hr', e2⟩ := hHas.key kv hkv'
    rw [e, e2, fen_real (row_ok hr')]
    rfl
  have s14 := Same.upd (o := .lst (vrefs rows')) nfl
  have s34 := s13.trans s14
  obtain ⟨H14, eH14⟩ : ∃ H14, H14 = upd (upd H' l13 (.lst (vrefs rows))) fl (.lst (vrefs rows')) := ⟨_, rfl⟩
  have hfl14 : H14 fl = some (.lst (vrefs rows')) := by rw [eH14]; exact upd_same
  rw [← eH14] at s34
  dsimp only [gName]
  rw [← eH14]
  have hkpos : 0 < kvs.length := by
    cases kvs with
    | nil =>
      have hr0 : rowsI[0]'(by rw [hrl]; decide) ∈ rowsI := List.getElem_mem _
      exact absurd rfl (hH12.nil _ hr0 rfl _ (by rw [List.take_length]; exact hr0))
    | cons x l => simp
  have hlen' : rows'.length = kvs.length := by rw [pm.length_eq, hr3]
  have LS0 : LS K T (nmOf hd7 ls) low p q nl ml el hd fl 3 H14 := by
    refine ⟨P12.same s34, tabs_mv (W := []) T12 s34.mv, s34.dw (up12 hN11 ?_), s34.dw (up12 hM11 ?_), s34.dw (up12 hE11 ?_), ⟨kvs, s34 _ _ hkv, hH12.mv (s34.mv (tb := false))⟩, hdp, ((P12.same s13).hp nfl).1, vrefs rows', hfl14, by rw [List.length_map, hlen']; exact hkpos, by rw [List.length_map, hlen']; have := hHas.len; omega, fun x hx => ?_⟩
    · exact noListL_all.mpr fun x hx => by obtain ⟨y, _, rfl⟩ := List.mem_map.mp hx; rfl
    · exact noListL_all.mpr fun x hx => by obtain ⟨y, _, rfl⟩ := List.mem_map.mp hx; rfl
    · exact noListL_all.mpr fun x hx => by obtain ⟨y, _, rfl⟩ := List.mem_map.mp hx; exact noList_row y
    · obtain ⟨row, hrow', rfl⟩ := List.mem_map.mp hx
      have hrow2 := pm.mem_iff.mp hrow'
      obtain ⟨kv, hkv', e⟩ := hr2 row hrow2
      obtain ⟨r, hr', e2⟩ := hHas.key kv hkv'
      have := hr1 row hrow2
      rw [e, e2] at this
      exact ⟨row.1, r, rfl, hr', s34 _ _ this⟩
  -- the laps
  refine ⟨30, rfl, by decide, by decide, ?_⟩
  refine for_it walk_range (fun i σ H2 => ∃ x8 x9 x11 x12 x13 x14 x15 x23, σ = [some (.ref a), some (.ref p), some (.str (S hd7)), some (.ref nl), some (.int low), some (.ref ml), some (.ref el), some (.ref hd), x8, x9, some (.ref fl), x11, x12, x13, x14, x15, none, none, none, none, none, none, none, x23, none, none, none, none, none] ∧ LS K T (nmOf hd7 ls) low p q nl ml el hd fl (3 + 5 * i) H2)
    ⟨x8, x9, none, none, none, none, none, none, rfl, LS0⟩ (fun _ _ _ _ _ => True.intro) ?_ ?_
  · rintro i x σ H2 H3' hi ⟨x8, x9, x11, x12, x13, x14, x15, x23, rfl, hLS⟩ ⟨rfl, rfl⟩
    have hi30 : i < 30 := hi
    refine qturn _ _ _ x8 x9 _ x12 x13 x14 x15 x23 hd7 p q nl ml el hd fl ls low (3 + 5 * i) _ hhd hls hlow1 hlow2 (by omega) hLS fun x9' x12' x13' x14' x15' x23' H4 hLS4 => ?_
    exact ⟨x8, x9', _, x12', x13', x14', x15', x23', rfl, hLS4⟩
  · rintro σ H2 ⟨x8, x9, x11, x12, x13, x14, x15, x23, rfl, hLS⟩
    have hLS : LS K T (nmOf hd7 ls) low p q nl ml el hd fl 153 H2 := hLS
    refine q1 _ _ x8 x9 x11 x12 x13 x14 x15 x23 hd7 p q nl ml el hd fl ls low 153 H2 hhd hls hlow1 hlow2 (by decide) hLS fun x8' x16' H4 hLS4 => ?_
    refine q2 _ _ x8' x9 x11 x12 x13 x14 x15 x16' x23 hd7 p q nl ml el hd fl ls low 163 H4 hhd hls hlow1 hlow2 (by decide) hLS4 fun x17 x18 vl vs H5' hvl hvs hVS hLS5 => ?_
    exact q3 _ _ _ _ _ _ _ x8' x9 _ x11 x12 x13 x14 x15 x16' x17 x18 x23 hd7 p q vl ls low 183 vs H5' hhd hls hlow1 hlow2 (by decide) hLS5.pen hLS5.tabs hvl hvs hVS hQ
end
end K93
set_option Elab.async false
set_option linter.all false
set_option maxRecDepth 100000
set_option maxHeartbeats 4000000
/-! # A hook of one's own: defs, facts, tables, own errors (ExT), the statics too. -/
namespace PlugH
open PySem PySem.Spec PyProof.Rows L2 He PlugX PySem.HandSPX
/-- one error class: its name, its field, the qualified name of its __init__, the places in the text of that -/
structure EC where
  x : Str
  f : Str
  q : Str
  p : PPs
abbrev FnC : Type := Option (Str × Str × Arguments × FuncBody × Scope × Addr × List Str × Addr)
def fnC (K : PySem.W.Frag) (a : Addr) : FnC := match K.lookup a with
  | some ⟨_, _, .func fd, _⟩ => some (fd.name, fd.qualname, fd.params, fd.body, fd.scope, fd.globals, fd.closure.map (·.1), fd.builtins)
  | _ => none
def EC.val (e : EC) : FnC := some ("__init__", e.q, iArgs e.f e.p, .stmts (iBody e.f e.p), iScope e.f, mainGlobals, ["__class__"], builtinsNs)
def clsB (K : PySem.W.Frag) (C : Addr) : Bool := match K.lookup C with
  | some ⟨.type c, _, .cls cd, sl⟩ => decide (c = "type") && ((match cd.mro with
    | .ref C' :: bm => decide (C' = C) && refsVE bm
    | _ => false) && (cd.hasDict && (!cd.hasDel && (match sl.toList with
      | [_, _, _, _, some (.builtin n), _] => decide (n = "ValueError.__new__")
      | _ => false))))
  | _ => false
theorem clsB_ok {K : PySem.W.Frag} {C : Addr} (h : clsB K C = true) : ∃ nm q N bs bm sn sub ab col dd k0 k1 k2 k3 k5, K.lookup C = some (excClassObj nm q C N bs bm true sn sub ab col dd k0 k1 k2 k3 k5 "ValueError.__new__") ∧ refsVE bm = true := by
  unfold clsB at h
  split at h
  · rename_i c dd cd sl ho
    simp only [Bool.and_eq_true, Bool.not_eq_true', decide_eq_true_eq] at h
    obtain ⟨h1, h2, h3, h4, h5⟩ := h
    subst h1
    obtain ⟨nm, bs, mro, N, q, hdct, sn, sub, ab, col, del⟩ := cd
    split at h2
    · rename_i C' bm hm
      simp only [Bool.and_eq_true, decide_eq_true_eq] at h2
      obtain ⟨h6, h7⟩ := h2
      subst h6
      split at h5
      · rename_i k0 k1 k2 k3 n k5 hs
        have h8 : n = "ValueError.__new__" := of_decide_eq_true h5
        subst h8
        have hs2 : sl = #[k0, k1, k2, k3, some (.builtin "ValueError.__new__"), k5] := by
          have := congrArg List.toArray hs
          simpa using this
        have hm : mro = .ref C' :: bm := hm
        have h3 : hdct = true := h3
        have h4 : del = false := h4
        subst hs2 hm h3 h4
        exact ⟨nm, q, N, bs, bm, sn, sub, ab, col, dd, k0, k1, k2, k3, k5, ho, h7⟩
      · cases h5
    · cases h2
  · cases h
/-- the rest that ExT tells -/
def restB (file : Str) (K : PySem.W.Frag) (e : EC) : Bool :=
  clsB K (ga K e.x) && (eqO (PySem.W.nsIn K mainGlobals e.x) (some (some (.ref (ga K e.x)))) && (eqO (PySem.W.nsIn K mainGlobals "super") (some none) && (eqO (PySem.W.findIn K (.ref (ga K e.x)) "__setattr__") (some (some (.builtin "object.__setattr__"))) && (eqO (PySem.W.findIn K (.ref (ga K e.x)) e.f) (some none) &&
  (eqO (PySem.W.findIn K (.ref (ga K e.x)) "__init__") (some (some (.ref (ma K (ga K e.x) "__init__")))) && (decide (PySem.W.typeIn K (.ref (ma K (ga K e.x) "__init__")) = some (.type "function")) && (PySem.W.keepIn K (.ref (ga K e.x)) && (decide (PySem.W.subIn K (.ref (ga K e.x)) (.type "BaseException") = some true) &&
  (decide (PySem.W.subIn K (.ref (ga K e.x)) (.type "ValueError") = some true) && (decide (PySem.W.typeIn K (.ref (ga K e.x)) = some (.type "type")) && (eqO (PySem.W.ks_superIn K (ga K e.x) (ga K e.x) "__init__") (some (some (.builtin "ValueError.__init__"))) && (decide (PySem.W.mroIn K (ga K e.x) (.ref (ga K e.x)) = some true) &&
  (eqO (PySem.W.nsIn K cStatics "thirdparty.any") (some none) && (match K.lookup (ma K (ga K e.x) "__init__") with
    | some ⟨_, _, .func fd, _⟩ => (match fd.code, fd.closure, fd.defaults with
      | .ref cda, [(_, cc)], .none => PySem.W.codeIn K (.ref cda) e.q && ((match K.lookup cda with
        | some ⟨_, _, .fields vs, _⟩ => (match (vs[2]? : Option Value) with
          | some (.str z _) => decide (z = file)
          | _ => false)
        | _ => false) && (match K.lookup cc with
          | some ⟨_, _, .cell (some (.ref C')), _⟩ => decide (C' = ga K e.x)
          | _ => false))
      | _, _, _ => false)
    | _ => false))))))))))))))
theorem ext_of {P : Program} {K : PySem.W.Frag} {h : Heap} {mg : Str → Option Value} {e : EC} (X : K.In h) (G : h.Ns mainGlobals mg) (ho : fnC K (ma K (ga K e.x) "__init__") = e.val) (hr : restB P.main.file K e = true) (top : (P.main.scope.names.lookup ("super" : Str)).isSome = false)
    (line : ((e.p 4).endLine == (e.p 6).line) = true) : ∃ cda cc, ExT P K mg e.x e.f (ga K e.x) (ma K (ga K e.x) "__init__") cda cc := by
  unfold restB at hr
  simp only [Bool.and_eq_true, decide_eq_true_eq] at hr
  obtain ⟨r1, r2, r3, r4, r5, r6, r7, r8, r9, r10, r11, r12, r13, r14, r15⟩ := hr
  unfold fnC at ho
  split at r15
  · rename_i oc od fd osl hf
    rw [hf] at ho
    split at r15
    · rename_i cda u cc hcode hclo hdef
      obtain ⟨n1, n2, n3, n4, n5, n6, n7, n8, n9, n10, n11, n12, n13, n14, n15⟩ := fd
      have e2 : (some (n1, n2, n3, n4, n5, n6, n7.map (·.1), n15) : FnC) = e.val := ho
      unfold EC.val at e2
      simp only [Option.some.injEq, Prod.mk.injEq] at e2
      obtain ⟨h1, h2, h3, h4, h5, h6, h7, h8⟩ := e2
      have hcode : n13 = .ref cda := hcode
      have hclo : n7 = [(u, cc)] := hclo
      have hdef : n8 = .none := hdef
      subst h1 h2 h3 h4 h5 h6 h8 hcode hclo hdef
      have hu : u = "__class__" := by simpa using h7
      subst hu
      simp only [Bool.and_eq_true] at r15
      obtain ⟨q1, q2, q3⟩ := r15
      split at q2
      · rename_i ccl cdd vs ccs hcd
        split at q2
        · rename_i z tz hz
          have hz2 : z = P.main.file := of_decide_eq_true q2
          split at q3
          · rename_i cl cld C' csl hcell
            have hC : C' = ga K e.x := of_decide_eq_true q3
            subst hC
            refine ⟨cda, cc, ⟨PySem.W.mg_of X G (eqO_ok r2), PySem.W.mg_none_of X G (eqO_ok r3), clsB_ok r1, eqO_ok r4, eqO_ok r5, eqO_ok r6, r7, r8, r9, r10, r11, eqO_ok r12, r13, eqO_ok r14, top, ?_, ?_, ?_⟩⟩
            · exact ⟨e.q, oc, od, n9, n10, n11, n12, n14, osl, e.p, hf, q1, line⟩
            · exact ⟨ccl, cdd, vs, ccs, z, tz, hcd, hz, by rw [hz2]; exact beq_self_eq_true _⟩
            · exact ⟨cl, cld, csl, hcell⟩
          · cases q3
        · cases q2
      · cases q2
    · cases r15
  · cases r15
/-! ### the hook -/
/-- what is looked at -/
def adrs (g : Addr → Option Obj) (n : Nat) : List Addr := cStatics :: asD g n
abbrev AlP : Type := (AlD × List FnC) × Bool
def obsP (n : Nat) (fa : List Fa) (fn : List DefD) (tf : List Defn) (es : List EC) (ex : PySem.W.Frag → Bool) (g : Addr → Option Obj) : AlP :=
  ((obsD fa fn (frT g (adrs g n)), es.map fun e => fnC (frT g (adrs g n)) (ma (frT g (adrs g n)) (ga (frT g (adrs g n)) e.x) "__init__")), ex (frT g (adrs g n)) && tabsB g tf (frT g (adrs g n)))
def valP (fn : List DefD) (es : List EC) : AlP := ((valD fn, es.map EC.val), true)
structure SaysP (fa : List Fa) (fn : List DefD) (tf : List Defn) (es : List EC) (ex : PySem.W.Frag → Bool) (h : Heap) (K : PySem.W.Frag) : Prop where
  d : SaysD fa fn K
  ini : ∀ e ∈ es, fnC K (ma K (ga K e.x) "__init__") = e.val
  more : ex K = true
  tab : ∀ p ∈ tf, PySem.W.codeHdIn K (cT K p).1 (cT K p).2 = true ∧ K.lookup (cT K p).2 = none ∧ h.get? (cT K p).2 = some { cls := .none, data := .fields #[] }
theorem saysP_of {n : Nat} {fa : List Fa} {fn : List DefD} {tf : List Defn} {es : List EC} {ex : PySem.W.Frag → Bool} {h : Heap} (q : obsP n fa fn tf es ex h.get? = valP fn es) : SaysP fa fn tf es ex h (frT h.get? (adrs h.get? n)) := by
  obtain ⟨K, eK⟩ : ∃ K, K = frT h.get? (adrs h.get? n) := ⟨_, rfl⟩
  have q1 : obsD fa fn K = valD fn := by
    rw [eK]
    exact congrArg (fun z : AlP => z.1.1) q
  have q2 : (es.map fun e => fnC K (ma K (ga K e.x) "__init__")) = es.map EC.val := by
    rw [eK]
    exact congrArg (fun z : AlP => z.1.2) q
  have q3 : (ex K && tabsB h.get? tf K) = true := by
    rw [eK]
    exact congrArg (fun z : AlP => z.2) q
  rw [← eK]
  rw [Bool.and_eq_true] at q3
  refine ⟨q1, fun e he => ?_, q3.1, fun p hp => ?_⟩
  · obtain ⟨i, hi⟩ := List.mem_iff_getElem?.mp he
    have q4 := congrArg (fun l => l[i]?) q2
    simp only [List.getElem?_map, hi, Option.map_some] at q4
    exact Option.some.inj q4
  · have q5 := List.all_eq_true.mp q3.2 p hp
    rw [Bool.and_eq_true] at q5
    refine ⟨q5.1, ?_⟩
    cases e : h.get? (cT K p).2 with
    | none =>
      have q6 := q5.2
      rw [e] at q6
      cases q6
    | some o =>
      have q6 := q5.2
      rw [e] at q6
      have eo := emptyTab_eq q6
      refine ⟨?_, by rw [eo]⟩
      have e' : h.get? (cT (frT h.get? (adrs h.get? n)) p).2 = some o := by rw [← eK]; exact e
      rw [eK]
      exact frT_none e' q6
def hookP (n : Nat) (fa : List Fa) (fn : List DefD) (tf : List Defn) (es : List EC) (ex : PySem.W.Frag → Bool) : PySem.W.Hook where
  α := AlP
  obs := fun s => obsP n fa fn tf es ex s.heap.get?
  val := fun _ => valP fn es
  says := fun _ h => ∃ K : PySem.W.Frag, K.In h ∧ SaysP fa fn tf es ex h K
  of := fun _ _ q => ⟨_, frT_in, saysP_of q⟩
  keeps := fun _ _ _ ⟨K, hK, c⟩ k => ⟨K, PySem.W.Frag.In.keeps hK k, ⟨c.d, c.ini, c.more, fun p hp => ⟨(c.tab p hp).1, (c.tab p hp).2.1, k _ _ (c.tab p hp).2.2⟩⟩⟩
theorem obsP_eq {n : Nat} {fa : List Fa} {fn : List DefD} {tf : List Defn} {es : List EC} {ex : PySem.W.Frag → Bool} {g : Addr → Option Obj} {s : Shared} (q : ∀ a, g a = s.heap.get? a) : obsP n fa fn tf es ex g = (hookP n fa fn tf es ex).obs s := by
  rw [show g = s.heap.get? from funext q] <;> rfl
/-! ### a def by its place -/
def dd (x : Str) (st : Stmt) : DefD := ⟨(x, none), x, x, defArgs st, defBody st, defScope st, [], []⟩
theorem st0_of {fa : List Fa} {fn : List DefD} {K : PySem.W.Frag} {h : Heap} {mg : Str → Option Value} {x : Str} {st : Stmt} {ps : List Str} (X : K.In h) (G : h.Ns mainGlobals mg) (c : SaysD fa fn K) (hd : dd x st ∈ fn) (hg : Fa.glo x ∈ fa)
    (hb : ∀ (kV doc pm : Value) (an : Option Addr) (cdv ct : Value) (us : List Value), us.length = ps.length → bindArgs (PySem.W.fnOf x x (defArgs st) (defBody st) (defScope st) .none kV doc pm an cdv ct) ⟨us, []⟩ = pure (ps.zip us)) : St0 K mg x st ps := by
  obtain ⟨fd, F⟩ := c.defs hd
  have F' : FnP K x st (ga K x) fd := F
  exact ⟨ga K x, fd, glo_ok X G (c.facts hg), F', F'.bindsN hb⟩
end PlugH
set_option Elab.async false
set_option linter.all false
set_option maxRecDepth 100000
set_option maxHeartbeats 0
namespace K93
open PySem PySem.Spec PyProof.Rows L2 PlugX LamX LamB He PlugH
def eBadValue : EC := ⟨"BadValue", "part", "BadValue.__init__", fun i => ([⟨16, 17, 16, 21⟩, ⟨16, 23, 16, 27⟩, ⟨17, 8, 17, 13⟩, ⟨17, 8, 17, 15⟩, ⟨17, 8, 17, 24⟩, ⟨17, 25, 17, 29⟩, ⟨17, 8, 17, 30⟩, ⟨17, 8, 17, 30⟩, ⟨18, 8, 18, 12⟩, ⟨18, 8, 18, 17⟩, ⟨18, 20, 18, 24⟩, ⟨18, 8, 18, 24⟩] : List Pos).getD i ⟨0, 0, 0, 0⟩⟩
def eBadNumber : EC := ⟨"BadNumber", "part", "BadNumber.__init__", fun i => ([⟨21, 17, 21, 21⟩, ⟨21, 23, 21, 27⟩, ⟨22, 8, 22, 13⟩, ⟨22, 8, 22, 15⟩, ⟨22, 8, 22, 24⟩, ⟨22, 25, 22, 29⟩, ⟨22, 8, 22, 30⟩, ⟨22, 8, 22, 30⟩, ⟨23, 8, 23, 12⟩, ⟨23, 8, 23, 17⟩, ⟨23, 20, 23, 24⟩, ⟨23, 8, 23, 24⟩] : List Pos).getD i ⟨0, 0, 0, 0⟩⟩
def fn : List DefD := [dd "is_integer" s_is_integer, dd "is_within" s_is_within, dd "is_listed" s_is_listed, dd "is_name" s_is_name, dd "longer_ones" s_longer_ones, dd "rank_of" s_rank_of, dd "fixed" s_fixed, dd "is_version" s_is_version, dd "is_block" s_is_block, dd "is_fence" s_is_fence, dd "fence_by" s_fence_by, dd "blocks_of" s_blocks_of, dd "fence_of" s_fence_of, dd "may_have" s_may_have, dd "can_have" s_can_have, dd "_law_pen" s_law_pen, dd "_law_draw" s_law_draw, dd "_law_pick" s_law_pick, dd "_law_error" s_law_error, dd "_law_blocks_all" s_law_blocks_all, dd "_law_fence" s_law_fence, dd "law" s_law]
def fa : List Fa := [.glo "is_integer", .glo "is_within", .glo "is_listed", .glo "is_name", .glo "longer_ones", .glo "rank_of", .glo "fixed", .glo "is_version", .glo "is_block", .glo "is_fence", .glo "fence_by", .glo "blocks_of", .glo "fence_of", .glo "may_have", .glo "can_have", .glo "_law_pen", .glo "_law_draw", .glo "_law_pick", .glo "_law_error", .glo "_law_blocks_all", .glo "_law_fence", .glo "law", .glo "PlugError", .glo "BadValue", .glo "BadNumber", .glo "Misfit", .glo "NoName", .glo "BadEvent", .glo "TooMany", .free "isinstance", .free "len", .free "list", .free "tuple", .free "str", .free "bool", .free "all", .free "range", .free "enumerate", .free "zip", .free "min", .free "max", .free "int", .free "abs", .free "set", .free "sorted", .free "repr", .str "LETTERS" "abcdefghijklmnopqrstuvwxyz", .int "LONGEST" 8, .int "MOST_SIZE" 100]
def excB (K : PySem.W.Frag) (D : Addr) : Bool := eqO (PySem.W.findIn K (.ref D) "__getattribute__") (some (some (.builtin "BaseException.__getattribute__"))) && (eqO (PySem.W.findIn K (.ref D) "__getattr__") (some none) && (decide (PySem.W.subIn K (.ref D) (.type "BaseException") = some true) &&
  (PySem.W.hasDictIn K D && (eqO (PySem.W.findIn K (.ref D) "__class__") (some (some (.builtin "object.__class__"))) && (eqO (PySem.W.specialIn K (.builtin "object.__class__") "__get__") (some (some (.builtin "getset_descriptor.__get__"))) && (decide (PySem.W.takesIn K (.builtin "object.__class__") = some true) && decide (PySem.W.mroIn K D (.type "object") = some true)))))))
def errB (K : PySem.W.Frag) (C : Str) (a b c : Bool) : Bool := decide (PySem.W.exmOne K (.ref (ga K C)) (.ref (ga K "PlugError")) = some true) && (excB K (ga K C) && (eqO (PySem.W.findIn K (.ref (ga K C)) "part") (some none) && (decide (PySem.W.kitOne K (.ref (ga K C)) (.ref (ga K "BadValue")) = some a) &&
  (decide (PySem.W.kitOne K (.ref (ga K C)) (.ref (ga K "BadNumber")) = some b) && decide (PySem.W.kitOne K (.ref (ga K C)) (.ref (ga K "Misfit")) = some c)))))
def ex (K : PySem.W.Frag) : Bool := (restB prog.main.file K eBadValue && (restB prog.main.file K eBadNumber && (errB K "BadValue" true false false && errB K "BadNumber" false true false)))
def tf : List Defn := [("law", none)]
abbrev Rw : PySem.W.OpenRow := PySem.W.OpenLaw.row PySem.Challenge.rw_pulledplug_k93_whole_fences_by_all_block
abbrev hk : PySem.W.Hook := hookP 5 fa fn tf [eBadValue, eBadNumber] ex
def ob (s : PySem.W.SharedT) : AlP := obsP 5 fa fn tf [eBadValue, eBadNumber] ex (HandSHeadRun.getT s)
theorem ob_eq (s : PySem.W.SharedT) : ob s = hk.obs s.abs := obsP_eq (HandSHeadRun.getT_eq s)
def names : List PySem.Str := ["LETTERS", "LONGEST", "MOST_SIZE", "is_integer", "is_within", "is_listed", "is_name", "longer_ones", "rank_of", "fixed", "is_version", "is_block", "is_fence", "fence_by", "blocks_of", "fence_of", "may_have", "can_have", "_law_pen", "_law_draw", "_law_pick", "_law_error", "_law_blocks_all", "_law_fence", "PlugError", "BadValue", "BadNumber", "Misfit", "TooMany", "NoName", "BadEvent"]
theorem run (w : World) : HandSHeadRun.RunEq Rw (PySem.W.view Rw.prog [37]) hk ob 7000 names w := by
  intro os
  kernel_rfl
end K93
set_option Elab.async false
set_option linter.all false
set_option maxRecDepth 100000
set_option maxHeartbeats 0
namespace K93
open PySem PySem.Spec PyProof.Rows L2 PlugX LamX LamB He PlugH Nam SetP Pen
section
variable {K : PySem.W.Frag} {mg : Str → Option Value} {h : Heap}
theorem excB_ok {D : Addr} (c : excB K D = true) : ExcC K D := by
  unfold excB at c
  simp only [Bool.and_eq_true, decide_eq_true_eq] at c
  obtain ⟨c1, c2, c3, c4, c5, c6, c7, c8⟩ := c
  exact ⟨eqO_ok c1, eqO_ok c2, c3, c4, eqO_ok c5, eqO_ok c6, c7, c8⟩
theorem gc_glo {x : Str} (X : K.In h) (G : h.Ns mainGlobals mg) (c : (Fa.glo x).ok K = true) : Gc mg x (.ref (ga K x)) := ⟨_, glo_ok X G c, rfl⟩
theorem errK_of (X : K.In h) (G : h.Ns mainGlobals mg) (c : SaysD fa fn K) : ErrK K mg (ga K "PlugError") (ga K "BadValue") (ga K "BadNumber") (ga K "Misfit") (ga K "NoName") (ga K "BadEvent") (ga K "TooMany") :=
  ⟨glo_ok X G (c.facts (by simp [fa])), gc_glo X G (c.facts (by simp [fa])), gc_glo X G (c.facts (by simp [fa])), gc_glo X G (c.facts (by simp [fa])), gc_glo X G (c.facts (by simp [fa])), gc_glo X G (c.facts (by simp [fa])), gc_glo X G (c.facts (by simp [fa]))⟩
theorem errR_of {C : Str} {a b c : Bool} {wd : Str} (e : errB K C a b c = true) (hw : Wd a b c wd) : ErrR K (ga K "PlugError") (ga K "BadValue") (ga K "BadNumber") (ga K "Misfit") (ga K C) wd := by
  unfold errB at e
  simp only [Bool.and_eq_true, decide_eq_true_eq] at e
  obtain ⟨e1, e2, e3, e4, e5, e6⟩ := e
  have x := excB_ok e2
  exact ⟨e1, x, ⟨x.hg, x.hk, x.hs, x.hd⟩, eqO_ok e3, a, b, c, e4, e5, e6, hw⟩
theorem mg_of (X : K.In h) (G : h.Ns mainGlobals mg) (c : SaysD fa fn K) : MG mg := by
  have fr := fun (x : Str) (m : Fa.free x ∈ fa) => free_ok X G (c.facts m)
  refine ⟨fr _ (by simp [fa]), fr _ (by simp [fa]), fr _ (by simp [fa]), fr _ (by simp [fa]), fr _ (by simp [fa]), fr _ (by simp [fa]), fr _ (by simp [fa]), fr _ (by simp [fa]), fr _ (by simp [fa]), fr _ (by simp [fa]), fr _ (by simp [fa]), fr _ (by simp [fa]), fr _ (by simp [fa]), fr _ (by simp [fa]), fr _ (by simp [fa]), fr _ (by simp [fa]), fr _ (by simp [fa]), ?_, ?_, ?_⟩
  · obtain ⟨t, e⟩ := str_ok X G (c.facts (f := .str "LETTERS" "abcdefghijklmnopqrstuvwxyz") (by simp [fa]))
    exact ⟨_, e, t, by rw [letters_S]⟩
  · obtain ⟨t, e⟩ := int_ok X G (c.facts (f := .int "LONGEST" 8) (by simp [fa]))
    exact ⟨_, e, t, rfl⟩
  · obtain ⟨t, e⟩ := int_ok X G (c.facts (f := .int "MOST_SIZE" 100) (by simp [fa]))
    exact ⟨_, e, t, rfl⟩
theorem law_at {w : World} {fL : Addr} (X : K.In h) (G : h.Ns mainGlobals mg) (hfa : mg ("law" : Str) = some (.ref fL)) (c : SaysP fa fn tf [eBadValue, eBadNumber] ex h K) : LawAtS PySem.Challenge.rw_pulledplug_k93_whole_fences_by_all_block w K CX0 8 63 "script" mg fL h := by
  have hex := c.more
  unfold ex at hex
  simp only [Bool.and_eq_true] at hex
  obtain ⟨rBadValue, rBadNumber, qBadValue, qBadNumber⟩ := hex
  have M := mg_of X G c.d
  have K1 := errK_of X G c.d
  have R_BadValue := errR_of (wd := "value") qBadValue (.inl ⟨rfl, rfl, rfl, rfl⟩)
  obtain ⟨cdaBadValue, ccBadValue, T_BadValue⟩ := ext_of (P := prog) (e := eBadValue) X G (c.ini eBadValue (by simp)) rBadValue (by decide +kernel) (by decide +kernel)
  have T_BadValue : ExT prog K mg "BadValue" "part" (ga K "BadValue") (ma K (ga K "BadValue") "__init__") cdaBadValue ccBadValue := T_BadValue
  have R_BadNumber := errR_of (wd := "number") qBadNumber (.inr (.inl ⟨rfl, rfl, rfl, rfl⟩))
  obtain ⟨cdaBadNumber, ccBadNumber, T_BadNumber⟩ := ext_of (P := prog) (e := eBadNumber) X G (c.ini eBadNumber (by simp)) rBadNumber (by decide +kernel) (by decide +kernel)
  have T_BadNumber : ExT prog K mg "BadNumber" "part" (ga K "BadNumber") (ma K (ga K "BadNumber") "__init__") cdaBadNumber ccBadNumber := T_BadNumber
  have s_is_integer_ : St0 K mg "is_integer" s_is_integer ["value"] := st0_of X G c.d (by simp [fn]) (by simp [fa]) fun _ _ _ _ _ _ us hl => match us, hl with | [_], _ => rfl
  have s_is_within_ : St0 K mg "is_within" s_is_within ["value", "least", "most"] := st0_of X G c.d (by simp [fn]) (by simp [fa]) fun _ _ _ _ _ _ us hl => match us, hl with | [_, _, _], _ => rfl
  have s_is_listed_ : St0 K mg "is_listed" s_is_listed ["value"] := st0_of X G c.d (by simp [fn]) (by simp [fa]) fun _ _ _ _ _ _ us hl => match us, hl with | [_], _ => rfl
  have s_is_name_ : St0 K mg "is_name" s_is_name ["value"] := st0_of X G c.d (by simp [fn]) (by simp [fa]) fun _ _ _ _ _ _ us hl => match us, hl with | [_], _ => rfl
  have s_longer_ones_ : St0 K mg "longer_ones" s_longer_ones ["many"] := st0_of X G c.d (by simp [fn]) (by simp [fa]) fun _ _ _ _ _ _ us hl => match us, hl with | [_], _ => rfl
  have s_rank_of_ : St0 K mg "rank_of" s_rank_of ["name"] := st0_of X G c.d (by simp [fn]) (by simp [fa]) fun _ _ _ _ _ _ us hl => match us, hl with | [_], _ => rfl
  have s_fixed_ : St0 K mg "fixed" s_fixed ["value"] := st0_of X G c.d (by simp [fn]) (by simp [fa]) fun _ _ _ _ _ _ us hl => match us, hl with | [_], _ => rfl
  have s_is_version_ : St0 K mg "is_version" s_is_version ["value"] := st0_of X G c.d (by simp [fn]) (by simp [fa]) fun _ _ _ _ _ _ us hl => match us, hl with | [_], _ => rfl
  have s_is_block_ : St0 K mg "is_block" s_is_block ["value"] := st0_of X G c.d (by simp [fn]) (by simp [fa]) fun _ _ _ _ _ _ us hl => match us, hl with | [_], _ => rfl
  have s_is_fence_ : St0 K mg "is_fence" s_is_fence ["value"] := st0_of X G c.d (by simp [fn]) (by simp [fa]) fun _ _ _ _ _ _ us hl => match us, hl with | [_], _ => rfl
  have s_fence_by_ : St0 K mg "fence_by" s_fence_by ["block"] := st0_of X G c.d (by simp [fn]) (by simp [fa]) fun _ _ _ _ _ _ us hl => match us, hl with | [_], _ => rfl
  have s_blocks_of_ : St0 K mg "blocks_of" s_blocks_of ["versions", "size"] := st0_of X G c.d (by simp [fn]) (by simp [fa]) fun _ _ _ _ _ _ us hl => match us, hl with | [_, _], _ => rfl
  have s_fence_of_ : St0 K mg "fence_of" s_fence_of ["block"] := st0_of X G c.d (by simp [fn]) (by simp [fa]) fun _ _ _ _ _ _ us hl => match us, hl with | [_], _ => rfl
  have s_may_have_ : St0 K mg "may_have" s_may_have ["fence", "key", "number"] := st0_of X G c.d (by simp [fn]) (by simp [fa]) fun _ _ _ _ _ _ us hl => match us, hl with | [_, _, _], _ => rfl
  have s_can_have_ : St0 K mg "can_have" s_can_have ["fence", "key", "number"] := st0_of X G c.d (by simp [fn]) (by simp [fa]) fun _ _ _ _ _ _ us hl => match us, hl with | [_, _, _], _ => rfl
  have s_law_pen_ : St0 K mg "_law_pen" s_law_pen ["script"] := st0_of X G c.d (by simp [fn]) (by simp [fa]) fun _ _ _ _ _ _ us hl => match us, hl with | [_], _ => rfl
  have s_law_draw_ : St0 K mg "_law_draw" s_law_draw ["pen", "many"] := st0_of X G c.d (by simp [fn]) (by simp [fa]) fun _ _ _ _ _ _ us hl => match us, hl with | [_, _], _ => rfl
  have s_law_pick_ : St0 K mg "_law_pick" s_law_pick ["pen", "some"] := st0_of X G c.d (by simp [fn]) (by simp [fa]) fun _ _ _ _ _ _ us hl => match us, hl with | [_, _], _ => rfl
  have s_law_error_ : St0 K mg "_law_error" s_law_error ["ask"] := st0_of X G c.d (by simp [fn]) (by simp [fa]) fun _ _ _ _ _ _ us hl => match us, hl with | [_], _ => rfl
  have s_law_blocks_all_ : St0 K mg "_law_blocks_all" s_law_blocks_all ["names", "numbers", "most"] := st0_of X G c.d (by simp [fn]) (by simp [fa]) fun _ _ _ _ _ _ us hl => match us, hl with | [_, _, _], _ => rfl
  have s_law_fence_ : St0 K mg "_law_fence" s_law_fence ["row"] := st0_of X G c.d (by simp [fn]) (by simp [fa]) fun _ _ _ _ _ _ us hl => match us, hl with | [_], _ => rfl
  obtain ⟨fd, F⟩ := c.d.defs (d := dd "law" s_law) (by simp [fn])
  have F : FnP K "law" s_law (ga K "law") fd := F
  have hL : fL = ga K "law" := by
    have e := hfa.symm.trans (glo_ok X G (c.d.facts (f := .glo "law") (by simp [fa])))
    cases e
    rfl
  subst hL
  have hcode : fd.code = .ref (cT K ("law", none)).1 := by
    obtain ⟨oc, od, dV, kV, doc, pm, an, cdv, ct, osl, rfl, lk, hcd, _, _⟩ := F.ex
    obtain ⟨c', rfl⟩ := codeIn_ref hcd
    exact congrArg Value.ref (codeOf_eq (p := ("law", none)) lk rfl).symm
  obtain ⟨t1, t2, t3⟩ := c.tab ("law", none) List.mem_cons_self
  have b := F.bindsA (ps := ["script"]) fun _ _ _ _ _ _ us hl => match us, hl with | [_], _ => rfl
  refine ⟨fd, [cT K ("law", none)], spLaw K (cT K ("law", none)).2, fun p hp => ?_, fun p hp => ?_, fun p hp => ?_, fun s v => b s [v] rfl, fun H a ns hl _ hT hS => ⟨a, ns, rfl, hS, Nat.le_trans hl (by decide), hT _ List.mem_cons_self, fun _ => rfl⟩, fun base _ _ TB => ?_⟩
  · rw [List.mem_singleton.mp hp]; exact t3
  · rw [List.mem_singleton.mp hp]; exact t2
  · rw [List.mem_singleton.mp hp]; exact PySem.W.codeHd_of_K X t1
  · have D1 := d_is_integer (P := prog) (w := w) (base := base) M s_is_integer_
    have D2 := d_is_within M s_is_within_ D1
    have D3 := d_is_listed (P := prog) (w := w) (base := base) M s_is_listed_
    have D4 := d_is_name (P := prog) (w := w) (base := base) M s_is_name_
    have D5 := d_is_version M s_is_version_ D3 D4 D2
    have D6 := d_is_block M s_is_block_ D3 D5
    have D7 := d_longer_ones (P := prog) (w := w) (base := base) M s_longer_ones_
    have D8 := d_rank_of M s_rank_of_ D7
    have D9 := d_is_fence M s_is_fence_ D3 D4 D2 D8
    have E1 := d_can_have (P := prog) (w := w) (base := base) M s_can_have_
    have E2 := d_fixed (P := prog) (w := w) (base := base) M s_fixed_ 4
    have E3 := d_fence_by (P := prog) (w := w) (base := base) M s_fence_by_
    have G1 := d_law_draw (P := prog) (w := w) (base := base) M s_law_draw_
    exact law_ok M K1 R_BadValue R_BadNumber ⟨d_law_pen M s_law_pen_, G1, d_law_pick M s_law_pick_ G1, d_law_blocks_all M s_law_blocks_all_, d_law_fence M s_law_fence_, d_may_have M s_may_have_ T_BadValue T_BadNumber D9 D4 D1 E2 E1, d_fence_of M s_fence_of_ T_BadValue D6 E3, d_blocks_of M s_blocks_of_ T_BadValue T_BadNumber D3 D6 D2 E2⟩ s_law_error_ (TB _ List.mem_cons_self) F hcode
end
end K93
open PySem PySem.W PySem.Calls PyProof.Rows
theorem PySem.Challenge.cw_pulledplug_k93_whole_fences_by_all_block_holds : PySem.Challenge.rw_pulledplug_k93_whole_fences_by_all_block.Holds := by
  w_on; o_law
  refine HandSHeadRun.head_any (r := K93.Rw) (q := view K93.Rw.prog [37]) (H := K93.hk) (ob := K93.ob) (M := 7000) (loose := K93.names) (d := HandSHeadRun.topDef K93.Rw.prog 37) (kwd := []) K93.ob_eq
    (by kernel_rfl) (fun s => by kernel_rfl) K93.run (by kernel_rfl) (by kernel_rfl) (by kernel_rfl) (by rfl) (by first | assumption | decide +kernel) (by decide +kernel) ⟨rfl, rfl, rfl, rfl, rfl, by decide +kernel⟩ ?hw ?hc
  case hw => w_witness2
  case hc =>
    refine LamX.walk_ofTsE (l := PySem.Challenge.rw_pulledplug_k93_whole_fences_by_all_block) (n := 63) (k := 8) (x := "script") (CX := fun _ => L2.CX0) rfl (by decide) (by kernel_rfl) ⟨rfl, by decide, by decide⟩ ?F (fun _ _ _ _ _ z => z)
    intro w mg fL h Y G hmg0
    obtain ⟨K, KX, c⟩ := Y
    have hmg : mg ("law" : PySem.Str) = some (.ref fL) := by
      have e : (HandSHeadRun.topDef K93.Rw.prog 37).name = ("law" : PySem.Str) := by kernel_rfl
      rw [← e]
      exact hmg0
    exact ⟨K, KX, K93.law_at KX G hmg c⟩
