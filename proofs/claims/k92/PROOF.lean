import PyProof.Rows.All
import Wide.All
import OpenK.AllK
import Wide.FinOn
import PyProof.EqAt
import PyProof.EqKinds
import PyProof.TupleCall
import KE.KExcSuper
import KE.KIsAll
import KE.KTryMore
import KE.KExcIs
import HandS.IsInst
import HandS.ForMost
import HandS.Exc
import HandS.ExcIs
import HandS.ExcField
import HandS.ExcValue
import HandS.ExcSuper
import HandS.HeadWalk
import HandS.Lambda
import HandS.Codes
import HandS.TryOnly
import KE.KDflt
import HandS.Flow
import HandS.Walk
import HandS.StrMore
import HandS.Text
import HandS.DictComp
import HandS.Words
import HandS.Defaults
import KE.GoesEnum
import PyProof.ListStr
import HandS.TupAny
import PySem.Challenge.RW_pulledplug_k92_names_in_their_order
import HandS.HeadHook4
import HandS.Head2
import KE.KStateDown
import HandS.Head0
import HandS.Head1
set_option Elab.async false
set_option linter.all false
set_option maxRecDepth 100000
set_option maxHeartbeats 4000000
/-! # Own errors with one field f whose __init__ calls super().__init__(f) and stores self.f = f; over ValueError, by own classes. -/
namespace PlugX
open PySem PySem.W PySem.Calls PyProof.Rows PySem.HandSPX

/-- the words of __init__, its places left open -/
abbrev PPs := Nat → Pos
def iArgs (f : Str) (p : PPs) : Arguments := { posonlyargs := [], args := [{ arg := "self", annotation := none, pos := p 0 }, { arg := f, annotation := none, pos := p 1 }], vararg := none, kwonlyargs := [], kw_defaults := [], kwarg := none, defaults := [] }
def iBody (f : Str) (p : PPs) : List Stmt :=
  [.Expr (.Call (.Attribute (.Call (.Name "super" (p 2)) [] [] (p 3)) "__init__" (p 4)) [.Name f (p 5)] [] (p 6)) (p 7),
   .Assign [.Attribute (.Name "self" (p 8)) f (p 9)] (.Name f (p 10)) (p 11)]
def iScope (f : Str) : Scope := { kind := .function, names := [(PySem.Str.ofString "self", .local), (f, .local), (PySem.Str.ofString "__class__", .free), (PySem.Str.ofString "super", .globalImplicit)], isGenerator := false, isCoroutine := false, more := [] }

/-- what the written part says of the class named x at C, whose field is f -/
structure ExT (P : Program) (K : Frag) (mg : Str → Option Value) (x f : Str) (C fI cda cc : Addr) : Prop where
  gC : mg x = some (.ref C)
  gS : mg "super" = none
  cls : ∃ nm q N bs bm sn sub ab col dd k0 k1 k2 k3 k5, K.lookup C = some (excClassObj nm q C N bs bm true sn sub ab col dd k0 k1 k2 k3 k5 "ValueError.__new__") ∧ refsVE bm = true
  sa : findIn K (.ref C) "__setattr__" = some (some (.builtin "object.__setattr__"))
  noF : findIn K (.ref C) f = some none
  iC : findIn K (.ref C) "__init__" = some (some (.ref fI))
  tC : typeIn K (.ref fI) = some (.type "function")
  kC : keepIn K (.ref C) = true
  exC : subIn K (.ref C) (.type "BaseException") = some true
  veC : subIn K (.ref C) (.type "ValueError") = some true
  tyC : typeIn K (.ref C) = some (.type "type")
  sup : ks_superIn K C C "__init__" = some (some (.builtin "ValueError.__init__"))
  own : mroIn K C (.ref C) = some true
  opq : nsIn K cStatics "thirdparty.any" = some none
  top : (P.main.scope.names.lookup ("super" : Str)).isSome = false
  fn : ∃ (q : Str) (oc : Value) (od : Option Addr) (kV doc pm : Value) (an : Option Addr) (ct : Value) (osl : Array (Option Value)) (p : PPs),
    K.lookup fI = some ⟨oc, od, .func (ksFn "__init__" q (iArgs f p) (iBody f p) (iScope f) .none kV doc pm an (.ref cda) ct cc), osl⟩ ∧ codeIn K (.ref cda) q = true ∧ ((p 4).endLine == (p 6).line) = true
  code : ∃ (ccl : Value) (cdd : Option Addr) (vs : Array Value) (ccs : Array (Option Value)) (file : Str) (tf : Tok), K.lookup cda = some ⟨ccl, cdd, .fields vs, ccs⟩ ∧ vs[2]? = some (.str file tf) ∧ ((P.main.file : Str) == file) = true
  cell : ∃ (cl : Value) (cld : Option Addr) (csl : Array (Option Value)), K.lookup cc = some ⟨cl, cld, .cell (some (.ref C)), csl⟩

/-- what __init__ leaves of a fresh exception at x -/
structure InitEnd (h h' : Heap) (x C dx t1 : Addr) (f : Str) (v : Value) : Prop where
  keep : ∀ b o, b ≠ x → h.get? b = some o → h'.get? b = some o
  obj : h'.get? x = some { cls := .ref C, dict := some dx, data := .fields #[.ref t1, .none, .none, .none, .bool false, .none] }
  dbig : h.objs.size ≤ dx
  dne : dx ≠ x
  ns : h'.Ns1 dx (fun y => if y = f then some v else none)
structure OwnMade (h h' : Heap) (e C d : Addr) (f : Str) (v : Value) : Prop where
  keep : ∀ b o, h.get? b = some o → h'.get? b = some o
  new : h.objs.size ≤ e
  obj : ∃ oe vs, h'.get? e = some oe ∧ oe.cls = .ref C ∧ oe.dict = some d ∧ oe.data = .fields vs ∧ vs[1]? = some .none
  dbig : h.objs.size ≤ d
  dne : d ≠ e
  ns : h'.Ns1 d (fun y => if y = f then some v else none)
/-- the field's name is none of the names that __init__ uses -/
structure FOk (f : Str) : Prop where
  s : (f == ("self" : Str)) = false
  c : (f == ("__class__" : Str)) = false
  u : (f == ("super" : Str)) = false
  d : (f == ("__debug__" : Str)) = false
  b : ∀ (q : Str) (p : PPs) (kV doc pm : Value) (an : Option Addr) (cd ct : Value) (cc : Addr) (u v : Value),
    bindArgs (ksFn "__init__" q (iArgs f p) (iBody f p) (iScope f) .none kV doc pm an cd ct cc) ⟨[u, v], []⟩ = pure [(("self" : Str), u), (f, v)]
theorem one_size (v : Value) : [v].length ≤ sizeLine := by
  rw [sizeLine_eq]
  exact (by decide : 1 ≤ 16777216)

section
variable {P : Program} {w : World} {A : Around} {R : Result → Shared → Prop} {s : Shared} {K : Frag} {mg mb : Str → Option Value} {x f : Str} {C fI cda cc : Addr}
theorem look_f (fo : FOk f) {α : Type} (a b c d : α) : List.lookup f [(PySem.Str.ofString "self", a), (f, b), (PySem.Str.ofString "__class__", c), (PySem.Str.ofString "super", d)] = some b := by
  have h1 : (f == PySem.Str.ofString "self") = false := fo.s
  simp [List.lookup, h1]
theorem look_c (fo : FOk f) {α : Type} (a b c d : α) : List.lookup ("__class__" : Str) [(PySem.Str.ofString "self", a), (f, b), (PySem.Str.ofString "__class__", c), (PySem.Str.ofString "super", d)] = some c := by
  have h1 : (("__class__" : Str) == PySem.Str.ofString "self") = false := by decide +kernel
  have h2 : (("__class__" : Str) == f) = false := by
    have q := fo.c
    rw [Bool.eq_false_iff] at q ⊢
    exact fun z => q (beq_iff_eq.mpr (beq_iff_eq.mp z).symm)
  have h3 : (("__class__" : Str) == PySem.Str.ofString "__class__") = true := by decide +kernel
  simp only [List.lookup, h1, h2, h3]
theorem look_u (fo : FOk f) {α : Type} (a b c d : α) : List.lookup ("super" : Str) [(PySem.Str.ofString "self", a), (f, b), (PySem.Str.ofString "__class__", c), (PySem.Str.ofString "super", d)] = some d := by
  have h1 : (("super" : Str) == PySem.Str.ofString "self") = false := by decide +kernel
  have h2 : (("super" : Str) == f) = false := by
    have q := fo.u
    rw [Bool.eq_false_iff] at q ⊢
    exact fun z => q (beq_iff_eq.mpr (beq_iff_eq.mp z).symm)
  have h3 : (("super" : Str) == PySem.Str.ofString "__class__") = false := by decide +kernel
  have h4 : (("super" : Str) == PySem.Str.ofString "super") = true := by decide +kernel
  simp only [List.lookup, h1, h2, h3, h4]
theorem look_s {α : Type} (a b c d : α) : List.lookup ("self" : Str) [(PySem.Str.ofString "self", a), (f, b), (PySem.Str.ofString "__class__", c), (PySem.Str.ofString "super", d)] = some a := by
  have h1 : (("self" : Str) == PySem.Str.ofString "self") = true := by decide +kernel
  simp only [List.lookup, h1]

theorem plug_init (T : ExT P K mg x f C fI cda cc) (fo : FOk f) {y t0 : Addr} {v : Value} (X : K.In s.heap) (hg : s.heap.Ns mainGlobals mg) (hb : s.heap.Ns builtinsNs mb) (hbs : mb "super" = some (.type "super"))
    (hlim : s.heap.NoLimit) (hx : s.heap.get? y = some (excO C t0)) (hnx : K.lookup y = none) (hroom : A.depth < recursionLimit)
    (hq : ∀ h' tk dx t1, InitEnd s.heap h' y C dx t1 f v → R (.ok (.ret .none)) { s with heap := h', toks := tk }) :
    codeAny (model P w) A (.call (.ref fI) ⟨[.ref y, v], []⟩) R s := by
  obtain ⟨q, oc, od, kV, doc, pm, an, ct, osl, p, hfI, hcd, hline⟩ := T.fn
  obtain ⟨ccl, cdd, vs, ccs, file, tf, hcda, hvs, hfile⟩ := T.code
  obtain ⟨cl, cld, csl, hcc⟩ := T.cell
  obtain ⟨nm, q', N, bs, bm, sn, sub, ab, col, dd, k0, k1, k2, k3, k5, hC, hbm⟩ := T.cls
  have hcl : clsIn K C = some { name := nm, bases := bs, mro := .ref C :: bm, ns := N, qualname := q', hasDict := true, slotNames := sn, subclasses := sub, abstract := ab, collection := col, hasDel := false } := by unfold clsIn; rw [hC] <;> rfl
  have lf := fun (α : Type) (a b c d : α) => look_f fo a b c d
  refine ks_codeAny_call_defAt (fd := ksFn "__init__" q (iArgs f p) (iBody f p) (iScope f) .none kV doc pm an (.ref cda) ct cc) (body := iBody f p) (binds := [("self", .ref y), (f, v)]) hroom (X _ _ hfI) rfl hlim (codeRec_of X hcd) rfl
    (BindsTo.of_eq (fo.b _ _ _ _ _ _ _ _ _ _ _)) (fun z hz => ?_) (fun z hz => ?_) (fun h₁ hns hk₁ => ?_)
  · have e : z.2 = .local ∨ z.2 = .free ∨ z.2 = .globalImplicit := by
      rcases List.mem_cons.mp hz with e | hz
      · exact .inl (by rw [e])
      rcases List.mem_cons.mp hz with e | hz
      · exact .inl (by rw [e])
      rcases List.mem_cons.mp hz with e | hz
      · exact .inr (.inl (by rw [e]))
      rcases List.mem_cons.mp hz with e | hz
      · exact .inr (.inr (by rw [e]))
      · cases hz
    rcases e with e | e | e <;> (rw [e]; decide)
  · rcases List.mem_cons.mp hz with e | hz
    · rw [e]; exact look_s _ _ _ _
    rcases List.mem_cons.mp hz with e | hz
    · rw [e]; exact lf _ _ _ _ _
    · cases hz
  · have X₁ : K.In h₁ := X.keeps hk₁
    have hx₁ := hk₁ _ _ hx
    have hg₁ := hg.keeps hk₁
    have hb₁ := hb.keeps hk₁
    have ms : (fun z => ([("self", Value.ref y), (f, v)] : List (Str × Value)).reverse.lookup z) "self" = some (.ref y) := by
      have h1 : (("self" : Str) == f) = false := by
        have q := fo.s
        rw [Bool.eq_false_iff] at q ⊢
        exact fun z => q (beq_iff_eq.mpr (beq_iff_eq.mp z).symm)
      have h2 : (("self" : Str) == ("self" : Str)) = true := by decide +kernel
      simp only [List.reverse_cons, List.reverse_nil, List.nil_append, List.cons_append, List.lookup, h1, h2]
    have mf : (fun z => ([("self", Value.ref y), (f, v)] : List (Str × Value)).reverse.lookup z) f = some v := by
      simp [List.lookup]
    refine ks_wpAt_execs_cons (ks_wpAt_Expr_any (ks_wpAt_MethodCall (pl := L2.plainOf (.Call (.Name "super" (p 2)) [] [] (p 3)) (callEnv (ksFn "__init__" q (iArgs f p) (iBody f p) (iScope f) .none kV doc pm an (.ref cda) ct cc) s.heap.objs.size fI)) ?_ (he := ?_)))
    rotate_left
    · rw [arm_eval_Call]
      simp only [L2.mcall_line (show methodCallForm ([Expr.Name f (p 5)].length + ([] : List Keyword).length) (backTo (p 6) (starEach [Expr.Name f (p 5)] _)) (backToKw (p 6) (keywordEach [] _)) = true from rfl) hline]
      rfl
    refine ks_wpAt_super_base (hat := by decide +kernel) (hfu := rfl) (hf := X₁ _ _ hfI) (hfd := rfl) (hp := rfl) (hco := rfl) (hcc := X₁ _ _ hcda) (hoc := rfl) (hvs := hvs) (hfile := hfile) (htop := T.top) (hks := look_u fo _ _ _ _) (hkc := look_c fo _ _ _ _) ?_
    refine ks_loadName_global rfl (look_u fo _ _ _ _) (loadGlobal_builtin hg₁ T.gS hb₁ hbs ⟨rfl, ?_⟩)
    refine wpAny_loadName_free rfl (look_c fo _ _ _ _) (by first | rfl | decide +kernel) ⟨_, X₁ _ _ hcc, rfl⟩ ?_
    refine wpAny_loadName_local rfl (look_s _ _ _ _) hns ms ?_
    have hC₁ := X₁ _ _ hC
    refine ks_wpAny_isType_cls hC₁ rfl ⟨rfl, ?_⟩
    refine ks_wpAny_call_super hC₁ rfl hx₁ rfl (fun c e => by cases e) (looks_mroIn X₁ T.own) (fun h₂ hso hk₂ => ?_)
    have X₂ : K.In h₂ := X₁.keeps hk₂
    have hx₂ := hk₂ _ _ hx₁
    have I₂ : InstAt h₂ y (excO C t0) C none := ⟨hx₂, rfl, rfl, trivial⟩
    have hI₂ : Looks (model P w) h₂ (isInstance (.ref y) (.type "ValueError")) true := I₂.type.andThen (looks_subIn X₂ T.veC)
    have hal := T.sup
    unfold ks_superIn at hal
    rw [hcl] at hal
    refine kxs_getMethod kxs_ValueError hso (looks_opaque X₂ T.opq) (l₀ := .ref C :: bm) ((looks_clsIn X₂ hcl).andThen .now) rfl X₂ hal hI₂ (ks_ne X₂ I₂ hcl) (by decide +kernel) ?_
    have FB := F.excBase_ValueError
    have hu : (h₂.push (kxs_mw "ValueError.__init__" y)).get? h₂.objs.size = some (kxs_mw "ValueError.__init__" y) := Heap.get?_push_at rfl rfl
    have hk₃ : ∀ b o, h₂.get? b = some o → (h₂.push (kxs_mw "ValueError.__init__" y)).get? b = some o := fun b o e => Heap.get?_push_of_some _ e
    generalize hh₃ : h₂.push (kxs_mw "ValueError.__init__" y) = h₃ at hu hk₃
    have hx₃ := hk₃ _ _ hx₂
    have hC₃ := hk₃ _ _ (hk₂ _ _ hC₁)
    have k₁₃ : ∀ b o, h₁.get? b = some o → h₃.get? b = some o := fun b o e => hk₃ b o (hk₂ b o e)
    have hns₃ := hns.keeps k₁₃
    refine kxs_callWith (i := "ValueError.__init__") (x := y) rfl (evalArgs_plain (Calls.spliced_cons ?_))
    refine wpAny_Name (wpAny_loadName_local rfl (lf _ _ _ _ _) hns₃ mf ?_) fo.d
    refine Calls.spliced_nil ⟨hu, ?_⟩
    refine wpAny_call (codeAny_of_tree ?_)
    show wpAny _ _ (callAny (.ref h₂.objs.size) ⟨[v], []⟩) _ _ _
    simp only [callAny]
    refine wpAny_bind (wpAny_load hu ?_)
    have e0 : (Value.type "method-wrapper" == Value.type "method") = false := by decide
    have e1 : (Value.type "method-wrapper" == Value.type "method" || Value.type "method-wrapper" == Value.type "builtin_function_or_method" || Value.type "method-wrapper" == Value.type "method-wrapper") = true := by decide
    simp only [kxs_mw, e1, if_true]
    refine KFB.if_so (by decide) (wpAny_bind (check_bound_init FB.toExcCallFacts hC₃ hx₃ rfl ?_))
    refine wpAny_bind (wpAny_pure (wpAny_pure ⟨plainId_quiet FB.init.plain _, codeAny_builtin FB.initEntry ?_⟩))
    refine exc_init_tree (cls := .ref C) (t0 := t0) (dv := none) (c2 := .none) (c3 := .none) (b4 := .bool false) hx₃ (one_size v) fun h₄ hk₄ hx₄ ht₄ => ?_
    have yL : s.heap.objs.size ≠ y := Nat.ne_of_gt (Heap.lt_size hx)
    have k₁₄ : ∀ b o, b ≠ y → h₁.get? b = some o → h₄.get? b = some o := fun b o hb e => hk₄ b o hb (k₁₃ b o e)
    have hKy : K.lookup y = none := hnx
    have X₄ : K.In h₄ := fun a o e => k₁₄ a o (fun z => by rw [z, hKy] at e; cases e) (X₁ a o e)
    have hns₄ : h₄.Ns s.heap.objs.size fun z => ([("self", Value.ref y), (f, v)] : List (Str × Value)).reverse.lookup z := by
      obtain ⟨o, es, ep, e1, e2, e3⟩ := hns
      exact ⟨o, es, ep, k₁₄ _ _ yL e1, e2, e3⟩
    show _root_.PySem.wpAt _ _ _ (execs _ _) _ _ _
    refine wpAt_of_wpAny (wpAny_execs_cons (plainObj_wpAny_Assign_Attribute ?_))
    refine wpAny_Name (wpAny_loadName_local rfl (lf _ _ _ _ _) hns₄ mf ?_) fo.d
    refine wpAny_Name (wpAny_loadName_local rfl (look_s _ _ _ _) hns₄ ms ?_) (by decide)
    refine set_plain X₄ (ox := excRec (.ref C) h₃.objs.size none .none .none (.bool false)) (od := none) ⟨hx₄, rfl, rfl, trivial⟩ T.sa ?_
    refine exc_osa X₄ hx₄ hcl (show refsVE (.ref C :: bm) = true from hbm) rfl T.noF (fun h₅ tk₅ dx hk₅ dn dne hx₅ hn₅ => ?_)
    show wpAny _ _ (execs _ _) _ _ _
    refine wpAny_execs_nil ?_
    have sz : s.heap.objs.size ≤ h₄.objs.size := by
      have z := Nat.lt_of_lt_of_le (Nat.lt_succ_self s.heap.objs.size) (Nat.succ_le_of_lt hns₄.lt)
      exact Nat.le_of_lt z
    exact hq h₅ tk₅ dx h₃.objs.size ⟨fun b o hb e => hk₅ b o hb (k₁₄ b o hb (hk₁ b o e)), hx₅, Nat.le_trans sz dn, dne, hn₅⟩
theorem plug_made (T : ExT P K mg x f C fI cda cc) (fo : FOk f) {v : Value} (X : K.In s.heap) (hg : s.heap.Ns mainGlobals mg) (hb : s.heap.Ns builtinsNs mb) (hbs : mb "super" = some (.type "super"))
    (hlim : s.heap.NoLimit) (hroom : A.depth + 1 < recursionLimit)
    (hq : ∀ h' tk e d, OwnMade s.heap h' e C d f v → R (.ok (.ret (.ref e))) { s with heap := h', toks := tk }) :
    codeAny (model P w) A (.call (.ref C) ⟨[v], []⟩) R s := by
  obtain ⟨nm, q', N, bs, bm, sn, sub, ab, col, dd, k0, k1, k2, k3, k5, hC, hbm⟩ := T.cls
  obtain ⟨hp, g, dr, tk, os⟩ := s
  have k : ∀ b o, hp.get? b = some o → ((hp.push (kdv_tup [v])).push (excO C hp.objs.size)).get? b = some o := fun b o e => Heap.get?_push_of_some _ (Heap.get?_push_of_some _ e)
  have hget : ((hp.push (kdv_tup [v])).push (excO C hp.objs.size)).get? (hp.objs.size + 1) = some (excO C hp.objs.size) := by heap_get
  have hnx : K.lookup (hp.objs.size + 1) = none := by
    cases e : K.lookup (hp.objs.size + 1) with
    | none => rfl
    | some o =>
      have z : hp.get? (hp.objs.size + 1) = some o := X _ _ e
      exact absurd (Nat.lt_of_succ_lt (Heap.lt_size z)) (Nat.lt_irrefl _)
  refine call_own F.excBase_ValueError (fun X => refsVE_contains X bm hbm) (X _ _ hC) (looks_findIn X T.iC) (fun self => bind_fn X self T.tC) (one_size v) ?_
  refine plug_init (s := ⟨(hp.push (kdv_tup [v])).push (excO C hp.objs.size), g, dr, tk, os⟩) T fo (X.keeps k) (hg.keeps k) (hb.keeps k) hbs (hlim.keeps k) hget hnx ?_ fun h' tk' dx t1 Z => ?_
  · show A.depth + 1 < recursionLimit
    exact hroom
  · have old : ∀ b o, hp.get? b = some o → h'.get? b = some o := fun b o e => Z.keep b o (Nat.ne_of_lt (Nat.lt_succ_of_lt (Heap.lt_size e))) (k b o e)
    have z : hp.objs.size + 1 + 1 ≤ dx := by
      have q := Z.dbig
      rw [Heap.size_push, Heap.size_push] at q
      exact q
    exact ⟨rfl, hq h' tk' (hp.objs.size + 1) dx ⟨old, Nat.le_succ _, ⟨_, _, Z.obj, rfl, rfl, rfl, rfl⟩, Nat.le_trans (Nat.le_trans (Nat.le_succ _) (Nat.le_succ _)) z, Z.dne, Z.ns⟩⟩
end
end PlugX

namespace L2
open PySem PySem.Spec PyProof.Rows PlugX
/-! ### the dict of such an error, its making, its raising -/
theorem relO_one {v : V} {v' : Value} {f : Str} (r : RelV v v') (g : Str) : RelO (List.lookup g [(f, v)]) (if g = f then some v' else none) := by
  by_cases hw : g = f
  · subst hw
    rw [if_pos rfl]
    have q : List.lookup g [(g, v)] = some v := by simp [List.lookup]
    rw [q]
    exact r
  · have q2 : List.lookup g [(f, v)] = none := by
      have qw : (g == f) = false := by simpa using hw
      simp [List.lookup, qw]
    rw [if_neg hw, q2]
    trivial
section
variable {X : Cx} {x f : Str} {C fI cda cc : Addr}
def tMkX (C : Addr) (f : Str) (ta : TA) : St → Hp → XK → Prop := fun σ H Q => ta σ H fun vs H1 => ∃ v, vs = [v] ∧ ∀ d, H1 d = none → Q (.ref C) (some d) (upd H1 d (.xd [(f, v)]))
theorem pmk_plug {a : Expr} {ta : TA} {p pos : Pos} {k : Nat} (T : ExT X.prog X.K X.mg x f C fI cda cc) (fo : FOk f) (hr : Room k X.A) (ha : PA X [a] ta) (hg : Gl X x) (hdb : (x == ("__debug__" : Str)) = false)
    (he : starEach (a :: []) X.env = (false, eval a X.env) :: starEach [] X.env := by rfl) (hpl : (backTo pos (starEach [] X.env)).any (·.1) = false := by rfl) :
    PMk X (.Call (.Name x p) [a] [] pos) (tMkX C f ta) := by
  intro pins s σ H Q I h
  refine wpAny_Call_Name_kw (ld_glob I hg T.gC ?_ hdb)
  refine PySem.W.callWith_K (h₀ := X.base) I.ok.mod.kin T.kC (thn (ha.run pos pins s σ H _ I h) fun us s1 hh => ?_) he hpl
  obtain ⟨vs, H1, I1, r1, v, ev, q1⟩ := hh
  subst ev
  refine ⟨I1.kIn, ?_⟩
  obtain ⟨v', rfl, rv⟩ := vals1 r1
  obtain ⟨mb, hmb, hmb2⟩ := I1.mod.blt
  have hbs : mb "super" = some (.type "super") := (hmb2 "super" (by decide)).trans (by decide +kernel)
  have hlim := I1.nolimit
  have hK := I1.kIn
  have hG : s1.heap.Ns mainGlobals X.mg := I1.mod.glob.keeps I1.bk
  have hB : s1.heap.Ns builtinsNs mb := hmb.keeps I1.bk
  obtain ⟨hp, g, dr, tk, os⟩ := s1
  show wpAny _ _ (call (.ref C) [v']) _ _ _
  refine wpAny_call (plug_made T fo hK hG hB hbs hlim (by have := hr.dp; omega) fun h' tk' e d M => ?_)
  show MkP X pins σ Q (.ref e) ⟨h', g, dr, tk', os⟩
  obtain ⟨oe, fv, hoe, hc, hd, hdat, h1⟩ := M.obj
  have hns := M.ns
  obtain ⟨G', g1, g2⟩ := restrict h' fun b => decide (b ≠ e)
  have gk : ∀ b, b ≠ e → G'.get? b = h'.get? b := fun b hb => g1 b (decide_eq_true hb)
  have ge : G'.get? e = none := g2 e (by simp)
  have old : ∀ b o, hp.get? b = some o → G'.get? b = some o := fun b o q => (gk b (Nat.ne_of_lt (Nat.lt_of_lt_of_le (Heap.lt_size q) M.new))).trans (M.keep b o q)
  have ob : ObjOk X.prog X.w (upd H1 d (.xd [(f, v)])) G' d (.xd [(f, v)]) := ⟨_, hns.at (fun o q => (gk d M.dne).trans q), fun g => relO_one rv g⟩
  have J : Inv X pins σ (upd H1 d (.xd [(f, v)])) ⟨G', g, dr, tk', os⟩ := I1.laid (t' := tk') old M.dbig ob
  refine ⟨e, oe, fv, ⟨G', g, dr, tk', os⟩, _, .ref C, some d, rfl, J, fun b o q => ?_, ge, hoe, ⟨hc, hd⟩, hdat, h1, ?_, rfl, I1.bare, raises_own T.exC T.tyC, q1 d (I1.hok.fresh M.dbig)⟩
  · by_cases hb : b = e
    · have q' : G'.get? b = some o := q
      rw [hb, ge] at q'
      cases q'
    · exact (gk b hb).symm.trans q
  · rw [upd_ne (Ne.symm M.dne)]
    exact I1.hok.fresh M.new
/-- raise X(e) -/
def tRaiseX (C : Addr) (f : Str) (W : WX) (ta : TA) : TS := fun _ σ H => tMkX C f ta σ H fun cls d H' => W cls d σ H'
theorem ps_raisePlug {a : Expr} {ta : TA} {W : WX} {p pos pos2 : Pos} {k : Nat} (hc : X.calm = true) (T : ExT X.prog X.K X.mg x f C fI cda cc) (fo : FOk f) (hr : Room k X.A) (tk : Takes X W) (ha : PA X [a] ta) (hg : Gl X x) (hdb : (x == ("__debug__" : Str)) = false)
    (he : starEach (a :: []) X.env = (false, eval a X.env) :: starEach [] X.env := by rfl) (hpl : (backTo pos (starEach [] X.env)).any (·.1) = false := by rfl) :
    PS X (.Raise (some (.Call (.Name x p) [a] [] pos)) none pos2) (tRaiseX C f W ta) := ps_raise hc tk (pmk_plug T fo hr ha hg hdb he hpl)
end

/-! ### an error that a name keeps: tracked from behind its except suite on -/
def ExV (cls : Value) (d : Option Addr) (a : Addr) : HO := .ext fun h => ∃ (oe : Obj) (vs : Array Value), h.get? a = some oe ∧ Zc cls d oe ∧ oe.data = .fields vs
theorem exV_ok {P : Program} {w : World} {H : Hp} {h : Heap} {a : Addr} {cls : Value} {d : Option Addr} {oe : Obj} {vs : Array Value} (e : h.get? a = some oe) (z : Zc cls d oe) (dd : oe.data = .fields vs) : ObjOk P w H h a (ExV cls d a) :=
  ⟨⟨oe, vs, e, z, dd⟩, ⟨oe, e⟩, fun _ _ ⟨o, v, q, r⟩ k => ⟨o, v, k o q, r⟩⟩
section
variable {X : Cx} {pins : List (Addr × Obj)} {σ : St} {H : Hp} {s : Shared} {a : Addr} {oe : Obj}
theorem Inv.track {o : HO} (I : Inv X ((a, oe) :: pins) σ H s) (n0 : X.s_0.heap.get? a = none) (np : ∀ p ∈ X.pn ++ pins, p.1 ≠ a) (new : ObjOk X.prog X.w (upd H a o) s.heap a o) : Inv X pins σ (upd H a o) s := by
  obtain ⟨ha, na, nL, nF, nc⟩ := I.pin (a, oe) (List.mem_append_right _ List.mem_cons_self)
  have ne : ∀ b u, H b = some u → b ≠ a := fun b u e => ne_of_none e na
  refine ⟨I.ok, I.os, I.bare, ⟨I.base.keep, I.base.slot, fun b o' e n hx => ?_, I.base.there, fun b xs e => ?_, fun b o' u e => ?_, fun b ps e => ?_⟩, I.loc, I.cell, ?_, fun y c e => ?_, fun p hp => ?_, fun b u e => ?_, I.len⟩
  · rw [upd_ne (fun z => by rw [z, n0] at e; cases e)]
    exact I.base.free b o' e n hx
  · have q := I.base.tups b xs e
    rw [upd_ne (ne _ _ q)]
    exact q
  · have q := I.base.frzs b o' u e
    rw [upd_ne (ne _ _ q)]
    exact q
  · obtain ⟨m, q⟩ := I.base.tbls b ps e
    exact ⟨m, by rw [upd_ne (ne _ _ q)]; exact q⟩
  · rw [upd_ne (Ne.symm nL)]
    exact I.free
  · have hca : c ≠ a := fun z => by
      obtain ⟨v, o', ho, hd⟩ := I.cell y c e
      rw [z] at ho
      rw [show s.heap.get? a = some oe from ha] at ho
      cases ho
      exact nc v hd
    rw [upd_ne hca]
    exact I.freeC y c e
  · have hp' : p ∈ X.pn ++ (a, oe) :: pins := by
      rcases List.mem_append.mp hp with z | z
      · exact List.mem_append_left _ z
      · exact List.mem_append_right _ (List.mem_cons_of_mem _ z)
    obtain ⟨q1, q2, q3⟩ := I.pin p hp'
    exact ⟨q1, by rw [upd_ne (np p hp)]; exact q2, q3⟩
  · by_cases hb : b = a
    · subst hb
      rw [upd_same] at e
      cases e
      exact new
    · rw [upd_ne hb] at e
      exact (I.hok b u e).stay (fun c v _ q => q) (fun c q => by rw [upd_ne (ne _ _ q)]; exact q) fun c xs q => by rw [upd_ne (ne _ _ q)]; exact q
end

/-- the clause 'except x as n: c = n'; slot i is n's, slot j is c's -/
def wKeep (K : PySem.W.Frag) (n : Nat) (c : Value) (i j : Nat) (Wout : WX) (D : Ends) : WX := fun cls d σ H =>
  ∃ b, PySem.W.exmOne K cls c = some b ∧ (b = true → ∀ a, H a = none → σ.length = n → D.nx (((σ.set i (some (.ref a))).set j (some (.ref a))).set i none) (upd H a (ExV cls d a))) ∧ (b = false → Wout cls d σ H)
section
variable {X : Cx} {x n m : Str} {c : Value} {i j : Nat} {body : List Stmt} {np pos pos' pm pn2 pa : Pos} {tb : WX → TS} {Wout : WX}
theorem ps_try_keep (hex : X.ex = []) (hs : X.stack = X.env :: X.outer) (hf : X.env.frame = some X.env.locals) (hN : X.N.Nodup) (hi : X.N[i]? = some n) (hj : X.N[j]? = some m) (hij : i ≠ j) (hln : X.env.kindOf n = some .local) (hlm : X.env.kindOf m = some .local) (hc : Names X x c) (tk : Takes X Wout)
    (hnd : (n == ("__debug__" : Str)) = false) (hncd : (n == ("__classdict__" : Str)) = false)
    (hsw : swapsWith (.Name n pn2) (some (.Name m pm)) pa.line X.env = pure false)
    (hb : ∀ (W : WX) (pn : List (Addr × Obj)) (xe : Value → Shared → Prop), Takes (X.tr pn xe) W → PassesOwn (model X.prog X.w) X.A X.env xe → PSs (X.tr pn xe) body (tb W)) :
    PS X (.Try body [.ExceptHandler (some (.Name x np)) (some n) [.Assign [.Name m pm] (.Name n pn2) pa] pos'] [] [] pos) (fun D σ H => tb (wKeep X.K X.N.length c i j Wout D) D σ H) := by
  refine ⟨fun pins s σ H D I h => ?_⟩
  have ok := I.ok
  have hfr : X.A.frames = some (X.env :: X.outer) := by rw [ok.frames, hs]
  refine wpAny_Try_except ?_
  refine wpAny_mono ((hb (wKeep X.K X.N.length c i j Wout D) (X.pn ++ pins) (fun e s₁ => wpAny (model X.prog X.w) X.A (noteFrame e X.env) (fun _ s₂ => wpAny (model X.prog X.w) X.A (setFlight e none) (fun _ s₃ =>
    wpAny (model X.prog X.w) X.A (handleBy e X.env [.ExceptHandler (some (.Name x np)) (some n) [.Assign [.Name m pm] (.Name n pn2) pa] pos']) (SP X pins D) X.xe s₃) X.xe s₂) X.xe s₁) (fun u s' xx => ?_) PassesOwn.looking).run [] s σ H D (I.toTry _) h) (fun f s1 hsp => ?_) (fun e s1 he => he)
  · obtain ⟨a, B, sI, pins', σ', H', cls, d, rfl, J', nb, up, sky, na, os, ag, b, hb1, hyes, hno⟩ := xx
    have J : Inv X pins σ' H' sI := J'.ofTry ok
    have sky' : Sky B (X.env :: X.outer) a (Zc cls d) X.env.locals s'.heap := by rw [← hs]; exact sky
    have Ba : B.get? a = none := by
      rcases sky' with z | z | z
      · exact z.2.1
      · exact z.2.1
      · exact z.2.1
    show wpAny (model X.prog X.w) X.A (noteFrame (.ref a) X.env) _ _ _
    refine Sky.land Zc.steady hfr hf sky' fun h3 fl3 up3 => ?_
    have J3 : Inv X pins σ' H' { s' with heap := h3 } := J.landed nb fl3.1 (up.trans up3) os ag
    obtain ⟨oe3, vs3, he3, hz3, hd3⟩ := fl3.there
    have nfr : a ∉ frs (X.env :: X.outer) := fun hm => by
      obtain ⟨_, o', e', hnf⟩ := fl3.2.2.1.mem hm
      rw [he3] at e'
      cases e'
      exact hnf _ hd3
    have nL : a ≠ X.env.locals := fun z => nfr (List.mem_filterMap.mpr ⟨X.env, List.mem_cons_self, by rw [hf, z]⟩)
    have nF : a ∉ X.fs := fun hm => by
      obtain ⟨e, he, q⟩ := List.mem_filterMap.mp hm
      exact nfr (List.mem_filterMap.mpr ⟨e, List.mem_cons_of_mem _ he, q⟩)
    have sIa : sI.heap.get? a = none := by
      cases q : sI.heap.get? a with
      | none => rfl
      | some o =>
        have z := nb a o q (by rw [hs]; exact nfr)
        rw [Ba] at z
        cases z
    have n0 : X.s_0.heap.get? a = none := by
      cases q : X.s_0.heap.get? a with
      | none => rfl
      | some o =>
        obtain ⟨o', z⟩ := J.base.there a o q (by rw [hex]; exact List.not_mem_nil)
        rw [sIa] at z
        cases z
    have npa : ∀ p ∈ X.pn ++ pins, p.1 ≠ a := fun p hp z => by
      have q := (J.pin p hp).1
      rw [z, sIa] at q
      cases q
    have S3 := J3.suite he3 hd3 na nL nF
    refine wpAny_handleBy_cons (codeAny_handlers_test ?_) (by intro q; cases q)
    have LT : PySem.W.Looks (model X.prog X.w) h3 (typeOf (.ref a)) cls := fun A Q E s k q => wpAny_typeOf_ref (k _ _ he3) (by rw [hz3.1]; exact q)
    have LM := PySem.W.exm_one (M := model X.prog X.w) (J3.kIn) LT hb1
    have test : ∀ {Q : Value → Shared → Prop} {E : Value → Shared → Prop}, Q c { s' with heap := h3 } → wpAny (model X.prog X.w) (X.A.mark (some (.ref a))) (eval (.Name x np) X.env) Q E { s' with heap := h3 } := fun {Q E} q => by
      obtain ⟨hg, hdbg, hm | ⟨hm, hv, hnn⟩⟩ := hc
      · exact ld_glob (X := X.suite a ((a, oe3) :: (X.pn ++ pins))) S3 hg hm q hdbg
      · exact ld_blt (X := X.suite a ((a, oe3) :: (X.pn ++ pins))) S3 hg hm hv q hnn hdbg
    refine test (LM.here ?_)
    cases b with
    | true =>
      refine codeAny_handlers_suite_as ?_
      refine HandSPX.lands_againZ fl3 fun h4 fl4 up4 => ?_
      have J4 : Inv X pins σ' H' { s' with heap := h4 } := J.landed nb fl4.1 ((up.trans up3).trans up4) os ag
      obtain ⟨oe4, vs4, he4, hz4, hd4⟩ := fl4.there
      have S4 := J4.suite he4 hd4 na nL nF
      refine store_ok (X := X.suite a ((a, oe4) :: (X.pn ++ pins))) (v := .ref a) S4 hN hi (.inl hln) rfl (fun s5 S5 => ?_) (.inr hln)
      have hlen : i < σ'.length := by
        rw [J.len]
        exact (List.getElem?_eq_some_iff.mp hi).1
      have suite : PSs (X.suite a ((a, oe4) :: (X.pn ++ pins))) [.Assign [.Name m pm] (.Name n pn2) pa] (tAsg (tVar i) (gName j)) :=
        pss_one (ps_set (X := X.suite a ((a, oe4) :: (X.pn ++ pins))) hN hj (.inl hlm) (pe_var hi (.inl hln) hnd hncd) hsw (.inr hlm))
      refine wpAny_mono (suite.run [] s5 _ H' { nx := fun σ6 H6 => σ6 = (σ'.set i (some (.ref a))).set j (some (.ref a)) ∧ H6 = H', rt := fun _ _ => False } S5 ?_) (fun f s6 hsp => ?_) (fun _ _ z => False.elim z)
      · exact ⟨.ref a, by rw [List.getElem?_set_self hlen], rfl, rfl⟩
      cases f with
      | next =>
        obtain ⟨σ6, H6, S6, e1, e2⟩ := hsp
        subst e1
        subst e2
        have S6' : Inv X ((a, oe4) :: pins) ((σ'.set i (some (.ref a))).set j (some (.ref a))) H6 s6 := ⟨ok, S6.os, S6.bare, S6.base, S6.loc, S6.cell, S6.free, S6.freeC, fun p hp => S6.pin p (by
          rw [List.append_nil]
          rcases List.mem_append.mp hp with z | z
          · exact List.mem_cons_of_mem _ (List.mem_append_left _ z)
          · rcases List.mem_cons.mp z with z | z
            · rw [z]
              exact List.mem_cons_self
            · exact List.mem_cons_of_mem _ (List.mem_append_right _ z)), S6.hok, S6.len⟩
        refine gone_ok S6' hN hi hln fun s7 J7 => ?_
        have h7 := (J7.pin (a, oe4) (List.mem_append_right _ List.mem_cons_self)).1
        exact ⟨_, _, J7.track n0 npa (exV_ok h7 hz4 hd4), hyes rfl a na J.len⟩
      | brk =>
        obtain ⟨σ6, H6, S6, q6⟩ := hsp
        exact q6.elim
      | cont =>
        obtain ⟨σ6, H6, S6, q6⟩ := hsp
        exact q6.elim
      | ret u =>
        obtain ⟨v6, σ6, H6, S6, r6, q6⟩ := hsp
        exact q6.elim
    | false =>
      show wpAny _ X.A (handleBy (.ref a) X.env []) _ _ _
      refine wpAny_handleBy_nil ?_
      obtain ⟨k1, k2, k3, oe, vs, T, oT, ts', he, hz, hd, h1, hr⟩ := id fl3
      unfold PySem.passOn
      refine wpAny_bind (wpAny_field he hd h1 ?_)
      rw [if_neg (show ¬ ((Value.ref T == Value.none) = true) from by simp)]
      have fin : wpAny (model X.prog X.w) X.A (setFlight (.ref a) X.env.frame) (fun _ s4 => wpAny (model X.prog X.w) X.A (throw (.ref a) : Sem Flow) (SP X pins D) X.xe s4) X.xe { s' with heap := h3 } := by
        rw [hf]
        refine HandSPX.setFlight_upZ fl3 fun h4 hh4 up4 => wpAny_throw (tk _ _ ?_)
        exact ⟨a, B, sI, pins, σ', H', cls, d, rfl, J, nb, (up.trans up3).trans up4, .inr (.inr (by rw [hs]; exact hh4)), na, os, ag, hno rfl⟩
      first
        | exact wpAny_bind (wpAny_pure (wpAny_bind fin))
        | exact wpAny_bind fin
  · cases f with
    | next =>
      obtain ⟨σ', H', J', q⟩ := hsp
      exact wpAny_execs_nil ⟨σ', H', J'.ofTry ok, q⟩
    | brk =>
      obtain ⟨σ', H', J', q⟩ := hsp
      exact ⟨σ', H', J'.ofTry ok, q⟩
    | cont =>
      obtain ⟨σ', H', J', q⟩ := hsp
      exact ⟨σ', H', J'.ofTry ok, q⟩
    | ret u =>
      obtain ⟨v, σ', H', J', r, q⟩ := hsp
      exact ⟨v, σ', H', J'.ofTry ok, r, q⟩
end
/-! ### such an error asked: its class, its field -/
/-- a kept error of the own class at D, whose dict at dd holds fs -/
def IsXv (H : Hp) (a D dd : Addr) (fs : List (Str × V)) : Prop := H a = some (ExV (.ref D) (some dd) a) ∧ H dd = some (.xd fs)
section
variable {X : Cx} {pins : List (Addr × Obj)} {σ : St} {H : Hp} {s : Shared} {a D dd : Addr} {fs : List (Str × V)}
theorem IsXv.at (h : IsXv H a D dd fs) (I : Inv X pins σ H s) : ∃ (oe od : Obj) (mA : Str → Option Value), PySem.W.InstAt s.heap a oe D (some od) ∧ (∀ f, RelO (fs.lookup f) (mA f)) ∧ ∀ name, PySem.W.lookIn name od = some (mA name) := by
  obtain ⟨h1, h2⟩ := h
  obtain ⟨⟨oe, vs, e1, z, d⟩, _, _⟩ := I.hok a _ h1
  have hx : ObjOk X.prog X.w H s.heap dd (.xd fs) := I.hok dd _ h2
  obtain ⟨mA, hns, hr⟩ := hx
  obtain ⟨od, ho, hl⟩ := lookIn_ns hns
  exact ⟨oe, od, mA, ⟨e1, z.1, by unfold PySem.W.notCls; rw [d] <;> rfl, by rw [z.2]; exact ho⟩, hr, hl⟩
/-- isinstance(e, c), e a kept error -/
def rIsV (K : PySem.W.Frag) : List V → Hp → VK → Prop := fun xs H Q => ∃ (a D dd : Addr) (fs : List (Str × V)) (c : V) (cv : Value) (b : Bool), xs = [.ref a, c] ∧ IsXv H a D dd fs ∧ ExcC K D ∧ ClsV c cv ∧ PySem.W.kitOne K (.ref D) cv = some b ∧ Q (.bl b) H
theorem call_isV : CallR X (.builtin "isinstance") (rIsV X.K) := by
  intro pins s σ H xs us Q I r h
  obtain ⟨a, D, dd, fs, c, cv, b, rfl, hv, C, hc, e, q⟩ := h
  obtain ⟨u1, u2, rfl, r1, r2⟩ := vals2 r
  cases (show u1 = Value.ref a from r1)
  have e2 := hc.eq r2
  subst e2
  obtain ⟨oe, od, mA, J, _, _⟩ := hv.at I
  have hcl : (PySem.W.clsIn X.K D).isSome = true := by
    obtain ⟨cd, q, _⟩ := PySem.W.any_some C.hd
    rw [q]
    rfl
  exact PySem.W.kia_one (PySem.W.kitx_exc hcl C.hg C.hk C.hs C.ha C.hn C.ht C.hm) I.kIn J e (fun z => nomatch z) fun tk => ⟨.bl b, H, I.tok tk, rfl, q⟩
/-- e.f of a kept error -/
def tXv (K : PySem.W.Frag) (f : Str) (te : TE) : TE := fun σ H Q => te σ H fun x H1 => ∃ (a D dd : Addr) (fs : List (Str × V)) (v : V), x = .ref a ∧ IsXv H1 a D dd fs ∧ XfC K D ∧ PySem.W.findIn K (.ref D) f = some none ∧ fs.lookup f = some v ∧ Q v H1
theorem pe_xv {e : Expr} {te : TE} {pos : Pos} {n : Str} (he : PE X e te) (hb : attributeBase e n X.env (eval e X.env) = eval e X.env := by rfl) : PE X (.Attribute e n pos) (tXv X.K n te) := by
  refine ⟨fun pins s σ H Q I h => ?_⟩
  refine attr_of hb (thn (he.run pins s σ H _ I h) fun u s1 hh => ?_)
  obtain ⟨x, H1, I1, rx, a, D, dd, fs, v, ex, hv, T, hno, l, q⟩ := hh
  subst ex
  obtain rfl : u = Value.ref a := rx
  obtain ⟨oe, od, mA, J, hr, hl⟩ := hv.at I1
  obtain ⟨u, hu, ru⟩ := RelO.some_of (v := v) (o := mA n) (by rw [← l]; exact hr n)
  exact HandSPX.exc_get I1.kIn J T.ga T.gg T.exC (PySem.W.findObj_own T.hdC hno rfl (by rw [hl, hu])) (handed_of ru) ⟨v, H1, I1.tok _, ru, q⟩
end
end L2
set_option Elab.async false
set_option linter.all false
set_option maxRecDepth 100000
set_option maxHeartbeats 4000000
/-! # A lambda with one parameter that has a whole number as its default, handed to a def that calls it without arguments. -/
namespace LamB
open PySem PySem.Spec PyProof.Rows L2 LamX

/-- the words of such a lambda's parameters -/
def prms (a : Str) (i : Int) (p1 p2 : Pos) (j : Nat) : Arguments := { posonlyargs := [], args := [{ arg := a, annotation := none, pos := p1 }], vararg := none, kwonlyargs := [], kw_defaults := [], kwarg := none, defaults := [.Constant (.int i) j p2] }
abbrev lobj (q : Str) (a : Str) (i : Int) (p1 p2 : Pos) (j : Nat) (body : Expr) (scope : Scope) (cl : List (Str × Addr)) (T : Addr) (doc pm : Value) (c' : Addr) (ctv : Value) : Obj :=
  PySem.W.kdv_obj "<lambda>" q (prms a i p1 p2 j) (.expr body) scope cl (.ref T) doc pm c' ctv
section
variable {X : Cx} {pins : List (Addr × Obj)} {σ : L2.St} {H : Hp} {s : Shared} {a : Str} {i : Int} {p1 p2 : Pos} {j : Nat}
theorem make_lam {T : List (Addr × Str)} {c P : Addr} {body : Expr} {scope : Scope} {pos : Pos} {E : Value → Shared → Prop} {Q : Value → Shared → Prop} (I : Inv X pins σ H s) (TB : TabB X.base X.mg c P) (hcode : X.env.code = .ref c)
    (hm : (P, X.env.qual ++ "<lambda>") ∈ T) (hu : ∀ p ∈ T, p.1 = P → p.2 = X.env.qual ++ "<lambda>") (hT : Tabs T H) (hfree : ∀ y ∈ scope.names, y.2 = .free → ∃ c, X.env.cells.lookup y.1 = some c)
    (h : ∀ (f c' D : Addr) (t : Tok) (doc pm ctv : Value) (H1 : Hp) (s' : Shared), Inv X pins σ H1 s' → ExtN H H1 → Tabs T H1 →
      s'.heap.get? f = some (lobj (X.env.qual ++ "<lambda>") a i p1 p2 j body scope (cloFrom X.env.cells scope.names []) D doc pm c' ctv) → H1 f = none → f ∉ frs X.stack →
      s'.heap.get? D = some (PySem.W.kdv_tup [.int i t]) → H1 D = none → D ∉ frs X.stack → H1 c' = some (CodeO c' (X.env.qual ++ "<lambda>")) → Q (.ref f) s') :
    wpAny (model X.prog X.w) X.A (eval (.Lambda (prms a i p1 p2 j) body scope pos) X.env) Q E s := by
  obtain ⟨ps, hP, ht, ha⟩ := hT _ hm
  rw [arm_eval_Lambda]
  show wpAny _ _ (do let dv ← evalAll [eval (.Constant (.int i) j p2) X.env]; let kdv ← holding dv (evalAllOpt []); makeFunction "<lambda>" (X.env.qual ++ "<lambda>") (prms a i p1 p2 j) (.expr body) scope X.env dv kdv [] pos pos.line) Q E s
  refine wpAny_bind (wpAny_bind (wpAny_Constant_int ?_))
  refine wpAny_bind (wpAny_holding (wpAny_pure (wpAny_pure ?_)))
  refine wpAny_bind (wpAny_holding (wpAny_pure ?_))
  rw [makeFunction_eq]
  show wpAny _ _ (do let dV ← newTextTuple [Value.int i s.toks]; makeTail "<lambda>" (X.env.qual ++ "<lambda>") (prms a i p1 p2 j) (.expr body) scope X.env dV .none none pos pos.line) Q E _
  refine wpAny_bind (wpAny_newTextTuple ?_)
  have I0 : Inv X pins σ H { s with heap := s.heap.push (PySem.W.kdv_tup [.int i s.toks]), toks := s.toks + 1 } := I.kept fun b o e => Heap.get?_push_of_some _ e
  have hD0 : (s.heap.push (PySem.W.kdv_tup [.int i s.toks])).get? s.heap.objs.size = some (PySem.W.kdv_tup [.int i s.toks]) := Heap.get?_push_at rfl rfl
  have nD0 : H s.heap.objs.size = none := I.hok.fresh (Nat.le_refl _)
  have nofr : ∀ {s' : Shared}, Inv X pins σ H s' → ∀ f, s'.heap.objs.size ≤ f → f ∉ frs X.stack := fun {s'} J f hf z => by
    rcases List.mem_cons.mp (J.stkSub _ z) with e | e
    · have h1 := J.lt
      rw [← e] at h1
      exact Nat.lt_irrefl _ (Nat.lt_of_lt_of_le h1 hf)
    · exact J.nofs hf e
  have frD0 : s.heap.objs.size ∉ frs X.stack := nofr I _ (Nat.le_refl _)
  have sz0 : s.heap.objs.size < (s.heap.push (PySem.W.kdv_tup [.int i s.toks])).objs.size := by
    rw [Heap.size_push]
    exact Nat.lt_succ_self _
  generalize hh0 : s.heap.push (PySem.W.kdv_tup [.int i s.toks]) = h0 at I0 hD0 sz0
  have bP : h0.BuiltinsAt X.mg P := TB.bm.keeps I0.bk
  have hP' : h0.get? P = some { cls := .none, data := .fields ps } := I0.hok P _ hP
  cases hc : codeAmong pos ps.toList with
  | none =>
    refine PySem.W.kdv_makeTail (mg := X.mg) (c := c) (P := P) (ps := ps) (closure_ok hfree) I0.ok.glob (I0.mod.glob.keeps I0.bk) hcode (TB.code.keeps I0.bk) hP' ht hc TB.gP bP fun c' ctv doc h' tk hx hge hlt hrec htb => ?_
    obtain ⟨c2, oc, vs, t, e2, hoc, hd, hv⟩ := hrec
    cases e2
    have hsz : h0.objs.size ≤ h'.objs.size := Nat.le_trans hge (Nat.le_of_lt hlt)
    have nC : H c' = none := I0.hok.fresh hge
    have nDP : s.heap.objs.size ≠ P := fun z => by
      rw [← z, nD0] at hP
      cases hP
    have nDc : s.heap.objs.size ≠ c' := Nat.ne_of_lt (Nat.lt_of_lt_of_le sz0 hge)
    have I1 := inv_table (t' := tk) (more := #[rawInt pos.line, rawInt pos.col, .ref c']) (q := X.env.qual ++ "<lambda>") (h' := h'.push (lobj (X.env.qual ++ "<lambda>") a i p1 p2 j body scope (cloFrom X.env.cells scope.names []) s.heap.objs.size doc ((X.mg "__name__").getD .none) c' ctv)) I0 hP
      (fun b o hb e => Heap.get?_push_of_some _ (hx b o hb e)) (Heap.get?_push_of_some _ htb) hge ⟨oc, vs, t, Heap.get?_push_of_some _ hoc, hd, hv⟩
    have hE : ExtN H (upd (upd H P (.tbl (ps ++ #[rawInt pos.line, rawInt pos.col, .ref c']))) c' (CodeO c' (X.env.qual ++ "<lambda>"))) := fun b o e n => by
      rw [upd_ne (ne_of_none e nC), upd_ne (fun z => n ps (Option.some.inj (e.symm.trans (by rw [z]; exact hP))))]
      exact e
    have eL : (ps ++ #[rawInt pos.line, rawInt pos.col, .ref c']).toList = ps.toList ++ [rawInt pos.line, rawInt pos.col, .ref c'] := by simp
    have T1 : Tabs T (upd (upd H P (.tbl (ps ++ #[rawInt pos.line, rawInt pos.col, .ref c']))) c' (CodeO c' (X.env.qual ++ "<lambda>"))) := fun p hp => by
      by_cases hb : p.1 = P
      · rw [hu p hp hb, hb]
        refine ⟨_, by rw [upd_ne (ne_of_none hP nC), upd_same], by rw [eL]; exact PySem.TriplesOk_snoc _ _ _ _ ht, fun p' cv hcv => ?_⟩
        rw [eL] at hcv
        rcases among_app _ ht hcv with z | z
        · obtain ⟨d, e1, e2⟩ := ha p' cv z
          exact ⟨d, e1, hE _ _ e2 codeO_ne⟩
        · exact ⟨c', z, upd_same⟩
      · obtain ⟨ps', a1, a2, a3⟩ := hT p hp
        refine ⟨ps', by rw [upd_ne (ne_of_none a1 nC), upd_ne hb]; exact a1, a2, fun p' cv hcv => ?_⟩
        obtain ⟨d, e1, e2⟩ := a3 p' cv hcv
        exact ⟨d, e1, hE _ _ e2 codeO_ne⟩
    have n1 : h'.objs.size ≠ c' := Nat.ne_of_gt hlt
    have n2 : h'.objs.size ≠ P := Nat.ne_of_gt (Nat.lt_of_lt_of_le (Heap.lt_size hP') hsz)
    refine h h'.objs.size c' s.heap.objs.size s.toks doc ((X.mg "__name__").getD .none) ctv _ _ I1 hE T1 (Heap.get?_push_size _ rfl) ?_ (nofr I0 _ hsz) (Heap.get?_push_of_some _ (hx _ _ nDP hD0)) ?_ frD0 upd_same
    · rw [upd_ne n1, upd_ne n2]
      exact I0.hok.fresh hsz
    · rw [upd_ne nDc, upd_ne nDP]
      exact nD0
  | some cv =>
    obtain ⟨c', e, hco⟩ := ha pos cv hc
    subst e
    refine PySem.W.kdv_makeTailHit (mg := X.mg) (c := c) (P := P) (ps := ps) (closure_ok hfree) I0.ok.glob (I0.mod.glob.keeps I0.bk) hcode (TB.code.keeps I0.bk) hP' ht hc bP fun ctv doc h' tk hx hsz => ?_
    have I1 : Inv X pins σ H { s with heap := h'.push (lobj (X.env.qual ++ "<lambda>") a i p1 p2 j body scope (cloFrom X.env.cells scope.names []) s.heap.objs.size doc ((X.mg "__name__").getD .none) c' ctv), toks := tk } := I0.kept fun b o e => Heap.get?_push_of_some _ (hx b o e)
    exact h h'.objs.size c' s.heap.objs.size s.toks doc ((X.mg "__name__").getD .none) ctv H _ I1 (ExtN.refl H) hT (Heap.get?_push_size _ rfl) (I0.hok.fresh hsz) (nofr I0 _ hsz) (Heap.get?_push_of_some _ (hx _ _ hD0)) nD0 frD0 hco
end
/-! ### its names -/
/-- one parameter, which is no name of the maker; captured ones and globals -/
structure LamS1 (N : List Str) (a : Str) (sc scope : Scope) : Prop where
  kind : scope.kind = .function
  co : scope.isCoroutine = false
  gen : scope.isGenerator = false
  par : scope.names.lookup a = some .local
  nocell : ∀ y ∈ scope.names, y.2 ≠ .cell
  own : ∀ y ∈ scope.names, y.2 = .local → y.1 ∉ N
  free : ∀ y ∈ scope.names, y.2 = .free → sc.names.lookup y.1 = some .cell ∨ sc.names.lookup y.1 = some .free
def lamS1B (N : List Str) (a : Str) (sc scope : Scope) : Bool :=
  decide (scope.kind = .function) && (!scope.isCoroutine && (!scope.isGenerator && (decide (scope.names.lookup a = some .local) && ((scope.names.all fun y => !decide (y.2 = .cell)) && ((scope.names.all fun y => !decide (y.2 = .local) || decide (y.1 ∉ N)) &&
    scope.names.all fun y => !decide (y.2 = .free) || (decide (sc.names.lookup y.1 = some .cell) || decide (sc.names.lookup y.1 = some .free)))))))
theorem lamS1_by {N : List Str} {a : Str} {sc scope : Scope} (h : lamS1B N a sc scope = true) : LamS1 N a sc scope := by
  unfold lamS1B at h
  simp only [Bool.and_eq_true, Bool.or_eq_true, Bool.not_eq_true', decide_eq_true_eq, decide_eq_false_iff_not, List.all_eq_true] at h
  obtain ⟨h1, h2, h3, h4, h5, h6, h7⟩ := h
  exact ⟨h1, h2, h3, h4, h5, fun y hy e => (h6 y hy).elim (fun z => absurd e z) id, fun y hy e => (h7 y hy).elim (fun z => absurd e z) id⟩
theorem LamS1.has {X : Cx} {a : Str} {scope : Scope} (L : LamS1 X.N a X.env.scope scope) (ok : X.Ok) : ∀ y ∈ scope.names, y.2 = .free → ∃ c, X.env.cells.lookup y.1 = some c := fun y hy e => by
  rcases L.free y hy e with k | k
  · exact ok.has _ (.inl k)
  · exact ok.has _ (.inr k)
section
variable {X : Cx} {pins : List (Addr × Obj)} {σ : L2.St} {H HZ : Hp} {s s1 : Shared} {a : Str} {i : Int} {p1 p2 : Pos} {j : Nat}
theorem start1 {A : Around} {outer : List Env} {E : XK} {scope : Scope} {f c' : Addr} {v : Value} {h₁ : Heap} {tk : Nat} (I : Inv X pins σ H s) (L : LamS1 X.N a X.env.scope scope) (e0 : Env0 X.prog X.w X.K X.mg X.base A outer s1 HZ) (hd : A.handled = none)
    (un : Un (frs X.stack) [] H HZ s.heap s1.heap) (hns : h₁.Ns s1.heap.objs.size fun y => ([(a, v)] : List (Str × Value)).reverse.lookup y) (kp : ∀ b o, s1.heap.get? b = some o → h₁.get? b = some o) :
    Inv (lamCx X A outer s1 HZ E scope f c') [] σ HZ { s1 with heap := h₁, toks := tk } := by
  have hfree := L.has I.ok
  have cm : ∀ {y c}, (cloFrom X.env.cells scope.names []).lookup y = some c → X.env.cells.lookup y = some c := fun {y c} e => by
    rcases cloFrom_mem (PySem.mem_of_lookup e) with hm | ⟨h1, h2⟩
    · cases hm
    · obtain ⟨c1, hc⟩ := hfree _ h1 rfl
      have hc : X.env.cells.lookup y = some c1 := hc
      have e2 : c = c1 := by
        rw [h2, hc] <;> rfl
      rw [e2]
      exact hc
  have look : ∀ {y}, scope.names.lookup y = some .free → ∃ c, (cloFrom X.env.cells scope.names []).lookup y = some c := fun {y} hl => by
    have hy : (y, NameKind.free) ∈ scope.names := PySem.mem_of_lookup hl
    exact mem_lookup (cloFrom_has (cells := X.env.cells) (acc := []) hy)
  have cellK : ∀ {c : Addr} {v : Option Value}, H c = none → s.heap.IsCell c v → h₁.IsCell c v := fun {c v} n ⟨o, ho, hd⟩ => by
    obtain ⟨sl, q⟩ := un.any ho n (by simp)
    exact ⟨_, kp _ _ q, hd⟩
  have noA : ∀ b : Addr, b ∉ (lamCx X A outer s1 HZ E scope f c').ex := fun b z => absurd (show b ∈ ([] : List Addr) from z) (by simp)
  refine ⟨⟨e0.mod, L.kind, rfl, rfl, Nat.le_refl _, fun y z c e1 e2 => I.ok.inj y z c (cm e1) (cm e2), fun y hy => ?_, fun y c z _ => ?_, fun _ => hd, Around.frames_deeper e0.frames, .inr ⟨rfl, rfl⟩, fun b z => absurd z (noA b), e0.bs, e0.bsz, fun b _ _ => noA b,
      fun b z => absurd z (noA b), e0.funs, e0.frf⟩,
    rfl, e0.bare, Un.kept kp, ⟨_, hns, fun i y v e1 e2 e3 => ?_⟩, fun y c e => ?_, e0.hok.fresh (Nat.le_refl _), fun y c e => ?_, fun q hq => absurd (show q ∈ ([] : List (Addr × Obj)) ++ [] from hq) (by simp), e0.hok.kept kp, I.len⟩
  · have hy : scope.names.lookup y = some .cell ∨ scope.names.lookup y = some .free := hy
    rcases hy with hy | hy
    · exact absurd rfl (L.nocell _ (PySem.mem_of_lookup hy))
    · exact look hy
  · have z : false = true := z
    cases z
  · have e3 : Vis scope y := e3
    rcases e3 with k | k | k
    · exact absurd (List.mem_of_getElem? e1) (L.own _ (PySem.mem_of_lookup k) rfl)
    · exact absurd rfl (L.nocell _ (PySem.mem_of_lookup k))
    · obtain ⟨m, hn, hl⟩ := I.loc
      have hvis : Vis X.env.scope y := (L.free _ (PySem.mem_of_lookup k) rfl).elim (fun k => .inr (.inl k)) (fun k => .inr (.inr k))
      obtain ⟨w', r, q⟩ := hl i y v e1 e2 hvis
      obtain ⟨c2, h2⟩ := look k
      refine ⟨w', r, .inr ⟨.inr k, c2, h2, ?_⟩⟩
      have c1 := cm h2
      rcases q with ⟨k', _⟩ | ⟨_, c3, e', z⟩
      · have k' : X.env.scope.names.lookup y = some .local := k'
        rcases L.free _ (PySem.mem_of_lookup k) rfl with k2 | k2 <;> rw [show X.env.scope.names.lookup y = _ from k2] at k' <;> cases k'
      · rw [c1] at e'
        cases e'
        exact cellK (I.freeC y _ c1) z
  · obtain ⟨w', z⟩ := I.cell y c (cm e)
    exact ⟨w', cellK (I.freeC y c (cm e)) z⟩
  · obtain ⟨v, o, ho, hd⟩ := I.cell y c (cm e)
    exact un.free c o ho (I.freeC y c (cm e)) (by simp)
end

theorem bind1 {M : Model} {A : Around} {E : Value → Shared → Prop} {s : Shared} {q a : Str} {i : Int} {p1 p2 : Pos} {j : Nat} {body : FuncBody} {scope : Scope} {cl : List (Str × Addr)} {D : Addr} {doc pm cd ct : Value} {t : Tok} {Q : List (Str × Value) → Shared → Prop}
    (hD : s.heap.get? D = some (PySem.W.kdv_tup [.int i t])) (h : Q [(a, .int i t)] s) :
    wpAny M A (bindArgs (PySem.W.kdv_fn "<lambda>" q (prms a i p1 p2 j) body scope cl (.ref D) doc pm cd ct) ⟨[], []⟩) Q E s := by
  obtain ⟨k, e1, e2⟩ : ∃ k, bindArgs (PySem.W.kdv_fn "<lambda>" q (prms a i p1 p2 j) body scope cl (.ref D) doc pm cd ct) ⟨[], []⟩ = seqItems? (.ref D) >>= k ∧ k (some #[.int i t]) = pure [(a, .int i t)] := ⟨_, rfl, by simp [PySem.W.kdv_fn, prms, List.lookup]⟩
  rw [e1]
  refine wpAny_bind (wpAny_seqItems hD rfl ?_)
  rw [show k (some [Value.int i t].toArray) = pure [(a, .int i t)] from e2]
  exact wpAny_pure h
section
variable {X : Cx} {pins : List (Addr × Obj)} {σ : L2.St} {H HZ : Hp} {s : Shared} {b : Str} {i0 : Int} {p1 p2 : Pos} {j0 : Nat}
/-- x(), in the def that got the lambda -/
theorem act1 {CXg : CXT} {Eg : XK} {Ng : List Str} {qg : Str} {sg : Scope} {g f c' D : Addr} {td : Tok} {cdg doc pm ctv : Value} {body : Expr} {scope : Scope} {k i : Nat} {a : Str} {pn : List (Addr × Obj)} {xe : Value → Shared → Prop} {W : WX} {E : XK} {tb : TE} {q1 q2 : Pos}
    (I : Inv X pins σ H s) (L : LamS1 X.N b X.env.scope scope) (hf : s.heap.get? f = some (lobj (X.env.qual ++ "<lambda>") b i0 p1 p2 j0 body scope (cloFrom X.env.cells scope.names []) D doc pm c' ctv)) (hfn : H f = none) (hfr : f ∉ frs X.stack)
    (hD : s.heap.get? D = some (PySem.W.kdv_tup [.int i0 td])) (hDn : H D = none) (hDr : D ∉ frs X.stack)
    (tk : Takes ((cxOf CXg X.prog X.w X.K X.mg X.base Ng qg sg g cdg X.A X.stack s H Eg).tr pn xe) W) (hW : ∀ cls d σ' H', E cls d H' → W cls d σ' H') (hr : Room (k + 1) (X.A.deeper (envOfC qg sg s.heap.objs.size g cdg)))
    (hbody : ∀ (A : Around) (outer : List Env) (s : Shared) (H : Hp), Room k (A.deeper (lamEnv X scope s.heap.objs.size f c')) → PE (lamCx X A outer s H E scope f c') body tb)
    (hN : Ng[i]? = some a) (hv : Vis sg a) (hd : (a == ("__debug__" : Str)) = false := by decide) (hcd : (a == ("__classdict__" : Str)) = false := by decide) :
    PE ((cxOf CXg X.prog X.w X.K X.mg X.base Ng qg sg g cdg X.A X.stack s H Eg).tr pn xe) (.Call (.Name a q1) [] [] q2)
      (fun σZ HZ Q => σZ[i]? = some (some (.ref f)) ∧ HZ c' = some (CodeO c' (X.env.qual ++ "<lambda>")) ∧ tb σ HZ Q) := by
  refine ⟨fun pinsZ sZ σZ HZ Q IZ h => ?_⟩
  obtain ⟨hs, hc, ht⟩ := h
  refine wpAny_Call_Name_kw (thn ((pe_var (pos := q1) (i := i) hN hv hd hcd).run pinsZ sZ σZ HZ (fun v H1 => v = .ref f ∧ H1 = HZ) IZ ⟨.ref f, hs, rfl, rfl⟩) fun u s1 ⟨v, H1, I1, r1, q1⟩ => ?_)
  obtain ⟨ev, eH⟩ := q1
  subst ev
  rw [eH] at I1
  obtain rfl : u = Value.ref f := r1
  have of1 := I1.base.keep f _ hf hfn hfr (fun z => nomatch (show f ∈ ([] : List Addr) from z))
  have oD1 := I1.base.keep D _ hD hDn hDr (fun z => nomatch (show D ∈ ([] : List Addr) from z))
  refine PySem.W.callWith_F0 ⟨_, _, _, _, of1⟩ ?_
  have un : Un (frs X.stack) [] H HZ s.heap s1.heap := I1.base
  obtain ⟨⟨oc, vs, t, hoc, hdc, hvc⟩, _, _⟩ := I1.hok c' _ hc
  have rc : codeAny (model X.prog X.w) (X.A.deeper (envOfC qg sg s.heap.objs.size g cdg)) (.call (.ref f) ⟨[], []⟩) (CR (L2.CX X.prog X.w) (envOfC qg sg s.heap.objs.size g cdg :: X.stack) X.prog X.w HZ s1 Q E) s1 := by
    refine PySem.W.kla_callFunE hr.depth of1 rfl L.co L.gen rfl ⟨c', oc, vs, t, rfl, hoc, hdc, hvc⟩ (bind1 oD1 ?_)
    refine wpAny_newFunctionEnv L.nocell (fun y hy => ?_) (fun h₁ hns hsb => ⟨I1.nolimit.fresh _ hsb, ?_⟩) L.kind
    · have e : y = (b, Value.int i0 td) := by simpa using hy
      rw [e]
      exact L.par
    show codeAny _ _ (.expr body (lamEnv X scope s1.heap.objs.size f c')) _ _
    have kp : ∀ b o, s1.heap.get? b = some o → h₁.get? b = some o := fun b o e => hsb.extBut b o (Nat.ne_of_lt (Heap.lt_size e)) (Heap.get?_push_of_some _ e)
    have J : Inv (lamCx X (X.A.deeper (envOfC qg sg s.heap.objs.size g cdg)) (envOfC qg sg s.heap.objs.size g cdg :: X.stack) s1 HZ E scope f c') [] σ HZ { s1 with heap := h₁, toks := s1.toks + ([(b, Value.int i0 td)] : List (Str × Value)).length } :=
      start1 I L I1.env0 hr.hd un hns kp
    refine PySem.W.kla_codeExpr (wpAny_mono ((hbody _ _ s1 HZ (hr.deeper _)).run [] _ _ HZ Q J ht) (fun v s' hq => ?_) fun e s' hq => hq)
    obtain ⟨w', H', J', rv, q⟩ := hq
    exact ⟨w', H', J'.os, J'.bare, J'.base, J'.hok, rv, q⟩
  have hx : Passes (L2.CX X.prog X.w) ((cxOf CXg X.prog X.w X.K X.mg X.base Ng qg sg g cdg X.A X.stack s H Eg).tr pn xe) E := passes_call tk hW
  refine wpAny_call (codeAny_mono rc fun r s' hq => ?_)
  cases r with
  | error e => exact hx pinsZ σZ HZ s1 e s' I1 hq
  | ok fl =>
    cases fl with
    | ret u => exact I1.after hq
    | next => exact False.elim hq
    | brk => exact False.elim hq
    | cont => exact False.elim hq
/-- x(lambda b=i: body) -/
theorem pe_lamcall1 {T : List (Addr × Str)} {TT : (XK → Hp → VK → Prop) → Hp → VK → Prop} {x a : Str} {g c P : Addr} {k : Nat} {pg : Arguments} {bg : List Stmt} {sg : Scope} {dV kV doc pm cdv ct oc : Value} {an od : Option Addr} {osl : Array (Option Value)} {Ng : List Str}
    {body : Expr} {scope : Scope} {t : XK → TE} {p lpos pos : Pos} (hg : Gl X x) (hm : X.mg x = some (.ref g)) (hk : PySem.W.keepIn X.K (.ref g) = true)
    (lk : X.K.lookup g = some ⟨oc, od, .func (PySem.W.fnOf x x pg bg sg dV kV doc pm an cdv ct), osl⟩) (hcg : PySem.W.codeIn X.K cdv x = true) (hb : L2.Binds X.K (PySem.W.fnOf x x pg bg sg dV kV doc pm an cdv ct) [a] []) (Sg : FnScope Ng [a] sg) (hNg : Ng[0]? = some a) (hva : Vis sg a)
    (hG : GivesTo X Ng x sg g cdv bg a (X.env.qual ++ "<lambda>") TT)
    (TB : TabB X.base X.mg c P) (hcode : X.env.code = .ref c) (hmT : (P, X.env.qual ++ "<lambda>") ∈ T) (hu : ∀ p ∈ T, p.1 = P → p.2 = X.env.qual ++ "<lambda>") (hr : Room (k + 2) X.A) (L : LamS1 X.N b X.env.scope scope)
    (hbody : ∀ (A : Around) (outer : List Env) (s : Shared) (H : Hp) (E : XK) (f c' : Addr), Room k (A.deeper (lamEnv X scope s.heap.objs.size f c')) → PE (lamCx X A outer s H E scope f c') body (t E))
    (hdb : (x == ("__debug__" : Str)) = false := by decide) (hd : (a == ("__debug__" : Str)) = false := by decide) (hcd : (a == ("__classdict__" : Str)) = false := by decide) :
    PE X (.Call (.Name x p) [.Lambda (prms b i0 p1 p2 j0) body scope lpos] [] pos) (tLam T TT t) := by
  refine ⟨fun pins s σ H Q I h => ?_⟩
  obtain ⟨hT, h⟩ := h
  refine wpAny_Call_Name_kw (ld_glob I hg hm ?_ hdb)
  refine PySem.W.callWith_K (h₀ := X.base) I.ok.mod.kin hk ?_ (by rfl) (by rfl)
  show wpAny _ _ (spliced ((false, eval (.Lambda (prms b i0 p1 p2 j0) body scope lpos) X.env) :: backTo pos (starEach [] X.env))) _ _ s
  refine Calls.spliced_cons (make_lam I TB hcode hmT hu hT (L.has I.ok) fun f c' D td doc' pm' ctv H1 s' I1 eN T1 hf hfn hfr hD hDn hDr hco => ?_)
  refine Calls.spliced_nil ⟨I1.kIn, ?_⟩
  have rc : codeAny (model X.prog X.w) X.A (.call (.ref g) ⟨[.ref f], []⟩) (CR C8.CX0 X.stack X.prog X.w H1 s' Q C8.E0) s' := by
    refine run_ofS (N := Ng) (ps := [a]) (us := [.ref f]) (vs := [.ref f]) lk hcg Sg hr I1.env0 (hb s' [.ref f] I1.kIn rfl) (.cons rfl .nil) rfl fun hr' => ?_
    obtain ⟨t', ht', hq'⟩ := hG f c' s' H1 Q (fun E H' Q' => t E σ H' Q') (fun W pn xe E q1 q2 tk hW => act1 (i := 0) I1 L hf hfn hfr hD hDn hDr tk hW hr' (fun A outer s H hr2 => hbody A outer s H E f c' hr2) hNg hva hd hcd) hco (h H1 eN T1)
    exact ⟨t', ht'.nox, hq'⟩
  refine wpAny_call (codeAny_mono rc fun r s2 hq => ?_)
  cases r with
  | error e => exact (show False from hq).elim
  | ok fl =>
    cases fl with
    | ret u => exact I1.after hq
    | next => exact False.elim hq
    | brk => exact False.elim hq
    | cont => exact False.elim hq
end
end LamB
set_option Elab.async false
set_option linter.all false
set_option maxRecDepth 100000
set_option maxHeartbeats 4000000
/-! # Own words over the hand layer: a def by its promise (Df), calls by keywords, a text enumerated, the heap but for one object. -/
namespace L2
open PySem PySem.Spec PyProof.Rows

abbrev FnP (K : PySem.W.Frag) (x : Str) (st : Stmt) (f : Addr) (fd : FuncData) : Prop := FunD K x x (defArgs st) (defBody st) (defScope st) [] [] f fd
/-- the def st, named x, stands behind the top and keeps its promise -/
structure Df (P : Program) (w : World) (K : PySem.W.Frag) (mg : Str → Option Value) (base : Heap) (CX : CXT) (k : Nat) (x : Str) (st : Stmt) (ps : List Str) (sp : Sp) : Prop where
  ex : ∃ (f : Addr) (fd : FuncData), mg x = some (.ref f) ∧ FnP K x st f fd ∧ FnOk P w K mg base CX k f fd ps sp ∧ Binds K fd ps []
/-- .. it stands there -/
structure St0 (K : PySem.W.Frag) (mg : Str → Option Value) (x : Str) (st : Stmt) (ps : List Str) : Prop where
  ex : ∃ (f : Addr) (fd : FuncData), mg x = some (.ref f) ∧ FnP K x st f fd ∧ Binds K fd ps []
section
variable {P : Program} {w : World} {K : PySem.W.Frag} {mg : Str → Option Value} {base : Heap} {x : Str} {st : Stmt} {ps N : List Str} {CX : CXT} {k : Nat} {sp : Sp}
theorem Df.mono {j : Nat} (D : Df P w K mg base CX j x st ps sp) (h : j ≤ k) : Df P w K mg base CX k x st ps sp := by
  obtain ⟨f, fd, a, b, c, d⟩ := D.ex
  exact ⟨f, fd, a, b, c.mono h, d⟩
theorem Df.imp {sp' : Sp} (D : Df P w K mg base CX k x st ps sp) (h : ∀ vs H Q E, sp' vs H Q E → sp vs H Q E) : Df P w K mg base CX k x st ps sp' := by
  obtain ⟨f, fd, a, b, c, d⟩ := D.ex
  exact ⟨f, fd, a, b, c.imp h, d⟩
theorem St0.df (S0 : St0 K mg x st ps) (S : FnScope N ps (defScope st)) (len : ∀ vs H Q E, sp vs H Q E → vs.length = ps.length)
    (hbody : ∀ (f : Addr) (cdv : Value) (A : Around) (outer : List Env) (s : Shared) (H : Hp) (vs : List V) (Q : VK) (E : XK), Room k (A.deeper (envOfC x (defScope st) s.heap.objs.size f cdv)) → sp vs H Q E →
      ∃ t, PSs (cxOf CX P w K mg base N x (defScope st) f cdv A outer s H E) (defBody st) t ∧ t { nx := fun _ H' => Q .non H', rt := Q } (start N vs) H) : Df P w K mg base CX (k + 1) x st ps sp := by
  obtain ⟨f, fd, a, b, d⟩ := S0.ex
  exact ⟨f, fd, a, b, b.ok S len (hbody f), d⟩
end
section
variable {X : Cx} {CX : CXT} {k : Nat} {x : Str} {st : Stmt} {ps : List Str} {sp : Sp} {E : XK} {p pos : Pos} {e : Expr} {es : List Expr} {t : TA}
theorem passN {X : Cx} : Passes (L2.CX X.prog X.w) X E0 := fun _ _ _ _ _ _ _ h => by
  obtain ⟨_, _, _, _, _, _, _, _, _, _, _, _, z⟩ := h
  exact z.elim
/-- f(..), nothing is let out -/
theorem pd (D : Df X.prog X.w X.K X.mg X.base CX0 k x st ps sp) (hr : Room k X.A) (hg : Gl X x) (ha : PA X (e :: es) t) (hdb : (x == ("__debug__" : Str)) = false := by decide) (he : starEach (e :: es) X.env = (false, eval e X.env) :: starEach es X.env := by rfl) (hpl : (backTo pos (starEach es X.env)).any (·.1) = false := by rfl) :
    PE X (.Call (.Name x p) (e :: es) [] pos) (tCall sp [] E0 t) := by
  obtain ⟨f, fd, a, b, c, d⟩ := D.ex
  exact pe_call c hr hg a b.kp d .nil pass0 ha hdb he hpl
/-- .. of a def that may raise, but doesn't -/
theorem pdN (D : Df X.prog X.w X.K X.mg X.base (L2.CX X.prog X.w) k x st ps sp) (hr : Room k X.A) (hg : Gl X x) (ha : PA X (e :: es) t) (hdb : (x == ("__debug__" : Str)) = false := by decide) (he : starEach (e :: es) X.env = (false, eval e X.env) :: starEach es X.env := by rfl) (hpl : (backTo pos (starEach es X.env)).any (·.1) = false := by rfl) :
    PE X (.Call (.Name x p) (e :: es) [] pos) (tCall sp [] E0 t) := by
  obtain ⟨f, fd, a, b, c, d⟩ := D.ex
  exact pe_call c hr hg a b.kp d .nil passN ha hdb he hpl
/-- .. what it raises is let out -/
theorem pdX {W : WX} (hW : ∀ cls d σ H, E cls d H → W cls d σ H) (tk : Takes X W) (D : Df X.prog X.w X.K X.mg X.base (L2.CX X.prog X.w) k x st ps sp) (hr : Room k X.A) (hg : Gl X x) (ha : PA X (e :: es) t) (hdb : (x == ("__debug__" : Str)) = false := by decide) (he : starEach (e :: es) X.env = (false, eval e X.env) :: starEach es X.env := by rfl) (hpl : (backTo pos (starEach es X.env)).any (·.1) = false := by rfl) :
    PE X (.Call (.Name x p) (e :: es) [] pos) (tCall sp [] E t) := by
  obtain ⟨f, fd, a, b, c, d⟩ := D.ex
  exact pe_call c hr hg a b.kp d .nil (passes_call tk hW) ha hdb he hpl
/-- f(k = v, ..): all parameters by keywords ks; g puts them in the parameters' order -/
def tCallKw (sp : Sp) (gV : List V → List V) (E : XK) (tk : TA) : TE := fun σ H Q => tk σ H fun zs H2 => sp (gV zs) H2 Q E
theorem pdK {ks : List Str} {kws : List Keyword} {tk : TA} {g : {α : Type} → List α → List α} (D : Df X.prog X.w X.K X.mg X.base CX k x st ps sp) (hr : Room k X.A) (hg : Gl X x) (hx : Passes CX X E)
    (hb : ∀ (kV doc pm : Value) (an : Option Addr) (cdv ct : Value) (ws : List Value), (g ws).length = ps.length → bindArgs (PySem.W.fnOf x x (defArgs st) (defBody st) (defScope st) .none kV doc pm an cdv ct) ⟨[], ks.zip ws⟩ = pure (ps.zip (g ws)))
    (hrel : ∀ {zs : List V} {ws : List Value}, Vals zs ws → Vals (g zs) (g ws)) (hkw : PK X kws tk)
    (hall : (backToKw pos (keywordEach kws X.env)).all (·.1.isSome) = true := by rfl) (hks : (backToKw pos (keywordEach kws X.env)).filterMap (·.1) = ks := by rfl)
    (hdb : (x == ("__debug__" : Str)) = false := by decide) (hpl : ((backTo pos (starEach [] X.env)).any (·.1) || (backToKw pos (keywordEach kws X.env)).any (·.1.isNone)) = false := by rfl) :
    PE X (.Call (.Name x p) [] kws pos) (tCallKw sp g E tk) := by
  obtain ⟨f, fd, a, b, c, d⟩ := D.ex
  refine ⟨fun pins s σ H Q I h => ?_⟩
  refine wpAny_Call_Name_kw (ld_glob I hg a ?_ hdb)
  refine PySem.W.callWith_KW0 (h₀ := X.base) I.ok.mod.kin b.kp hall ?_ hpl
  refine thn (hkw.run pos pins s σ H _ I h) fun ws s2 ⟨zs, H2, I2, rz, q2⟩ => ⟨I2.kIn, ?_⟩
  rw [hks]
  have r2 := hrel rz
  have hl : (g ws).length = ps.length := by rw [← r2.length]; exact c.len _ _ _ _ q2
  obtain ⟨oc, od, dV, kV, doc, pm, an, cdv, ct, osl, rfl, lk, hcd, hD, hK⟩ := b.ex
  rcases hD with ⟨_, rfl⟩ | ⟨z, _⟩
  · refine wpAny_call (codeAny_mono (c.run X.A X.stack s2 H2 ⟨[], ks.zip ws⟩ (g ws) (g zs) Q E hr I2.env0 (.of_eq (hb kV doc pm an cdv ct ws hl)) r2 q2) fun r s' hq => ?_)
    cases r with
    | error e => exact hx pins σ H2 s2 e s' I2 hq
    | ok fl =>
      cases fl with
      | ret u => exact I2.after hq
      | next => exact False.elim hq
      | brk => exact False.elim hq
      | cont => exact False.elim hq
  · exact absurd rfl z
end
/-! ### for i, c in enumerate(text) -/
def Itx (x : Str) : It := ⟨fun i _ => i < x.cps.size, fun i H v H' => ∃ T c, v = .ref T ∧ H T = none ∧ H' = upd H T (.tup [.int (i : Nat), .str ⟨#[c]⟩]) ∧ x.cps[i]? = some c, fun i _ => i = x.cps.size⟩
theorem turn_enumS {P : Program} {w : World} {K : PySem.W.Frag} {elts : List Expr} {kk : Nat} {tpos : Pos} (x : Str) (t : Tok) (e it : Addr) :
    Turn P w K (.Tuple elts kk tpos) (Itx x) [e, it] e (fun i h => (∃ old, IsEnum h e it ((i : Nat) : Int) old) ∧ h.IsStrIter it (strIterType x) x t i ∧ e ≠ it) where
  mem := by simp
  obj := fun i h st b hb => by
    obtain ⟨⟨old, he⟩, ⟨o, ho, hc, hd⟩, _⟩ := st
    have e' : b = e ∨ b = it := by simpa using hb
    rcases e' with z | z
    · rw [z]; exact ⟨_, he, fun v q => nomatch q⟩
    · rw [z]; exact ⟨o, ho, fun v q => by rw [hd] at q; cases q⟩
  keep := fun i h h' st k => by
    obtain ⟨⟨old, he⟩, ⟨o, ho, r⟩, hne⟩ := st
    exact ⟨⟨old, k e (by simp) _ he⟩, ⟨o, k it (by simp) o ho, r⟩, hne⟩
  item := by
    intro X hP hw hK hc i pins s σ H E I hf st hg
    subst hP hw hK
    obtain ⟨⟨old, he⟩, hit, hne⟩ := st
    have hlt : i < x.cps.size := hg
    have hel : e < s.heap.objs.size := Heap.lt_size he
    have hil : it < s.heap.objs.size := by obtain ⟨_, q, _⟩ := hit; exact Heap.lt_size q
    have D : Draws X.prog X.w X.A.in1 it [it] x.cps.size (fun i v => ∃ c u, x.cps[i]? = some c ∧ v = .str ⟨#[c]⟩ u) (fun i h => h.IsStrIter it (strIterType x) x t i) := Draws.text (A := X.A.in1) (show X.A.in1.handled = none from I.ok.hd hc) it x t
    refine wpAny_pyNext_enum_itemC D he hit hlt hne (by simpa using hne) fun v h' tk hv ho hit' hT hsz hk => ?_
    obtain ⟨c, u, hcx, rfl⟩ := hv
    refine ⟨_, rfl, wpAny_letOwnedTupleGo_enum (s := { s with heap := h', toks := tk + 1 }) ho fun h'' he' sb => ?_⟩
    have hT2 : h''.get? s.heap.objs.size = some { cls := .type "tuple", data := .seq #[.int i tk, .str ⟨#[c]⟩ u] } := (sb.2 _ (Nat.ne_of_gt hel)).trans hT
    have new : ObjOk X.prog X.w (upd H s.heap.objs.size (.tup [.int (i : Nat), .str ⟨#[c]⟩])) h'' s.heap.objs.size (.tup [.int (i : Nat), .str ⟨#[c]⟩]) :=
      ⟨by show 2 ≤ sizeLine; decide, [.int i tk, .str ⟨#[c]⟩ u], .cons ⟨_, rfl⟩ (.cons ⟨_, rfl⟩ .nil), ⟨_, hT2, rfl, _, rfl⟩⟩
    have I1 : Inv X pins σ (upd H s.heap.objs.size (.tup [.int (i : Nat), .str ⟨#[c]⟩])) { s with heap := h'', toks := tk + 1 } :=
      I.turnedNew (ch := [e, it]) (fun b ob hb q => (sb.2 b (fun z => hb (by simp [z]))).trans (hk b ob (fun z => hb (by simp [z])) (fun z => hb (by simp [z])) q)) hf (Nat.le_refl _) new
    refine ⟨.ref s.heap.objs.size, _, I1, rfl, ⟨_, c, rfl, I.hok.fresh (Nat.le_refl _), rfl, hcx⟩, ⟨⟨.str ⟨#[c]⟩ u, ?_⟩, ?_, hne⟩, fun b hb => ?_⟩
    · have e1 : ((i + 1 : Nat) : Int) = (i : Int) + 1 := by omega
      rw [e1]; exact he'
    · obtain ⟨o, q, r⟩ := hit'
      exact ⟨o, (sb.2 it (Ne.symm hne)).trans q, r⟩
    · have hb' : b < s.heap.objs.size := by
        have e' : b = e ∨ b = it := by simpa using hb
        rcases e' with z | z
        · rw [z]; exact hel
        · rw [z]; exact hil
      rw [upd_ne (Nat.ne_of_lt hb')]
      exact (hf b hb).1
  done := by
    intro X hP hw hK hc i pins s σ H E I hf st hg
    subst hP hw hK
    obtain ⟨⟨old, he⟩, hit, hne⟩ := st
    have hge : i = x.cps.size := hg
    subst hge
    obtain ⟨f0, f1, f2, f3, f4, f5⟩ := hf it (by simp)
    have D : Draws X.prog X.w X.A.in1 it [it] x.cps.size (fun i v => ∃ c u, x.cps[i]? = some c ∧ v = .str ⟨#[c]⟩ u) (fun i h => h.IsStrIter it (strIterType x) x t i) := Draws.text (A := X.A.in1) (show X.A.in1.handled = none from I.ok.hd hc) it x t
    exact wpAny_pyNext_enum_endD D he hit fun h' eb => ⟨rfl, I.turned (t' := s.toks) (fun b o hb q => eb b o hb q) f0 f1 f3 f4 f5⟩
  self := fun A i s Q E st h => let ⟨⟨_, he⟩, _⟩ := st; wpAny_pyIter_enum he h
def iEnumS (ta : TA) : TI := fun σ H R => ta σ H fun vs H1 => ∃ x, vs = [.str x] ∧ R (Itx x) H1
theorem pi_enumS {X : Cx} {e : Expr} {ta : TA} {p pos tpos : Pos} {elts : List Expr} {kk : Nat} (hg : Gl X "enumerate") (hm : X.mg "enumerate" = none) (ha : PA X [e] ta) (hs : starEach [e] X.env = [(false, eval e X.env)] := by rfl) :
    PI X (.Tuple elts kk tpos) (.Call (.Name "enumerate" p) [e] [] pos) (iEnumS ta) := by
  refine ⟨fun pins s σ H R I h => ?_⟩
  refine Call_ (ld_blt I hg hm boot_enumerate (PyProof.Rows.callWith_type1 (thn (ha.run pos pins s σ H _ I h) fun us s1 ⟨vs, H1, I1, r1, q1⟩ => ?_) hs rfl))
  obtain ⟨x, ex, q⟩ := q1
  subst ex
  cases r1 with
  | cons r rr =>
    cases rr
    obtain ⟨t, rfl⟩ := r
    refine call_enumerate_str fun h' he hit hsz hk => wpAny_pyIter_enum he ?_
    have I2 : Inv X pins σ H1 { s1 with heap := h' } := I1.kept (t' := s1.toks) hk
    refine ⟨s1.heap.objs.size + 1, [s1.heap.objs.size + 1, s1.heap.objs.size], _, _, H1, rfl, I2, turn_enumS x t (s1.heap.objs.size + 1) s1.heap.objs.size, ⟨⟨.none, he⟩, hit, Nat.succ_ne_self _⟩, fun b hb => ?_, q⟩
    have e' : b = s1.heap.objs.size + 1 ∨ b = s1.heap.objs.size := by simpa using hb
    have hle : s1.heap.objs.size ≤ b := by
      rcases e' with z | z
      · rw [z]; exact Nat.le_add_right _ _
      · rw [z]; exact Nat.le_refl _
    exact I1.fpOk hle (I1.hok.fresh hle)
/-- its turns -/
theorem walk_enumS {z : Str} : Walk (Itx z) z.cps.size (fun _ => True) (fun i H v H' => ∃ T c, v = .ref T ∧ H T = none ∧ H' = upd H T (.tup [.int (i : Nat), .str ⟨#[c]⟩]) ∧ z.cps[i]? = some c) :=
  ⟨fun _ _ hi _ => hi, fun _ _ => rfl, fun _ _ _ _ _ _ y => y⟩
/-! ### heaps -/
theorem Same.upd {H : Hp} {p : Addr} {o : HO} (n : H p = none) : Same H (upd H p o) := fun b u e => by
  rw [upd_ne (ne_of_none e n)]
  exact e
theorem Same.tup {K : PySem.W.Frag} {H H' : Hp} {a : Addr} {xs : List V} (e : Same H H') (h : SqT K H a xs) : SqT K H' a xs := by
  rcases h with (h | ⟨o, h⟩) | h
  · exact .inl (.inl (e _ _ h))
  · exact .inl (.inr ⟨o, e _ _ h⟩)
  · exact .inr h
theorem Same.tyOf {K : PySem.W.Frag} {H H' : Hp} {x : V} {t : Value} (s : Same H H') (h : TyOf K H x t) : TyOf K H' x t := by
  cases h with
  | non => exact .non
  | bl x => exact .bl x
  | int i => exact .int i
  | str x => exact .str x
  | flt x => exact .flt x
  | lst e => exact .lst (s _ _ e)
  | frz e => exact .frz (s _ _ e)
  | tup e => exact .tup (s _ _ e)
  | dK e => exact .dK (s _ _ e)
  | dT e => exact .dT (s _ _ e)
  | ins e cl ha hn htk hm => exact .ins (s _ _ e) cl ha hn htk hm
theorem Same.tyX {K : PySem.W.Frag} {H H' : Hp} {x : V} {t : Value} (s : Same H H') (h : TyX K H x t) : TyX K H' x t := by
  cases h with
  | base h => exact .base (s.tyOf h)
  | byt b => exact .byt b
  | set e => exact .set (s _ _ e)
  | kList e c => exact .kList e c
  | kTuple e c => exact .kTuple e c
  | kDict e c => exact .kDict e c
  | fTuple e => exact .fTuple (s _ _ e)
  | fDict e => exact .fDict (s _ _ e)
/-- all that was tracked is as it was, but for the object at p -/
def Kp (p : Addr) (H H' : Hp) : Prop := ∀ b o, b ≠ p → H b = some o → H' b = some o
theorem Kp.refl (p : Addr) (H : Hp) : Kp p H H := fun _ _ _ h => h
theorem Kp.trans {p : Addr} {H H1 H2 : Hp} (a : Kp p H H1) (b : Kp p H1 H2) : Kp p H H2 := fun c o n h => b c o n (a c o n h)
theorem Same.kp {p : Addr} {H H' : Hp} (s : Same H H') : Kp p H H' := fun b o _ h => s b o h
theorem Kp.at {p q : Addr} {H H' : Hp} {o : HO} (k : Kp p H H') (n : q ≠ p) (h : H q = some o) : H' q = some o := k q o n h
theorem Kp.write {p : Addr} {H : Hp} {o : HO} : Kp p H (upd H p o) := fun b u n h => by
  rw [upd_ne n]
  exact h
/-- a comprehension whose step leaves all as it was: f tells what a step adds -/
theorem lc_same {J : It} {G : Hp → Prop} {its : List V} {n : Nat} (w : Walk J n G (fun i H x H' => H' = H ∧ its[i]? = some x)) (hn : n = its.length) {g : TG} {tt : TT} {te : TE} {vs : List Nat} {σ : St} {H1 : Hp} {D : Addr} {Qd : Hp → Prop} (f : V → Option V) (hD : H1 D = none) (hl : its.length < sizeLine)
    (hG : ∀ H, Same H1 H → G H)
    (hs : ∀ x ∈ its, ∀ H acc, Same H1 H → H D = some (.lst acc) → acc.length < sizeLine → ∀ Nx : Hp → Prop, (∀ H' y, Same H H' → f x = some y → Nx (upd H' D (.lst (acc ++ [y])))) → (∀ H', Same H H' → f x = none → Nx H') →
      g x (wipe σ vs) H fun σ2 H2 => wipe σ2 vs = wipe σ vs ∧ tt σ2 H2 fun b H3 => if b = true then te σ2 H3 fun y H4 => ∃ acc, H4 D = some (.lst acc) ∧ acc.length < sizeLine ∧ Nx (upd H4 D (.lst (acc ++ [y]))) else Nx H3)
    (hd : ∀ H, Same H1 H → H D = some (.lst (its.filterMap f)) → Qd H) :
    ∃ W : Nat → Nat → Hp → Prop, (∃ m, W 0 m (upd H1 D (.lst []))) ∧ ∀ i m H, W i m H →
      (J.stop i H ∧ Qd H) ∨ (J.go i H ∧ ∃ Nx : Hp → Prop, (∀ H', Nx H' → ∃ m', m' < m ∧ W (i + 1) m' H') ∧ ∀ x H', J.yld i H x H' → g x (wipe σ vs) H' fun σ2 H2 => wipe σ2 vs = wipe σ vs ∧ tt σ2 H2 fun b H3 =>
        if b = true then te σ2 H3 fun y H4 => ∃ acc, H4 D = some (.lst acc) ∧ acc.length < sizeLine ∧ Nx (upd H4 D (.lst (acc ++ [y]))) else Nx H3) := by
  subst hn
  refine lc_it w (fun i H => Same H1 H ∧ H D = some (.lst ((its.take i).filterMap f))) ⟨.upd hD, by rw [upd_same]; rfl⟩ (fun i H _ p => hG H p.1) (fun i x H H' hi p y => ?_) (fun H p => hd H p.1 (by rw [p.2, List.take_length]))
  obtain ⟨e, hx⟩ := y
  subst e
  have et : its.take (i + 1) = its.take i ++ [x] := by rw [List.take_add_one, hx]; rfl
  have hlen : ((its.take i).filterMap f).length < sizeLine := Nat.lt_of_le_of_lt (List.length_filterMap_le f (its.take i)) (Nat.lt_of_le_of_lt (by rw [List.length_take]; exact Nat.min_le_right _ _) hl)
  refine hs x (List.mem_of_getElem? hx) _ _ p.1 p.2 hlen _ (fun H' y s e => ?_) (fun H' s e => ?_)
  · refine ⟨fun b o h => ?_, ?_⟩
    · rw [upd_ne (ne_of_none h hD)]
      exact s b o (p.1 b o h)
    · rw [upd_same, et, List.filterMap_append]
      simp [e]
  · refine ⟨p.1.trans s, ?_⟩
    rw [s _ _ p.2, et, List.filterMap_append]
    simp [e]
theorem walk_strV {z : Str} : Walk (Its z) z.cps.size (fun _ => True) (fun i H x H' => H' = H ∧ (z.cps.toList.map fun c => V.str ⟨#[c]⟩)[i]? = some x) :=
  walk_str.mono (fun _ h => h) fun i H x H' _ _ y => by
    obtain ⟨e, c, h, rfl⟩ := y
    exact ⟨e, by simp [h]⟩
theorem putK_len {κ : Type} [DecidableEq κ] (kvs : List (κ × V)) (k : κ) (v : V) : (putK kvs k v).length ≤ kvs.length + 1 := by
  unfold putK
  split
  · rw [List.length_map]
    exact Nat.le_succ _
  · simp
/-- a dict's comprehension whose step leaves all as it was: f tells a step's pair -/
theorem dc_same {J : It} {G : Hp → Prop} {its : List V} {n : Nat} (w : Walk J n G (fun i H x H' => H' = H ∧ its[i]? = some x)) (hn : n = its.length) {g : TG} {tt : TT} {tk tv : TE} {vs : List Nat} {σ : St} {H1 : Hp} {D : Addr} {Qd : Hp → Prop} (f : V → Option (Key × V)) (hD : H1 D = none) (hl : its.length < sizeLine)
    (hG : ∀ H, Same H1 H → G H)
    (hs : ∀ x ∈ its, ∀ H kvs, Same H1 H → H D = some (.dK kvs) → kvs.length < sizeLine → ∀ Nx : Hp → Prop, (∀ H' k v, Same H H' → f x = some (k, v) → Nx (upd H' D (.dK (putK kvs k v)))) → (∀ H', Same H H' → f x = none → Nx H') →
      g x (wipe σ vs) H fun σ2 H2 => wipe σ2 vs = wipe σ vs ∧ tt σ2 H2 fun b H3 => if b = true then tk σ2 H3 fun y H4 => tv σ2 H4 fun z H5 => ∃ kvs k, y = kV k ∧ H5 D = some (.dK kvs) ∧ kvs.length < sizeLine ∧ Nx (upd H5 D (.dK (putK kvs k z))) else Nx H3)
    (hd : ∀ H, Same H1 H → H D = some (.dK ((its.filterMap f).foldl (fun kvs p => putK kvs p.1 p.2) [])) → Qd H) :
    ∃ W : Nat → Nat → Hp → Prop, (∃ m, W 0 m (upd H1 D (.dK []))) ∧ ∀ i m H, W i m H →
      (J.stop i H ∧ Qd H) ∨ (J.go i H ∧ ∃ Nx : Hp → Prop, (∀ H', Nx H' → ∃ m', m' < m ∧ W (i + 1) m' H') ∧ ∀ x H', J.yld i H x H' → g x (wipe σ vs) H' fun σ2 H2 => wipe σ2 vs = wipe σ vs ∧ tt σ2 H2 fun b H3 =>
        if b = true then tk σ2 H3 fun y H4 => tv σ2 H4 fun z H5 => ∃ kvs k, y = kV k ∧ H5 D = some (.dK kvs) ∧ kvs.length < sizeLine ∧ Nx (upd H5 D (.dK (putK kvs k z))) else Nx H3) := by
  subst hn
  obtain ⟨F, hF⟩ : ∃ F : Nat → List (Key × V), F = fun i => ((its.take i).filterMap f).foldl (fun kvs p => putK kvs p.1 p.2) [] := ⟨_, rfl⟩
  have F0 : F 0 = [] := by rw [hF]; rfl
  have Fe : F its.length = (its.filterMap f).foldl (fun kvs p => putK kvs p.1 p.2) [] := by rw [hF]; simp
  have Fs : ∀ i x, its[i]? = some x → F (i + 1) = match f x with | some p => putK (F i) p.1 p.2 | none => F i := fun i x hx => by
    rw [hF]
    simp only [List.take_add_one, hx, Option.toList, List.filterMap_append, List.foldl_append]
    cases q : f x <;> simp [q]
  have Fl : ∀ i, i ≤ its.length → (F i).length ≤ i := fun i => by
    induction i with
    | zero => intro _; rw [F0]; exact Nat.le_refl _
    | succ i ih =>
      intro h
      have hx : its[i]? = some its[i] := List.getElem?_eq_getElem (by omega)
      rw [Fs i _ hx]
      have := ih (by omega)
      cases q : f its[i] with
      | none => simp only; omega
      | some p =>
        have := putK_len (F i) p.1 p.2
        simp only
        omega
  refine ⟨fun i m H => (m = its.length - i ∧ i ≤ its.length) ∧ Same H1 H ∧ H D = some (.dK (F i)), ⟨its.length, ⟨rfl, Nat.zero_le _⟩, .upd hD, by rw [upd_same, F0]⟩, ?_⟩
  rintro i m H ⟨⟨rfl, hi⟩, sm, hH⟩
  by_cases hlt : i < its.length
  · refine .inr ⟨w.goes i H hlt (hG H sm), fun H' => Same H1 H' ∧ H' D = some (.dK (F (i + 1))), fun H' p' => ⟨its.length - (i + 1), by omega, ⟨rfl, hlt⟩, p'⟩, fun x H' y => ?_⟩
    obtain ⟨e, hx⟩ := w.yields i H x H' hlt (hG H sm) y
    subst e
    have fs := Fs i x hx
    refine hs x (List.mem_of_getElem? hx) _ _ sm hH (Nat.lt_of_le_of_lt (Nat.le_trans (Fl i hi) hi) hl) _ (fun H' k v s e => ?_) (fun H' s e => ?_)
    · refine ⟨fun b o h => ?_, ?_⟩
      · rw [upd_ne (ne_of_none h hD)]
        exact s b o (sm b o h)
      · rw [upd_same, fs, e]
    · refine ⟨sm.trans s, ?_⟩
      rw [s _ _ hH, fs, e]
  · have e : i = its.length := by omega
    subst e
    exact .inl ⟨w.stops H (hG H sm), hd H sm (by rw [hH, Fe])⟩
/-- for x in a list or a tuple -/
def iSeq (K : PySem.W.Frag) (tl : TE) : TI := fun σ H R => tl σ H fun x H1 => ∃ a xs, x = .ref a ∧ (SqL K H1 a xs ∨ SqT K H1 a xs) ∧ ∀ J G, Walk J xs.length G (fun i H x H' => H' = H ∧ xs[i]? = some x) → (∀ H', Same H1 H' → G H') → R J H1
theorem pi_seq {X : Cx} {tg l : Expr} {tl : TE} (hl : PE X l tl) : PI X tg l (iSeq X.K tl) := by
  refine ⟨fun pins s σ H R I h => ?_⟩
  refine thn (hl.run pins s σ H _ I h) fun v s1 ⟨x, H1, I1, r1, q1⟩ => ?_
  obtain ⟨a, xs, e, hq | hq, q⟩ := q1
  · subst e
    cases r1
    have q := q _ _ walk_list fun H' s => s.seq hq
    obtain ⟨its, rv, p, hz⟩ := I1.list hq
    refine wpAny_pyIter_list p.isList ⟨s1.heap.objs.size, [s1.heap.objs.size], _, _, H1, rfl, I1.kept (t' := s1.toks) fun b o e => Heap.get?_push_of_some _ e, turn_list a _, ⟨_, Heap.get?_push_size _ rfl, rfl, rfl⟩, fun b hb => ?_, q⟩
    rw [List.mem_singleton.mp hb]
    exact I1.fpOk (Nat.le_refl _) (I1.hok.fresh (Nat.le_refl _))
  · subst e
    cases r1
    have q := q _ _ walk_tup fun H' s => s.tup hq
    obtain ⟨its, rv, p, hz⟩ := I1.tuple hq
    refine wpAny_pyIter_tuple (show s1.heap.IsTuple a its.toArray from p) ⟨s1.heap.objs.size, [s1.heap.objs.size], _, _, H1, rfl, I1.kept (t' := s1.toks) fun b o e => Heap.get?_push_of_some _ e, turn_tuple a _, ⟨_, Heap.get?_push_size _ rfl, rfl, rfl⟩, fun b hb => ?_, q⟩
    rw [List.mem_singleton.mp hb]
    exact I1.fpOk (Nat.le_refl _) (I1.hok.fresh (Nat.le_refl _))
theorem Same.sq {K : PySem.W.Frag} {H H' : Hp} {a : Addr} {xs : List V} (e : Same H H') (h : SqL K H a xs ∨ SqT K H a xs) : SqL K H' a xs ∨ SqT K H' a xs := h.imp e.seq e.tup
/-! ### lists compared -/
theorem dpMap {K : PySem.W.Frag} {H : Hp} {α : Type} {f : α → V} {g : α → PyData} : ∀ (xs : List α), (∀ x ∈ xs, Dp K H (f x) (g x)) → DpAll K H (xs.map f) (xs.map g)
  | [], _ => .nil
  | x :: xs, h => .cons (h x List.mem_cons_self) (dpMap xs fun y hy => h y (List.mem_cons_of_mem _ hy))
/-- of depth at most 1 less than n, layable -/
theorem lay_all : ∀ {ds : List PyData} {n : Nat}, (∀ d ∈ ds, d.canLay0 = true ∧ d.depth ≤ n) → PyData.canLayAll0 ds = true ∧ PyData.depthAll ds ≤ n
  | [], n, _ => ⟨rfl, Nat.zero_le _⟩
  | d :: ds, n, h => by
    obtain ⟨a1, a2⟩ := lay_all (ds := ds) (n := n) fun y hy => h y (List.mem_cons_of_mem _ hy)
    obtain ⟨b1, b2⟩ := h d List.mem_cons_self
    refine ⟨?_, ?_⟩
    · show (PyData.canLay0 d && PyData.canLayAll0 ds) = true
      rw [a1, b1]
      rfl
    · show max (PyData.depth d) (PyData.depthAll ds) ≤ n
      omega
theorem shaped_list {ds : List PyData} (h : ∀ d ∈ ds, d.canLay0 = true ∧ d.depth ≤ 62) : SeqAt.shaped (.list ds) = true := by
  obtain ⟨a, b⟩ := lay_all h
  unfold SeqAt.shaped
  rw [Bool.and_eq_true]
  refine ⟨a, decide_eq_true ?_⟩
  show PyData.depthAll ds + 1 ≤ 64
  omega
/-- xs != [], [] new -/
theorem ne_nil {K : PySem.W.Frag} {H : Hp} {a b : Addr} {xs : List V} {ds : List PyData} {Q : VK} (hS : SqL K H a xs) (hd : DpAll K H xs ds) (hf : ∀ d ∈ ds, d.canLay0 = true ∧ d.depth ≤ 62) (hb : H b = some (.lst [])) (hQ : Q (.bl (!xs.isEmpty)) H) : rNeD K (.ref a) (.ref b) H Q := by
  refine ⟨.list ds, .list [], .lst hS hd, .lst (.inl (.inl hb)) .nil, shaped_list hf, by decide, ?_⟩
  have e : PyData.eqv (.list ds) (.list []) = xs.isEmpty := by
    cases hd with
    | nil => rfl
    | cons h t => rfl
  rw [e]
  exact hQ
theorem vals_get : ∀ {xs : List V} {us : List Value}, xs.length = us.length → (∀ (i : Nat) (x : V) (u : Value), xs[i]? = some x → us[i]? = some u → RelV x u) → Vals xs us
  | [], [], _, _ => .nil
  | [], _ :: _, h, _ => nomatch h
  | _ :: _, [], h, _ => nomatch h
  | x :: xs, u :: us, h, k => .cons (k 0 x u rfl rfl) (vals_get (Nat.succ.inj h) fun i y v a b => k (i + 1) y v a b)
/-- list(text) -/
theorem call_listS {X : Cx} (hc : X.calm = true) : CallR X (.type "list") (fun xs H Q => ∃ x : Str, xs = [.str x] ∧ x.length ≤ sizeLine ∧ ∀ l, H l = none → Q (.ref l) (upd H l (.lst (x.cps.toList.map fun c => V.str ⟨#[c]⟩)))) := by
  intro pins s σ H xs us Q I r h
  obtain ⟨x, rfl, hx, q⟩ := h
  obtain ⟨u, rfl, rx⟩ := vals1 r
  obtain ⟨t, rfl⟩ := rx
  refine PySem.call_list_str (I.ok.hd hc) x t (hn := hx) fun h' tk acc' c' hk hS hacc => ?_
  have e1 : acc'.size = x.cps.size := hacc.1
  have e2 : ∀ (i : Nat) (v : V) (u : Value), (x.cps.toList.map fun c => V.str ⟨#[c]⟩)[i]? = some v → acc'.toList[i]? = some u → RelV v u := fun i v u a b => by
    obtain ⟨c, t', hc', rfl⟩ := hacc.2 i u (by rw [← b, Array.getElem?_toList])
    have : v = V.str ⟨#[c]⟩ := by
      have hc2 : x.cps.toList[i]? = some c := by simpa using hc'
      rw [List.getElem?_map, hc2] at a
      exact (Option.some.inj a).symm
    rw [this]
    exact ⟨t', rfl⟩
  have rv : Vals (x.cps.toList.map fun c => V.str ⟨#[c]⟩) acc'.toList := vals_get (by simp [e1]) e2
  have ob : ∀ K0 : Hp, ObjOk X.prog X.w K0 h' s.heap.objs.size (.lst (x.cps.toList.map fun c => V.str ⟨#[c]⟩)) := fun K0 => ⟨by simpa [Str.length] using hx, acc'.toList, c', rv, by simpa using hS⟩
  exact ⟨.ref s.heap.objs.size, _, I.laid (t' := tk) hk (Nat.le_refl _) (ob _), rfl, q _ (I.hok.fresh (Nat.le_refl _))⟩
theorem Kp.seq {K : PySem.W.Frag} {p : Addr} {H H' : Hp} {a : Addr} {xs : List V} (e : Kp p H H') (n : a ≠ p) (h : SqL K H a xs) : SqL K H' a xs := by
  rcases h with (h | ⟨o, h⟩) | h
  · exact .inl (.inl (e _ _ n h))
  · exact .inl (.inr ⟨o, e _ _ n h⟩)
  · exact .inr h
/-- what may lie in a list that is compared -/
def Lay (K : PySem.W.Frag) (H : Hp) (x : V) : Prop := ∃ d : PyData, d.canLay0 = true ∧ d.depth ≤ 62 ∧ Dp K H x d
theorem lay_list {K : PySem.W.Frag} {H : Hp} : ∀ {xs : List V}, (∀ x ∈ xs, Lay K H x) → ∃ ds, DpAll K H xs ds ∧ ∀ d ∈ ds, d.canLay0 = true ∧ d.depth ≤ 62
  | [], _ => ⟨[], .nil, fun d h => nomatch h⟩
  | x :: xs, h => by
    obtain ⟨ds, a, b⟩ := lay_list (xs := xs) fun y hy => h y (List.mem_cons_of_mem _ hy)
    obtain ⟨d, c1, c2, c3⟩ := h x List.mem_cons_self
    refine ⟨d :: ds, .cons c3 a, fun e he => ?_⟩
    rcases List.mem_cons.mp he with z | z
    · rw [z]; exact ⟨c1, c2⟩
    · exact b e z
theorem walk_rangeV {lo : Int} {n : Nat} : Walk (Itr lo n) n (fun _ => True) (fun i H x H' => H' = H ∧ ((List.range n).map fun i => V.int (lo + (i : Nat)))[i]? = some x) :=
  walk_range.mono (fun _ h => h) fun i H x H' hi _ y => by
    obtain ⟨e, rfl⟩ := y
    exact ⟨e, by simp [hi]⟩
end L2
set_option Elab.async false
set_option linter.all false
/-! # Names: up to eight letters (as codes), their order, the next one, their rank. Plain Lean. -/
namespace Nam
/-- so many texts of at most k letters -/
def L : Nat → Nat
  | 0 => 1
  | k + 1 => 26 * L k + 1
theorem L_pos : ∀ k, 0 < L k
  | 0 => by decide
  | k + 1 => by unfold L; omega
def Let (c : Nat) : Prop := 97 ≤ c ∧ c ≤ 122
instance (c : Nat) : Decidable (Let c) := inferInstanceAs (Decidable (97 ≤ c ∧ c ≤ 122))
/-- the place among the texts of at most k letters -/
def R : Nat → List Nat → Nat
  | _, [] => 0
  | 0, _ :: _ => 0
  | k + 1, c :: t => 1 + (c - 97) * L k + R k t
def nxt : Nat → List Nat → Option (List Nat)
  | 0, _ => none
  | _ + 1, [] => some [97]
  | k + 1, c :: t => match nxt k t with
    | some u => some (c :: u)
    | none => if c < 122 then some [c + 1] else none
theorem R_lt_L : ∀ (k : Nat) (l : List Nat), l.length ≤ k → (∀ c ∈ l, Let c) → R k l < L k
  | k, [], _, _ => by
    have : R k [] = 0 := by cases k <;> rfl
    rw [this]
    exact L_pos k
  | 0, c :: t, h, _ => absurd h (by simp)
  | k + 1, c :: t, h, hl => by
    have ih := R_lt_L k t (by simpa using h) fun d hd => hl d (List.mem_cons_of_mem _ hd)
    have hc : Let c := hl c List.mem_cons_self
    have h1 : c - 97 ≤ 25 := by unfold Let at hc; omega
    have h2 : (c - 97) * L k ≤ 25 * L k := Nat.mul_le_mul_right _ h1
    show 1 + (c - 97) * L k + R k t < 26 * L k + 1
    omega
theorem R_nil (k : Nat) : R k [] = 0 := by cases k <;> rfl
theorem nxt_spec : ∀ (k : Nat) (l : List Nat), l.length ≤ k → (∀ c ∈ l, Let c) →
    (∀ u, nxt k l = some u → u ≠ [] ∧ u.length ≤ k ∧ (∀ c ∈ u, Let c) ∧ R k u = R k l + 1) ∧ (nxt k l = none → R k l + 1 = L k)
  | 0, [], _, _ => ⟨fun u e => (nomatch e), fun _ => rfl⟩
  | 0, c :: t, h, _ => absurd h (by simp)
  | k + 1, [], _, _ => ⟨fun u e => by
      have : u = [97] := by simpa [nxt] using e.symm
      subst this
      refine ⟨by simp, by simp, by simp [Let], ?_⟩
      show 1 + (97 - 97) * L k + R k [] = 0 + 1
      rw [R_nil]; simp, fun e => by simp [nxt] at e⟩
  | k + 1, c :: t, h, hl => by
    have ih := nxt_spec k t (by simpa using h) fun d hd => hl d (List.mem_cons_of_mem _ hd)
    have hc : Let c := hl c List.mem_cons_self
    have ht : ∀ d ∈ t, Let d := fun d hd => hl d (List.mem_cons_of_mem _ hd)
    have e : nxt (k + 1) (c :: t) = (match nxt k t with
      | some u => some (c :: u)
      | none => if c < 122 then some [c + 1] else none) := rfl
    cases q : nxt k t with
    | some v =>
      obtain ⟨a1, a2, a3, a4⟩ := ih.1 v q
      rw [q] at e
      refine ⟨fun u hu => ?_, fun hu => by rw [e] at hu; cases hu⟩
      rw [e] at hu
      cases hu
      refine ⟨by simp, by simpa using a2, fun d hd => ?_, ?_⟩
      · rcases List.mem_cons.mp hd with z | z
        · rw [z]; exact hc
        · exact a3 d z
      · show 1 + (c - 97) * L k + R k v = 1 + (c - 97) * L k + R k t + 1
        omega
    | none =>
      have r := ih.2 q
      rw [q] at e
      by_cases z : c < 122
      · have e2 : nxt (k + 1) (c :: t) = some [c + 1] := by rw [e]; simp [z]
        refine ⟨fun u hu => ?_, fun hu => by rw [e2] at hu; cases hu⟩
        rw [e2] at hu
        cases hu
        refine ⟨by simp, by simp, fun d hd => ?_, ?_⟩
        · have : d = c + 1 := by simpa using hd
          subst this
          unfold Let at hc ⊢
          omega
        · show 1 + (c + 1 - 97) * L k + R k [] = 1 + (c - 97) * L k + R k t + 1
          have e3 : c + 1 - 97 = (c - 97) + 1 := by unfold Let at hc; omega
          rw [R_nil, e3, Nat.succ_mul]
          omega
      · have e2 : nxt (k + 1) (c :: t) = none := by rw [e]; simp [z]
        refine ⟨fun u hu => (by rw [e2] at hu; cases hu), fun _ => ?_⟩
        show 1 + (c - 97) * L k + R k t + 1 = 26 * L k + 1
        have e3 : c - 97 = 25 := by unfold Let at hc; omega
        rw [e3]
        omega
/-- the order is that of the ranks -/
theorem R_mono : ∀ (k : Nat) (l m : List Nat), l.length ≤ k → m.length ≤ k → (∀ c ∈ l, Let c) → (∀ c ∈ m, Let c) → l < m → R k l < R k m
  | k, l, [], _, _, _, _, h => absurd h (by simp)
  | 0, l, d :: u, _, h, _, _, _ => absurd h (by simp)
  | k + 1, [], d :: u, _, _, _, _, _ => by
    show 0 < 1 + (d - 97) * L k + R k u
    omega
  | k + 1, c :: t, d :: u, hl, hm, kl, km, h => by
    have lt : R k t < L k := R_lt_L k t (by simpa using hl) fun x hx => kl x (List.mem_cons_of_mem _ hx)
    have hc : Let c := kl c List.mem_cons_self
    have hd : Let d := km d List.mem_cons_self
    show 1 + (c - 97) * L k + R k t < 1 + (d - 97) * L k + R k u
    rcases List.cons_lt_cons_iff.mp h with q | ⟨q, q2⟩
    · have h1 : (c - 97) + 1 ≤ d - 97 := by unfold Let at hc hd; omega
      have h2 := Nat.mul_le_mul_right (L k) h1
      rw [Nat.succ_mul] at h2
      omega
    · subst q
      have := R_mono k t u (by simpa using hl) (by simpa using hm) (fun x hx => kl x (List.mem_cons_of_mem _ hx)) (fun x hx => km x (List.mem_cons_of_mem _ hx)) q2
      omega
theorem R_iff {k : Nat} {l m : List Nat} (hl : l.length ≤ k) (hm : m.length ≤ k) (kl : ∀ c ∈ l, Let c) (km : ∀ c ∈ m, Let c) : l < m ↔ R k l < R k m := by
  refine ⟨R_mono k l m hl hm kl km, fun h => ?_⟩
  by_cases q : l < m
  · exact q
  · have z : m ≤ l := List.not_lt.mp q
    by_cases e : m = l
    · rw [e] at h; exact absurd h (Nat.lt_irrefl _)
    · have : m < l := by
        rcases List.le_iff_lt_or_eq.mp z with y | y
        · exact y
        · exact absurd y e
      exact absurd (R_mono k m l hm hl km kl this) (Nat.lt_asymm h)
/-! ### as the program goes -/
/-- less the z at its end -/
def cutz : List Nat → List Nat
  | [] => []
  | c :: t => if cutz t = [] then (if c = 122 then [] else [c]) else c :: cutz t
theorem nxt_short : ∀ (k : Nat) (l : List Nat), l.length < k → nxt k l = some (l ++ [97])
  | 0, l, h => absurd h (by simp)
  | k + 1, [], _ => rfl
  | k + 1, c :: t, h => by
    have ih := nxt_short k t (by simpa using h)
    show (match nxt k t with
      | some u => some (c :: u)
      | none => if c < 122 then some [c + 1] else none) = _
    rw [ih]
    rfl
theorem nxt_full : ∀ (k : Nat) (l : List Nat), l.length = k → (∀ c ∈ l, Let c) →
    (cutz l = [] → nxt k l = none) ∧ (∀ m d, cutz l = m ++ [d] → nxt k l = some (m ++ [d + 1]) ∧ d < 122)
  | 0, [], _, _ => ⟨fun _ => rfl, fun m d e => absurd e (by simp [cutz])⟩
  | 0, c :: t, h, _ => absurd h (by simp)
  | k + 1, [], h, _ => absurd h (by simp)
  | k + 1, c :: t, h, hl => by
    have ih := nxt_full k t (by simpa using h) fun d hd => hl d (List.mem_cons_of_mem _ hd)
    have hc : Let c := hl c List.mem_cons_self
    have e : nxt (k + 1) (c :: t) = (match nxt k t with
      | some u => some (c :: u)
      | none => if c < 122 then some [c + 1] else none) := rfl
    have ec : cutz (c :: t) = if cutz t = [] then (if c = 122 then [] else [c]) else c :: cutz t := rfl
    by_cases z : cutz t = []
    · rw [ih.1 z] at e
      rw [if_pos z] at ec
      by_cases y : c = 122
      · rw [if_pos y] at ec
        refine ⟨fun _ => by rw [e]; simp [y], fun m d q => ?_⟩
        rw [ec] at q
        exact absurd q (by simp)
      · rw [if_neg y] at ec
        have y2 : c < 122 := by unfold Let at hc; omega
        refine ⟨fun q => (by rw [ec] at q; cases q), fun m d q => ?_⟩
        rw [ec] at q
        have : m = [] ∧ d = c := by
          cases m with
          | nil => simpa using q.symm
          | cons a b => simp at q
        obtain ⟨rfl, rfl⟩ := this
        exact ⟨by rw [e]; simp [y2], y2⟩
    · rw [if_neg z] at ec
      refine ⟨fun q => (by rw [ec] at q; cases q), fun m d q => ?_⟩
      rw [ec] at q
      cases m with
      | nil =>
        have : cutz t = [] := by simpa using (List.cons.inj q).2
        exact absurd this z
      | cons a b =>
        obtain ⟨q1, q2⟩ := List.cons.inj q
        obtain ⟨r1, r2⟩ := ih.2 b d q2
        rw [r1] at e
        subst q1
        exact ⟨e, r2⟩
theorem cutz_app (l : List Nat) : ∃ n, l = cutz l ++ List.replicate n 122 := by
  induction l with
  | nil => exact ⟨0, rfl⟩
  | cons c t ih =>
    obtain ⟨n, e⟩ := ih
    have ec : cutz (c :: t) = if cutz t = [] then (if c = 122 then [] else [c]) else c :: cutz t := rfl
    by_cases z : cutz t = []
    · rw [if_pos z] at ec
      rw [z] at e
      by_cases y : c = 122
      · rw [if_pos y] at ec
        exact ⟨n + 1, by rw [ec, y, List.replicate_succ]; simpa using e⟩
      · rw [if_neg y] at ec
        exact ⟨n, by rw [ec]; simpa using e⟩
    · rw [if_neg z] at ec
      exact ⟨n, by rw [ec, List.cons_append, ← e]⟩
theorem cutz_last : ∀ (l m : List Nat) (d : Nat), cutz l = m ++ [d] → d ≠ 122
  | [], m, d, e => absurd e (by simp [cutz])
  | c :: t, m, d, e => by
    have ec : cutz (c :: t) = if cutz t = [] then (if c = 122 then [] else [c]) else c :: cutz t := rfl
    by_cases z : cutz t = []
    · rw [if_pos z] at ec
      by_cases y : c = 122
      · rw [if_pos y] at ec
        rw [ec] at e
        exact absurd e (by simp)
      · rw [if_neg y] at ec
        rw [ec] at e
        have : m = [] ∧ d = c := by
          cases m with
          | nil => simpa using e.symm
          | cons a b => simp at e
        rw [this.2]
        exact y
    · rw [if_neg z] at ec
      rw [ec] at e
      cases m with
      | nil =>
        have : cutz t = [] := by simpa using (List.cons.inj e).2
        exact absurd this z
      | cons a b => exact cutz_last t b d (List.cons.inj e).2
end Nam
set_option Elab.async false
set_option linter.all false
set_option maxRecDepth 100000
set_option maxHeartbeats 4000000
/-! # Names as texts: what the methods of str make of them. -/
namespace Nam
open PySem PySem.Spec PyProof.Rows L2
def S (l : List Nat) : Str := ⟨l.toArray⟩
theorem S_list (l : List Nat) : (S l).cps.toList = l := rfl
theorem S_len (l : List Nat) : (S l).length = l.length := by simp [S, Str.length]
theorem S_inj {l m : List Nat} (h : S l = S m) : l = m := by
  have := congrArg (fun s : Str => s.cps.toList) h
  simpa [S] using this
theorem S_of (x : Str) : x = S x.cps.toList := by cases x; rfl
theorem S_app (l m : List Nat) : S l ++ S m = S (l ++ m) := by
  show Str.mk (l.toArray ++ m.toArray) = Str.mk (l ++ m).toArray
  simp
def abc : List Nat := (List.range 26).map (97 + ·)
theorem letters_S : (PySem.Str.ofString "abcdefghijklmnopqrstuvwxyz") = S abc := by decide +kernel
theorem z_S : (PySem.Str.ofString "z") = S [122] := by decide +kernel
theorem a_S : (PySem.Str.ofString "a") = S [97] := by decide +kernel
theorem mem_abc (c : Nat) : c ∈ abc ↔ Let c := by
  unfold abc Let
  simp only [List.mem_map, List.mem_range]
  constructor
  · rintro ⟨k, h1, h2⟩; omega
  · intro h; exact ⟨c - 97, by omega, by omega⟩
theorem index_abc {c : Nat} (h : Let c) : Txt.index0 (S abc) ⟨#[c]⟩ = some (c - 97) := by
  have all : ∀ i : Fin 26, Txt.index0 (S abc) ⟨#[97 + i.val]⟩ = some i.val := by decide +kernel
  have q := all ⟨c - 97, by unfold Let at h; omega⟩
  have e : 97 + (c - 97) = c := by unfold Let at h; omega
  simpa [e] using q
theorem abc_get {i : Nat} (h : i < 26) : abc[i]? = some (97 + i) := by
  unfold abc
  simp [h]
theorem abc_len : abc.length = 26 := by decide
theorem take_replicate_cut (m : List Nat) (n : Nat) (hm : ∀ p d, m = p ++ [d] → d ≠ 122) : ((m ++ List.replicate n 122).reverse.takeWhile ([122].toArray.contains ·)).length = n := by
  rw [List.reverse_append, List.reverse_replicate]
  induction n with
  | zero =>
    simp only [List.replicate_zero, List.nil_append]
    rcases List.eq_nil_or_concat m with e | ⟨p, d, e⟩
    · rw [e]; rfl
    · have hd := hm p d (by simpa using e)
      rw [e]
      simp [hd]
  | succ n ih =>
    rw [List.replicate_succ, List.cons_append]
    simpa using ih
theorem rstrip_S (l : List Nat) : Txt.rstripChars (S l) (S [122]) = S (cutz l) := by
  obtain ⟨n, e⟩ := cutz_app l
  unfold Txt.rstripChars
  rw [stripBy_eq]
  have h := take_replicate_cut (cutz l) n (fun p d q => cutz_last l p d q)
  rw [← e] at h
  have g0 : ∀ m, l = m ++ List.replicate n 122 → l.length = m.length + n := fun m e => by rw [e]; simp
  have hl := g0 _ e
  have h1 : stripHi (S [122]).cps.contains true (S l) 0 = (cutz l).length := by
    show (S l).length - (((S l).cps.toList.drop 0).reverse.takeWhile ([122].toArray.contains ·)).length = _
    rw [List.drop_zero, S_list, S_len, h]
    omega
  show PySem.Builtin.Str.strSub (S l) 0 (stripHi (S [122]).cps.contains true (S l) 0) = _
  rw [h1]
  show Str.mk ((l.toArray).extract 0 (cutz l).length) = Str.mk (cutz l).toArray
  have g : ∀ m, l = m ++ List.replicate n 122 → l.take m.length = m := fun m e => by rw [e]; simp
  have this := g _ e
  simp [this]
theorem cut_last (m : List Nat) (d : Nat) : cutS (S (m ++ [d])) none (some (-1)) = S m := by
  unfold cutS
  have hl : (S (m ++ [d])).length = m.length + 1 := by rw [S_len]; simp
  have h1 : HT.sIx (S (m ++ [d])).length (S (m ++ [d])).length (some (-1)) = m.length := by
    rw [hl]
    show (if (-1 : Int) < 0 then ((-1 : Int) + ((m.length + 1 : Nat) : Int)).toNat else 0) = m.length
    rw [if_pos (by decide)]
    omega
  rw [HT.sIx_none, h1, S_list]
  simp [S]
theorem cut_take (l : List Nat) (k : Nat) (h : k ≤ l.length) : cutS (S l) none (some (k : Int)) = S (l.take k) := by
  unfold cutS
  rw [HT.sIx_none, HT.sIx_nat, S_list, S_len, Nat.min_eq_left h]
  simp [S]
/-- a name: one to eight letters -/
structure Nm (l : List Nat) : Prop where
  pos : 1 ≤ l.length
  len : l.length ≤ 8
  let_ : ∀ c ∈ l, Let c
/-- what next_after gives -/
def nv : Option (List Nat) → V
  | none => .non
  | some l => .str (S l)
theorem small_len {l : List Nat} (h : l.length ≤ 8) : (S l).length ≤ sizeLine := by
  rw [S_len]
  exact Nat.le_trans h (by decide)
end Nam
set_option Elab.async false
set_option linter.all false
set_option maxRecDepth 100000
set_option maxHeartbeats 4000000
namespace L2
open PySem PySem.Spec PyProof.Rows
/-! ### constants and types of the top -/
def Gc (mg : Str → Option Value) (x : Str) (v : V) : Prop := ∃ u, mg x = some u ∧ RelV v u
section
variable {X : Cx} {x : Str} {v : V} {pos : Pos}
theorem pgc (hg : Gl X x) (g : Gc X.mg x v) (hd : (x == ("__debug__" : Str)) = false := by decide) : PE X (.Name x pos) (tC v) := by
  obtain ⟨u, hm, r⟩ := g
  exact pe_glob hg hm r hd
theorem pbl (n : String) (hg : Gl X x) (hm : X.mg x = none) (hv : bootBuiltins x = some (.type n) := by decide +kernel) (hn : x ≠ "__name__" := by decide) (hd : (x == ("__debug__" : Str)) = false := by decide) : PE X (.Name x pos) (tC (.ty n)) := pe_bltn hg hm hv rfl hn hd
end
end L2
namespace K92
open PySem PySem.Spec PyProof.Rows L2 Nam
abbrev prog : Program := PySem.Challenge.pw_pulledplug_k92_names_in_their_order
def top (i : Nat) : Stmt := prog.main.body.getD i (.Pass ⟨0, 0, 0, 0⟩)
structure MG (mg : Str → Option Value) : Prop where
  isinstance : mg "isinstance" = none
  len : mg "len" = none
  list : mg "list" = none
  tuple : mg "tuple" = none
  str : mg "str" = none
  all : mg "all" = none
  range : mg "range" = none
  enumerate : mg "enumerate" = none
  max : mg "max" = none
  int : mg "int" = none
  abs : mg "abs" = none
  sum : mg "sum" = none
  LETTERS : Gc mg "LETTERS" (.str (S abc))
  LONGEST : Gc mg "LONGEST" (.int 8)
  LAST : Gc mg "LAST" (.str (S [122]))

/-! ### is_listed, is_name -/
abbrev s_is_listed : Stmt := top 2
abbrev N_is_listed : List Str := ["value"]
theorem sc_is_listed : FnScope N_is_listed ["value"] (defScope s_is_listed) := ⟨rfl, rfl, rfl, by decide +kernel, rfl, by decide +kernel, by decide +kernel⟩
abbrev s_is_name : Stmt := top 3
abbrev N_is_name : List Str := ["value", "letter"]
theorem sc_is_name : FnScope N_is_name ["value"] (defScope s_is_name) := ⟨rfl, rfl, rfl, by decide +kernel, rfl, by decide +kernel, by decide +kernel⟩
/-- a value whose type is told -/
inductive Ty (K : PySem.W.Frag) (H : Hp) : V → String → Prop where
  | s (x : Str) (h : x.length ≤ sizeLine) : Ty K H (.str x) "str"
  | o (v : V) (t : String) (h : t ∈ ["NoneType", "int", "bool", "list", "tuple", "dict"]) (k : TyX K H v (.type t)) (n : ∀ x, v ≠ .str x) : Ty K H v t
theorem Ty.tyx {K : PySem.W.Frag} {H : Hp} {v : V} {t : String} (h : Ty K H v t) : TyX K H v (.type t) := by
  cases h with
  | s x h => exact .base (.str x)
  | o _ _ _ k _ => exact k
theorem Ty.cases {K : PySem.W.Frag} {H : Hp} {v : V} {t : String} (h : Ty K H v t) : t ∈ ["str", "NoneType", "int", "bool", "list", "tuple", "dict"] := by
  cases h with
  | s x h => exact List.mem_cons_self
  | o _ _ h _ _ => exact List.mem_cons_of_mem _ h
theorem Ty.isS {K : PySem.W.Frag} {H : Hp} {v : V} {t : String} (h : Ty K H v t) : (t = "str" ∧ ∃ x, v = .str x ∧ x.length ≤ sizeLine) ∨ (t ≠ "str" ∧ ∀ x, v ≠ .str x) := by
  cases h with
  | s x h => exact .inl ⟨rfl, x, rfl, h⟩
  | o _ _ h _ n =>
    refine .inr ⟨fun e => ?_, n⟩
    subst e
    exact absurd h (by decide)
theorem Ty.same {K : PySem.W.Frag} {H H' : Hp} {v : V} {t : String} (s : Same H H') (h : Ty K H v t) : Ty K H' v t := by
  cases h with
  | s x h => exact .s x h
  | o _ _ h k n => exact .o _ _ h (s.tyX k) n
theorem kit_str {K : PySem.W.Frag} {t : String} (h : t ∈ ["str", "NoneType", "int", "bool", "list", "tuple", "dict"]) : PySem.W.kitOne K (.type t) (.type "str") = some (decide (t = "str")) := by
  simp only [List.mem_cons, List.mem_singleton, List.not_mem_nil, or_false] at h
  rcases h with e | e | e | e | e | e | e <;> (rw [e]; exact kit_ty (by decide +kernel))
def listedT (t : String) : Bool := decide (t = "list") || decide (t = "tuple")
theorem kit_list {K : PySem.W.Frag} {t : String} (h : t ∈ ["str", "NoneType", "int", "bool", "list", "tuple", "dict"]) : PySem.W.kitOne K (.type t) (.type "list") = some (decide (t = "list")) := by
  simp only [List.mem_cons, List.mem_singleton, List.not_mem_nil, or_false] at h
  rcases h with e | e | e | e | e | e | e <;> (rw [e]; exact kit_ty (by decide +kernel))
theorem kit_tuple {K : PySem.W.Frag} {t : String} (h : t ∈ ["str", "NoneType", "int", "bool", "list", "tuple", "dict"]) : PySem.W.kitOne K (.type t) (.type "tuple") = some (decide (t = "tuple")) := by
  simp only [List.mem_cons, List.mem_singleton, List.not_mem_nil, or_false] at h
  rcases h with e | e | e | e | e | e | e <;> (rw [e]; exact kit_ty (by decide +kernel))
theorem kit_any2 {K : PySem.W.Frag} {t a b : Value} {x y : Bool} (h1 : PySem.W.kitOne K t a = some x) (h2 : PySem.W.kitOne K t b = some y) : PySem.W.kitAny K t [a, b] = some (x || y) := by
  refine kitAny_cons h1 (fun e => ?_) (fun e => by rw [e]; rfl)
  rw [e, Bool.false_or]
  exact kitAny_cons h2 (fun e => by rw [e]; rfl) (fun e => e)
theorem kit_listed {K : PySem.W.Frag} {t : String} (h : t ∈ ["str", "NoneType", "int", "bool", "list", "tuple", "dict"]) : PySem.W.kitAny K (.type t) [.type "list", .type "tuple"] = some (listedT t) := kit_any2 (kit_list h) (kit_tuple h)
def spListed (K : PySem.W.Frag) : Sp := fun vs H Q _ => ∃ v t, vs = [v] ∧ Ty K H v t ∧ ∀ H', Same H H' → Q (.bl (listedT t)) H'
def isNm : V → Bool
  | .str x => decide (1 ≤ x.length) && (decide (x.length ≤ 8) && x.cps.toList.all fun c => decide (Let c))
  | _ => false
def spName (K : PySem.W.Frag) : Sp := fun vs H Q _ => ∃ v t, vs = [v] ∧ Ty K H v t ∧ ∀ H', Same H H' → Q (.bl (isNm v)) H'
section
variable {P : Program} {w : World} {K : PySem.W.Frag} {mg : Str → Option Value} {base : Heap}
theorem d_is_listed (M : MG mg) (S0 : St0 K mg "is_listed" s_is_listed ["value"]) : Df P w K mg base CX0 1 "is_listed" s_is_listed ["value"] (spListed K) := by
  refine S0.df sc_is_listed (fun vs H Q E h => ?_) (fun f cdv A outer s H vs Q E hr h => ?_)
  · obtain ⟨v, t, rfl, _⟩ := h
    rfl
  · refine ⟨_, PSs.nox (pss_one (ps_ret (pe_callB call_isiT (by rfl) M.isinstance (by decide +kernel) (pa_cons (pv 0) (pa_cons (pe_tup (pa_cons (pbl "list" rfl M.list) (pa_cons (pbl "tuple" rfl M.tuple) pa_nil))) pa_nil))))), ?_⟩
    obtain ⟨v, t, rfl, hT, hQ⟩ := h
    refine ⟨v, rfl, by show 2 ≤ sizeLine; decide, fun p np => ?_⟩
    exact ⟨v, p, _, _, _, listedT t, rfl, upd_same, .cons (.ty "list") (.cons (.ty "tuple") .nil), (Same.upd np).tyX hT.tyx, kit_listed hT.cases, hQ _ (Same.upd np)⟩
theorem d_is_name (M : MG mg) (S0 : St0 K mg "is_name" s_is_name ["value"]) : Df P w K mg base CX0 1 "is_name" s_is_name ["value"] (spName K) := by
  refine S0.df sc_is_name (fun vs H Q E h => ?_) (fun f cdv A outer s H vs Q E hr h => ?_)
  · obtain ⟨v, t, rfl, _⟩ := h
    rfl
  · refine ⟨_, PSs.nox ((pss_one (ps_ret (pe_and (pe_callB call_isi (by rfl) M.isinstance (by decide +kernel) (pa_cons (pv 0) (pa_cons (pbl "str" rfl M.str) pa_nil))) (pe_and (pe_chain op_le op_le pe_int (pe_callB call_len (by rfl) M.len boot_len (pa_cons (pv 0) pa_nil)) pe_int) (pe_one (pe_callB (cr_all rfl) (by rfl) M.all (by decide +kernel) (pa_cons (pe_lc (own := [("letter", 1)]) rfl sc_is_name.nd (pi_str (pv 0)) (blkOk_by (own := [("letter", 1)]) (N := N_is_name) (sc := defScope s_is_name) (by decide +kernel)) (fun _ _ _ _ _ => (pg_name (i := 1) sc_is_name.nd rfl (Or.inl rfl))) (fun _ _ _ _ _ => pts_nil) (fun _ _ _ _ _ => (pe_cmpR op_in_sign (pv 1) (pgc rfl M.LETTERS) (by rfl)))) pa_nil)))))))), ?_⟩
    obtain ⟨v, t, rfl, hT, hQ⟩ := h
    refine ⟨v, rfl, v, _, .type t, _, decide (t = "str"), rfl, .ty "str", hT.tyx, kit_str hT.cases, decide (t = "str"), rfl, ?_⟩
    rcases hT.isS with ⟨e, x, rfl, hx⟩ | ⟨e, ne⟩
    · rw [decide_eq_true e]
      refine iteT ⟨.str x, rfl, .str x, x.length, rfl, ⟨hx, rfl⟩, _, _, rfl, rfl, _, rfl, ite2 (fun h1 => ?_) (fun h1 => ?_)⟩
      · refine ⟨_, _, rfl, rfl, _, rfl, ite2 (fun h2 => ?_) (fun h2 => ?_)⟩
        · refine ⟨.str x, rfl, x, rfl, fun D hD => ?_⟩
          refine lc_same walk_strV (by simp) (fun v => match v with | .str y => some (.bl (decide (y.cps.getD 0 0 ∈ abc))) | _ => none) hD ?_ (fun _ _ => True.intro) (fun v hv H1 acc s1 hl hz Nx n1 n2 => ?_) (fun H1 s1 hl => ?_)
          · rw [List.length_map]
            exact Nat.lt_of_le_of_lt (show x.cps.toList.length ≤ 8 by have := of_decide_eq_true h2; simp only [Str.length] at this; simp; omega) (by decide)
          · obtain ⟨c, hc, rfl⟩ := List.mem_map.mp hv
            exact ⟨rfl, _, rfl, c, S abc, rfl, rfl, acc, hl, hz, n1 H1 _ (Same.refl H1) rfl⟩
          · refine ⟨D, x.cps.toList.map (fun c => decide (c ∈ abc)), rfl, .inl (.inl ?_), ?_⟩
            · rw [hl]
              simp [Function.comp_def]
            · have e0 : isNm (.str x) = (x.cps.toList.map (fun c => decide (c ∈ abc))).all id := by
                have g1 : decide (1 ≤ x.length) = true := decide_eq_true (by have := of_decide_eq_true h1; omega)
                have g2 : decide (x.length ≤ 8) = true := decide_eq_true (by have := of_decide_eq_true h2; omega)
                simp only [isNm, g1, g2, Bool.true_and, List.all_map]
                congr 1
                funext c
                simp [mem_abc]
              rw [← e0]
              exact hQ H1 s1
        · have e0 : isNm (.str x) = false := by
            have : ¬ x.length ≤ 8 := fun z => h2 (decide_eq_true (by omega))
            simp [isNm, this]
          rw [← e0]
          exact hQ H (.refl H)
      · have e0 : isNm (.str x) = false := by
          have : ¬ 1 ≤ x.length := fun z => h1 (decide_eq_true (by omega))
          simp only [isNm, decide_eq_false this, Bool.false_and]
        refine ⟨_, rfl, iteF ?_⟩
        rw [← e0]
        exact hQ H (.refl H)
    · rw [decide_eq_false e]
      refine iteF ?_
      have e0 : isNm v = false := by
        cases v <;> first | rfl | exact absurd rfl (ne _)
      rw [← e0]
      exact hQ H (.refl H)
/-! ### next_after -/
abbrev s_next_after : Stmt := top 15
abbrev N_next_after : List Str := ["name", "left"]
theorem sc_next_after : FnScope N_next_after ["name"] (defScope s_next_after) := ⟨rfl, rfl, rfl, by decide +kernel, rfl, by decide +kernel, by decide +kernel⟩
def spNext : Sp := fun vs H Q _ => ∃ l, vs = [.str (S l)] ∧ Nm l ∧ Q (nv (nxt 8 l)) H
theorem d_next_after (M : MG mg) (S0 : St0 K mg "next_after" s_next_after ["name"]) : Df P w K mg base CX0 1 "next_after" s_next_after ["name"] spNext := by
  refine S0.df sc_next_after (fun vs H Q E h => ?_) (fun f cdv A outer s H vs Q E hr h => ?_)
  · obtain ⟨l, rfl, _⟩ := h
    rfl
  · refine ⟨_, PSs.nox (pss_cons (ps_if (pt_cmpR op_lt (pe_callB call_len (by rfl) M.len boot_len (pa_cons (pv 0) pa_nil)) (pgc rfl M.LONGEST) (nomark _)) (pss_one (ps_ret (pe_op op_add_str (pv 0) pe_str))) pss_nil)
  (pss_cons (ps_set (i := 1) sc_next_after.nd rfl (Or.inl rfl) (pe_bm PySem.F.plainAttrs_str PySem.F.slot_str_rstrip PySem.F.type_str_rstrip mt_rstripChars (pv 0) (pa_cons (pgc rfl M.LAST) pa_nil)))
  (pss_one (ps_ret (pe_ifExp (pt_cmpR op_ne (pv 1) pe_str (nomark _)) (pe_op op_add_str (pe_slice sl_str (pv 1) po_none (po_some (pe_un un_neg pe_int))) (pe_ix ix_str (pgc rfl M.LETTERS) (pe_op op_add (pe_bmS PySem.F.plainAttrs_str PySem.F.slot_str_index PySem.F.type_str_index (mt_indexX rfl LamX.takes0) (pgc rfl M.LETTERS) (pa_cons (pe_ix ix_str (pv 1) (pe_un un_neg pe_int) (fun _ _ => rfl)) pa_nil)) pe_int) (fun _ _ => rfl))) pe_non))))), ?_⟩
    obtain ⟨l, rfl, hl, hQ⟩ := h
    refine ⟨_, rfl, .str (S l), _, rfl, ⟨small_len hl.len, rfl⟩, _, _, rfl, rfl, _, rfl, ite2 (fun h1 => ?_) (fun h1 => ?_)⟩
    · have h2 : l.length < 8 := by have := of_decide_eq_true h1; rw [S_len] at this; omega
      refine ⟨.str (S l), rfl, S l, _, rfl, rfl, ?_, ?_⟩
      · rw [a_S, S_len, S_len]
        exact Nat.le_trans (show l.length + 1 ≤ 9 by omega) (by decide)
      · rw [a_S, S_app]
        rw [nxt_short 8 l h2] at hQ
        exact hQ
    · have h2 : l.length = 8 := by
        have : ¬ l.length < 8 := fun z => h1 (decide_eq_true (by rw [S_len]; omega))
        have := hl.len
        omega
      have nf := nxt_full 8 l h2 hl.let_
      refine ⟨.str (S l), rfl, rfl, S l, S [122], rfl, rfl, small_len hl.len, ?_⟩
      rw [rstrip_S]
      refine ⟨.str (S (cutz l)), rfl, rfl, _, rfl, ?_⟩
      rcases List.eq_nil_or_concat (cutz l) with e | ⟨m, d, e⟩
      · rw [e]
        refine iteF ?_
        rw [nf.1 e] at hQ
        exact hQ
      · have e : cutz l = m ++ [d] := by simpa using e
        obtain ⟨e1, e2⟩ := nf.2 m d e
        have hd : Let d := by
          obtain ⟨n, q⟩ := cutz_app l
          refine hl.let_ d ?_
          rw [q, e]
          simp
        have hm : m.length + 1 ≤ 8 := by
          obtain ⟨n, q⟩ := cutz_app l
          have := congrArg List.length q
          rw [e] at this
          simp at this
          omega
        rw [e]
        rw [show (!decide (V.str (S (m ++ [d])) = V.str (PySem.Str.ofString ""))) = true from ?_]
        · have s1 : (S (m ++ [d])).length ≤ sizeLine := by
            rw [S_len, List.length_append]
            exact Nat.le_trans hm (by decide)
          refine iteT ⟨.str (S (m ++ [d])), rfl, 1, rfl, -1, rfl, S (m ++ [d]), rfl, s1, rfl, .str (S (m ++ [d])), rfl, 1, rfl, S (m ++ [d]), -1, d, rfl, rfl, s1, atI_last m d, S abc, ⟨#[d]⟩, rfl, rfl, fun k hk => ?_, fun z => ?_⟩
          · rw [index_abc hd] at hk
            cases hk
            refine ⟨_, _, rfl, rfl, S abc, _, d + 1, rfl, rfl, by rw [S_len, abc_len]; decide, ?_, S m, ⟨#[d + 1]⟩, ?_, rfl, ?_, ?_⟩
            · have e3 : ((d - 97 : Nat) : Int) + 1 = ((d + 1 - 97 : Nat) : Int) := by unfold Let at hd; omega
              rw [e3]
              have q := abc_get (i := d + 1 - 97) (by omega)
              rw [show 97 + (d + 1 - 97) = d + 1 by omega] at q
              exact atI_nat q
            · rw [cut_last]
            · rw [S_len]
              show m.length + 1 ≤ sizeLine
              exact Nat.le_trans hm (by decide)
            · rw [e1] at hQ
              show Q (.str (S m ++ S [d + 1])) H
              rw [S_app]
              exact hQ
          · rw [index_abc hd] at z
            cases z
        · rw [show decide (V.str (S (m ++ [d])) = V.str (PySem.Str.ofString "")) = false from decide_eq_false fun z => ?_]
          · rfl
          · have := S_inj (l := m ++ [d]) (m := []) (V.str.inj z)
            simp at this
/-! ### longer_ones -/
abbrev s_longer_ones : Stmt := top 16
abbrev N_longer_ones : List Str := ["many", "found", "_"]
theorem sc_longer_ones : FnScope N_longer_ones ["many"] (defScope s_longer_ones) := ⟨rfl, rfl, rfl, by decide +kernel, rfl, by decide +kernel, by decide +kernel⟩
def spLonger : Sp := fun vs H Q _ => ∃ k : Nat, vs = [.int k] ∧ k ≤ 1000 ∧ Q (.int (L k)) H
theorem d_longer_ones (M : MG mg) (S0 : St0 K mg "longer_ones" s_longer_ones ["many"]) : Df P w K mg base CX0 1 "longer_ones" s_longer_ones ["many"] spLonger := by
  refine S0.df sc_longer_ones (fun vs H Q E h => ?_) (fun f cdv A outer s H vs Q E hr h => ?_)
  · obtain ⟨l, rfl, _⟩ := h
    rfl
  · refine ⟨_, PSs.nox (pss_cons (ps_set (i := 1) sc_longer_ones.nd rfl (Or.inl rfl) pe_int)
  (pss_cons (ps_for PassesOwn.never rfl (pi_range1 rfl M.range (pa_cons (pv 0) pa_nil)) (pg_name (i := 2) sc_longer_ones.nd rfl (Or.inl rfl))
  (pss_one (ps_set (i := 1) sc_longer_ones.nd rfl (Or.inl rfl) (pe_op op_add (pe_op op_mul pe_int (pv 1)) pe_int))))
  (pss_one (ps_ret (pv 1))))), ?_⟩
    obtain ⟨k, rfl, hk, hQ⟩ := h
    refine ⟨.int k, rfl, (k : Int), rfl, by omega, by omega, ?_⟩
    refine for_it walk_range (fun i σ H' => H' = H ∧ ∃ v, σ = [some (.int k), some (.int (L i)), v]) ⟨rfl, none, rfl⟩ (fun _ _ _ _ _ => True.intro) ?_ ?_
    · rintro i x σ H' H'' hi ⟨rfl, v, rfl⟩ ⟨rfl, rfl⟩
      refine ⟨.int (L i), rfl, 26, (L i : Int), rfl, rfl, .inl ⟨by decide, by decide⟩, _, _, rfl, rfl, rfl, some (.int (0 + (i : Int))), ?_⟩
      have e1 : L (i + 1) = 26 * L i + 1 := rfl
      have e2 : (26 * (L i : Int) + 1) = ((L (i + 1) : Nat) : Int) := by omega
      rw [← e2]
      rfl
    · rintro σ H' ⟨rfl, v, rfl⟩
      exact ⟨_, rfl, hQ⟩
/-! ### rank_of -/
abbrev s_rank_of : Stmt := top 17
abbrev N_rank_of : List Str := ["name", "found", "at", "letter"]
theorem sc_rank_of : FnScope N_rank_of ["name"] (defScope s_rank_of) := ⟨rfl, rfl, rfl, by decide +kernel, rfl, by decide +kernel, by decide +kernel⟩
def spRank : Sp := fun vs H Q _ => ∃ l, vs = [.str (S l)] ∧ Nm l ∧ ∀ H', Same H H' → Q (.int ((R 8 l : Nat) - 1)) H'
theorem d_rank_of (M : MG mg) (S0 : St0 K mg "rank_of" s_rank_of ["name"]) (D_longer_ones : Df P w K mg base CX0 1 "longer_ones" s_longer_ones ["many"] spLonger) : Df P w K mg base CX0 2 "rank_of" s_rank_of ["name"] spRank := by
  refine S0.df sc_rank_of (fun vs H Q E h => ?_) (fun f cdv A outer s H vs Q E hr h => ?_)
  · obtain ⟨l, rfl, _⟩ := h
    rfl
  · refine ⟨_, PSs.nox (pss_cons (ps_set (i := 1) sc_rank_of.nd rfl (Or.inl rfl) (pe_op op_sub (pe_callB call_len (by rfl) M.len boot_len (pa_cons (pv 0) pa_nil)) pe_int))
  (pss_cons (ps_for PassesOwn.never rfl (pi_enumS rfl M.enumerate (pa_cons (pv 0) pa_nil)) (pg_tup rfl (pgs_cons (pg_name (i := 2) sc_rank_of.nd rfl (Or.inl rfl)) (pgs_cons (pg_name (i := 3) sc_rank_of.nd rfl (Or.inl rfl)) pgs_nil)))
  (pss_one (ps_set (i := 1) sc_rank_of.nd rfl (Or.inl rfl) (pe_op op_add (pv 1) (pe_op op_mul (pe_bmS PySem.F.plainAttrs_str PySem.F.slot_str_index PySem.F.type_str_index (mt_indexX rfl LamX.takes0) (pgc rfl M.LETTERS) (pa_cons (pv 3) pa_nil)) (pd D_longer_ones (hr.mono (by decide)) rfl (pa_cons (pe_op op_sub (pe_op op_sub (pgc rfl M.LONGEST) pe_int) (pv 2)) pa_nil)))))))
  (pss_one (ps_ret (pv 1))))), ?_⟩
    obtain ⟨l, rfl, hl, hQ⟩ := h
    refine ⟨.str (S l), rfl, .str (S l), _, rfl, ⟨small_len hl.len, rfl⟩, _, _, rfl, rfl, .str (S l), rfl, S l, rfl, ?_⟩
    refine for_it walk_enumS (fun i σ H' => Same H H' ∧ ∃ v v', σ = [some (.str (S l)), some (.int ((R 8 l : Int) - 1 - (R (8 - i) (l.drop i) : Int) + ((l.length : Int) - i))), v, v']) ⟨.refl H, none, none, ?_⟩ (fun _ _ _ _ _ => True.intro) ?_ ?_
    · show [some (V.str (S l)), some (V.int (((S l).length : Int) - 1)), none, none] = _
      rw [S_len, List.drop_zero]
      congr 3
      show V.int ((l.length : Int) - 1) = V.int ((R 8 l : Int) - 1 - (R 8 l : Int) + ((l.length : Int) - 0))
      congr 1
      omega
    · rintro i x σ H' H'' hi ⟨sm, v, v', rfl⟩ ⟨T, c, rfl, nT, rfl, hc⟩
      refine ⟨T, _, rfl, .inl (.inl upd_same), rfl, _, _, rfl, _, _, rfl, rfl, ?_⟩
      have hc' : l[i]? = some c := by simpa [S] using hc
      have hil : i < l.length := (List.getElem?_eq_some_iff.mp hc').1
      have hi8 : i < 8 := Nat.lt_of_lt_of_le hil hl.len
      have hcl : Let c := hl.let_ c (List.mem_of_getElem? hc')
      have ed : l.drop i = c :: l.drop (i + 1) := by
        rw [List.drop_eq_getElem_cons hil]
        congr 1
        exact (List.getElem?_eq_some_iff.mp hc').2
      have eR : R (8 - i) (l.drop i) = 1 + (c - 97) * L (7 - i) + R (8 - (i + 1)) (l.drop (i + 1)) := by
        rw [ed, show 8 - i = (7 - i) + 1 by omega, show 8 - (i + 1) = 7 - i by omega]
        rfl
      refine ⟨_, rfl, rfl, .str ⟨#[c]⟩, rfl, S abc, ⟨#[c]⟩, rfl, rfl, fun k hk => ?_, fun z => ?_⟩
      · rw [index_abc hcl] at hk
        cases hk
        refine ⟨_, _, rfl, rfl, .int (i : Nat), rfl, _, _, rfl, rfl, 7 - i, ?_, by omega, ?_⟩
        · show [V.int (8 - 1 - (i : Int))] = [V.int ((7 - i : Nat) : Int)]
          congr 2
          omega
        · refine ⟨_, _, rfl, rfl, .inl ⟨by omega, by unfold Let at hcl; omega⟩, _, _, rfl, rfl, sm.trans (.upd nT), some (.int (i : Nat)), some (.str ⟨#[c]⟩), ?_⟩
          have e5 : ((c - 97 : Nat) : Int) * ((L (7 - i) : Nat) : Int) = (((c - 97) * L (7 - i) : Nat) : Int) := by rw [Int.natCast_mul]
          have e4 : ((R 8 l : Int) - 1 - (R (8 - i) (l.drop i) : Int) + ((l.length : Int) - i)) + ((c - 97 : Nat) : Int) * ((L (7 - i) : Nat) : Int) = ((R 8 l : Int) - 1 - (R (8 - (i + 1)) (l.drop (i + 1)) : Int) + ((l.length : Int) - ((i + 1 : Nat) : Int))) := by
            rw [e5, eR]
            omega
          rw [← e4]
          rfl
      · rw [index_abc hcl] at z
        cases z
    · rintro σ H' ⟨sm, v, v', rfl⟩
      refine ⟨_, rfl, ?_⟩
      have e : ((R 8 l : Int) - 1 - (R (8 - (S l).cps.size) (l.drop (S l).cps.size) : Int) + ((l.length : Int) - ((S l).cps.size : Nat))) = (R 8 l : Int) - 1 := by
        have h1 : (S l).cps.size = l.length := by simp [S]
        rw [h1, List.drop_length, R_nil]
        omega
      rw [e]
      exact hQ _ sm
/-! ### free_in -/
abbrev s_free_in : Stmt := top 18
abbrev N_free_in : List Str := ["low", "high", "taken", "name"]
theorem sc_free_in : FnScope N_free_in ["low", "high", "taken"] (defScope s_free_in) := ⟨rfl, rfl, rfl, by decide +kernel, rfl, by decide +kernel, by decide +kernel⟩
/-- the names that are passed by, from l on; e is where the walk ends -/
inductive Walked : List Nat → List (List Nat) → Option (List Nat) → Prop where
  | stop (l : List Nat) : Walked l [] (some l)
  | out (l : List Nat) (h : nxt 8 l = none) : Walked l [l] none
  | step (l m : List Nat) (rs : List (List Nat)) (e : Option (List Nat)) (h : nxt 8 l = some m) (r : Walked m rs e) : Walked l (l :: rs) e
def nle (a b : List Nat) : Bool := !decide (b < a)
/-- the keys that a dict of names holds -/
def keysD (ks : List (List Nat)) (kvs : List (Key × V)) : Prop := ∀ l : List Nat, (valV kvs (Sum.inr (S l))).isSome = decide (l ∈ ks)
def spFreeIn : Sp := fun vs H Q _ => ∃ (l h : List Nat) (d : Addr) (ks : List (List Nat)) (kvs : List (Key × V)) (rs : List (List Nat)) (e : Option (List Nat)), vs = [.str (S l), .str (S h), .ref d] ∧ Nm l ∧ H d = some (.dK kvs) ∧ keysD ks kvs ∧ Walked l rs e ∧
  (∀ r ∈ rs, nle r h = true ∧ r ∈ ks) ∧ (∀ r, e = some r → nle r h = true → r ∉ ks) ∧ Q (nv (e.bind fun r => if nle r h = true then some r else none)) H
theorem d_free_in (M : MG mg) (S0 : St0 K mg "free_in" s_free_in ["low", "high", "taken"]) (D_next_after : Df P w K mg base CX0 1 "next_after" s_next_after ["name"] spNext) : Df P w K mg base CX0 2 "free_in" s_free_in ["low", "high", "taken"] spFreeIn := by
  refine S0.df sc_free_in (fun vs H Q E h => ?_) (fun f cdv A outer s H vs Q E hr h => ?_)
  · obtain ⟨l, h, d, ks, kvs, rs, e, rfl, _⟩ := h
    rfl
  · refine ⟨_, PSs.nox (pss_cons (ps_set (i := 3) sc_free_in.nd rfl (Or.inl rfl) (pv 0))
  (pss_cons (ps_while PassesOwn.never (PW.pt (pw_and (pt_cmpR op_notN (pv 3) pe_non (nomark _)) (pw_and (pt_cmpR op_le_str (pv 3) (pv 1) (nomark _)) (pw_and1 (pt_cmp (pc_din (hu_of hr) (pv 3) (pv 2))))))) (pss_one (ps_set (i := 3) sc_free_in.nd rfl (Or.inl rfl) (pd D_next_after (hr.mono (by decide)) rfl (pa_cons (pv 3) pa_nil)))))
  (pss_one (ps_ret (pe_ifExp (PW.pt (pw_and (pt_cmpR op_notN (pv 3) pe_non (nomark _)) (pw_and1 (pt_cmpR op_le_str (pv 3) (pv 1) (nomark _))))) (pv 3) pe_non))))), ?_⟩
    obtain ⟨l, h, d, ks, kvs, rs, e, rfl, hl, hd, hk, hw, hrs, he, hQ⟩ := h
    refine ⟨_, rfl, ?_⟩
    refine ⟨fun m σ H' => H' = H ∧ ((∃ l' rs', σ = [some (.str (S l)), some (.str (S h)), some (.ref d), some (.str (S l'))] ∧ Nm l' ∧ Walked l' rs' e ∧ (∀ r ∈ rs', nle r h = true ∧ r ∈ ks) ∧ m = rs'.length + 1) ∨
      (σ = [some (.str (S l)), some (.str (S h)), some (.ref d), some .non] ∧ e = none ∧ m = 0)), ⟨rs.length + 1, rfl, .inl ⟨l, rs, rfl, hl, hw, hrs, rfl⟩⟩, ?_⟩
    rintro m σ H' ⟨rfl, ⟨l', rs', rfl, hl', hw', hrs', rfl⟩ | ⟨rfl, rfl, rfl⟩⟩
    · have g1 : (!decide (V.str (S l') = V.non)) = true := rfl
      refine ⟨_, rfl, rfl, _, rfl, iteT ⟨_, rfl, _, rfl, S l', S h, rfl, rfl, _, rfl, ?_⟩⟩
      show if nle l' h = true then _ else _
      refine ite2 (fun h1 => ?_) (fun h1 => ?_)
      · refine ⟨_, rfl, _, rfl, d, _, rfl, DGet.k (k := Sum.inr (S l')) hd, _, rfl, ?_⟩
        rw [hk l']
        refine ite2 (fun h2 => ?_) (fun h2 => ?_)
        · have hin : l' ∈ ks := of_decide_eq_true h2
          have nx : ∀ v, (v = nv (nxt 8 l') → ∃ m', m' < rs'.length + 1 ∧ H' = H' ∧ ((∃ l'' rs'', [some (V.str (S l)), some (.str (S h)), some (.ref d), some v] = [some (V.str (S l)), some (.str (S h)), some (.ref d), some (.str (S l''))] ∧ Nm l'' ∧ Walked l'' rs'' e ∧ (∀ r ∈ rs'', nle r h = true ∧ r ∈ ks) ∧ m' = rs''.length + 1) ∨
              ([some (V.str (S l)), some (.str (S h)), some (.ref d), some v] = [some (V.str (S l)), some (.str (S h)), some (.ref d), some .non] ∧ e = none ∧ m' = 0))) := fun v hv => by
            have sp := nxt_spec 8 l' hl'.len hl'.let_
            cases hw' with
            | stop l => exact absurd hin (he _ rfl h1)
            | out l hn =>
              rw [hn] at hv
              subst hv
              exact ⟨0, by simp, rfl, .inr ⟨rfl, rfl, rfl⟩⟩
            | step l m rs e hn r =>
              rw [hn] at hv
              subst hv
              obtain ⟨b1, b2, b3, _⟩ := sp.1 m hn
              exact ⟨rs.length + 1, by simp, rfl, .inl ⟨m, rs, rfl, ⟨List.length_pos_iff.mpr b1, b2, b3⟩, r, fun q hq => hrs' q (List.mem_cons_of_mem _ hq), rfl⟩⟩
          refine ⟨fun σ' H'' => H'' = H' ∧ σ' = [some (V.str (S l)), some (.str (S h)), some (.ref d), some (nv (nxt 8 l'))], ?_, _, rfl, l', rfl, hl', rfl, rfl⟩
          rintro σ' H'' ⟨rfl, rfl⟩
          exact nx _ rfl
        · have hin : l' ∉ ks := fun z => h2 (decide_eq_true z)
          have ee : e = some l' := by
            cases hw' with
            | stop l => rfl
            | out l hn => exact absurd (hrs' _ List.mem_cons_self).2 hin
            | step l m rs e hn r => exact absurd (hrs' _ List.mem_cons_self).2 hin
          refine ⟨_, rfl, rfl, _, rfl, iteT ⟨_, rfl, _, rfl, S l', S h, rfl, rfl, _, rfl, ?_⟩⟩
          show if nle l' h = true then _ else _
          rw [if_pos h1]
          refine ⟨_, rfl, ?_⟩
          rw [ee] at hQ
          simpa [h1, nv] using hQ
      · have ee : e = some l' := by
          cases hw' with
          | stop l => rfl
          | out l hn => exact absurd (hrs' _ List.mem_cons_self).1 h1
          | step l m rs e hn r => exact absurd (hrs' _ List.mem_cons_self).1 h1
        refine iteF ?_
        refine ⟨_, rfl, rfl, _, rfl, iteT ⟨_, rfl, _, rfl, S l', S h, rfl, rfl, _, rfl, ?_⟩⟩
        show if nle l' h = true then _ else _
        rw [if_neg h1]
        rw [ee] at hQ
        show Q .non H'
        simpa [h1, nv] using hQ
    · refine ⟨_, rfl, rfl, _, rfl, iteF (iteF ?_)⟩
      exact ⟨_, rfl, rfl, _, rfl, iteF hQ⟩
end
end K92
set_option Elab.async false
set_option linter.all false
set_option maxRecDepth 100000
set_option maxHeartbeats 4000000
namespace K92
open PySem PySem.Spec PyProof.Rows L2 Nam PlugX
theorem fo_part : FOk "part" := ⟨by decide +kernel, by decide +kernel, by decide +kernel, by decide +kernel, fun _ _ _ _ _ _ _ _ _ _ _ => rfl⟩
/-- BadValue told of a part -/
def BadP (C : Addr) (E : XK) (H : Hp) (part : Str) : Prop := ∀ H' d, Same H H' → H' d = some (.xd [("part", .str part)]) → E (.ref C) (some d) H'
theorem isNm_name {v : V} (h : isNm v = true) : ∃ l, v = .str (S l) ∧ Nm l := by
  cases v with
  | str x =>
    simp only [isNm, Bool.and_eq_true, decide_eq_true_eq, List.all_eq_true] at h
    obtain ⟨h1, h2, h3⟩ := h
    refine ⟨x.cps.toList, by rw [← S_of], ⟨?_, ?_, h3⟩⟩
    · simpa [Str.length] using h1
    · simpa [Str.length] using h2
  | _ => cases h
theorem nm_isNm {l : List Nat} (h : Nm l) : isNm (.str (S l)) = true := by
  simp only [isNm, Bool.and_eq_true, decide_eq_true_eq, List.all_eq_true]
  exact ⟨by rw [S_len]; exact h.pos, by rw [S_len]; exact h.len, fun c hc => h.let_ c hc⟩
abbrev s_next_name : Stmt := top 19
abbrev N_next_name : List Str := ["name"]
theorem sc_next_name : FnScope N_next_name ["name"] (defScope s_next_name) := ⟨rfl, rfl, rfl, by decide +kernel, rfl, by decide +kernel, by decide +kernel⟩
def spNextName (K : PySem.W.Frag) (C : Addr) : Sp := fun vs H Q E => ∃ v t, vs = [v] ∧ Ty K H v t ∧ (∀ l, v = .str (S l) → Nm l → ∀ H', Same H H' → Q (nv (nxt 8 l)) H') ∧ (isNm v = false → BadP C E H "name")
section
variable {P : Program} {w : World} {K : PySem.W.Frag} {mg : Str → Option Value} {base : Heap} {C fI cda cc : Addr}
theorem d_next_name (M : MG mg) (S0 : St0 K mg "next_name" s_next_name ["name"]) (T_BadValue : ExT P K mg "BadValue" "part" C fI cda cc) (D_is_name : Df P w K mg base CX0 1 "is_name" s_is_name ["value"] (spName K)) (D_next_after : Df P w K mg base CX0 1 "next_after" s_next_after ["name"] spNext) :
    Df P w K mg base (L2.CX P w) 3 "next_name" s_next_name ["name"] (spNextName K C) := by
  refine S0.df sc_next_name (fun vs H Q E h => ?_) (fun f cdv A outer s H vs Q E hr h => ?_)
  · obtain ⟨v, t, rfl, _⟩ := h
    rfl
  · refine ⟨_, (pss_cons (ps_if (pt_not (pt_val (pd D_is_name (hr.mono (by decide)) rfl (pa_cons (pv 0) pa_nil)))) (pss_one (ps_raisePlug rfl T_BadValue fo_part hr (takes_of rfl rfl rfl rfl) (pa_cons pe_str pa_nil) rfl (by decide))) pss_nil)
  (pss_one (ps_ret (pd D_next_after (hr.mono (by decide)) rfl (pa_cons (pv 0) pa_nil))))), ?_⟩
    obtain ⟨v, t, rfl, hT, hy, hn⟩ := h
    refine ⟨_, rfl, v, t, rfl, hT, fun H1 s1 => ⟨_, rfl, ?_⟩⟩
    cases q : isNm v with
    | true =>
      obtain ⟨l, rfl, hl⟩ := isNm_name q
      exact iteF ⟨_, rfl, l, rfl, hl, hy l rfl hl H1 s1⟩
    | false =>
      refine iteT ⟨_, rfl, fun d new => ?_⟩
      exact hn q _ d (s1.trans (.upd new)) upd_same
/-! ### names_between -/
abbrev s_names_between : Stmt := top 21
abbrev N_names_between : List Str := ["low", "high"]
theorem sc_names_between : FnScope N_names_between ["low", "high"] (defScope s_names_between) := ⟨rfl, rfl, rfl, by decide +kernel, rfl, by decide +kernel, by decide +kernel⟩
def btw (l h : List Nat) : Int := if (R 8 h : Int) - R 8 l + 1 > 0 then (R 8 h : Int) - R 8 l + 1 else 0
def spBetween (K : PySem.W.Frag) (C : Addr) : Sp := fun vs H Q E => ∃ v t u r, vs = [v, u] ∧ Ty K H v t ∧ Ty K H u r ∧ (∀ l m, v = .str (S l) → u = .str (S m) → Nm l → Nm m → ∀ H', Same H H' → Q (.int (btw l m)) H') ∧ (isNm v = false → BadP C E H "low") ∧ (isNm v = true → isNm u = false → BadP C E H "high")
theorem d_names_between (M : MG mg) (S0 : St0 K mg "names_between" s_names_between ["low", "high"]) (T_BadValue : ExT P K mg "BadValue" "part" C fI cda cc) (D_is_name : Df P w K mg base CX0 1 "is_name" s_is_name ["value"] (spName K)) (D_rank_of : Df P w K mg base CX0 2 "rank_of" s_rank_of ["name"] spRank) :
    Df P w K mg base (L2.CX P w) 3 "names_between" s_names_between ["low", "high"] (spBetween K C) := by
  refine S0.df sc_names_between (fun vs H Q E h => ?_) (fun f cdv A outer s H vs Q E hr h => ?_)
  · obtain ⟨v, t, u, r, rfl, _⟩ := h
    rfl
  · refine ⟨_, (pss_cons (ps_if (pt_not (pt_val (pd D_is_name (hr.mono (by decide)) rfl (pa_cons (pv 0) pa_nil)))) (pss_one (ps_raisePlug rfl T_BadValue fo_part hr (takes_of rfl rfl rfl rfl) (pa_cons pe_str pa_nil) rfl (by decide))) pss_nil)
  (pss_cons (ps_if (pt_not (pt_val (pd D_is_name (hr.mono (by decide)) rfl (pa_cons (pv 1) pa_nil)))) (pss_one (ps_raisePlug rfl T_BadValue fo_part hr (takes_of rfl rfl rfl rfl) (pa_cons pe_str pa_nil) rfl (by decide))) pss_nil)
  (pss_one (ps_ret (pe_callB (call_max2 rfl) (by rfl) M.max (by decide +kernel) (pa_cons pe_int (pa_cons (pe_op op_add (pe_op op_sub (pd D_rank_of (hr.mono (by decide)) rfl (pa_cons (pv 1) pa_nil)) (pd D_rank_of (hr.mono (by decide)) rfl (pa_cons (pv 0) pa_nil))) pe_int) pa_nil))))))), ?_⟩
    obtain ⟨v, t, u, r, rfl, hT, hU, hy, hn, hm⟩ := h
    refine ⟨_, rfl, v, t, rfl, hT, fun H1 s1 => ⟨_, rfl, ?_⟩⟩
    cases q : isNm v with
    | false => exact iteT ⟨_, rfl, fun d new => hn q _ d (s1.trans (.upd new)) upd_same⟩
    | true =>
      refine iteF ⟨_, rfl, u, r, rfl, hU.same s1, fun H2 s2 => ⟨_, rfl, ?_⟩⟩
      have s12 := s1.trans s2
      cases q2 : isNm u with
      | false => exact iteT ⟨_, rfl, fun d new => hm q q2 _ d (s12.trans (.upd new)) upd_same⟩
      | true =>
        obtain ⟨l, rfl, hl⟩ := isNm_name q
        obtain ⟨m, rfl, hm'⟩ := isNm_name q2
        refine iteF ⟨_, rfl, m, rfl, hm', fun H3 s3 => ⟨_, rfl, l, rfl, hl, fun H4 s4 => ⟨_, _, rfl, rfl, _, _, rfl, rfl, _, _, rfl, ?_⟩⟩⟩
        have e : (if ((R 8 m : Int) - 1 - ((R 8 l : Int) - 1) + 1) > 0 then ((R 8 m : Int) - 1 - ((R 8 l : Int) - 1) + 1) else 0) = btw l m := by
          unfold btw
          have : ((R 8 m : Int) - 1 - ((R 8 l : Int) - 1) + 1) = (R 8 m : Int) - R 8 l + 1 := by omega
          rw [this]
        show Q (.int (if ((R 8 m : Int) - 1 - ((R 8 l : Int) - 1) + 1) > 0 then ((R 8 m : Int) - 1 - ((R 8 l : Int) - 1) + 1) else 0)) H4
        rw [e]
        exact hy l m rfl rfl hl hm' H4 (s12.trans (s3.trans s4))
/-! ### free_name -/
abbrev s_free_name : Stmt := top 20
abbrev N_free_name : List Str := ["low", "high", "taken", "name"]
theorem sc_free_name : FnScope N_free_name ["low", "high", "taken"] (defScope s_free_name) := ⟨rfl, rfl, rfl, by decide +kernel, rfl, by decide +kernel, by decide +kernel⟩
def spFree (K : PySem.W.Frag) (C : Addr) : Sp := fun vs H Q E => ∃ v t u r x y, vs = [v, u, x] ∧ Ty K H v t ∧ Ty K H u r ∧ Ty K H x y ∧ (isNm v = false → BadP C E H "low") ∧ (isNm v = true → isNm u = false → BadP C E H "high") ∧
  (isNm v = true → isNm u = true → (listedT y = false ∧ BadP C E H "taken") ∨ (listedT y = true ∧ ∃ a xs, x = .ref a ∧ (SqL K H a xs ∨ SqT K H a xs) ∧ xs.length ≤ 1000 ∧ (∀ z ∈ xs, ∃ tz, Ty K H z tz) ∧ (xs.all isNm = false → BadP C E H "taken") ∧
    (xs.all isNm = true → ∃ l h rs e, ∃ ks : List (List Nat), v = .str (S l) ∧ u = .str (S h) ∧ xs = (ks.map fun k => V.str (S k)) ∧ Walked l rs e ∧ (∀ r ∈ rs, nle r h = true ∧ r ∈ ks) ∧ (∀ r, e = some r → nle r h = true → r ∉ ks) ∧
      ∀ H', Same H H' → Q (nv (e.bind fun r => if nle r h = true then some r else none)) H')))
theorem keysD_fold (v : V) (l : List Nat) : ∀ (ks : List (List Nat)) (kvs : List (Key × V)), (valV ((ks.map fun k => ((Sum.inr (S k) : Key), v)).foldl (fun kvs p => putK kvs p.1 p.2) kvs) (Sum.inr (S l))).isSome = (decide (l ∈ ks) || (valV kvs (Sum.inr (S l))).isSome)
  | [], kvs => by simp
  | k :: ks, kvs => by
    rw [List.map_cons, List.foldl_cons, keysD_fold v l ks, valV_put]
    by_cases e : l = k
    · subst e
      simp
    · have e2 : ¬ (Sum.inr (S l) : Key) = Sum.inr (S k) := fun z => e (S_inj (Sum.inr.inj z))
      rw [if_neg e2]
      simp [e]
theorem d_free_name (M : MG mg) (S0 : St0 K mg "free_name" s_free_name ["low", "high", "taken"]) (T_BadValue : ExT P K mg "BadValue" "part" C fI cda cc) (D_is_name : Df P w K mg base CX0 1 "is_name" s_is_name ["value"] (spName K)) (D_is_listed : Df P w K mg base CX0 1 "is_listed" s_is_listed ["value"] (spListed K)) (D_free_in : Df P w K mg base CX0 2 "free_in" s_free_in ["low", "high", "taken"] spFreeIn) :
    Df P w K mg base (L2.CX P w) 3 "free_name" s_free_name ["low", "high", "taken"] (spFree K C) := by
  refine S0.df sc_free_name (fun vs H Q E h => ?_) (fun f cdv A outer s H vs Q E hr h => ?_)
  · obtain ⟨v, t, u, r, x, y, rfl, _⟩ := h
    rfl
  · refine ⟨_, (pss_cons (ps_if (pt_not (pt_val (pd D_is_name (hr.mono (by decide)) rfl (pa_cons (pv 0) pa_nil)))) (pss_one (ps_raisePlug rfl T_BadValue fo_part hr (takes_of rfl rfl rfl rfl) (pa_cons pe_str pa_nil) rfl (by decide))) pss_nil)
  (pss_cons (ps_if (pt_not (pt_val (pd D_is_name (hr.mono (by decide)) rfl (pa_cons (pv 1) pa_nil)))) (pss_one (ps_raisePlug rfl T_BadValue fo_part hr (takes_of rfl rfl rfl rfl) (pa_cons pe_str pa_nil) rfl (by decide))) pss_nil)
  (pss_cons (ps_if (PW.pt (pw_or (pt_not (pt_val (pd D_is_listed (hr.mono (by decide)) rfl (pa_cons (pv 2) pa_nil)))) (pw_or1 (pt_not (pt_val (pe_callB (cr_all rfl) (by rfl) M.all (by decide +kernel) (pa_cons (pe_lc (own := [("name", 3)]) rfl sc_free_name.nd (pi_seq (pv 2)) (blkOk_by (own := [("name", 3)]) (N := N_free_name) (sc := defScope s_free_name) (by decide +kernel)) (fun _ _ _ _ _ => (pg_name (i := 3) sc_free_name.nd rfl (Or.inl rfl))) (fun _ _ _ _ _ => pts_nil) (fun _ _ _ _ _ => (pd D_is_name (hr.mono (by decide)) rfl (pa_cons (pv 3) pa_nil)))) pa_nil))))))) (pss_one (ps_raisePlug rfl T_BadValue fo_part hr (takes_of rfl rfl rfl rfl) (pa_cons pe_str pa_nil) rfl (by decide))) pss_nil)
  (pss_one (ps_ret (pd D_free_in (hr.mono (by decide)) rfl (pa_cons (pv 0) (pa_cons (pv 1) (pa_cons (pe_dc (own := [("name", 3)]) rfl sc_free_name.nd (pi_seq (pv 2)) (blkOk_by (own := [("name", 3)]) (N := N_free_name) (sc := defScope s_free_name) (by decide +kernel)) (fun _ _ _ _ _ => (pg_name (i := 3) sc_free_name.nd rfl (Or.inl rfl))) (fun _ _ _ _ _ => pts_nil) (fun _ _ _ _ _ => (pv 3)) (fun _ _ _ _ _ => pe_bl)) pa_nil))))))))), ?_⟩
    obtain ⟨v, t, u, r, x, y, rfl, hT, hU, hX, hn, hm, hx⟩ := h
    refine ⟨_, rfl, v, t, rfl, hT, fun H1 s1 => ⟨_, rfl, ?_⟩⟩
    cases q : isNm v with
    | false => exact iteT ⟨_, rfl, fun d new => hn q _ d (s1.trans (.upd new)) upd_same⟩
    | true =>
      refine iteF ⟨_, rfl, u, r, rfl, hU.same s1, fun H2 s2 => ⟨_, rfl, ?_⟩⟩
      have s12 := s1.trans s2
      cases q2 : isNm u with
      | false => exact iteT ⟨_, rfl, fun d new => hm q q2 _ d (s12.trans (.upd new)) upd_same⟩
      | true =>
        refine iteF ⟨_, rfl, x, y, rfl, hX.same s12, fun H3 s3 => ⟨_, rfl, ?_⟩⟩
        have s13 := s12.trans s3
        rcases hx q q2 with ⟨e, hB⟩ | ⟨e, a, xs, rfl, hS, hlen, hty, hB, hy⟩
        · rw [e]
          exact iteT (iteT ⟨_, rfl, fun d new => hB _ d (s13.trans (.upd new)) upd_same⟩)
        · rw [e]
          refine iteF ⟨_, rfl, a, xs, rfl, s13.sq hS, fun J G wk hG D hD => ?_⟩
          refine lc_same wk rfl (fun z => some (.bl (isNm z))) hD (Nat.lt_of_le_of_lt hlen (by decide)) hG (fun z hz H4 acc s4 hl4 hz4 Nx n1 n2 => ?_) (fun H4 s4 hl4 => ?_)
          · obtain ⟨tz, hTz⟩ := hty z hz
            refine ⟨rfl, _, rfl, z, tz, rfl, hTz.same (s13.trans s4), fun H5 s5 => ?_⟩
            exact ⟨acc, s5 _ _ hl4, hz4, n1 H5 _ s5 rfl⟩
          · have s14 := s13.trans s4
            refine ⟨D, xs.map isNm, rfl, .inl (.inl ?_), _, rfl, ?_⟩
            · rw [hl4]
              simp [List.filterMap_eq_map]
            · have ea : (xs.map isNm).all id = xs.all isNm := by simp [List.all_map, Function.comp_def]
              rw [ea]
              cases q3 : xs.all isNm with
              | false => exact iteT ⟨_, rfl, fun d new => hB q3 _ d (s14.trans (.upd new)) upd_same⟩
              | true =>
                obtain ⟨l, h, rs, e, ks, rfl, rfl, rfl, hw, hrs, he, hQ⟩ := hy q3
                refine iteF ⟨_, rfl, _, rfl, _, rfl, a, _, rfl, s14.sq hS, fun J G wk hG D2 hD2 => ?_⟩
                refine dc_same wk rfl (fun z => match z with | .str y => some (Sum.inr y, .bl true) | _ => none) hD2 (Nat.lt_of_le_of_lt hlen (by decide)) hG (fun z hz H5 kvs s5 hl5 hz5 Nx n1 n2 => ?_) (fun H5 s5 hl5 => ?_)
                · obtain ⟨kz, hk, rfl⟩ := List.mem_map.mp hz
                  exact ⟨rfl, _, rfl, kvs, Sum.inr (S kz), rfl, hl5, hz5, n1 H5 _ _ (Same.refl H5) rfl⟩
                · have ef : (ks.map fun k => V.str (S k)).filterMap (fun z => match z with | .str y => some ((Sum.inr y : Key), V.bl true) | _ => none) = ks.map fun k => ((Sum.inr (S k) : Key), V.bl true) := by
                    rw [List.filterMap_map]
                    simp [Function.comp_def, List.filterMap_eq_map]
                  rw [ef] at hl5
                  obtain ⟨l', hl', hnl⟩ := isNm_name q
                  have el : l = l' := S_inj (V.str.inj hl')
                  subst el
                  refine ⟨l, h, D2, ks, _, rs, e, rfl, hnl, hl5, fun m => ?_, hw, hrs, he, hQ H5 (s14.trans s5)⟩
                  rw [keysD_fold]
                  simp [valV_nil]
end
end K92
set_option Elab.async false
set_option linter.all false
set_option maxHeartbeats 4000000
/-! # Rows of names that follow one another. -/
namespace Nam
theorem Nm.rlt {l : List Nat} (h : Nm l) : R 8 l < L 8 := R_lt_L 8 l h.len h.let_
theorem Nm.next {l m : List Nat} (h : Nm l) (e : nxt 8 l = some m) : Nm m ∧ R 8 m = R 8 l + 1 := by
  obtain ⟨b1, b2, b3, b4⟩ := (nxt_spec 8 l h.len h.let_).1 m e
  exact ⟨⟨List.length_pos_iff.mpr b1, b2, b3⟩, b4⟩
theorem nm_lt {l m : List Nat} (h : Nm l) (k : Nm m) : l < m ↔ R 8 l < R 8 m := R_iff h.len k.len h.let_ k.let_
/-- the names l .. z, each right behind the one before -/
inductive RowC : List Nat → List (List Nat) → List Nat → Prop where
  | one (l : List Nat) : RowC l [l] l
  | cons {l m z : List Nat} {rs : List (List Nat)} (h : nxt 8 l = some m) (r : RowC m rs z) : RowC l (l :: rs) z
theorem RowC.snoc {l z m : List Nat} {rs : List (List Nat)} (r : RowC l rs z) (h : nxt 8 z = some m) : RowC l (rs ++ [m]) m := by
  induction r with
  | one l => exact .cons h (.one m)
  | cons h' r ih => exact .cons h' (ih h)
theorem RowC.last {l z : List Nat} {rs : List (List Nat)} (r : RowC l rs z) : ∃ qs, rs = qs ++ [z] := by
  induction r with
  | one l => exact ⟨[], rfl⟩
  | cons h r ih =>
    obtain ⟨qs, e⟩ := ih
    exact ⟨_ :: qs, by rw [e]; rfl⟩
theorem RowC.head {l z : List Nat} {rs : List (List Nat)} (r : RowC l rs z) : ∃ qs, rs = l :: qs := by
  cases r with
  | one l => exact ⟨[], rfl⟩
  | cons h r => exact ⟨_, rfl⟩
theorem RowC.nm {l z : List Nat} {rs : List (List Nat)} (r : RowC l rs z) (h : Nm l) : ∀ x ∈ rs, Nm x := by
  induction r with
  | one l =>
    intro x hx
    rw [List.mem_singleton.mp hx]
    exact h
  | cons h' r ih =>
    intro x hx
    rcases List.mem_cons.mp hx with e | e
    · rw [e]; exact h
    · exact ih (h.next h').1 x e
theorem RowC.rank {l z : List Nat} {rs : List (List Nat)} (r : RowC l rs z) (h : Nm l) : R 8 z + 1 = R 8 l + rs.length ∧ Nm z ∧ ∀ x ∈ rs, R 8 l ≤ R 8 x ∧ R 8 x ≤ R 8 z := by
  induction r with
  | one l =>
    refine ⟨rfl, h, fun x hx => ?_⟩
    rw [List.mem_singleton.mp hx]
    exact ⟨Nat.le_refl _, Nat.le_refl _⟩
  | cons h' r ih =>
    obtain ⟨n1, e1⟩ := h.next h'
    obtain ⟨a, b, c⟩ := ih n1
    refine ⟨by rw [List.length_cons]; omega, b, fun x hx => ?_⟩
    rcases List.mem_cons.mp hx with e | e
    · rw [e]
      have hl : 0 < R 8 z + 1 := by omega
      have := r.head
      obtain ⟨qs, eq⟩ := this
      rw [eq, List.length_cons] at a
      omega
    · have := c x e
      omega
end Nam
set_option Elab.async false
set_option linter.all false
set_option maxHeartbeats 4000000
namespace K92
open PySem L2 Nam
theorem nle_iff {a b : List Nat} (ha : Nm a) (hb : Nm b) : nle a b = decide (R 8 a ≤ R 8 b) := by
  unfold nle
  rw [Bool.eq_iff_iff]
  simp only [Bool.not_eq_true', decide_eq_false_iff_not, decide_eq_true_eq]
  rw [nm_lt hb ha]
  omega
/-- the walk of free_in along a row that ends at h -/
theorem row_walk {l z h : List Nat} {rs : List (List Nat)} (r : RowC l rs z) (hl : Nm l) (ks : List (List Nat)) (hle : ∀ x ∈ rs, nle x h = true) (hout : ∀ m, nxt 8 z = some m → nle m h = false) :
    ∃ ps e, Walked l ps e ∧ (∀ x ∈ ps, nle x h = true ∧ x ∈ ks) ∧ (∀ x, e = some x → nle x h = true → x ∉ ks) ∧ (e.bind fun x => if nle x h = true then some x else none) = rs.find? fun x => decide (x ∉ ks) := by
  induction r with
  | one l =>
    by_cases hk : l ∈ ks
    · have ef : [l].find? (fun x => decide (x ∉ ks)) = none := by simp [hk]
      cases q : nxt 8 l with
      | none => exact ⟨[l], none, .out l q, fun x hx => by rw [List.mem_singleton.mp hx]; exact ⟨hle l List.mem_cons_self, hk⟩, fun x e => (nomatch e), ef.symm⟩
      | some m =>
        refine ⟨[l], some m, .step l m [] (some m) q (.stop m), fun x hx => by rw [List.mem_singleton.mp hx]; exact ⟨hle l List.mem_cons_self, hk⟩, fun x e hx => ?_, ?_⟩
        · rw [← Option.some.inj e, hout m q] at hx
          cases hx
        · rw [ef]
          simp [hout m q]
    · refine ⟨[], some l, .stop l, fun x hx => (nomatch hx), fun x e _ => by rw [← Option.some.inj e]; exact hk, ?_⟩
      simp [hk, hle l List.mem_cons_self]
  | cons h' r ih =>
    rename_i l m z rs
    by_cases hk : l ∈ ks
    · obtain ⟨ps, e, w, a, b, c⟩ := ih (hl.next h').1 (fun x hx => hle x (List.mem_cons_of_mem _ hx)) hout
      refine ⟨l :: ps, e, .step l m ps e h' w, fun x hx => ?_, b, ?_⟩
      · rcases List.mem_cons.mp hx with q | q
        · rw [q]; exact ⟨hle l List.mem_cons_self, hk⟩
        · exact a x q
      · rw [c]
        simp [hk]
    · refine ⟨[], some l, .stop l, fun x hx => (nomatch hx), fun x e _ => by rw [← Option.some.inj e]; exact hk, ?_⟩
      simp [hk, hle l List.mem_cons_self]
abbrev sv (k : List Nat) : V := .str (S k)
theorem sv_inj {a b : List Nat} (h : sv a = sv b) : a = b := S_inj (V.str.inj h)
theorem perm_names {ys : List V} {as : List (List Nat)} (h : ys.Perm (as.map sv)) : ∃ ks : List (List Nat), ys = ks.map sv ∧ ∀ k, k ∈ ks ↔ k ∈ as := by
  have f : ∀ y ∈ ys, ∃ k, y = sv k := fun y hy => by
    obtain ⟨k, _, e⟩ := List.mem_map.mp (h.subset hy)
    exact ⟨k, e.symm⟩
  have g : ∀ zs : List V, (∀ y ∈ zs, ∃ k, y = sv k) → ∃ ks : List (List Nat), zs = ks.map sv := fun zs => by
    induction zs with
    | nil => exact fun _ => ⟨[], rfl⟩
    | cons z zs ih =>
      intro hz
      obtain ⟨k, e⟩ := hz z List.mem_cons_self
      obtain ⟨ks, e2⟩ := ih fun y hy => hz y (List.mem_cons_of_mem _ hy)
      exact ⟨k :: ks, by rw [e, e2]; rfl⟩
  obtain ⟨ks, e⟩ := g ys f
  refine ⟨ks, e, fun k => ?_⟩
  have q : sv k ∈ ys ↔ sv k ∈ as.map sv := h.mem_iff
  rw [e] at q
  have inj : ∀ bs : List (List Nat), sv k ∈ bs.map sv ↔ k ∈ bs := fun bs => by
    constructor
    · intro hb
      obtain ⟨k', h1, h2⟩ := List.mem_map.mp hb
      rw [← sv_inj h2]
      exact h1
    · intro hb
      exact List.mem_map.mpr ⟨k, hb, rfl⟩
  rw [inj, inj] at q
  exact q
end K92
set_option Elab.async false
set_option linter.all false
set_option maxRecDepth 100000
set_option maxHeartbeats 4000000
namespace K92
open PySem PySem.Spec PyProof.Rows L2 Nam PlugX
/-! ### the pen -/
/-- the pen at p: the script's numbers, fewer than n laps, what is left of a great one -/
def PenAt (H : Hp) (p c : Addr) (n : Nat) : Prop := ∃ (ns : List Int) (lap rest : Int), c ≠ p ∧ H p = some (.lst [.ref c, .int lap, .int rest]) ∧ H c = some (.lst (ns.map V.int)) ∧ 0 ≤ lap ∧ lap ≤ n ∧ 0 ≤ rest
theorem PenAt.mono {H : Hp} {p c : Addr} {n m : Nat} (h : PenAt H p c n) (k : n ≤ m) : PenAt H p c m := by
  obtain ⟨ns, lap, rest, h1, h2, h3, h4, h5, h6⟩ := h
  exact ⟨ns, lap, rest, h1, h2, h3, h4, by omega, h6⟩
theorem PenAt.same {H H' : Hp} {p c : Addr} {n : Nat} (h : PenAt H p c n) (s : Same H H') : PenAt H' p c n := by
  obtain ⟨ns, lap, rest, h1, h2, h3, h4, h5, h6⟩ := h
  exact ⟨ns, lap, rest, h1, s _ _ h2, s _ _ h3, h4, h5, h6⟩
theorem PenAt.hp {H : Hp} {p c : Addr} {n : Nat} (h : PenAt H p c n) {q : Addr} (z : H q = none) : q ≠ p ∧ q ≠ c := by
  obtain ⟨ns, lap, rest, h1, h2, h3, _⟩ := h
  exact ⟨fun e => (by rw [e, h2] at z; cases z), fun e => (by rw [e, h3] at z; cases z)⟩
theorem PenAt.upd {H : Hp} {p c : Addr} {n : Nat} (h : PenAt H p c n) {q : Addr} {o : HO} (z : q ≠ p) (z' : q ≠ c) : PenAt (L2.upd H q o) p c n := by
  obtain ⟨ns, lap, rest, h1, h2, h3, h4⟩ := h
  exact ⟨ns, lap, rest, h1, by rw [upd_ne (Ne.symm z)]; exact h2, by rw [upd_ne (Ne.symm z')]; exact h3, h4⟩
abbrev s_law_pen : Stmt := top 23
abbrev N_law_pen : List Str := ["script"]
theorem sc_law_pen : FnScope N_law_pen ["script"] (defScope s_law_pen) := ⟨rfl, rfl, rfl, by decide +kernel, rfl, by decide +kernel, by decide +kernel⟩
def spPen (K : PySem.W.Frag) : Sp := fun vs H Q _ => ∃ (a : Addr) (ns : List Int), vs = [.ref a] ∧ SqL K H a (ns.map V.int) ∧ ns.length ≤ 1000 ∧ ∀ H' p c, Same H H' → H p = none → H c = none → PenAt H' p c 0 → Q (.ref p) H'
abbrev s_law_draw : Stmt := top 24
abbrev N_law_draw : List Str := ["pen", "many", "digit", "lap", "cell", "great", "mixed"]
theorem sc_law_draw : FnScope N_law_draw ["pen", "many"] (defScope s_law_draw) := ⟨rfl, rfl, rfl, by decide +kernel, rfl, by decide +kernel, by decide +kernel⟩
def spDraw : Sp := fun vs H Q _ => ∃ (p c : Addr) (many : Int) (n : Nat), vs = [.ref p, .int many] ∧ 0 < many ∧ many ≤ 1000000 ∧ PenAt H p c n ∧ n ≤ 1000000 ∧ ∀ r H', 0 ≤ r → r < many → Kp p H H' → PenAt H' p c (n + 1) → Q (.int r) H'
theorem mix1 {cell lap : Int} (h0 : 0 ≤ lap) (h1 : lap ≤ 1000000) (a b : Int) (ha : 0 ≤ a) (ha' : a ≤ 1000000) (hb : 0 ≤ b) (hb' : b ≤ 1000000) : (cell % 2147483587 + a * lap + b).natAbs < 2 ^ 64 := by
  have e1 := Int.emod_nonneg cell (show (2147483587 : Int) ≠ 0 by decide)
  have e2 := Int.emod_lt_of_pos cell (show (0 : Int) < 2147483587 by decide)
  have e3 : a * lap ≤ 1000000 * 1000000 := Int.mul_le_mul ha' h1 h0 (by decide)
  have e4 : 0 ≤ a * lap := Int.mul_nonneg ha h0
  omega
theorem mix2 {m lap a b c : Int} (hm : 0 ≤ m) (hm' : m < 2147483563) (h0 : 0 ≤ lap) (h1 : lap ≤ 1000000) (ha : 0 ≤ a) (ha' : a ≤ 1000000) (hb : 0 ≤ b) (hb' : b ≤ 1000000) (hc : 0 ≤ c) (hc' : c ≤ 1000000) : (m * (2 * lap + b) + a * lap * lap + c).natAbs < 2 ^ 64 := by
  have e1 : m * (2 * lap + b) ≤ 2147483563 * 3000000 := Int.mul_le_mul (by omega) (by omega) (by omega) (by decide)
  have e2 : 0 ≤ m * (2 * lap + b) := Int.mul_nonneg hm (by omega)
  have e3 : a * lap ≤ 1000000 * 1000000 := Int.mul_le_mul ha' h1 h0 (by decide)
  have e4 : 0 ≤ a * lap := Int.mul_nonneg ha h0
  have e5 : a * lap * lap ≤ 1000000 * 1000000 * 1000000 := Int.mul_le_mul e3 h1 h0 (by decide)
  have e6 : 0 ≤ a * lap * lap := Int.mul_nonneg e4 h0
  omega
theorem mixM {a lap : Int} (h0 : 0 ≤ lap) (h1 : lap ≤ 1000000) (ha : 0 ≤ a) (ha' : a ≤ 1000000) : -(2 ^ 64) < a * lap ∧ a * lap < 2 ^ 64 := by
  have e3 : a * lap ≤ 1000000 * 1000000 := Int.mul_le_mul ha' h1 h0 (by decide)
  have e4 : 0 ≤ a * lap := Int.mul_nonneg ha h0
  omega
section
variable {P : Program} {w : World} {K : PySem.W.Frag} {mg : Str → Option Value} {base : Heap}
theorem d_law_pen (M : MG mg) (S0 : St0 K mg "_law_pen" s_law_pen ["script"]) : Df P w K mg base CX0 1 "_law_pen" s_law_pen ["script"] (spPen K) := by
  refine S0.df sc_law_pen (fun vs H Q E h => ?_) (fun f cdv A outer s H vs Q E hr h => ?_)
  · obtain ⟨a, ns, rfl, _⟩ := h
    rfl
  · refine ⟨_, PSs.nox (pss_one (ps_ret (pe_lst (pa_cons (pe_callTy call_list_of (by rfl) M.list (by decide +kernel) (pa_cons (pe_slice sl_list (pv 0) po_none (po_some pe_int)) pa_nil)) (pa_cons pe_int (pa_cons pe_int pa_nil)))))), ?_⟩
    obtain ⟨a, ns, rfl, hS, hn, hQ⟩ := h
    refine ⟨.ref a, rfl, 63, rfl, a, _, rfl, hS, fun p np => ?_⟩
    refine ⟨p, _, rfl, .inl (.inl (.inl upd_same)), fun l nl => ⟨by show 3 ≤ sizeLine; decide, fun q nq => ?_⟩⟩
    have nlH : H l = none := (Same.upd np).free nl
    have nqH : H q = none := ((Same.upd np).trans (.upd nl)).free nq
    have nlq : l ≠ q := fun z => by
      rw [← z, upd_same] at nq
      cases nq
    have s2 := (Same.upd (o := .lst (cutV (ns.map V.int) none (some 63))) np).trans (.upd (o := .lst (cutV (ns.map V.int) none (some 63))) nl)
    refine hQ _ q l (s2.trans (.upd nq)) nqH nlH ⟨(ns.drop (HT.sIx ns.length 0 none)).take (HT.sIx ns.length ns.length (some 63) - HT.sIx ns.length 0 none), 0, 0, nlq, upd_same, ?_, by decide, by decide, by decide⟩
    rw [upd_ne nlq, upd_same, List.map_take, List.map_drop]
    unfold cutV
    rw [List.length_map]
theorem d_law_draw (M : MG mg) (S0 : St0 K mg "_law_draw" s_law_draw ["pen", "many"]) : Df P w K mg base CX0 1 "_law_draw" s_law_draw ["pen", "many"] spDraw := by
  refine S0.df sc_law_draw (fun vs H Q E h => ?_) (fun f cdv A outer s H vs Q E hr h => ?_)
  · obtain ⟨p, c, many, n, rfl, _⟩ := h
    rfl
  · refine ⟨_, PSs.nox (pss_cons (ps_if (pt_cmpR op_gt (pe_ix ix_list (pv 0) pe_int (fun _ _ => rfl)) pe_int (nomark _)) (pss_cons (ps_set (i := 2) sc_law_draw.nd rfl (Or.inl rfl) (pe_op op_mod (pe_callTy call_int1 (by rfl) M.int (by decide +kernel) (pa_cons (pe_ix ix_list (pv 0) pe_int (fun _ _ => rfl)) pa_nil)) (pv 1)))
  (pss_cons (ps_asg (pe_op op_fdiv (pe_callTy call_int1 (by rfl) M.int (by decide +kernel) (pa_cons (pe_ix ix_list (pv 0) pe_int (fun _ _ => rfl)) pa_nil)) (pv 1)) (pg_sub (pv 0) pe_int set_list))
  (pss_one (ps_ret (pv 2))))) pss_nil)
  (pss_cons (ps_set (i := 3) sc_law_draw.nd rfl (Or.inl rfl) (pe_ix ix_list (pv 0) pe_int (fun _ _ => rfl)))
  (pss_cons (ps_asg (pe_op op_add (pv 3) pe_int) (pg_sub (pv 0) pe_int set_list))
  (pss_cons (ps_set (i := 4) sc_law_draw.nd rfl (Or.inl rfl) (pe_op op_add (pe_op op_mul pe_int (pv 3)) pe_int))
  (pss_cons (ps_if (pt_cmpR (op_neD hr.units) (pe_ix ix_list (pv 0) pe_int (fun _ _ => rfl)) (pe_lst pa_nil) (nomark _)) (pss_one (ps_set (i := 4) sc_law_draw.nd rfl (Or.inl rfl) (pe_ix ix_list (pe_ix ix_list (pv 0) pe_int (fun _ _ => rfl)) (pe_op op_mod (pe_callTy call_int1 (by rfl) M.int (by decide +kernel) (pa_cons (pv 3) pa_nil)) (pe_callB call_len (by rfl) M.len boot_len (pa_cons (pe_ix ix_list (pv 0) pe_int (fun _ _ => rfl)) pa_nil))) (fun _ _ => rfl)))) pss_nil)
  (pss_cons (ps_if (PW.pt (pw_and (pt_cmpR op_lt (pv 3) (pe_callB call_len (by rfl) M.len boot_len (pa_cons (pe_ix ix_list (pv 0) pe_int (fun _ _ => rfl)) pa_nil)) (nomark _)) (pw_and1 (pt_cmpR op_ge (pe_callB call_abs (by rfl) M.abs (by decide +kernel) (pa_cons (pv 4) pa_nil)) (pe_op op_pow pe_int pe_int) (nomark _))))) (pss_cons (ps_set (i := 5) sc_law_draw.nd rfl (Or.inl rfl) (pe_op op_add (pe_op op_mul pe_int (pe_op op_sub (pe_callB call_abs (by rfl) M.abs (by decide +kernel) (pa_cons (pv 4) pa_nil)) (pe_op op_pow pe_int pe_int))) (pe_callTy call_int1 (by rfl) M.int (by decide +kernel) (pa_cons (pe_cmpR op_lt (pv 4) pe_int (nomark _)) pa_nil))))
  (pss_cons (ps_asg (pe_op op_fdiv (pe_callTy call_int1 (by rfl) M.int (by decide +kernel) (pa_cons (pv 5) pa_nil)) (pv 1)) (pg_sub (pv 0) pe_int set_list))
  (pss_one (ps_ret (pe_op op_mod (pe_callTy call_int1 (by rfl) M.int (by decide +kernel) (pa_cons (pv 5) pa_nil)) (pv 1)))))) pss_nil)
  (pss_cons (ps_set (i := 6) sc_law_draw.nd rfl (Or.inl rfl) (pe_op op_mod (pe_callTy call_int1 (by rfl) M.int (by decide +kernel) (pa_cons (pe_op op_pow (pe_op op_add (pe_op op_add (pe_op op_mod (pe_callTy call_int1 (by rfl) M.int (by decide +kernel) (pa_cons (pv 4) pa_nil)) pe_int) (pe_op op_mul pe_int (pv 3))) pe_int) pe_int) pa_nil)) pe_int))
  (pss_cons (ps_set (i := 6) sc_law_draw.nd rfl (Or.inl rfl) (pe_op op_mod (pe_callTy call_int1 (by rfl) M.int (by decide +kernel) (pa_cons (pe_op op_pow (pe_op op_add (pe_op op_add (pe_op op_mul (pv 6) (pe_op op_add (pe_op op_mul pe_int (pv 3)) pe_int)) (pe_op op_mul (pe_op op_mul pe_int (pv 3)) (pv 3))) pe_int) pe_int) pa_nil)) pe_int))
  (pss_one (ps_ret (pe_op op_mod (pe_callTy call_int1 (by rfl) M.int (by decide +kernel) (pa_cons (pe_op op_fdiv (pv 6) pe_int) pa_nil)) (pv 1)))))))))))), ?_⟩
    obtain ⟨p, c, many, n, rfl, hm, hm2, ⟨ns, lap, rest, hcp, hp, hc, hl0, hln, hr0⟩, hn, hQ⟩ := h
    refine ⟨_, rfl, p, _, 2, .int rest, rfl, rfl, .inl (.inl hp), rfl, _, _, rfl, rfl, _, rfl, ite2 (fun h1 => ?_) (fun h1 => ?_)⟩
    · have hpos : 0 < rest := of_decide_eq_true h1
      refine ⟨_, rfl, p, _, 2, .int rest, rfl, rfl, .inl (.inl hp), rfl, .inl ⟨_, rfl, _, rfl, _, _, rfl, rfl, hm, ?_⟩⟩
      refine ⟨_, rfl, p, _, 2, .int rest, rfl, rfl, .inl (.inl hp), rfl, .inl ⟨_, rfl, _, rfl, _, _, rfl, rfl, ⟨hm, by omega⟩, ?_⟩⟩
      refine ⟨_, rfl, p, _, 2, 2, rfl, rfl, hp, rfl, _, rfl, ?_⟩
      refine hQ _ _ (Int.emod_nonneg _ (by omega)) (Int.emod_lt_of_pos _ hm) .write ⟨ns, lap, rest / many, hcp, upd_same, by rw [upd_ne hcp]; exact hc, hl0, by omega, Int.ediv_nonneg hr0 (by omega)⟩
    · have hr00 : rest = 0 := by
        have : ¬ 0 < rest := fun z => h1 (decide_eq_true z)
        omega
      subst hr00
      refine ⟨_, rfl, p, _, 1, .int lap, rfl, rfl, .inl (.inl hp), rfl, ?_⟩
      refine ⟨_, rfl, _, _, rfl, rfl, _, rfl, p, _, 1, 1, rfl, rfl, hp, rfl, ?_⟩
      have hc1 : ∀ o, upd H p o c = some (.lst (ns.map V.int)) := fun o => by rw [upd_ne hcp]; exact hc
      have hl1 : lap ≤ 1000000 := by omega
      refine ⟨_, rfl, _, _, rfl, rfl, .inl ⟨by decide, by decide⟩, ?_⟩
      refine ⟨_, _, rfl, rfl, ?_⟩
      refine ⟨_, rfl, p, _, 0, .ref c, rfl, rfl, .inl (.inl upd_same), rfl, by show 0 ≤ sizeLine; exact Nat.zero_le _, fun p2 np2 => ?_⟩
      have np2p : p ≠ p2 := fun z => by
        rw [← z, upd_same] at np2
        cases np2
      have np2c : c ≠ p2 := fun z => by
        rw [← z, hc1] at np2
        cases np2
      refine ne_nil (xs := ns.map V.int) (ds := ns.map PyData.int) (.inl (.inl (by rw [upd_ne np2c, hc1]))) (dpMap ns fun i _ => .int i) (fun d hd => ?_) upd_same ⟨_, rfl, ?_⟩
      · obtain ⟨i, _, rfl⟩ := List.mem_map.mp hd
        exact ⟨rfl, Nat.zero_le _⟩
      have fin : ∀ rest' : Int, 0 ≤ rest' → ∀ r : Int, 0 ≤ r → r < many → ∀ H', Kp p H H' → H' p = some (.lst [.ref c, .int (lap + 1), .int rest']) → H' c = some (.lst (ns.map V.int)) → Q (.int r) H' := fun rest' h0 r r0 r1 H' k e1 e2 =>
        hQ r H' r0 r1 k ⟨ns, lap + 1, rest', hcp, e1, e2, by omega, by omega, h0⟩
      refine ite2 (fun h2 => ?b1) (fun h2 => ?b2)
      have hne : 0 < ns.length := by
        cases ns with
        | nil => cases h2
        | cons a b => simp
      have hj : (lap % (ns.length : Int)).toNat < ns.length := by
        have e1 := Int.emod_nonneg lap (show (ns.length : Int) ≠ 0 by omega)
        have e2 := Int.emod_lt_of_pos lap (show (0 : Int) < ns.length by omega)
        omega
      have hat : atI (ns.map V.int) (lap % ((ns.map V.int).length : Int)) = some (.int ns[(lap % (ns.length : Int)).toNat]) := by
        have e1 := Int.emod_nonneg lap (show (ns.length : Int) ≠ 0 by omega)
        have e2 : lap % ((ns.map V.int).length : Int) = (((lap % (ns.length : Int)).toNat : Nat) : Int) := by
          rw [List.length_map]
          omega
        rw [e2]
        exact atI_nat (by simp [hj])
      refine ⟨_, rfl, p, _, 0, .ref c, rfl, rfl, .inl (.inl (by rw [upd_ne np2p]; exact upd_same)), rfl, ?_⟩
      refine ⟨_, rfl, .inl ⟨_, rfl, _, rfl, p, _, 0, .ref c, rfl, rfl, .inl (.inl (by rw [upd_ne np2p]; exact upd_same)), rfl, ?_⟩⟩
      refine ⟨.ref c, _, rfl, .inl ⟨_, .inl (.inl (by rw [upd_ne np2c, hc1])), rfl⟩, _, _, rfl, rfl, by rw [List.length_map]; omega, ?_⟩
      refine ⟨c, _, _, _, rfl, rfl, .inl (.inl (by rw [upd_ne np2c, hc1])), hat, ?_⟩
      all_goals
        have hp2 : upd (upd H p (.lst [V.ref c, .int (lap + 1), .int 0])) p2 (.lst []) p = some (.lst [V.ref c, .int (lap + 1), .int 0]) := by rw [upd_ne np2p, upd_same]
        have hc2 : upd (upd H p (.lst [V.ref c, .int (lap + 1), .int 0])) p2 (.lst []) c = some (.lst (ns.map V.int)) := by rw [upd_ne np2c, hc1]
        have kp2 : Kp p H (upd (upd H p (.lst [V.ref c, .int (lap + 1), .int 0])) p2 (.lst [])) := fun b o nb hb => by
          rw [upd_ne (show b ≠ p2 from fun z => ?_), upd_ne nb]
          · exact hb
          · rw [z] at hb nb
            rw [upd_ne nb, hb] at np2
            cases np2
        refine ⟨_, rfl, _, rfl, p, _, 0, .ref c, rfl, rfl, .inl (.inl hp2), rfl, .ref c, _, rfl, .inl ⟨_, .inl (.inl hc2), rfl⟩, _, _, rfl, rfl, _, rfl, ite2 (fun h3 => ⟨_, rfl, _, rfl, _, _, rfl, rfl, ⟨by decide, by decide, by decide⟩, _, _, rfl, rfl, _, rfl, ite2 (fun h4 => ?g) (fun h4 => ?_)⟩) (fun h3 => iteF ?_)⟩
        case g =>
          have h5 := of_decide_eq_true h4
          refine ⟨_, rfl, _, rfl, _, _, rfl, rfl, ⟨by decide, by decide, by decide⟩, _, _, rfl, rfl, _, _, rfl, rfl, .inl ⟨by decide, by decide⟩, _, rfl, _, _, rfl, rfl, .inr ⟨_, rfl, _, _, rfl, rfl, ?_⟩⟩
          refine ⟨_, rfl, .inl ⟨_, rfl, _, rfl, _, _, rfl, rfl, ⟨hm, by omega⟩, _, rfl, p, _, 2, 2, rfl, rfl, hp2, rfl, ?_⟩⟩
          refine ⟨_, rfl, .inl ⟨_, rfl, _, rfl, _, _, rfl, rfl, hm, fin _ (Int.ediv_nonneg ?_ (by omega)) _ (Int.emod_nonneg _ (by omega)) (Int.emod_lt_of_pos _ hm) _ (kp2.trans .write) upd_same (by rw [upd_ne hcp]; exact hc2)⟩⟩
          split <;> omega
        all_goals
          refine ⟨_, rfl, .inl ⟨_, rfl, _, _, rfl, rfl, by show (0 : Int) < 2147483587; decide, _, rfl, _, _, rfl, rfl, .inl ⟨by decide, by decide⟩, _, _, rfl, rfl, _, _, rfl, rfl, _, _, rfl, rfl, ⟨by decide, by decide, mix1 hl0 hl1 178164 24326 (by decide) (by decide) (by decide) (by decide)⟩, .inl ⟨_, rfl, _, _, rfl, rfl, by show (0 : Int) < 2147483563; decide, ?_⟩⟩⟩
          have m0 : ∀ x : Int, 0 ≤ x % 2147483563 := fun x => Int.emod_nonneg x (by decide)
          have m1 : ∀ x : Int, x % 2147483563 < 2147483563 := fun x => Int.emod_lt_of_pos x (by decide)
          refine ⟨_, rfl, _, rfl, _, _, rfl, rfl, .inl ⟨by decide, by decide⟩, _, _, rfl, rfl, _, _, rfl, rfl, .inl ⟨Int.lt_of_lt_of_le (by decide) (m0 _), Int.lt_trans (m1 _) (by decide)⟩, _, rfl, _, _, rfl, rfl, .inl ⟨by decide, by decide⟩, _, rfl, _, _, rfl, rfl, .inl (mixM hl0 hl1 (by decide) (by decide)), _, _, rfl, rfl, _, _, rfl, rfl, _, _, rfl, rfl, ⟨by decide, by decide, mix2 (m0 _) (m1 _) hl0 hl1 (by decide) (by decide) (by decide) (by decide) (by decide) (by decide)⟩, .inl ⟨_, rfl, _, _, rfl, rfl, by show (0 : Int) < 2147483549; decide, ?_⟩⟩
          exact ⟨_, rfl, _, _, rfl, rfl, ⟨by decide, by decide⟩, .inl ⟨_, rfl, _, rfl, _, _, rfl, rfl, hm, fin 0 (by decide) _ (Int.emod_nonneg _ (by omega)) (Int.emod_lt_of_pos _ hm) _ kp2 hp2 hc2⟩⟩
end
end K92
set_option Elab.async false
set_option linter.all false
set_option maxRecDepth 100000
set_option maxHeartbeats 4000000
namespace K92
open PySem PySem.Spec PyProof.Rows L2 Nam PlugX
theorem erase_perm {α : Type} : ∀ {l : List α} {i : Nat} (h : i < l.length), (l[i] :: l.eraseIdx i).Perm l
  | x :: l, 0, _ => .refl _
  | x :: l, i + 1, h => by
    have h' : i < l.length := by simpa using h
    show (l[i] :: x :: l.eraseIdx i).Perm (x :: l)
    exact (List.Perm.swap x l[i] _).trans ((erase_perm h').cons x)
abbrev s_law_pick : Stmt := top 25
abbrev N_law_pick : List Str := ["pen", "some"]
theorem sc_law_pick : FnScope N_law_pick ["pen", "some"] (defScope s_law_pick) := ⟨rfl, rfl, rfl, by decide +kernel, rfl, by decide +kernel, by decide +kernel⟩
def spPick (K : PySem.W.Frag) : Sp := fun vs H Q _ => ∃ (p c a : Addr) (xs : List V) (n : Nat), vs = [.ref p, .ref a] ∧ a ≠ p ∧ SqL K H a xs ∧ 0 < xs.length ∧ xs.length ≤ 1000000 ∧ PenAt H p c n ∧ n ≤ 1000000 ∧ ∀ x H', x ∈ xs → Kp p H H' → PenAt H' p c (n + 1) → Q x H'
abbrev s_law_mixed : Stmt := top 27
abbrev N_law_mixed : List Str := ["pen", "some", "rest", "found"]
theorem sc_law_mixed : FnScope N_law_mixed ["pen", "some"] (defScope s_law_mixed) := ⟨rfl, rfl, rfl, by decide +kernel, rfl, by decide +kernel, by decide +kernel⟩
def spMixed (K : PySem.W.Frag) : Sp := fun vs H Q _ => ∃ (p c a : Addr) (xs : List V) (n : Nat), vs = [.ref p, .ref a] ∧ a ≠ p ∧ SqL K H a xs ∧ xs.length ≤ 1000 ∧ (∀ H', Kp p H H' → ∀ x ∈ xs, Lay K H' x) ∧ PenAt H p c n ∧ n + xs.length ≤ 1000000 ∧
  ∀ H' b ys, Kp p H H' → H b = none → H' b = some (.lst ys) → ys.Perm xs → PenAt H' p c (n + xs.length) → Q (.ref b) H'
section
variable {P : Program} {w : World} {K : PySem.W.Frag} {mg : Str → Option Value} {base : Heap}
theorem d_law_pick (M : MG mg) (S0 : St0 K mg "_law_pick" s_law_pick ["pen", "some"]) (D__law_draw : Df P w K mg base CX0 1 "_law_draw" s_law_draw ["pen", "many"] spDraw) : Df P w K mg base CX0 2 "_law_pick" s_law_pick ["pen", "some"] (spPick K) := by
  refine S0.df sc_law_pick (fun vs H Q E h => ?_) (fun f cdv A outer s H vs Q E hr h => ?_)
  · obtain ⟨p, c, a, xs, n, rfl, _⟩ := h
    rfl
  · refine ⟨_, PSs.nox (pss_one (ps_ret (pe_ix ix_list (pv 1) (pd D__law_draw (hr.mono (by decide)) rfl (pa_cons (pv 0) (pa_cons (pe_callB call_len (by rfl) M.len boot_len (pa_cons (pv 1) pa_nil)) pa_nil))) (fun _ _ => rfl)))), ?_⟩
    obtain ⟨p, c, a, xs, n, rfl, nap, hS, h0, h1, hP, hn, hQ⟩ := h
    refine ⟨_, rfl, _, rfl, _, rfl, .ref a, _, rfl, .inl ⟨_, hS, rfl⟩, p, c, (xs.length : Int), n, rfl, by omega, by omega, hP, hn, fun r H1 r0 r1 k1 P1 => ?_⟩
    have hr1 : r.toNat < xs.length := by omega
    have e : atI xs r = some xs[r.toNat] := by
      have := atI_nat (xs := xs) (j := r.toNat) (v := xs[r.toNat]) (List.getElem?_eq_getElem hr1)
      rwa [Int.toNat_of_nonneg r0] at this
    exact ⟨a, xs, r, _, rfl, rfl, k1.seq nap hS, e, hQ _ H1 (List.getElem_mem hr1) k1 P1⟩
theorem d_law_mixed (M : MG mg) (S0 : St0 K mg "_law_mixed" s_law_mixed ["pen", "some"]) (D__law_draw : Df P w K mg base CX0 1 "_law_draw" s_law_draw ["pen", "many"] spDraw) : Df P w K mg base CX0 2 "_law_mixed" s_law_mixed ["pen", "some"] (spMixed K) := by
  refine S0.df sc_law_mixed (fun vs H Q E h => ?_) (fun f cdv A outer s H vs Q E hr h => ?_)
  · obtain ⟨p, c, a, xs, n, rfl, _⟩ := h
    rfl
  · refine ⟨_, PSs.nox (pss_cons (ps_par (i := 2) (j := 3) rfl sc_law_mixed.nd rfl rfl (by decide) rfl rfl (pa_cons (pe_callTy call_list_of (by rfl) M.list (by decide +kernel) (pa_cons (pv 1) pa_nil)) (pa_cons (pe_lst pa_nil) pa_nil)) (by rfl))
  (pss_cons (ps_while PassesOwn.never (pt_cmpR (op_neD hr.units) (pv 2) (pe_lst pa_nil) (nomark _)) (pss_one (ps_expr (pe_bm PySem.F.plainAttrs_list PySem.F.slot_list_append PySem.F.type_list_append mt_append (pv 3) (pa_cons (pe_bm PySem.F.plainAttrs_list PySem.F.slot_list_pop PySem.F.type_list_pop mt_popAt (pv 2) (pa_cons (pd D__law_draw (hr.mono (by decide)) rfl (pa_cons (pv 0) (pa_cons (pe_callB call_len (by rfl) M.len boot_len (pa_cons (pv 2) pa_nil)) pa_nil))) pa_nil)) pa_nil)))))
  (pss_one (ps_ret (pv 3))))), ?_⟩
    obtain ⟨p, c, a, xs, n, rfl, nap, hS, h1, hL, hP, hn, hQ⟩ := h
    refine ⟨_, rfl, a, xs, rfl, .inl hS, fun r nr => ⟨Nat.zero_le _, fun f nf => ⟨_, _, rfl, ?_⟩⟩⟩
    have nfH := (Same.upd nr).free nf
    obtain ⟨nrp, nrc⟩ := hP.hp nr
    obtain ⟨nfp, nfc⟩ := hP.hp nfH
    have nrf : r ≠ f := fun z => by
      rw [← z, upd_same] at nf
      cases nf
    refine ⟨fun m σ H' => σ = [some (.ref p), some (.ref a), some (.ref r), some (.ref f)] ∧ ∃ rs fs, m = rs.length ∧ Kp p H H' ∧ H' r = some (.lst rs) ∧ H' f = some (.lst fs) ∧ (fs ++ rs).Perm xs ∧ PenAt H' p c (n + fs.length), ⟨xs.length, rfl, xs, [], rfl, ?_, ?_, upd_same, .refl _, ?_⟩, ?_⟩
    · exact ((Same.upd nr).trans (.upd nf)).kp
    · rw [upd_ne nrf, upd_same]
    · exact hP.same ((Same.upd nr).trans (.upd nf))
    · rintro m σ H' ⟨rfl, rs, fs, rfl, k', hr', hf', hp', P'⟩
      have hlen := hp'.length_eq
      rw [List.length_append] at hlen
      refine ⟨_, rfl, Nat.zero_le _, fun q nq => ?_⟩
      have sq : Same H' (upd H' q (.lst [])) := .upd nq
      obtain ⟨ds, hd1, hd2⟩ := lay_list (K := K) (H := upd H' q (.lst [])) (xs := rs) fun x hx => hL _ (k'.trans sq.kp) x (hp'.subset (List.mem_append_right _ hx))
      refine ne_nil (.inl (.inl (sq _ _ hr'))) hd1 hd2 upd_same ⟨_, rfl, ?_⟩
      cases rs with
      | nil =>
        refine iteF ⟨_, rfl, ?_⟩
        rw [List.append_nil] at hp'
        refine hQ _ f fs (k'.trans sq.kp) nfH (sq _ _ hf') hp' ?_
        have := P'.same sq
        have e : fs.length = xs.length := by simpa using hlen
        rwa [e] at this
      | cons y ys =>
        refine iteT ⟨fun σ' H'' => σ' = [some (.ref p), some (.ref a), some (.ref r), some (.ref f)] ∧ ∃ rs fs', rs.length < (y :: ys).length ∧ Kp p H H'' ∧ H'' r = some (.lst rs) ∧ H'' f = some (.lst fs') ∧ (fs' ++ rs).Perm xs ∧ PenAt H'' p c (n + fs'.length), ?_, ?_⟩
        · rintro σ' H'' ⟨rfl, rs, fs', l, b⟩
          exact ⟨rs.length, l, rfl, rs, fs', rfl, b⟩
        · refine ⟨_, rfl, .inl ⟨rfl, _, .inl (.inl (sq _ _ hf'))⟩, _, rfl, .inl ⟨rfl, _, .inl (.inl (sq _ _ hr'))⟩, _, rfl, _, rfl, .ref r, _, rfl, .inl ⟨_, .inl (.inl (sq _ _ hr')), rfl⟩, p, c, _, n + fs.length, rfl, ?_, ?_, P'.same sq, by omega, fun d H2 d0 d1 k2 P2 => ?_⟩
          · simp only [List.length_cons]; omega
          · simp only [List.length_cons] at hlen ⊢; omega
          · have hr2 := k2.at nrp (sq _ _ hr')
            have hf2 := k2.at nfp (sq _ _ hf')
            have hd : d.toNat < (y :: ys).length := by omega
            have hix : ixN (y :: ys).length d = some d.toNat := by
              unfold ixN
              rw [if_pos d0, if_pos d1]
            have hrf : ∀ o, upd H2 r o f = some (.lst fs) := fun o => by
              rw [upd_ne (Ne.symm nrf)]
              exact hf2
            refine ⟨r, _, d, d.toNat, _, rfl, rfl, hr2, by omega, by omega, (ixN_seq hix).1, List.getElem?_eq_getElem hd, f, fs, _, rfl, rfl, hrf _, Nat.lt_of_le_of_lt (show fs.length ≤ 1000 by omega) (by decide), rfl, (y :: ys).eraseIdx d.toNat, fs ++ [(y :: ys)[d.toNat]], ?_, ?_, ?_, upd_same, ?_, ?_⟩
            · rw [List.length_eraseIdx_of_lt hd]
              omega
            · intro b o nb hb
              rw [upd_ne (fun z => ?_), upd_ne (fun z => ?_)]
              · exact ((k'.trans sq.kp).trans k2) b o nb hb
              · rw [z, nr] at hb
                cases hb
              · rw [z, nfH] at hb
                cases hb
            · rw [upd_ne nrf, upd_same]
            · rw [List.append_assoc, List.singleton_append]
              exact ((erase_perm hd).append_left fs).trans hp'
            · rw [List.length_append]
              exact (P2.upd nrp nrc).upd nfp nfc
end
end K92
set_option Elab.async false
set_option linter.all false
set_option maxRecDepth 100000
set_option maxHeartbeats 4000000
namespace K92
open PySem PySem.Spec PyProof.Rows L2 Nam PlugX
abbrev s_law_name : Stmt := top 28
abbrev N_law_name : List Str := ["pen", "letters", "lap"]
theorem sc_law_name : FnScope N_law_name ["pen"] (defScope s_law_name) := ⟨rfl, rfl, rfl, by decide +kernel, rfl, by decide +kernel, by decide +kernel⟩
def spLawName : Sp := fun vs H Q _ => ∃ (p c : Addr) (n : Nat), vs = [.ref p] ∧ PenAt H p c n ∧ n ≤ 900000 ∧ ∀ l H', Nm l → Kp p H H' → PenAt H' p c (n + 10) → Q (.str (S l)) H'
theorem pick_letters {x : V} (h : x ∈ [V.str (PySem.Str.ofString "abc"), .str (PySem.Str.ofString "az"), .str (PySem.Str.ofString "abcdefghijklmnopqrstuvwxyz"), .str (PySem.Str.ofString "z")]) : ∃ l : List Nat, x = .str (S l) ∧ 0 < l.length ∧ l.length ≤ 26 ∧ ∀ c ∈ l, Let c := by
  simp only [List.mem_cons, List.not_mem_nil, or_false] at h
  rcases h with e | e | e | e
  · exact ⟨[97, 98, 99], by rw [e]; exact congrArg V.str (by decide +kernel), by decide, by decide, by decide⟩
  · exact ⟨[97, 122], by rw [e]; exact congrArg V.str (by decide +kernel), by decide, by decide, by decide⟩
  · exact ⟨abc, by rw [e]; exact congrArg V.str letters_S, by decide, by decide, by decide⟩
  · exact ⟨[122], by rw [e]; exact congrArg V.str z_S, by decide, by decide, by decide⟩
theorem pick_size {x : V} (h : x ∈ [V.int 1, .int 2, .int 7, .int 8, .int 8, .int 8]) : ∃ k : Nat, x = .int k ∧ 1 ≤ k ∧ k ≤ 8 := by
  simp only [List.mem_cons, List.not_mem_nil, or_false] at h
  rcases h with e | e | e | e | e | e
  · exact ⟨1, e, by decide, by decide⟩
  · exact ⟨2, e, by decide, by decide⟩
  · exact ⟨7, e, by decide, by decide⟩
  · exact ⟨8, e, by decide, by decide⟩
  · exact ⟨8, e, by decide, by decide⟩
  · exact ⟨8, e, by decide, by decide⟩
theorem join_S : ∀ cs : List Nat, PySem.Str.join (S []) (cs.map fun c => S [c]) = S cs
  | [] => rfl
  | [c] => rfl
  | c :: d :: r => by
    show S [c] ++ S [] ++ PySem.Str.join (S []) ((d :: r).map fun c => S [c]) = _
    rw [join_S (d :: r), S_app, S_app]
    rfl
theorem tjoin_S (cs : List Nat) : Txt.join (PySem.Str.ofString "") (cs.map fun c => S [c]) = S cs := by
  have e : (PySem.Str.ofString "") = S [] := by decide +kernel
  rw [e]
  exact (PySem.StrLaws.glued_eq_join _ _).trans (join_S cs)
theorem len_sum (cs : List Nat) : ((cs.map fun c => S [c]).map fun x : Str => x.length).sum = cs.length := by
  induction cs with
  | nil => rfl
  | cons c r ih =>
    rw [List.map_cons, List.map_cons, List.sum_cons, ih, S_len, List.length_cons]
    simp
    omega
section
variable {P : Program} {w : World} {K : PySem.W.Frag} {mg : Str → Option Value} {base : Heap}
theorem d_law_name (M : MG mg) (S0 : St0 K mg "_law_name" s_law_name ["pen"]) (D__law_pick : Df P w K mg base CX0 2 "_law_pick" s_law_pick ["pen", "some"] (spPick K)) : Df P w K mg base CX0 3 "_law_name" s_law_name ["pen"] spLawName := by
  refine S0.df sc_law_name (fun vs H Q E h => ?_) (fun f cdv A outer s H vs Q E hr h => ?_)
  · obtain ⟨p, c, n, rfl, _⟩ := h
    rfl
  · refine ⟨_, PSs.nox (pss_cons (ps_set (i := 1) sc_law_name.nd rfl (Or.inr rfl) (pd D__law_pick (hr.mono (by decide)) rfl (pa_cons (pv 0) (pa_cons (pe_lst (pa_cons pe_str (pa_cons pe_str (pa_cons pe_str (pa_cons pe_str pa_nil))))) pa_nil))))
  (pss_one (ps_ret (pe_join pe_str (pe_lc (own := [("lap", 2)]) rfl sc_law_name.nd (pi_range1 rfl M.range (pa_cons (pd D__law_pick (hr.mono (by decide)) rfl (pa_cons (pv 0) (pa_cons (pe_lst (pa_cons pe_int (pa_cons pe_int (pa_cons pe_int (pa_cons pe_int (pa_cons pe_int (pa_cons pe_int pa_nil))))))) pa_nil))) pa_nil)) (blkOk_by (own := [("lap", 2)]) (N := N_law_name) (sc := defScope s_law_name) (by decide +kernel)) (fun _ _ _ _ _ => (pg_name (i := 2) sc_law_name.nd rfl (Or.inl rfl))) (fun _ _ _ _ _ => pts_nil) (fun _ _ _ _ _ => (pd D__law_pick (hr.mono (by decide)) rfl (pa_cons (pv 0) (pa_cons (pe_callTy (call_listS rfl) (by rfl) M.list (by decide +kernel) (pa_cons (pv 1) pa_nil)) pa_nil))))))))), ?_⟩
    obtain ⟨p, c, n, rfl, hP, hn, hQ⟩ := h
    refine ⟨_, rfl, by show 4 ≤ sizeLine; decide, fun q nq => ⟨p, c, q, _, n, rfl, (hP.hp nq).1, .inl (.inl upd_same), by decide, by decide, hP.same (.upd nq), by omega, fun x H1 hx k1 P1 => ?_⟩⟩
    obtain ⟨ls, rfl, l0, l1, l2⟩ := pick_letters hx
    have k01 : Kp p H H1 := (Same.upd nq).kp.trans k1
    refine ⟨⟨_, rfl⟩, _, rfl, by show 6 ≤ sizeLine; decide, fun q2 nq2 => ⟨p, c, q2, _, n + 1, rfl, (P1.hp nq2).1, .inl (.inl upd_same), by decide, by decide, P1.same (.upd nq2), by omega, fun x H2 hx2 k2 P2 => ?_⟩⟩
    obtain ⟨k, rfl, hk1, hk2⟩ := pick_size hx2
    have k02 : Kp p H H2 := k01.trans ((Same.upd nq2).kp.trans k2)
    refine ⟨k, rfl, by omega, by omega, fun D nD => ?_⟩
    obtain ⟨nDp, nDc⟩ := P2.hp nD
    refine lc_it walk_range (fun i H' => ∃ cs : List Nat, cs.length = i ∧ (∀ c ∈ cs, Let c) ∧ H' D = some (.lst (cs.map fun c => V.str (S [c]))) ∧ Kp p H2 H' ∧ PenAt H' p c (n + 2 + i)) ⟨[], rfl, by simp, upd_same, (Same.upd nD).kp, P2.same (.upd nD)⟩ (fun _ _ _ _ => True.intro) ?_ ?_
    · rintro i x H3 H4 hi ⟨cs, rfl, hcs, hD3, k3, P3⟩ ⟨rfl, rfl⟩
      refine ⟨rfl, _, rfl, _, rfl, S ls, rfl, ?_, fun t nt => ?_⟩
      · rw [S_len]
        exact Nat.le_trans l1 (by decide)
      · have st : Same H4 (upd H4 t (.lst (ls.map fun c => V.str (S [c])))) := .upd nt
        refine ⟨p, c, t, ls.map fun c => V.str (S [c]), n + 2 + cs.length, rfl, (P3.hp nt).1, .inl (.inl upd_same), by simpa using l0, by simp; omega, P3.same st, by omega, fun x H5 hx5 k5 P5 => ?_⟩
        obtain ⟨d, hd, rfl⟩ := List.mem_map.mp hx5
        have hD5 := k5.at nDp (st _ _ hD3)
        refine ⟨_, hD5, by rw [List.length_map]; exact Nat.lt_of_le_of_lt (show cs.length ≤ 8 by omega) (by decide), cs ++ [d], by simp, fun z hz => ?_, ?_, ?_, ?_⟩
        · rcases List.mem_append.mp hz with q | q
          · exact hcs z q
          · rw [List.mem_singleton.mp q]
            exact l2 d hd
        · rw [upd_same, List.map_append]
          rfl
        · intro b o nb hb
          rw [upd_ne (ne_of_none hb nD)]
          exact (k3.trans (st.kp.trans k5)) b o nb hb
        · exact (P5.upd nDp nDc)
    · rintro H3 ⟨cs, e, hcs, hD3, k3, P3⟩
      have e8 : cs.length ≤ 8 := by omega
      have e1 : 1 ≤ cs.length := by omega
      refine ⟨_, D, cs.map fun c => S [c], rfl, rfl, .inl (.inl (.inl ?_)), ?_, ?_⟩
      · rw [hD3, List.map_map]
        rfl
      · rw [len_sum, List.length_map]
        have : (PySem.Str.ofString "").length = 0 := by decide +kernel
        rw [this]
        omega
      · rw [tjoin_S]
        exact hQ cs H3 ⟨e1, e8, hcs⟩ (k02.trans k3) (P3.mono (by omega))
end
end K92
set_option Elab.async false
set_option linter.all false
set_option maxRecDepth 100000
set_option maxHeartbeats 4000000
namespace K92
open PySem PySem.Spec PyProof.Rows L2 Nam PlugX
theorem L_pow : ∀ k, 25 * L k + 1 = 26 ^ (k + 1)
  | 0 => rfl
  | k + 1 => by
    have ih := L_pow k
    have e : L (k + 1) = 26 * L k + 1 := rfl
    rw [Nat.pow_succ, ← ih, e]
    omega
theorem sum_pow : ∀ k : Nat, ((List.range (k + 1)).map fun s => ((26 ^ s : Nat) : Int)).sum = (L k : Int)
  | 0 => rfl
  | k + 1 => by
    rw [List.range_succ, List.map_append, List.sum_append, sum_pow k]
    have h1 := L_pow k
    have e : L (k + 1) = 26 * L k + 1 := rfl
    rw [e]
    simp only [List.map_cons, List.map_nil, List.sum_cons, List.sum_nil, Int.add_zero]
    rw [← h1]
    omega
abbrev s_law_power : Stmt := top 31
abbrev N_law_power : List Str := ["size", "found", "lap"]
theorem sc_law_power : FnScope N_law_power ["size"] (defScope s_law_power) := ⟨rfl, rfl, rfl, by decide +kernel, rfl, by decide +kernel, by decide +kernel⟩
def spPower : Sp := fun vs H Q _ => ∃ k : Nat, vs = [.int k] ∧ k ≤ 1000 ∧ Q (.int ((26 ^ k : Nat) : Int)) H
abbrev s_law_count : Stmt := top 30
abbrev N_law_count : List Str := ["name", "letters", "found", "at", "more", "size"]
theorem sc_law_count : FnScope N_law_count ["name"] (defScope s_law_count) := ⟨rfl, rfl, rfl, by decide +kernel, rfl, by decide +kernel, by decide +kernel⟩
abbrev s_law_right_behind : Stmt := top 29
abbrev N_law_right_behind : List Str := ["name", "later", "at", "letters"]
theorem sc_law_right_behind : FnScope N_law_right_behind ["name", "later"] (defScope s_law_right_behind) := ⟨rfl, rfl, rfl, by decide +kernel, rfl, by decide +kernel, by decide +kernel⟩
def spRight : Sp := fun vs H Q _ => ∃ l, vs = [.str (S l), nv (nxt 8 l)] ∧ Nm l ∧ Q (.bl true) H
section
variable {P : Program} {w : World} {K : PySem.W.Frag} {mg : Str → Option Value} {base : Heap}
theorem d_law_power (M : MG mg) (S0 : St0 K mg "_law_power" s_law_power ["size"]) : Df P w K mg base CX0 1 "_law_power" s_law_power ["size"] spPower := by
  refine S0.df sc_law_power (fun vs H Q E h => ?_) (fun f cdv A outer s H vs Q E hr h => ?_)
  · obtain ⟨k, rfl, _⟩ := h
    rfl
  · refine ⟨_, PSs.nox (pss_cons (ps_set (i := 1) sc_law_power.nd rfl (Or.inl rfl) pe_int)
  (pss_cons (ps_for PassesOwn.never rfl (pi_range1 rfl M.range (pa_cons (pv 0) pa_nil)) (pg_name (i := 2) sc_law_power.nd rfl (Or.inl rfl))
  (pss_one (ps_set (i := 1) sc_law_power.nd rfl (Or.inl rfl) (pe_op op_mul pe_int (pv 1)))))
  (pss_one (ps_ret (pv 1))))), ?_⟩
    obtain ⟨k, rfl, hk, hQ⟩ := h
    refine ⟨.int k, rfl, (k : Int), rfl, by omega, by omega, ?_⟩
    refine for_it walk_range (fun i σ H' => H' = H ∧ ∃ v, σ = [some (.int k), some (.int ((26 ^ i : Nat) : Int)), v]) ⟨rfl, none, rfl⟩ (fun _ _ _ _ _ => True.intro) ?_ ?_
    · rintro i x σ H' H'' hi ⟨rfl, v, rfl⟩ ⟨rfl, rfl⟩
      refine ⟨_, rfl, 26, _, rfl, rfl, .inl ⟨by decide, by decide⟩, rfl, some (.int (0 + (i : Int))), ?_⟩
      have e2 : (26 * ((26 ^ i : Nat) : Int)) = ((26 ^ (i + 1) : Nat) : Int) := by
        rw [Nat.pow_succ]
        omega
      rw [← e2]
      rfl
    · rintro σ H' ⟨rfl, v, rfl⟩
      exact ⟨_, rfl, hQ⟩
theorem d_law_count (M : MG mg) (S0 : St0 K mg "_law_count" s_law_count ["name"]) (D__law_power : Df P w K mg base CX0 1 "_law_power" s_law_power ["size"] spPower) : Df P w K mg base CX0 2 "_law_count" s_law_count ["name"] spRank := by
  refine S0.df sc_law_count (fun vs H Q E h => ?_) (fun f cdv A outer s H vs Q E hr h => ?_)
  · obtain ⟨l, rfl, _⟩ := h
    rfl
  · refine ⟨_, PSs.nox (pss_cons (ps_asg (pe_tup (pa_cons pe_str (pa_cons pe_int pa_nil))) (pg_tup rfl (pgs_cons (pg_name (i := 1) sc_law_count.nd rfl (Or.inl rfl)) (pgs_cons (pg_name (i := 2) sc_law_count.nd rfl (Or.inl rfl)) pgs_nil))))
  (pss_cons (ps_for PassesOwn.never rfl (pi_range1 rfl M.range (pa_cons (pe_callB call_len (by rfl) M.len boot_len (pa_cons (pv 0) pa_nil)) pa_nil)) (pg_name (i := 3) sc_law_count.nd rfl (Or.inl rfl))
  (pss_cons (ps_set (i := 4) sc_law_count.nd rfl (Or.inl rfl) (pe_callB (cr_sum rfl) (by rfl) M.sum (by decide +kernel) (pa_cons (pe_lc (own := [("size", 5)]) rfl sc_law_count.nd (pi_range1 rfl M.range (pa_cons (pe_op op_sub pe_int (pv 3)) pa_nil)) (blkOk_by (own := [("size", 5)]) (N := N_law_count) (sc := defScope s_law_count) (by decide +kernel)) (fun _ _ _ _ _ => (pg_name (i := 5) sc_law_count.nd rfl (Or.inl rfl))) (fun _ _ _ _ _ => pts_nil) (fun _ _ _ _ _ => (pe_ifExp (pt_cmpR op_eq (pv 5) pe_int (nomark _)) (pe_op op_pow pe_int pe_int) (pe_callTy call_int1 (by rfl) M.int (by decide +kernel) (pa_cons (pd D__law_power (hr.mono (by decide)) rfl (pa_cons (pv 5) pa_nil)) pa_nil))))) pa_nil)))
  (pss_one (ps_set (i := 2) sc_law_count.nd rfl (Or.inl rfl) (pe_op op_add (pe_op op_add (pv 2) (pe_op op_mul (pe_bmS PySem.F.plainAttrs_str PySem.F.slot_str_index PySem.F.type_str_index (mt_indexX rfl LamX.takes0) (pv 1) (pa_cons (pe_ix ix_str (pv 0) (pv 3) (fun _ _ => rfl)) pa_nil)) (pv 4))) (pe_callTy call_int1 (by rfl) M.int (by decide +kernel) (pa_cons (pe_cmpR op_gt (pv 3) pe_int (nomark _)) pa_nil)))))))
  (pss_one (ps_ret (pv 2))))), ?_⟩
    obtain ⟨l, rfl, hl, hQ⟩ := h
    refine ⟨by show 2 ≤ sizeLine; decide, fun T nT => ⟨T, _, rfl, .inl (.inl upd_same), rfl, _, _, rfl, _, _, rfl, rfl, ?_⟩⟩
    refine ⟨_, rfl, .str (S l), _, rfl, ⟨small_len hl.len, rfl⟩, _, rfl, by omega, by have := hl.len; rw [S_len]; omega, ?_⟩
    refine for_it walk_range (fun i σ H' => Same H H' ∧ ∃ v v', σ = [some (.str (S l)), some (.str (S abc)), some (.int ((R 8 l : Int) - (R (8 - i) (l.drop i) : Int) - (if i = 0 then 0 else 1))), v, v', none]) ⟨.upd nT, none, none, ?_⟩ (fun _ _ _ _ _ => True.intro) ?_ ?_
    · show [some (V.str (S l)), some (.str (PySem.Str.ofString "abcdefghijklmnopqrstuvwxyz")), some (.int 0), none, none, none] = _
      rw [letters_S]
      have e : (R 8 l : Int) - (R (8 - 0) (l.drop 0) : Int) - (if (0 : Nat) = 0 then 0 else 1) = 0 := by
        rw [List.drop_zero]
        simp
      rw [e]
    · rintro i x σ H' H'' hi ⟨sm, v, v', rfl⟩ ⟨rfl, rfl⟩
      have hil : i < l.length := by
        rw [S_len] at hi
        simpa using hi
      have hi8 : i < 8 := Nat.lt_of_lt_of_le hil hl.len
      have hc' : l[i]? = some l[i] := List.getElem?_eq_getElem hil
      have hcl : Let l[i] := hl.let_ _ (List.getElem_mem hil)
      have ed : l.drop i = l[i] :: l.drop (i + 1) := List.drop_eq_getElem_cons hil
      have eR : R (8 - i) (l.drop i) = 1 + (l[i] - 97) * L (7 - i) + R (8 - (i + 1)) (l.drop (i + 1)) := by
        rw [ed, show 8 - i = (7 - i) + 1 by omega, show 8 - (i + 1) = 7 - i by omega]
        rfl
      have e8 : ((8 : Int) - (0 + (i : Int))).toNat = (7 - i) + 1 := by omega
      refine ⟨_, rfl, _, _, rfl, rfl, _, rfl, by omega, by omega, fun D nD => ?_⟩
      refine lc_same walk_rangeV (by simp) (fun z => match z with | .int j => some (.int ((26 ^ j.toNat : Nat) : Int)) | _ => none) nD (by rw [List.length_map, List.length_range, e8]; exact Nat.lt_of_le_of_lt (show 7 - i + 1 ≤ 8 by omega) (by decide)) (fun _ _ => True.intro) (fun z hz H1 acc s1 hl1 hz1 Nx n1 n2 => ?_) (fun H1 s1 hl1 => ?_)
      · obtain ⟨j, hj, rfl⟩ := List.mem_map.mp hz
        have hj8 : j ≤ 8 := by
          have := List.mem_range.mp hj
          omega
        have ej : (0 + (j : Int)).toNat = j := by omega
        refine ⟨rfl, ⟨_, rfl, rfl, _, rfl, ?_⟩⟩
        by_cases e0 : j = 0
        · subst e0
          exact iteT ⟨_, _, rfl, rfl, ⟨by decide, by decide, by decide⟩, acc, hl1, hz1, n1 H1 _ (Same.refl H1) rfl⟩
        · have e1 : decide (V.int (0 + (j : Int)) = V.int 0) = false := decide_eq_false fun z => e0 (by have := V.int.inj z; omega)
          rw [e1]
          refine iteF ⟨_, rfl, j, ?_, by omega, .inl ⟨_, rfl, acc, hl1, hz1, n1 H1 _ (Same.refl H1) ?_⟩⟩
          · show [V.int (0 + (j : Int))] = _
            rw [Int.zero_add]
          · show some (V.int ((26 ^ (0 + (j : Int)).toNat : Nat) : Int)) = _
            rw [ej]
      · have en : ((List.range ((8 : Int) - (0 + (i : Int))).toNat).map fun j => V.int (0 + (j : Nat))).filterMap (fun z => match z with | .int j => some (V.int ((26 ^ j.toNat : Nat) : Int)) | _ => none) = ((List.range (7 - i + 1)).map fun s => ((26 ^ s : Nat) : Int)).map V.int := by
          rw [e8, List.filterMap_map, List.map_map]
          have : ((fun z => match z with | V.int j => some (V.int ((26 ^ j.toNat : Nat) : Int)) | _ => none) ∘ fun j : Nat => V.int (0 + (j : Nat))) = fun s : Nat => some (V.int ((26 ^ s : Nat) : Int)) := by
            funext s
            show some (V.int ((26 ^ (0 + (s : Int)).toNat : Nat) : Int)) = _
            rw [show (0 + (s : Int)).toNat = s by omega]
          rw [this]
          simp [List.filterMap_eq_map, Function.comp_def]
        refine ⟨D, (List.range (7 - i + 1)).map fun s => ((26 ^ s : Nat) : Int), rfl, .inl (.inl ?_), ?_⟩
        · rw [hl1]
          exact congrArg (fun q => some (HO.lst q)) en
        · rw [sum_pow]
          refine ⟨_, rfl, _, rfl, rfl, _, rfl, _, rfl, S l, _, l[i], rfl, rfl, small_len hl.len, ?_, S abc, ⟨#[l[i]]⟩, rfl, rfl, fun k hk => ?_, fun z => ?_⟩
          · rw [Int.zero_add]
            exact atI_nat hc'
          · rw [index_abc hcl] at hk
            cases hk
            refine ⟨_, rfl, _, _, rfl, rfl, .inl ⟨by omega, by unfold Let at hcl; omega⟩, _, _, rfl, rfl, _, rfl, _, _, rfl, rfl, .inr ⟨_, rfl, _, _, rfl, rfl, sm.trans s1, some (.int (0 + (i : Int))), some (.int (L (7 - i) : Int)), ?_⟩⟩
            have e5 : ((l[i] - 97 : Nat) : Int) * ((L (7 - i) : Nat) : Int) = (((l[i] - 97) * L (7 - i) : Nat) : Int) := by rw [Int.natCast_mul]
            have e6 : (if decide ((0 : Int) < 0 + (i : Int)) = true then (1 : Int) else 0) = if i = 0 then 0 else 1 := by
              by_cases z : i = 0
              · subst z
                rfl
              · rw [if_neg z, if_pos (decide_eq_true (by omega))]
            have e4 : ((R 8 l : Int) - (R (8 - i) (l.drop i) : Int) - (if i = 0 then 0 else 1)) + ((l[i] - 97 : Nat) : Int) * ((L (7 - i) : Nat) : Int) + (if decide ((0 : Int) < 0 + (i : Int)) = true then (1 : Int) else 0) = (R 8 l : Int) - (R (8 - (i + 1)) (l.drop (i + 1)) : Int) - (if i + 1 = 0 then 0 else 1) := by
              rw [e5, e6, eR, if_neg (show ¬ i + 1 = 0 by omega)]
              omega
            rw [← e4]
            rfl
          · rw [index_abc hcl] at z
            cases z
    · rintro σ H' ⟨sm, v, v', rfl⟩
      refine ⟨_, rfl, ?_⟩
      have e0 : ((S l).length : Int).toNat = l.length := by
        rw [S_len]
        rfl
      have e : (R 8 l : Int) - (R (8 - ((S l).length : Int).toNat) (l.drop ((S l).length : Int).toNat) : Int) - (if ((S l).length : Int).toNat = 0 then 0 else 1) = (R 8 l : Int) - 1 := by
        have := hl.pos
        rw [e0, List.drop_length, R_nil, if_neg (by omega)]
        omega
      show Q (.int ((R 8 l : Int) - (R (8 - ((S l).length : Int).toNat) (l.drop ((S l).length : Int).toNat) : Int) - (if ((S l).length : Int).toNat = 0 then 0 else 1))) H'
      rw [e]
      exact hQ _ sm
theorem d_law_right (M : MG mg) (S0 : St0 K mg "_law_right_behind" s_law_right_behind ["name", "later"]) : Df P w K mg base CX0 1 "_law_right_behind" s_law_right_behind ["name", "later"] spRight := by
  refine S0.df sc_law_right_behind (fun vs H Q E h => ?_) (fun f cdv A outer s H vs Q E hr h => ?_)
  · obtain ⟨l, rfl, _⟩ := h
    rfl
  · refine ⟨_, PSs.nox (pss_cons (ps_if (pt_cmpR op_lt (pe_callB call_len (by rfl) M.len boot_len (pa_cons (pv 0) pa_nil)) pe_int (nomark _)) (pss_one (ps_ret (pe_cmpR op_eq (pv 1) (pe_op op_add_str (pv 0) pe_str) (nomark _)))) pss_nil)
  (pss_cons (ps_set (i := 2) sc_law_right_behind.nd rfl (Or.inl rfl) pe_int)
  (pss_cons (ps_while PassesOwn.never (PW.pt (pw_and (pt_cmpR op_gt (pv 2) pe_int (nomark _)) (pw_and1 (pt_cmpR op_eq (pe_ix ix_str (pv 0) (pe_op op_sub (pv 2) pe_int) (fun _ _ => rfl)) pe_str (nomark _))))) (pss_one (ps_set (i := 2) sc_law_right_behind.nd rfl (Or.inl rfl) (pe_op op_sub (pv 2) pe_int))))
  (pss_cons (ps_set (i := 3) sc_law_right_behind.nd rfl (Or.inl rfl) pe_str)
  (pss_one (ps_ret (pe_ifExp (pt_cmpR op_eq (pv 2) pe_int (nomark _)) (pe_cmpR op_isN (pv 1) pe_non (nomark _)) (pe_cmpR op_eq (pv 1) (pe_op op_add_str (pe_slice sl_str (pv 0) po_none (po_some (pe_op op_sub (pv 2) pe_int))) (pe_ix ix_str (pv 3) (pe_op op_add (pe_bmS PySem.F.plainAttrs_str PySem.F.slot_str_index PySem.F.type_str_index (mt_indexX rfl LamX.takes0) (pv 3) (pa_cons (pe_ix ix_str (pv 0) (pe_op op_sub (pv 2) pe_int) (fun _ _ => rfl)) pa_nil)) pe_int) (fun _ _ => rfl))) (nomark _))))))))), ?_⟩
    obtain ⟨l, rfl, hl, hQ⟩ := h
    refine ⟨_, rfl, .str (S l), _, rfl, ⟨small_len hl.len, rfl⟩, _, _, rfl, rfl, _, rfl, ite2 (fun h1 => ?_) (fun h1 => ?_)⟩
    · have h2 : l.length < 8 := by have := of_decide_eq_true h1; rw [S_len] at this; omega
      refine ⟨_, rfl, _, rfl, S l, _, rfl, rfl, ?_, ?_, ?_⟩
      · rw [a_S, S_len, S_len]
        exact Nat.le_trans (show l.length + 1 ≤ 9 by omega) (by decide)
      · rw [nxt_short 8 l h2]
        rfl
      · rw [nxt_short 8 l h2, a_S, S_app]
        rw [show decide (nv (some (l ++ [97])) = V.str (S (l ++ [97]))) = true from decide_eq_true rfl]
        exact hQ
    · have h2 : l.length = 8 := by
        have : ¬ l.length < 8 := fun z => h1 (decide_eq_true (by rw [S_len]; omega))
        have := hl.len
        omega
      have nf := nxt_full 8 l h2 hl.let_
      obtain ⟨n, el⟩ := cutz_app l
      obtain ⟨m, em⟩ : ∃ m, m = cutz l := ⟨_, rfl⟩
      rw [← em] at el
      have hlen : m.length + n = 8 := by
        rw [← h2, el]
        simp
      have hl0 : (S l).length = 8 := by rw [S_len, h2]
      refine ⟨fun q σ H' => H' = H ∧ ∃ k : Nat, σ = [some (.str (S l)), some (nv (nxt 8 l)), some (.int k), none] ∧ m.length ≤ k ∧ k ≤ 8 ∧ q = k, ⟨8, rfl, 8, rfl, by omega, Nat.le_refl _, rfl⟩, ?_⟩
      rintro k σ H' ⟨rfl, _, rfl, hk1, hk2, rfl⟩
      refine ⟨_, rfl, _, _, rfl, rfl, _, rfl, ite2 (fun h3 => ?_) (fun h3 => ?_)⟩
      · have hk0 : 0 < k := by have := of_decide_eq_true h3; omega
        have hkl : k - 1 < l.length := by omega
        have ek : (k : Int) - 1 = ((k - 1 : Nat) : Int) := by omega
        have hat : atI l ((k : Int) - 1) = some l[k - 1] := by
          rw [ek]
          exact atI_nat (List.getElem?_eq_getElem hkl)
        refine ⟨_, rfl, _, rfl, _, _, rfl, rfl, S l, _, l[k - 1], rfl, rfl, small_len hl.len, hat, rfl, _, rfl, ?_⟩
        rw [z_S]
        by_cases hm : m.length < k
        · have e1 : l[k - 1] = 122 := by
            have : l[k - 1]? = some 122 := by
              rw [el, List.getElem?_append_right (by omega), List.getElem?_replicate]
              rw [if_pos (by omega)]
            rw [List.getElem?_eq_getElem hkl] at this
            exact Option.some.inj this
          rw [show decide (V.str ⟨#[l[k - 1]]⟩ = V.str (S [122])) = true from decide_eq_true (by rw [e1]; rfl)]
          refine iteT ⟨fun σ' H'' => H'' = H' ∧ σ' = [some (.str (S l)), some (nv (nxt 8 l)), some (.int ((k - 1 : Nat) : Int)), none], ?_, _, rfl, _, _, rfl, rfl, rfl, ?_⟩
          · rintro σ' H'' ⟨rfl, rfl⟩
            exact ⟨k - 1, by omega, rfl, k - 1, rfl, by omega, by omega, rfl⟩
          · rw [← ek]
            rfl
        · have ekm : k = m.length := by omega
          have hmne : m ≠ [] := fun z => by rw [z] at ekm; simp at ekm; omega
          obtain ⟨m', d, e⟩ : ∃ m' d, m = m' ++ [d] := by
            rcases List.eq_nil_or_concat m with e | ⟨m', d, e⟩
            · exact absurd e hmne
            · exact ⟨m', d, by simpa using e⟩
          have hd := cutz_last l m' d (by rw [← em, e])
          obtain ⟨f1, f2⟩ := nf.2 m' d (by rw [← em, e])
          have ekm' : k - 1 = m'.length := by rw [ekm, e]; simp
          have e1 : l[k - 1] = d := by
            have : l[k - 1]? = some d := by
              rw [el, e, List.append_assoc, ekm', List.getElem?_append_right (Nat.le_refl _)]
              simp
            rw [List.getElem?_eq_getElem hkl] at this
            exact Option.some.inj this
          rw [e1]
          rw [show decide (V.str ⟨#[d]⟩ = V.str (S [122])) = false from decide_eq_false fun z => hd (by have := S_inj (l := [d]) (m := [122]) (V.str.inj z); simpa using this)]
          have hdl : Let d := by
            rw [← e1]
            exact hl.let_ _ (List.getElem_mem hkl)
          refine iteF ⟨_, rfl, rfl, _, rfl, ?_⟩
          rw [show decide (V.int (k : Int) = V.int 0) = false from decide_eq_false fun z => by have := V.int.inj z; omega]
          have ekk : (k : Int) - 1 = ((m'.length : Nat) : Int) := by omega
          have hsl : (S l).length ≤ sizeLine := small_len hl.len
          refine iteF ⟨_, rfl, _, rfl, _, rfl, _, _, rfl, rfl, _, rfl, S l, rfl, hsl, _, rfl, _, rfl, rfl, _, rfl, _, rfl, _, _, rfl, rfl, S l, _, d, rfl, rfl, hsl, hat.trans (congrArg some e1), _, _, rfl, rfl, fun j hj => ?_, fun z => ?_⟩
          · rw [letters_S, index_abc hdl] at hj
            cases hj
            refine ⟨_, _, rfl, rfl, PySem.Str.ofString "abcdefghijklmnopqrstuvwxyz", _, d + 1, rfl, rfl, ?_, ?_, S m', ⟨#[d + 1]⟩, ?_, rfl, ?_, by rw [f1]; rfl, ?_⟩
            · rw [letters_S, S_len, abc_len]
              decide
            · rw [letters_S]
              have e3 : ((d - 97 : Nat) : Int) + 1 = ((d + 1 - 97 : Nat) : Int) := by unfold Let at hdl; omega
              rw [e3]
              have q := abc_get (i := d + 1 - 97) (by omega)
              rw [show 97 + (d + 1 - 97) = d + 1 by unfold Let at hdl; omega] at q
              exact atI_nat q
            · rw [ekk, cut_take l m'.length (by omega)]
              have : l.take m'.length = m' := by
                rw [el, e, List.append_assoc]
                simp
              rw [this]
            · rw [S_len]
              show m'.length + 1 ≤ sizeLine
              exact Nat.le_trans (show m'.length + 1 ≤ 8 by omega) (by decide)
            · rw [f1]
              rw [show decide (nv (some (m' ++ [d + 1])) = V.str (S m' ++ ⟨#[d + 1]⟩)) = true from decide_eq_true (congrArg V.str (S_app m' [d + 1]).symm)]
              exact hQ
          · rw [letters_S, index_abc hdl] at z
            cases z
      · have hk0 : k = 0 := by
          have : ¬ (0 : Int) < k := fun z => h3 (decide_eq_true z)
          omega
        have hm0 : m = [] := List.length_eq_zero_iff.mp (by omega)
        have hn := nf.1 (by rw [← em, hm0])
        subst hk0
        refine iteF ⟨_, rfl, rfl, _, rfl, iteT ⟨_, rfl, rfl, ?_⟩⟩
        rw [hn]
        exact hQ
end
end K92
set_option Elab.async false
set_option linter.all false
set_option maxRecDepth 100000
set_option maxHeartbeats 4000000
namespace K92
open PySem PySem.Spec PyProof.Rows L2 Nam PlugX LamX
abbrev s_law_error : Stmt := top 26
abbrev N_law_error : List Str := ["ask", "found", "caught", "error", "kinds", "words", "word", "is_so"]
theorem sc_law_error : FnScope N_law_error ["ask"] (defScope s_law_error) := ⟨rfl, rfl, rfl, by decide +kernel, rfl, by decide +kernel, by decide +kernel⟩
/-- the error classes behind the top -/
structure ErrK (K : PySem.W.Frag) (mg : Str → Option Value) (CP CV CN CM CNn CE CT : Addr) : Prop where
  gP : mg "PlugError" = some (.ref CP)
  BadValue : Gc mg "BadValue" (.ref CV)
  BadNumber : Gc mg "BadNumber" (.ref CN)
  Misfit : Gc mg "Misfit" (.ref CM)
  NoName : Gc mg "NoName" (.ref CNn)
  BadEvent : Gc mg "BadEvent" (.ref CE)
  TooMany : Gc mg "TooMany" (.ref CT)
  exm : PySem.W.exmOne K (.ref CV) (.ref CP) = some true
  ex : ExcC K CV
  xf : XfC K CV
  noF : PySem.W.findIn K (.ref CV) "part" = some none
  vv : PySem.W.kitOne K (.ref CV) (.ref CV) = some true
  vn : PySem.W.kitOne K (.ref CV) (.ref CN) = some false
  vm : PySem.W.kitOne K (.ref CV) (.ref CM) = some false
/-- what _law_error makes of what it asks: BadValue's part, with its word -/
def TErr (CV : Addr) : (XK → Hp → VK → Prop) → Hp → VK → Prop := fun tl H Q => ∀ H1 Q', Same H H1 → (∀ v H', (∀ p, H' p = none → Q (.ref p) (upd H' p (.lst [v]))) → Q' v H') →
  tl (fun cls d H' => ∃ dd v, cls = .ref CV ∧ d = some dd ∧ H' dd = some (.xd [("part", v)]) ∧ ∀ H'' p, Same H' H'' → H' p = none → H'' p = some (.tup [.str "value", v]) → Q (.ref p) H'') H1 Q'
theorem xs_walk {K : PySem.W.Frag} (a : Addr) (xs : List V) : Walk (Itl K a) xs.length (fun H => SqL K H a xs) (fun i H x H' => H' = H ∧ xs[i]? = some x) := walk_list
theorem err_gives {X : Cx} {g CP CV CN CM CNn CE CT : Addr} {cdg : Value} {q : Str} {k : Nat} (M : MG X.mg) (K1 : ErrK X.K X.mg CP CV CN CM CNn CE CT) (hr : Room (k + 1) X.A) :
    GivesTo X N_law_error "_law_error" (defScope s_law_error) g cdg (defBody s_law_error) "ask" q (TErr CV) := by
  intro f c' s H Q tl act hc h
  have hr' : Room k (cxOf C8.CX0 X.prog X.w X.K X.mg X.base N_law_error "_law_error" (defScope s_law_error) g cdg X.A X.stack s H C8.E0).nox.A := hr.deeper _
  refine ⟨_, (pss_cons (ps_asg (pe_tup (pa_cons pe_non (pa_cons pe_non pa_nil))) (pg_tup rfl (pgs_cons (pg_name (i := 1) sc_law_error.nd rfl (Or.inl rfl)) (pgs_cons (pg_name (i := 2) sc_law_error.nd rfl (Or.inl rfl)) pgs_nil))))
  (pss_cons (ps_try_keep (X := (cxOf C8.CX0 X.prog X.w X.K X.mg X.base N_law_error "_law_error" (defScope s_law_error) g cdg X.A X.stack s H C8.E0).nox) (i := 3) (j := 2) (c := .ref CP)
      (tb := fun W D σ H => ∃ Ech : XK, (∀ cls d σ' H', Ech cls d H' → W cls d σ' H') ∧ σ[0]? = some (some (.ref f)) ∧ H c' = some (CodeO c' q) ∧ tl Ech H fun v H' => D.nx (σ.set 1 (some v)) H')
      rfl rfl rfl sc_law_error.nd rfl rfl (by decide) rfl rfl ⟨rfl, by decide, .inl K1.gP⟩ takes0 (by decide) (by decide) rfl (fun W pn xe tk _ => ?_))
  (pss_cons (ps_if (pt_cmpR op_isN (pv 2) pe_non (nomark _)) (pss_one (ps_ret (pe_lst (pa_cons (pv 1) pa_nil)))) pss_nil)
  (pss_cons (ps_set (i := 4) sc_law_error.nd rfl (Or.inl rfl) (pe_lst (pa_cons (pe_tup (pa_cons pe_str (pa_cons (pe_callB call_isV (by rfl) M.isinstance (by decide +kernel) (pa_cons (pv 2) (pa_cons (pgc rfl K1.BadValue) pa_nil))) pa_nil))) (pa_cons (pe_tup (pa_cons pe_str (pa_cons (pe_callB call_isV (by rfl) M.isinstance (by decide +kernel) (pa_cons (pv 2) (pa_cons (pgc rfl K1.BadNumber) pa_nil))) pa_nil))) (pa_cons (pe_tup (pa_cons pe_str (pa_cons (pe_callB call_isV (by rfl) M.isinstance (by decide +kernel) (pa_cons (pv 2) (pa_cons (pgc rfl K1.Misfit) pa_nil))) pa_nil))) pa_nil)))))
  (pss_cons (ps_setLc (i := 5) (own := [("word", 6), ("is_so", 7)]) (g := gTup X.K 2 (gCons (gName 6) (gCons (gName 7) gNil))) rfl sc_law_error.nd rfl rfl (sw_true rfl rfl rfl (by decide +kernel)) (pi_list (pv 4)) (blkOk_by (own := [("word", 6), ("is_so", 7)]) (N := N_law_error) (sc := defScope s_law_error) (by decide +kernel)) (fun _ _ _ _ _ => (pg_tup (n := 2) rfl (pgs_cons (pg_name (i := 6) sc_law_error.nd rfl (Or.inl rfl)) (pgs_cons (pg_name (i := 7) sc_law_error.nd rfl (Or.inl rfl)) pgs_nil)))) (fun _ _ _ _ _ => (pts_one (pt_val (pv 7)))) (fun _ _ _ _ _ => (pv 6)))
  (pss_cons (ps_if (pt_cmpR (op_neD hr'.units) (pv 5) (pe_lst pa_nil) (nomark _)) (pss_one (ps_ret (pe_ifExp (pt_cmpR op_eq (pe_callB call_len (by rfl) M.len boot_len (pa_cons (pv 5) pa_nil)) pe_int (nomark _)) (pe_tup (pa_cons (pe_ix ix_list (pv 5) pe_int (fun _ _ => rfl)) (pa_cons (pe_xv (pv 2)) pa_nil))) (pe_tup (pa_cons pe_str pa_nil))))) pss_nil)
  (pss_cons (ps_if (pt_val (pe_callB call_isV (by rfl) M.isinstance (by decide +kernel) (pa_cons (pv 2) (pa_cons (pgc rfl K1.NoName) pa_nil)))) (pss_one (ps_ret (pe_tup (pa_cons pe_str (pa_cons (pe_xv (pv 2)) pa_nil))))) pss_nil)
  (pss_cons (ps_if (pt_val (pe_callB call_isV (by rfl) M.isinstance (by decide +kernel) (pa_cons (pv 2) (pa_cons (pgc rfl K1.BadEvent) pa_nil)))) (pss_one (ps_ret (pe_tup (pa_cons pe_str (pa_cons (pe_xv (pv 2)) pa_nil))))) pss_nil)
  (pss_one (ps_ret (pe_ifExp (pt_val (pe_callB call_isV (by rfl) M.isinstance (by decide +kernel) (pa_cons (pv 2) (pa_cons (pgc rfl K1.TooMany) pa_nil)))) (pe_tup (pa_cons pe_str (pa_cons (pe_xv (pv 2)) (pa_cons (pe_xv (pv 2)) pa_nil)))) (pe_tup (pa_cons pe_str pa_nil))))))))))))), ?_⟩
  · refine ⟨fun pins s' σ H' D I h' => ?_⟩
    obtain ⟨Ech, hW, h1, h2, h3⟩ := h'
    refine (pss_one (ps_set (X := (cxOf C8.CX0 X.prog X.w X.K X.mg X.base N_law_error "_law_error" (defScope s_law_error) g cdg X.A X.stack s H C8.E0).nox.tr pn xe) (i := 1) sc_law_error.nd rfl (Or.inl rfl) (act W pn xe Ech _ _ tk hW))).run pins s' σ H' D I ?_
    exact ⟨h1, h2, h3⟩
  · refine ⟨by show 2 ≤ sizeLine; decide, fun T nT => ⟨T, _, rfl, .inl (.inl upd_same), rfl, _, _, rfl, _, _, rfl, rfl, ?_⟩⟩
    have sT : Same H (upd H T (.tup [.non, .non])) := .upd nT
    refine ⟨_, ?_, rfl, sT _ _ hc, h _ _ sT fun v H' hv => ?_⟩
    rotate_left
    · refine ⟨_, rfl, rfl, _, rfl, iteT ⟨_, rfl, by show 1 ≤ sizeLine; decide, fun p np => hv p np⟩⟩
    rintro cls d σ' H' ⟨dd, v, rfl, rfl, hdd, hQ⟩
    refine ⟨true, K1.exm, fun _ a na hlen => ?_, fun z => nomatch z⟩
    have hlen : σ'.length = 8 := hlen
    match σ', hlen with
    | [x0, x1, x2, x3, x4, x5, x6, x7], _ =>
      refine ⟨_, rfl, rfl, _, rfl, iteF ?_⟩
      obtain ⟨HX, eX⟩ : ∃ HX, HX = upd H' a (ExV (.ref CV) (some dd) a) := ⟨_, rfl⟩
      have sX : Same H' HX := by
        rw [eX]
        exact .upd na
      have iX : ∀ H2, Same HX H2 → IsXv H2 a CV dd [("part", v)] := fun H2 s2 => ⟨s2 _ _ (by rw [eX]; exact upd_same), s2 _ _ (sX _ _ hdd)⟩
      rw [← eX]
      show tSeq _ _ _ _ HX
      refine ⟨_, rfl, a, CV, dd, _, _, _, true, rfl, iX _ (.refl _), K1.ex, .own CV, K1.vv, by show 2 ≤ sizeLine; decide, fun t1 n1 => ?_⟩
      have s1 := Same.upd (o := .tup [.str "value", .bl true]) n1
      refine ⟨_, rfl, a, CV, dd, _, _, _, false, rfl, iX _ s1, K1.ex, .own CN, K1.vn, by show 2 ≤ sizeLine; decide, fun t2 n2 => ?_⟩
      have s2 := Same.upd (o := .tup [.str "number", .bl false]) n2
      refine ⟨_, rfl, a, CV, dd, _, _, _, false, rfl, iX _ (s1.trans s2), K1.ex, .own CM, K1.vm, by show 2 ≤ sizeLine; decide, fun t3 n3 => ?_⟩
      have s3 := Same.upd (o := .tup [.str "misfit", .bl false]) n3
      refine ⟨by show 3 ≤ sizeLine; decide, fun l nl => ?_⟩
      have s4 := Same.upd (o := .lst [.ref t1, .ref t2, .ref t3]) nl
      have e1 := s4 _ _ (s3 _ _ (s2 _ _ (upd_same (H := HX) (a := t1) (o := .tup [.str "value", .bl true]))))
      have e2 := s4 _ _ (s3 _ _ (upd_same (a := t2) (o := .tup [.str "number", .bl false])))
      have e3 := s4 _ _ (upd_same (a := t3) (o := .tup [.str "misfit", .bl false]))
      have sA := ((s1.trans s2).trans s3).trans s4
      refine ⟨_, rfl, l, rfl, ⟨_, .inl (.inl upd_same)⟩, fun D nD => ?_⟩
      refine lc_same (xs_walk l [.ref t1, .ref t2, .ref t3]) rfl (fun z => if z = .ref t1 then some (.str "value") else none) nD (by show 3 < sizeLine; decide) (fun H2 s => s.seq (.inl (.inl upd_same))) (fun z hz H2 acc s5 hl5 hz5 Nx m1 m2 => ?_) (fun H2 s5 hl5 => ?_)
      · have n12 : t1 ≠ t2 := ne_of_none upd_same n2
        have n13 : t1 ≠ t3 := ne_of_none (s2 _ _ upd_same) n3
        simp only [List.mem_cons, List.not_mem_nil, or_false] at hz
        rcases hz with e | e | e
        · subst e
          refine ⟨t1, _, rfl, .inl (.inl (s5 _ _ e1)), rfl, _, _, rfl, _, _, rfl, rfl, rfl, _, rfl, true, rfl, ?_⟩
          exact iteT ⟨_, rfl, acc, hl5, hz5, m1 H2 _ (.refl _) (if_pos rfl)⟩
        · subst e
          refine ⟨t2, _, rfl, .inl (.inl (s5 _ _ e2)), rfl, _, _, rfl, _, _, rfl, rfl, rfl, _, rfl, false, rfl, ?_⟩
          exact iteF (m2 H2 (.refl _) (if_neg fun z => n12 (V.ref.inj z).symm))
        · subst e
          refine ⟨t3, _, rfl, .inl (.inl (s5 _ _ e3)), rfl, _, _, rfl, _, _, rfl, rfl, rfl, _, rfl, false, rfl, ?_⟩
          exact iteF (m2 H2 (.refl _) (if_neg fun z => n13 (V.ref.inj z).symm))
      · have n12 : t1 ≠ t2 := ne_of_none upd_same n2
        have n13 : t1 ≠ t3 := ne_of_none (s2 _ _ upd_same) n3
        have ew : [V.ref t1, .ref t2, .ref t3].filterMap (fun z => if z = .ref t1 then some (V.str "value") else none) = [.str "value"] := by
          have m2 : ¬ V.ref t2 = V.ref t1 := fun z => n12 (V.ref.inj z).symm
          have m3 : ¬ V.ref t3 = V.ref t1 := fun z => n13 (V.ref.inj z).symm
          simp [m2, m3]
        rw [ew] at hl5
        refine ⟨_, rfl, Nat.zero_le _, fun q1 nq => ?_⟩
        have s6 := Same.upd (o := .lst []) nq
        refine ne_nil (xs := [.str "value"]) (ds := [.str "value"]) (.inl (.inl (s6 _ _ hl5))) (.cons (.str _) .nil) (fun d hd => ?_) upd_same ⟨_, rfl, iteT ?_⟩
        · rw [List.mem_singleton.mp hd]
          exact ⟨by decide +kernel, by decide⟩
        · refine ⟨_, rfl, .ref D, _, rfl, .inl ⟨_, .inl (.inl (s6 _ _ hl5)), rfl⟩, rfl, _, rfl, iteT ?_⟩
          refine ⟨_, rfl, D, _, 0, _, rfl, rfl, .inl (.inl (s6 _ _ hl5)), rfl, _, rfl, a, CV, dd, _, v, rfl, iX _ ((sA.trans s5).trans s6), K1.xf, K1.noF, rfl, by show 2 ≤ sizeLine; decide, fun p np => ?_⟩
          have sB := sX.trans ((sA.trans s5).trans s6)
          exact hQ _ p (sB.trans (.upd np)) (sB.free np) upd_same
end K92
set_option Elab.async false
set_option linter.all false
set_option maxRecDepth 100000
set_option maxHeartbeats 4000000
namespace K92
open PySem PySem.Spec PyProof.Rows L2 Nam PlugX LamX LamB
section
variable {X : Cx} {CP CV CN CM CNn CE CT c P : Addr} {T : List (Addr × Str)} {k : Nat} {p lpos pos : Pos} {body : Expr} {scope : Scope} {t : XK → TE}
/-- _law_error(lambda: body) -/
theorem pe_err {params : Arguments} (M : MG X.mg) (K1 : ErrK X.K X.mg CP CV CN CM CNn CE CT) (S0 : St0 X.K X.mg "_law_error" s_law_error ["ask"]) (hg : Gl X "_law_error")
    (TB : LamX.TabB X.base X.mg c P) (hcode : X.env.code = .ref c) (hmT : (P, X.env.qual ++ "<lambda>") ∈ T) (hu : ∀ p ∈ T, p.1 = P → p.2 = X.env.qual ++ "<lambda>") (hr : Room (k + 2) X.A) (L : LamS X.env.scope scope) (hdef : defaultsOf params X.env = ([], []))
    (hbind : ∀ (q : Str) (cl : List (Str × Addr)) (pm cv ctv : Value), bindArgs (PySem.W.kla_fn "<lambda>" q params body scope cl pm cv ctv) ⟨[], []⟩ = pure [])
    (hbody : ∀ (A : Around) (outer : List Env) (s : Shared) (H : Hp) (E : XK) (f c' : Addr), Room k (A.deeper (lamEnv X scope s.heap.objs.size f c')) → PE (lamCx X A outer s H E scope f c') body (t E)) :
    PE X (.Call (.Name "_law_error" p) [.Lambda params body scope lpos] [] pos) (tLam T (TErr CV) t) := by
  obtain ⟨f, fd, a, b, d⟩ := S0.ex
  obtain ⟨oc, od, dV, kV, doc, pm, an, cdv, ct, osl, rfl, lk, hcd, _, _⟩ := b.ex
  exact pe_lamcall hg a b.kp lk hcd d sc_law_error rfl (.inl rfl) (err_gives M K1 hr) TB hcode hmT hu hr L hdef hbind hbody
/-- _law_error(lambda b=i: body) -/
theorem pe_err1 {b : Str} {i0 : Int} {p1 p2 : Pos} {j0 : Nat} (M : MG X.mg) (K1 : ErrK X.K X.mg CP CV CN CM CNn CE CT) (S0 : St0 X.K X.mg "_law_error" s_law_error ["ask"]) (hg : Gl X "_law_error")
    (TB : LamX.TabB X.base X.mg c P) (hcode : X.env.code = .ref c) (hmT : (P, X.env.qual ++ "<lambda>") ∈ T) (hu : ∀ p ∈ T, p.1 = P → p.2 = X.env.qual ++ "<lambda>") (hr : Room (k + 2) X.A) (L : LamS1 X.N b X.env.scope scope)
    (hbody : ∀ (A : Around) (outer : List Env) (s : Shared) (H : Hp) (E : XK) (f c' : Addr), Room k (A.deeper (lamEnv X scope s.heap.objs.size f c')) → PE (lamCx X A outer s H E scope f c') body (t E)) :
    PE X (.Call (.Name "_law_error" p) [.Lambda (prms b i0 p1 p2 j0) body scope lpos] [] pos) (tLam T (TErr CV) t) := by
  obtain ⟨f, fd, a, b, d⟩ := S0.ex
  obtain ⟨oc, od, dV, kV, doc, pm, an, cdv, ct, osl, rfl, lk, hcd, _, _⟩ := b.ex
  exact pe_lamcall1 hg a b.kp lk hcd d sc_law_error rfl (.inl rfl) (err_gives M K1 hr) TB hcode hmT hu hr L hbody
end
abbrev s_law : Stmt := top 32
abbrev N_law : List Str := ["script", "pen", "turn", "name", "other", "later", "row", "lap", "taken", "left", "heard", "bad", "odd", "one", "size"]
theorem sc_law : FnScope N_law ["script"] (defScope s_law) := ⟨rfl, rfl, rfl, by decide +kernel, rfl, by decide +kernel, by decide +kernel⟩
theorem KB_next_name : ∀ (kV doc pm : Value) (an : Option Addr) (cdv ct : Value) (ws : List Value), (id ws).length = (["name"] : List Str).length → bindArgs (PySem.W.fnOf "next_name" "next_name" (defArgs s_next_name) (defBody s_next_name) (defScope s_next_name) .none kV doc pm an cdv ct) ⟨[], (["name"] : List Str).zip ws⟩ = pure ((["name"] : List Str).zip (id ws)) :=
  fun _ _ _ _ _ _ ws hl => match ws, hl with
  | [_], _ => rfl
def swap2 {α : Type} : List α → List α
  | a :: b :: r => b :: a :: r
  | l => l
theorem KB_between : ∀ (kV doc pm : Value) (an : Option Addr) (cdv ct : Value) (ws : List Value), (swap2 ws).length = (["low", "high"] : List Str).length → bindArgs (PySem.W.fnOf "names_between" "names_between" (defArgs s_names_between) (defBody s_names_between) (defScope s_names_between) .none kV doc pm an cdv ct) ⟨[], (["high", "low"] : List Str).zip ws⟩ = pure ((["low", "high"] : List Str).zip (swap2 ws)) :=
  fun _ _ _ _ _ _ ws hl => match ws, hl with
  | [_, _], _ => rfl
theorem KB_free : ∀ (kV doc pm : Value) (an : Option Addr) (cdv ct : Value) (ws : List Value), (swap2 ws).length = (["low", "high", "taken"] : List Str).length → bindArgs (PySem.W.fnOf "free_name" "free_name" (defArgs s_free_name) (defBody s_free_name) (defScope s_free_name) .none kV doc pm an cdv ct) ⟨[], (["high", "low", "taken"] : List Str).zip ws⟩ = pure ((["low", "high", "taken"] : List Str).zip (swap2 ws)) :=
  fun _ _ _ _ _ _ ws hl => match ws, hl with
  | [_, _, _], _ => rfl
theorem KR_id {zs : List V} {ws : List Value} (h : Vals zs ws) : Vals (id zs) (id ws) := h
theorem KR_swap {zs : List V} {ws : List Value} (h : Vals zs ws) : Vals (swap2 zs) (swap2 ws) := by
  cases h with
  | nil => exact .nil
  | cons a r =>
    cases r with
    | nil => exact .cons a .nil
    | cons b t => exact .cons b (.cons a t)
def forBody : Stmt → List Stmt
  | .For _ _ b _ _ => b
  | _ => []
abbrev lawTurn : List Stmt := forBody ((defBody s_law).getD 1 (.Pass ⟨0, 0, 0, 0⟩))
abbrev XL (P : Program) (w : World) (K : PySem.W.Frag) (mg : Str → Option Value) (base : Heap) (f c : Addr) (A : Around) (outer : List Env) (s : Shared) (H : Hp) (E : XK) : Cx := (cxOf CX0 P w K mg base N_law "law" (defScope s_law) f (.ref c) A outer s H E).nox
structure Ds (P : Program) (w : World) (K : PySem.W.Frag) (mg : Str → Option Value) (base : Heap) (CV : Addr) : Prop where
  pen : Df P w K mg base CX0 1 "_law_pen" s_law_pen ["script"] (spPen K)
  draw : Df P w K mg base CX0 1 "_law_draw" s_law_draw ["pen", "many"] spDraw
  pick : Df P w K mg base CX0 2 "_law_pick" s_law_pick ["pen", "some"] (spPick K)
  mixed : Df P w K mg base CX0 2 "_law_mixed" s_law_mixed ["pen", "some"] (spMixed K)
  name : Df P w K mg base CX0 3 "_law_name" s_law_name ["pen"] spLawName
  right : Df P w K mg base CX0 1 "_law_right_behind" s_law_right_behind ["name", "later"] spRight
  count : Df P w K mg base CX0 2 "_law_count" s_law_count ["name"] spRank
  power : Df P w K mg base CX0 1 "_law_power" s_law_power ["size"] spPower
  next : Df P w K mg base (L2.CX P w) 3 "next_name" s_next_name ["name"] (spNextName K CV)
  btw : Df P w K mg base (L2.CX P w) 3 "names_between" s_names_between ["low", "high"] (spBetween K CV)
  free : Df P w K mg base (L2.CX P w) 3 "free_name" s_free_name ["low", "high", "taken"] (spFree K CV)
section
variable {P : Program} {w : World} {K : PySem.W.Frag} {mg : Str → Option Value} {base : Heap} {CP CV CN CM CNn CE CT c Pt : Addr}
/-- an if whose test is False -/
theorem tIfS_F {c : TT} {t u : TS} {D : Ends} {σ : L2.St} {H : Hp} (R : Hp → Prop) (hc : ∀ Q : Bool → Hp → Prop, (∀ H', R H' → Q false H') → c σ H Q) (hu : ∀ H', R H' → u D σ H') : tIfS c t u D σ H := hc _ fun H' p => iteF (hu H' p)
theorem seq_if {c : TT} {t u rest : TS} {D : Ends} {σ : L2.St} {H : Hp} (R : Hp → Prop) (hc : ∀ Q : Bool → Hp → Prop, (∀ H', R H' → Q false H') → c σ H Q) (hu : ∀ H', R H' → u { D with nx := rest D } σ H') : tSeq (tIfS c t u) rest D σ H := tIfS_F R hc hu
theorem inV_names (x : List Nat) : ∀ tk : List (List Nat), inV (sv x) (tk.map sv) = decide (x ∈ tk)
  | [] => rfl
  | k :: tk => by
    have ih := inV_names x tk
    have e : inV (sv x) ((k :: tk).map sv) = ((S k == S x) || inV (sv x) (tk.map sv)) := rfl
    rw [e, ih]
    by_cases h : x = k
    · subst h
      simp
    · have h2 : (S k == S x) = false := beq_eq_false_iff_ne.mpr fun z => h (S_inj z).symm
      rw [h2]
      simp [h]
theorem left_names (tk : List (List Nat)) : ∀ rs : List (List Nat), ((rs.map sv).filterMap fun v => match v with | .str x => if x.cps.toList ∈ tk then none else some v | _ => none) = (rs.filter fun x => decide (x ∉ tk)).map sv
  | [] => rfl
  | k :: rs => by
    have ih := left_names tk rs
    rw [List.map_cons, List.filterMap_cons, List.filter_cons, ih]
    by_cases h : k ∈ tk
    · have e : (match sv k with | .str x => if x.cps.toList ∈ tk then none else some (sv k) | _ => none) = none := if_pos h
      rw [e]
      simp [h]
    · have e : (match sv k with | .str x => if x.cps.toList ∈ tk then none else some (sv k) | _ => none) = some (sv k) := if_neg h
      rw [e]
      simp [h]
theorem strOk_nm {l : List Nat} (h : Nm l) : PyData.canLay0 (.str (S l)) = true := by
  show l.toArray.all (· < 0x110000) = true
  rw [List.all_toArray]
  refine List.all_eq_true.mpr fun c hc => decide_eq_true ?_
  have := h.let_ c hc
  unfold Let at this
  omega
theorem scal_nv (a b : Option (List Nat)) : scal (nv a) (nv b) = true := by cases a <;> cases b <;> rfl
theorem first_of (as : List (List Nat)) : atI (as.map sv ++ [V.non]) 0 = some (nv as.head?) := by
  cases as with
  | nil => exact atI_nat (j := 0) rfl
  | cons a r => exact atI_nat (j := 0) rfl
theorem without (o : List Nat) : ∀ rs : List (List Nat), ((rs.map sv).filterMap fun v => if v = sv o then none else some v) = (rs.filter fun x => decide (x ≠ o)).map sv
  | [] => rfl
  | k :: rs => by
    have ih := without o rs
    rw [List.map_cons, List.filterMap_cons, List.filter_cons, ih]
    by_cases h : k = o
    · subst h
      simp
    · have e : ¬ sv k = sv o := fun z => h (sv_inj z)
      simp [e, h]
def TurnIn (x0 p q Pt : Addr) (n : Nat) (σ : L2.St) (H : Hp) : Prop := (∃ x2 x3 x4 x5 x6 x7 x8 x9, σ = [some (V.ref x0), some (V.ref p), x2, x3, x4, x5, x6, x7, x8, x9, none, none, none, none, none]) ∧ PenAt H p q n ∧ H Pt = some (.tbl #[])
theorem law_turn (M : MG mg) (K1 : ErrK K mg CP CV CN CM CNn CE CT) (D : Ds P w K mg base CV)
    (f : Addr) (A : Around) (outer : List Env) (s : Shared) (H : Hp) (E : XK) (hr : Room 6 (A.deeper (envOfC "law" (defScope s_law) s.heap.objs.size f (.ref c)))) :
    ∃ t, PSs (XL P w K mg base f c A outer s H E) lawTurn t ∧ ∀ (De : Ends) (x0 p q : Addr) (n : Nat) (σ : L2.St) (H1 : Hp), n ≤ 800000 → TurnIn x0 p q Pt n σ H1 → (∀ σ' H', TurnIn x0 p q Pt (n + 40) σ' H' → De.nx σ' H') → t De σ H1 := by
  refine ⟨_,   (pss_cons (ps_asg (pe_tup (pa_cons (pd D.name (hr.mono (by decide)) rfl (pa_cons (pv 1) pa_nil)) (pa_cons (pd D.name (hr.mono (by decide)) rfl (pa_cons (pv 1) pa_nil)) pa_nil))) (pg_tup rfl (pgs_cons (pg_name (i := 3) sc_law.nd rfl (Or.inl rfl)) (pgs_cons (pg_name (i := 4) sc_law.nd rfl (Or.inr rfl)) pgs_nil))))
  (pss_cons (ps_set (i := 5) sc_law.nd rfl (Or.inl rfl) (pdK (ks := ["name"]) (g := id) D.next (hr.mono (by decide)) rfl passN KB_next_name KR_id (pk_cons (pv 3) pk_nil)))
  (pss_cons (ps_if (PW.pt (pw_or (pt_not (pt_val (pd D.right (hr.mono (by decide)) rfl (pa_cons (pv 3) (pa_cons (pv 5) pa_nil))))) (pw_or1 (PW.pt (pw_and (pt_cmpR op_notN (pv 5) pe_non (nomark _)) (pw_and1 (PW.pt (pw_or (pt_cmpR op_le_str (pv 5) (pv 3) (nomark _)) (pw_or (pt_cmpR op_ne (pdN D.btw (hr.mono (by decide)) rfl (pa_cons (pv 3) (pa_cons (pv 5) pa_nil))) pe_int (nomark _)) (pw_or1 (pt_cmpR op_ne (pdK (ks := ["high", "low"]) (g := swap2) D.btw (hr.mono (by decide)) rfl passN KB_between KR_swap (pk_cons (pv 3) (pk_cons (pv 5) pk_nil))) pe_int (nomark _)))))))))))) (pss_one (ps_ret pe_bl)) pss_nil)
  (pss_cons (ps_if (PW.pt (pw_or (pt_cmpR op_ne (pdN D.btw (hr.mono (by decide)) rfl (pa_cons (pv 3) (pa_cons (pv 4) pa_nil))) (pe_callB (call_max2 rfl) (by rfl) M.max (by decide +kernel) (pa_cons pe_int (pa_cons (pe_op op_add (pe_op op_sub (pd D.count (hr.mono (by decide)) rfl (pa_cons (pv 4) pa_nil)) (pd D.count (hr.mono (by decide)) rfl (pa_cons (pv 3) pa_nil))) pe_int) pa_nil))) (nomark _)) (pw_or1 (pt_cmpR op_ne (pdN D.btw (hr.mono (by decide)) rfl (pa_cons (pv 3) (pa_cons (pv 3) pa_nil))) pe_int (nomark _))))) (pss_one (ps_ret pe_bl)) pss_nil)
  (pss_cons (ps_set (i := 6) sc_law.nd rfl (Or.inl rfl) (pe_lst (pa_cons (pv 3) pa_nil)))
  (pss_cons (ps_for PassesOwn.never rfl (pi_range1 rfl M.range (pa_cons pe_int pa_nil)) (pg_name (i := 7) sc_law.nd rfl (Or.inl rfl))
  (pss_one (ps_set (i := 6) sc_law.nd rfl (Or.inl rfl) (pe_op op_cat (pv 6) (pe_lc (own := [("one", 13)]) rfl sc_law.nd (pi_list (pe_lst (pa_cons (pdN D.next (hr.mono (by decide)) rfl (pa_cons (pe_ix ix_list (pv 6) (pe_un un_neg pe_int) (fun _ _ => rfl)) pa_nil)) pa_nil))) (blkOk_by (own := [("one", 13)]) (N := N_law) (sc := defScope s_law) (by decide +kernel)) (fun _ _ _ _ _ => (pg_name (i := 13) sc_law.nd rfl (Or.inl rfl))) (fun _ _ _ _ _ => (pts_one (pt_cmpR op_notN (pv 13) pe_non (nomark _)))) (fun _ _ _ _ _ => (pv 13)))))))
  (pss_cons (ps_if (pt_cmpR op_ne (pdN D.btw (hr.mono (by decide)) rfl (pa_cons (pv 3) (pa_cons (pe_ix ix_list (pv 6) (pe_un un_neg pe_int) (fun _ _ => rfl)) pa_nil))) (pe_callB call_len (by rfl) M.len boot_len (pa_cons (pv 6) pa_nil)) (nomark _)) (pss_one (ps_ret pe_bl)) pss_nil)
  (pss_cons (ps_set (i := 8) sc_law.nd rfl (Or.inr rfl) (pe_lc (own := [("one", 13)]) rfl sc_law.nd (pi_list (pv 6)) (blkOk_by (own := [("one", 13)]) (N := N_law) (sc := defScope s_law) (by decide +kernel)) (fun _ _ _ _ _ => (pg_name (i := 13) sc_law.nd rfl (Or.inl rfl))) (fun _ _ _ _ _ => (pts_one (pt_cmpR op_gt (pd D.draw (hr.mono (by decide)) rfl (pa_cons (pv 1) (pa_cons pe_int pa_nil))) pe_int (nomark _)))) (fun _ _ _ _ _ => (pv 13))))
  (pss_cons (ps_setLc (i := 9) (own := [("one", 13)]) rfl sc_law.nd rfl rfl (sw_true rfl rfl rfl (by decide +kernel)) (pi_list (pv 6)) (blkOk_by (own := [("one", 13)]) (N := N_law) (sc := defScope s_law) (by decide +kernel)) (fun _ _ _ _ _ => (pg_name (i := 13) sc_law.nd rfl (Or.inl rfl))) (fun _ _ _ _ _ => (pts_one (pt_cmpR (r := rIn K true) op_notIn_seq (pv 13) (pv 8) (by rfl)))) (fun _ _ _ _ _ => (pv 13)))
  (pss_cons (ps_if (pt_cmpR op_ne (pdN D.free (hr.mono (by decide)) rfl (pa_cons (pv 3) (pa_cons (pe_ix ix_list (pv 6) (pe_un un_neg pe_int) (fun _ _ => rfl)) (pa_cons (pd D.mixed (hr.mono (by decide)) rfl (pa_cons (pv 1) (pa_cons (pe_op op_cat (pv 8) (pe_lst (pa_cons (pv 4) pa_nil))) pa_nil))) pa_nil)))) (pe_ix ix_list (pe_op op_cat (pe_lc (own := [("one", 13)]) rfl sc_law.nd (pi_list (pv 9)) (blkOk_by (own := [("one", 13)]) (N := N_law) (sc := defScope s_law) (by decide +kernel)) (fun _ _ _ _ _ => (pg_name (i := 13) sc_law.nd rfl (Or.inl rfl))) (fun _ _ _ _ _ => (pts_one (pt_cmpR op_ne (pv 13) (pv 4) (nomark _)))) (fun _ _ _ _ _ => (pv 13))) (pe_lst (pa_cons pe_non pa_nil))) pe_int (fun _ _ => rfl)) (nomark _)) (pss_one (ps_ret pe_bl)) pss_nil)
  (pss_one (ps_if (pt_cmpR op_ne (pdK (ks := ["high", "low", "taken"]) (g := swap2) D.free (hr.mono (by decide)) rfl passN KB_free KR_swap (pk_cons (pe_ix ix_list (pv 6) pe_int (fun _ _ => rfl)) (pk_cons (pe_ix ix_list (pv 6) (pe_un un_neg pe_int) (fun _ _ => rfl)) (pk_cons (pe_tup pa_nil) pk_nil)))) (pe_ifExp (pt_cmpR op_eq (pe_callB call_len (by rfl) M.len boot_len (pa_cons (pv 6) pa_nil)) pe_int (nomark _)) (pe_ix ix_list (pv 6) pe_int (fun _ _ => rfl)) pe_non) (nomark _)) (pss_one (ps_ret pe_bl)) pss_nil)))))))))))), ?_⟩
  rintro De x0 p q n σ H1 hn ⟨⟨x2, x3, x4, x5, x6, x7, x8, x9, rfl⟩, hP, hT⟩ hD
  have hpT : ∀ {H'}, Kp p H1 H' → H' Pt = some (.tbl #[]) := fun {H'} kk => kk.at (fun z => by
    obtain ⟨ns, lap, rest, _, e, _⟩ := hP
    rw [z, e] at hT
    cases hT) hT
  refine ⟨_, rfl, p, q, n, rfl, hP, by omega, fun l H2 hl k2 P2 => ⟨_, rfl, p, q, n + 10, rfl, P2, by omega, fun o H3 ho k3 P3 => ⟨by show 2 ≤ sizeLine; decide, fun tp nT => ⟨tp, _, rfl, .inl (.inl upd_same), rfl, _, _, rfl, _, _, rfl, rfl, ?_⟩⟩⟩⟩
  have P4 := P3.same (.upd (o := .tup [.str (S l), .str (S o)]) nT)
  have k4 : Kp p H1 (upd H3 tp (.tup [.str (S l), .str (S o)])) := (k2.trans k3).trans (Same.upd nT).kp
  refine ⟨_, rfl, _, _, rfl, .s _ (small_len hl.len), fun l' el hl' H5 s5 => ?_, fun z => ?_⟩
  rotate_left
  · have := nm_isNm hl
    exact absurd (this.symm.trans z) (by decide)
  have el : l = l' := S_inj (V.str.inj el)
  subst el
  have P5 := P4.same s5
  have k5 : Kp p H1 H5 := k4.trans s5.kp
  have absl : ∀ {x : List Nat} {R : Prop}, Nm x → isNm (.str (S x)) = false → R := fun {x R} hx z => absurd ((nm_isNm hx).symm.trans z) (by decide)
  dsimp only [gName]
  refine seq_if (fun H6 => Same H5 H6) (fun G hG => ?_) (fun H6 s6 => ?_)
  · refine ⟨_, rfl, _, rfl, l, rfl, hl, _, rfl, iteF ?_⟩
    cases e : nxt 8 l with
    | none => exact ⟨_, rfl, rfl, _, rfl, iteF (hG H5 (.refl H5))⟩
    | some m =>
      obtain ⟨hm, em⟩ := hl.next e
      have hlt : l < m := (nm_lt hl hm).mpr (by omega)
      have b1 : btw l m = 2 := by unfold btw; rw [em]; split <;> omega
      have b2 : btw m l = 0 := by unfold btw; rw [em]; split <;> omega
      refine ⟨_, rfl, rfl, _, rfl, iteT ⟨_, rfl, _, rfl, S m, S l, rfl, rfl, _, rfl, ?_⟩⟩
      rw [show (!decide ((S l).cps.toList < (S m).cps.toList)) = false by rw [S_list, S_list, decide_eq_true hlt]; rfl]
      refine iteF ⟨_, rfl, _, rfl, _, _, _, _, rfl, .s _ (small_len hl.len), .s _ (small_len hm.len), fun l' m' e1 e2 _ _ H6 s6 => ?_, fun z => absl hl z, fun _ z => absl hm z⟩
      obtain rfl := S_inj (V.str.inj e1)
      obtain rfl := S_inj (V.str.inj e2)
      rw [b1]
      refine ⟨rfl, _, rfl, iteF ⟨_, rfl, _, rfl, _, _, _, _, rfl, .s _ (small_len hm.len), .s _ (small_len hl.len), fun l' m' e1 e2 _ _ H7 s7 => ?_, fun z => absl hm z, fun _ z => absl hl z⟩⟩
      obtain rfl := S_inj (V.str.inj e1)
      obtain rfl := S_inj (V.str.inj e2)
      rw [b2]
      exact ⟨rfl, _, rfl, hG H7 (s6.trans s7)⟩
  · dsimp only [tNext]
    have P6 := P5.same s6
    have k6 := k5.trans s6.kp
    refine seq_if (fun H7 => Same H6 H7) (fun G hG => ?_) (fun H7 s7 => ?_)
    · refine ⟨_, rfl, _, rfl, _, _, _, _, rfl, .s _ (small_len hl.len), .s _ (small_len ho.len), fun l' m' e1 e2 _ _ H7 s7 => ?_, fun z => absl hl z, fun _ z => absl ho z⟩
      obtain rfl := S_inj (V.str.inj e1)
      obtain rfl := S_inj (V.str.inj e2)
      refine ⟨_, rfl, o, rfl, ho, fun H8 s8 => ⟨_, rfl, l, rfl, hl, fun H9 s9 => ⟨_, _, rfl, rfl, _, _, rfl, rfl, _, _, rfl, rfl, _, rfl, ?_⟩⟩⟩
      have eb : (if ((R 8 o : Int) - 1 - ((R 8 l : Int) - 1) + 1) > 0 then ((R 8 o : Int) - 1 - ((R 8 l : Int) - 1) + 1) else 0) = btw l o := by
        unfold btw
        have : ((R 8 o : Int) - 1 - ((R 8 l : Int) - 1) + 1) = (R 8 o : Int) - R 8 l + 1 := by omega
        rw [this]
      rw [show (!decide (V.int (btw l o) = V.int (if ((R 8 o : Int) - 1 - ((R 8 l : Int) - 1) + 1) > 0 then ((R 8 o : Int) - 1 - ((R 8 l : Int) - 1) + 1) else 0))) = false by rw [eb, decide_eq_true rfl]; rfl]
      refine iteF ⟨_, rfl, _, rfl, _, _, _, _, rfl, .s _ (small_len hl.len), .s _ (small_len hl.len), fun l' m' e1 e2 _ _ H10 s10 => ?_, fun z => absl hl z, fun _ z => absl hl z⟩
      obtain rfl := S_inj (V.str.inj e1)
      obtain rfl := S_inj (V.str.inj e2)
      rw [show btw l l = 1 by unfold btw; split <;> omega]
      exact ⟨rfl, _, rfl, hG H10 (s7.trans (s8.trans (s9.trans s10)))⟩
    · dsimp only [tNext]
      have P7 := P6.same s7
      have k7 := k6.trans s7.kp
      refine ⟨_, rfl, by show 1 ≤ sizeLine; decide, fun r0 nr0 => ?_⟩
      have P8 := P7.same (.upd (o := .lst [.str (S l)]) nr0)
      have k8 := k7.trans (Same.upd (o := .lst [.str (S l)]) nr0).kp
      refine ⟨6, rfl, by decide, by decide, ?_⟩
      refine for_it walk_range (fun j σ H' => (∃ rs z ra x7, RowC l rs z ∧ rs.length ≤ j + 1 ∧ H' ra = some (.lst (rs.map sv)) ∧ σ = [some (.ref x0), some (.ref p), x2, some (.str (S l)), some (.str (S o)), some (nv (nxt 8 l)), some (.ref ra), x7, x8, x9, none, none, none, none, none]) ∧ Kp p H1 H' ∧ PenAt H' p q (n + 20)) ⟨⟨[l], l, r0, x7, .one l, by simp, upd_same, rfl⟩, k8, P8⟩ (fun _ _ _ _ _ => True.intro) ?_ ?_
      · rintro j x σ Ha Hb hj ⟨⟨rs, z, ra, y7, hrow, hlen, hra, rfl⟩, ka, Pa⟩ ⟨rfl, rfl⟩
        obtain ⟨ez, hz, hmem⟩ := hrow.rank hl
        obtain ⟨qs, eqs⟩ := hrow.last
        have hnp : ra ≠ p := fun e => by
          obtain ⟨ns, lap, rest, _, e2, _⟩ := Pa
          rw [e, e2] at hra
          have := HO.lst.inj (Option.some.inj hra)
          cases rs with
          | nil => simp at this
          | cons a b => simp [sv] at this
        have hat : atI (rs.map sv) (-1) = some (sv z) := by
          rw [eqs, List.map_append]
          exact atI_last _ _
        refine ⟨_, rfl, _, rfl, 1, rfl, ra, _, -1, sv z, rfl, rfl, .inl (.inl hra), hat, _, _, rfl, .s _ (small_len hz.len), fun l' e1 _ H8 s8 => ?_, fun e => absl hz e⟩
        obtain rfl := S_inj (V.str.inj e1)
        refine ⟨by show 1 ≤ sizeLine; decide, fun q2 nq2 => ⟨q2, rfl, ⟨_, .inl (.inl upd_same)⟩, fun D nD => ?_⟩⟩
        have s9 := Same.upd (o := .lst [nv (nxt 8 z)]) nq2
        refine lc_same (xs_walk q2 [nv (nxt 8 z)]) rfl (fun v => if v = .non then none else some v) nD (by show 1 < sizeLine; decide) (fun H9 s => s.seq (.inl (.inl upd_same))) (fun v hv H9 acc s10 hl9 hz9 Nx m1 m2 => ?_) (fun H9 s10 hl9 => ?_)
        · refine ⟨rfl, _, rfl, rfl, _, rfl, ?_⟩
          by_cases e : v = .non
          · rw [show (!decide (v = .non)) = false by rw [decide_eq_true e]; rfl]
            exact iteF (m2 H9 (.refl _) (if_pos e))
          · rw [show (!decide (v = .non)) = true by rw [decide_eq_false e]; rfl]
            exact iteT ⟨_, rfl, acc, hl9, hz9, m1 H9 _ (.refl _) (if_neg e)⟩
        · have sA := s8.trans (s9.trans s10)
          have hra9 := sA _ _ hra
          have hlf : ([nv (nxt 8 z)].filterMap fun v => if v = .non then none else some v).length ≤ 1 := by
            refine Nat.le_trans (List.length_filterMap_le _ _) ?_
            exact Nat.le_refl 1
          refine ⟨ra, D, _, _, rfl, rfl, hra9, hl9, ?_, fun p2 np2 => ?_⟩
          · rw [List.length_map]
            exact Nat.le_trans (show _ ≤ 8 by omega) (by decide)
          · have sB := sA.trans (.upd (o := .lst (rs.map sv ++ ([nv (nxt 8 z)].filterMap fun v => if v = .non then none else some v))) np2)
            cases e : nxt 8 z with
            | none =>
              rw [e] at sB
              refine ⟨⟨rs, z, p2, some (.int (0 + (j : Nat))), hrow, by omega, ?_, rfl⟩, ka.trans sB.kp, Pa.same sB⟩
              rw [upd_same]
              simp [nv]
            | some m =>
              rw [e] at sB
              refine ⟨⟨rs ++ [m], m, p2, some (.int (0 + (j : Nat))), hrow.snoc e, by rw [List.length_append]; exact Nat.succ_le_succ hlen, ?_, rfl⟩, ka.trans sB.kp, Pa.same sB⟩
              rw [upd_same, List.map_append]
              simp [nv]
      · rintro σ Ha ⟨⟨rs, z, ra, y7, hrow, hlen, hra, rfl⟩, ka, Pa⟩
        obtain ⟨ez, hz, hmem⟩ := hrow.rank hl
        have hrs := hrow.nm hl
        obtain ⟨qs, eqs⟩ := hrow.last
        obtain ⟨qh, eqh⟩ := hrow.head
        have hlen7 : rs.length ≤ 7 := hlen
        have hrl : (rs.map sv).length = rs.length := List.length_map _
        have hnp : ra ≠ p := fun e => by
          obtain ⟨ns, lap, rest, _, e2, _⟩ := Pa
          rw [e, e2] at hra
          have := HO.lst.inj (Option.some.inj hra)
          rw [eqh] at this
          simp [sv] at this
        have hat : atI (rs.map sv) (-1) = some (sv z) := by
          rw [eqs, List.map_append]
          exact atI_last _ _
        have hat0 : atI (rs.map sv) 0 = some (sv l) := by
          rw [eqh]
          exact atI_nat (j := 0) rfl
        dsimp only
        refine seq_if (fun H7 => Same Ha H7) (fun G hG => ?_) (fun Hb sb => ?_)
        · refine ⟨_, rfl, _, rfl, 1, rfl, ra, _, -1, sv z, rfl, rfl, .inl (.inl hra), hat, _, _, _, _, rfl, .s _ (small_len hl.len), .s _ (small_len hz.len), fun l' m' e1 e2 _ _ H7 s7 => ?_, fun z => absl hl z, fun _ e => absl hz e⟩
          obtain rfl := S_inj (V.str.inj e1)
          obtain rfl := S_inj (V.str.inj e2)
          refine ⟨_, rfl, .ref ra, _, rfl, .inl ⟨_, .inl (.inl (s7 _ _ hra)), rfl⟩, rfl, _, rfl, ?_⟩
          rw [show btw l z = ((rs.map sv).length : Int) by rw [hrl]; unfold btw; split <;> omega, decide_eq_true rfl]
          exact hG H7 s7
        · dsimp only [tNext]
          have Pb := Pa.same sb
          have kb := ka.trans sb.kp
          have hrb := sb _ _ hra
          refine ⟨_, rfl, ra, rfl, ⟨_, .inl (.inl hrb)⟩, fun D nD => ?_⟩
          obtain ⟨nDp, nDq⟩ := Pb.hp nD
          have nDr : ra ≠ D := ne_of_none hrb nD
          refine lc_it (xs_walk (K := K) ra (rs.map sv)) (fun i H' => (∃ tk : List (List Nat), (∀ x ∈ tk, x ∈ rs) ∧ tk.length ≤ i ∧ H' D = some (.lst (tk.map sv))) ∧ Kp p Hb H' ∧ PenAt H' p q (n + 20 + i)) ⟨⟨[], fun _ h => (nomatch h), Nat.le_refl _, upd_same⟩, (Same.upd nD).kp, Pb.same (.upd nD)⟩ (fun i H' _ h => h.2.1.seq hnp (.inl (.inl hrb))) ?_ ?_
          · rintro i v H7 H8 hi ⟨⟨tk, htk, ltk, hD7⟩, k7', P7'⟩ ⟨rfl, hv⟩
            obtain ⟨x, hx, rfl⟩ := List.mem_map.mp (List.mem_of_getElem? hv)
            have hi7 : i < 7 := by rw [hrl] at hi; omega
            refine ⟨rfl, _, rfl, p, q, 3, n + 20 + i, rfl, by decide, by decide, P7', by omega, fun d H9 d0 d1 k9 P9 => ⟨_, _, rfl, rfl, _, rfl, ?_⟩⟩
            have hD9 := k9.at nDp hD7
            refine ite2 (fun h => ?_) (fun h => ?_)
            · refine ⟨_, rfl, _, hD9, ?_, ⟨tk ++ [x], fun y hy => ?_, ?_, ?_⟩, ?_, ?_⟩
              · rw [List.length_map]
                exact Nat.lt_of_le_of_lt (show tk.length ≤ 7 by omega) (by decide)
              · rcases List.mem_append.mp hy with e | e
                · exact htk y e
                · rw [List.mem_singleton.mp e]; exact hx
              · rw [List.length_append]; exact Nat.succ_le_succ ltk
              · rw [upd_same, List.map_append]; rfl
              · intro b o nb hb
                rw [upd_ne (ne_of_none hb nD)]
                exact (k7'.trans k9) b o nb hb
              · exact P9.upd nDp nDq
            · exact ⟨⟨tk, htk, by omega, hD9⟩, k7'.trans k9, P9⟩
          · rintro H7 ⟨⟨tk, htk, ltk, hD7⟩, k7', P7'⟩
            have hr7 := k7'.at hnp hrb
            have hlen8 : tk.length ≤ 7 := by rw [hrl] at ltk; omega
            have htf : (tk.map sv).all flatV = true := by
              rw [List.all_map]
              exact List.all_eq_true.mpr fun _ _ => rfl
            have hin : ∀ x : List Nat, inV (sv x) (tk.map sv) = decide (x ∈ tk) := fun x => inV_names x tk
            refine ⟨_, rfl, ra, rfl, ⟨_, .inl (.inl hr7)⟩, fun D2 nD2 => ?_⟩
            obtain ⟨nDp2, nDq2⟩ := P7'.hp nD2
            refine lc_same (xs_walk (K := K) ra (rs.map sv)) rfl (fun v => match v with | .str x => if x.cps.toList ∈ tk then none else some v | _ => none) nD2 (by rw [hrl]; exact Nat.lt_of_le_of_lt hlen7 (by decide)) (fun H' s => s.seq (.inl (.inl hr7))) (fun v hv H8 acc s8 hl8 hz8 Nx m1 m2 => ?_) (fun H8 s8 hl8 => ?_)
            · obtain ⟨x, hx, rfl⟩ := List.mem_map.mp hv
              refine ⟨rfl, _, rfl, _, rfl, D, _, rfl, .inl (.inl (.inl (s8 _ _ hD7))), rfl, htf, _, rfl, ?_⟩
              rw [hin]
              by_cases e : x ∈ tk
              · rw [decide_eq_true e]
                exact iteF (m2 H8 (.refl _) (if_pos e))
              · rw [decide_eq_false e]
                exact iteT ⟨_, rfl, acc, hl8, hz8, m1 H8 _ (.refl _) (if_neg e)⟩
            · rw [left_names] at hl8
              obtain ⟨lf, hlf⟩ : ∃ lf, lf = rs.filter fun x => decide (x ∉ tk) := ⟨_, rfl⟩
              rw [← hlf] at hl8
              have hD8 := s8 _ _ hD7
              have hr8 := s8 _ _ hr7
              have P8' := P7'.same s8
              have k8' := kb.trans (k7'.trans s8.kp)
              dsimp only [gName]
              refine seq_if (fun H9 => Kp p H8 H9 ∧ PenAt H9 p q (n + 40)) (fun G hG => ?_) (fun H9 k9 => ?_)
              · refine ⟨_, rfl, _, rfl, 1, rfl, ra, _, -1, sv z, rfl, rfl, .inl (.inl hr8), hat, _, rfl, _, rfl, _, rfl, by show 1 ≤ sizeLine; decide, fun q3 nq3 => ?_⟩
                have s3' := Same.upd (o := .lst [.str (S o)]) nq3
                refine ⟨D, q3, _, _, rfl, rfl, s3' _ _ hD8, upd_same, ?_, fun b nb => ?_⟩
                · rw [List.length_map]
                  exact Nat.le_trans (show tk.length + 1 ≤ 8 by omega) (by decide)
                have s4' := Same.upd (o := .lst (tk.map sv ++ [.str (S o)])) nb
                have P4' := P8'.same (s3'.trans s4')
                have hlt8 : (tk.map sv ++ [V.str (S o)]).length ≤ 8 := by
                  rw [List.length_append, List.length_map]
                  exact Nat.succ_le_succ hlen8
                refine ⟨p, q, b, _, n + 20 + 7, rfl, ?_, .inl (.inl upd_same), by omega, fun H' k' x hx => ?_, P4'.mono (by rw [hrl]; omega), by omega, fun H9 b' ys k9 nb' hb' hperm P9 => ?_⟩
                · exact (P8'.same s3').hp nb |>.1
                · have : ∃ y : List Nat, x = sv y ∧ Nm y := by
                    rcases List.mem_append.mp hx with e | e
                    · obtain ⟨y, hy, e2⟩ := List.mem_map.mp e
                      exact ⟨y, e2.symm, hrs y (htk y hy)⟩
                    · exact ⟨o, List.mem_singleton.mp e, ho⟩
                  obtain ⟨y, rfl, hy⟩ := this
                  exact ⟨.str (S y), strOk_nm hy, Nat.zero_le _, .str _⟩
                have hperm2 : ys.Perm ((tk ++ [o]).map sv) := by
                  rw [List.map_append]
                  exact hperm
                obtain ⟨ks, rfl, hks⟩ := perm_names hperm2
                have hle : ∀ x ∈ rs, nle x z = true := fun x hx => by
                  rw [nle_iff (hrs x hx) hz]
                  exact decide_eq_true (hmem x hx).2
                have hout : ∀ m, nxt 8 z = some m → nle m z = false := fun m e => by
                  obtain ⟨hm, em⟩ := hz.next e
                  rw [nle_iff hm hz]
                  exact decide_eq_false (by omega)
                obtain ⟨ps, e, hw, hps, hex, hres⟩ := row_walk hrow hl ks hle hout
                have k9' : Kp p H8 H9 := ((s3'.trans s4').kp).trans k9
                have hnm : ∀ k ∈ ks, Nm k := fun k hk => by
                  rcases List.mem_append.mp ((hks k).mp hk) with e | e
                  · exact hrs k (htk k e)
                  · rw [List.mem_singleton.mp e]; exact ho
                refine ⟨_, _, _, _, _, "list", rfl, .s _ (small_len hl.len), .s _ (small_len hz.len), .o _ _ (by decide) (.base (.lst hb')) (fun x e => nomatch e), fun e => absl hl e, fun _ e => absl hz e, fun _ _ => .inr ⟨by decide, b', _, rfl, .inl (.inl (.inl hb')), ?_, fun v hv => ?_, fun e => ?_, fun _ => ⟨l, z, ps, e, ks, rfl, rfl, rfl, hw, hps, hex, fun H10 s10 => ?_⟩⟩⟩
                · rw [hperm.length_eq]
                  omega
                · obtain ⟨k, hk, rfl⟩ := List.mem_map.mp hv
                  exact ⟨"str", .s _ (small_len (hnm k hk).len)⟩
                · exfalso
                  have : (ks.map sv).all isNm = true := by
                    rw [List.all_map]
                    exact List.all_eq_true.mpr fun k hk => nm_isNm (hnm k hk)
                  rw [this] at e
                  cases e
                · rw [hres]
                  have kA := k9'.trans s10.kp
                  have n2p : D2 ≠ p := nDp2
                  have hl10 := kA.at n2p hl8
                  refine ⟨_, rfl, D2, rfl, ⟨_, .inl (.inl hl10)⟩, fun D3 nD3 => ?_⟩
                  have lfl : (lf.map sv).length ≤ 7 := by
                    rw [List.length_map, hlf]
                    exact Nat.le_trans (List.length_filter_le _ _) hlen7
                  refine lc_same (xs_walk (K := K) D2 (lf.map sv)) rfl (fun v => if v = sv o then none else some v) nD3 (Nat.lt_of_le_of_lt lfl (by decide)) (fun H' s => s.seq (.inl (.inl hl10))) (fun v hv H11 acc s11 hl11 hz11 Nx m1 m2 => ?_) (fun H11 s11 hl11 => ?_)
                  · obtain ⟨x, hx, rfl⟩ := List.mem_map.mp hv
                    refine ⟨rfl, _, rfl, _, rfl, rfl, _, rfl, ?_⟩
                    by_cases e : sv x = sv o
                    · rw [show (!decide (sv x = sv o)) = false by rw [decide_eq_true e]; rfl]
                      exact iteF (m2 H11 (.refl _) (if_pos e))
                    · rw [show (!decide (sv x = sv o)) = true by rw [decide_eq_false e]; rfl]
                      exact iteT ⟨_, rfl, acc, hl11, hz11, m1 H11 _ (.refl _) (if_neg e)⟩
                  · rw [without] at hl11
                    refine ⟨by show 1 ≤ sizeLine; decide, fun q5 nq5 => ?_⟩
                    have s12 := Same.upd (o := .lst [V.non]) nq5
                    refine ⟨D3, q5, _, _, rfl, rfl, s12 _ _ hl11, upd_same, ?_, fun p3 np3 => ⟨p3, _, 0, _, rfl, rfl, .inl (.inl upd_same), first_of _, ?_⟩⟩
                    · rw [List.length_map] at lfl ⊢
                      have := List.length_filter_le (fun x => decide (x ≠ o)) lf
                      exact Nat.le_trans (show _ ≤ 8 by simp only [List.length_cons, List.length_nil]; omega) (by decide)
                    · have eAB : rs.find? (fun x => decide (x ∉ ks)) = (lf.filter fun x => decide (x ≠ o)).head? := by
                        rw [List.head?_filter, hlf, List.find?_filter]
                        congr 1
                        funext x
                        have e : x ∈ ks ↔ (x ∈ tk ∨ x = o) := by
                          rw [hks x]
                          simp
                        rw [Bool.eq_iff_iff]
                        simp only [decide_eq_true_eq, Bool.and_eq_true, e, not_or]
                      rw [eAB]
                      refine ⟨scal_nv _ _, _, rfl, ?_⟩
                      rw [decide_eq_true rfl]
                      refine hG _ ⟨kA.trans ((s11.trans s12).trans (.upd np3)).kp, ?_⟩
                      have := ((P9.same s10).same (s11.trans s12)).same (.upd (o := .lst ((lf.filter fun x => decide (x ≠ o)).map sv ++ [V.non])) np3)
                      exact this.mono (by simp only [List.length_append, List.length_map, List.length_cons, List.length_nil]; omega)
              · obtain ⟨k9, P9⟩ := k9
                dsimp only [tNext]
                have hr9 := k9.at hnp hr8
                have kT : Kp p H1 H9 := ((k6.trans s7.kp).trans (Kp.refl p _)) |> fun _ => (k8').trans k9
                show tIfS _ _ _ _ _ _
                refine tIfS_F (fun H10 => Same H9 H10) (fun G hG => ?_) (fun H10 s10 => ?_)
                · refine ⟨_, rfl, ra, _, 0, sv l, rfl, rfl, .inl (.inl hr9), hat0, _, rfl, 1, rfl, ra, _, -1, sv z, rfl, rfl, .inl (.inl hr9), hat, by show 0 ≤ sizeLine; exact Nat.zero_le _, fun p3 np3 => ?_⟩
                  have s3 := Same.upd (o := .tup []) np3
                  have hzl : nle z l = decide (rs.length = 1) := by
                    rw [nle_iff hz hl, Bool.eq_iff_iff, decide_eq_true_eq, decide_eq_true_eq]
                    have : 0 < rs.length := by rw [eqh]; simp
                    omega
                  refine ⟨_, _, _, _, _, "tuple", rfl, .s _ (small_len hz.len), .s _ (small_len hl.len), .o _ _ (by decide) (.base (.tup upd_same)) (fun x e => nomatch e), fun e => absl hz e, fun _ e => absl hl e, fun _ _ => .inr ⟨by decide, p3, [], rfl, .inr (.inl (.inl upd_same)), by decide, fun v hv => (nomatch hv), fun e => (nomatch e), fun _ => ⟨z, l, [], some z, [], rfl, rfl, rfl, .stop z, fun x hx => (nomatch hx), fun x _ _ hx => (nomatch hx), fun H10 s10 => ?_⟩⟩⟩
                  have hr10 := s10 _ _ (s3 _ _ hr9)
                  refine ⟨_, rfl, .ref ra, _, rfl, .inl ⟨_, .inl (.inl hr10), rfl⟩, rfl, _, rfl, ?_⟩
                  have eb : ((some z).bind fun r => if nle r l = true then some r else none) = if rs.length = 1 then some z else none := by
                    show (if nle z l = true then some z else none) = _
                    rw [hzl]
                    by_cases h : rs.length = 1 <;> simp [h]
                  rw [eb]
                  by_cases h : rs.length = 1
                  · have hzl2 : z = l := by
                      rw [eqh] at h eqs
                      have h0 : qh = [] := by
                        simp only [List.length_cons] at h
                        exact List.length_eq_zero_iff.mp (by omega)
                      rw [h0] at eqs
                      have h1 : qs = [] := by
                        have := congrArg List.length eqs
                        simp only [List.length_cons, List.length_nil, List.length_append] at this
                        exact List.length_eq_zero_iff.mp (by omega)
                      rw [h1] at eqs
                      simpa using eqs.symm
                    rw [show decide (V.int (((rs.map sv).length : Nat) : Int) = V.int 1) = true from decide_eq_true (by rw [hrl, h]; rfl)]
                    refine iteT ⟨_, rfl, ra, _, 0, sv l, rfl, rfl, .inl (.inl hr10), hat0, ?_⟩
                    rw [if_pos h, hzl2]
                    refine ⟨rfl, _, rfl, ?_⟩
                    rw [show decide (nv (some l) = sv l) = true from decide_eq_true rfl]
                    exact hG _ (s3.trans s10)
                  · rw [show decide (V.int (((rs.map sv).length : Nat) : Int) = V.int 1) = false from decide_eq_false fun e => h (by have := V.int.inj e; rw [hrl] at this; omega)]
                    refine iteF ?_
                    rw [if_neg h]
                    refine ⟨rfl, _, rfl, ?_⟩
                    exact hG _ (s3.trans s10)
                · exact hD _ _ ⟨⟨_, _, _, _, _, _, _, _, rfl⟩, P9.same s10, hpT (kT.trans s10.kp)⟩
end
end K92
set_option Elab.async false
set_option linter.all false
set_option maxRecDepth 100000
set_option maxHeartbeats 4000000
namespace K92
open PySem PySem.Spec PyProof.Rows L2 Nam PlugX LamX LamB
abbrev lawTail : List Stmt := (defBody s_law).drop 2
abbrev qual (f c : Addr) (L : Addr) : Str := (envOfC "law" (defScope s_law) L f (.ref c)).qual ++ "<lambda>"
/-! ### odd values -/
def KpT (H H' : Hp) : Prop := ExtN H H'
theorem _root_.LamX.ExtN.tyOf {K : PySem.W.Frag} {H H' : Hp} {x : V} {t : Value} (s : ExtN H H') (h : TyOf K H x t) : TyOf K H' x t := by
  cases h with
  | non => exact .non
  | bl x => exact .bl x
  | int i => exact .int i
  | str x => exact .str x
  | flt x => exact .flt x
  | lst e => exact .lst (s _ _ e fun _ z => nomatch z)
  | frz e => exact .frz (s _ _ e fun _ z => nomatch z)
  | tup e => exact .tup (s _ _ e fun _ z => nomatch z)
  | dK e => exact .dK (s _ _ e fun _ z => nomatch z)
  | dT e => exact .dT (s _ _ e fun _ z => nomatch z)
  | ins e cl ha hn htk hm => exact .ins (s _ _ e fun _ z => nomatch z) cl ha hn htk hm
theorem _root_.LamX.ExtN.tyX {K : PySem.W.Frag} {H H' : Hp} {x : V} {t : Value} (s : ExtN H H') (h : TyX K H x t) : TyX K H' x t := by
  cases h with
  | base h => exact .base (s.tyOf h)
  | byt b => exact .byt b
  | set e => exact .set (s _ _ e fun _ z => nomatch z)
  | kList e c => exact .kList e c
  | kTuple e c => exact .kTuple e c
  | kDict e c => exact .kDict e c
  | fTuple e => exact .fTuple (s _ _ e fun _ z => nomatch z)
  | fDict e => exact .fDict (s _ _ e fun _ z => nomatch z)
theorem Ty.ext {K : PySem.W.Frag} {H H' : Hp} {v : V} {t : String} (s : ExtN H H') (h : Ty K H v t) : Ty K H' v t := by
  cases h with
  | s x h => exact .s x h
  | o _ _ h k n => exact .o _ _ h (s.tyX k) n
/-- no name -/
def Odd (K : PySem.W.Frag) (H : Hp) (v : V) : Prop := ∃ t, Ty K H v t ∧ isNm v = false
theorem Odd.ext {K : PySem.W.Frag} {H H' : Hp} {v : V} (s : ExtN H H') (h : Odd K H v) : Odd K H' v := by
  obtain ⟨t, a, b⟩ := h
  exact ⟨t, a.ext s, b⟩
/-- no list of names -/
def Bad (K : PySem.W.Frag) (H : Hp) (v : V) : Prop := ∃ t, Ty K H v t ∧ (listedT t = false ∨ (listedT t = true ∧ ∃ a xs, v = .ref a ∧ H a = some (.lst xs) ∧ xs.length ≤ 1000 ∧ (∀ z ∈ xs, ∃ tz, Ty K H z tz) ∧ xs.all isNm = false))
theorem Bad.ext {K : PySem.W.Frag} {H H' : Hp} {v : V} (s : ExtN H H') (h : Bad K H v) : Bad K H' v := by
  obtain ⟨t, a, b⟩ := h
  refine ⟨t, a.ext s, b.imp id fun ⟨e, q, xs, h1, h2, h3, h4, h5⟩ => ⟨e, q, xs, h1, (s _ _ h2 fun _ z => nomatch z), h3, fun z hz => ?_, h5⟩⟩
  obtain ⟨tz, hz⟩ := h4 z hz
  exact ⟨tz, hz.ext s⟩
theorem step_err {T : List (Addr × Str)} {CV : Addr} {t : XK → TE} {σ : L2.St} {H : Hp} {Q : VK} (part : Str) (hT : Tabs T H) (hcall : ∀ Hb E Q', ExtN H Hb → BadP CV E Hb part → t E σ Hb Q')
    (hc : ∀ Hd p1, ExtN H Hd → Tabs T Hd → Hd p1 = some (.tup [.str "value", .str part]) → Q (.ref p1) Hd) : tLam T (TErr CV) t σ H Q := by
  refine ⟨hT, fun Ha ea Ta Hb Q' sb _ => hcall Hb _ Q' (ea.trans (.of sb)) fun Hc d sc hd => ⟨d, .str part, rfl, rfl, hd, fun Hd p1 sd np hp => ?_⟩⟩
  exact hc Hd p1 (ea.trans (.of ((sb.trans sc).trans sd))) (Ta.ext ((sb.trans sc).trans sd)) hp
def heardD : PyData := .list [.tuple [.str "value", .str "name"], .tuple [.str "value", .str "low"], .tuple [.str "value", .str "high"], .tuple [.str "value", .str "taken"], .tuple [.str "value", .str "low"], .tuple [.str "value", .str "high"]]
section
variable {P : Program} {w : World} {K : PySem.W.Frag} {mg : Str → Option Value} {base : Heap} {CP CV CN CM CNn CE CT c Pt : Addr}
theorem law_tail (M : MG mg) (K1 : ErrK K mg CP CV CN CM CNn CE CT) (D : Ds P w K mg base CV) (S0 : St0 K mg "_law_error" s_law_error ["ask"]) (TB : LamX.TabB base mg c Pt)
    (f : Addr) (A : Around) (outer : List Env) (s : Shared) (H : Hp) (E : XK) (hr : Room 6 (A.deeper (envOfC "law" (defScope s_law) s.heap.objs.size f (.ref c)))) :
    ∃ t, PSs (XL P w K mg base f c A outer s H E) lawTail t ∧ ∀ (Q : VK) (nx : L2.St → Hp → Prop) (x0 p q : Addr) (n : Nat) (σ : L2.St) (H1 : Hp), n ≤ 900000 → TurnIn x0 p q Pt n σ H1 → (∀ H', Q (.bl true) H') → t { nx := nx, rt := Q } σ H1 := by
  obtain ⟨T, eT⟩ : ∃ T, T = [(Pt, (XL P w K mg base f c A outer s H E).env.qual ++ "<lambda>")] := ⟨_, rfl⟩
  have hmT : (Pt, (XL P w K mg base f c A outer s H E).env.qual ++ "<lambda>") ∈ T := by rw [eT]; exact List.mem_cons_self
  have hu : ∀ p ∈ T, p.1 = Pt → p.2 = (XL P w K mg base f c A outer s H E).env.qual ++ "<lambda>" := fun p hp _ => by
    rw [eT] at hp
    rw [List.mem_singleton.mp hp]
  refine ⟨_, (pss_cons (ps_set (i := 12) sc_law.nd rfl (Or.inr rfl) (pd D.pick (hr.mono (by decide)) rfl (pa_cons (pv 1) (pa_cons (pe_lst (pa_cons pe_non (pa_cons pe_int (pa_cons pe_str (pa_cons pe_str (pa_cons pe_str (pa_cons (pe_tup (pa_cons pe_str pa_nil)) (pa_cons pe_bl (pa_cons pe_str pa_nil))))))))) pa_nil))))
  (pss_cons (ps_set (i := 11) sc_law.nd rfl (Or.inr rfl) (pd D.pick (hr.mono (by decide)) rfl (pa_cons (pv 1) (pa_cons (pe_lst (pa_cons pe_non (pa_cons pe_int (pa_cons pe_str (pa_cons (pe_lst (pa_cons pe_str pa_nil)) (pa_cons (pe_lst (pa_cons pe_non pa_nil)) (pa_cons (pe_disp (pps_cons pe_str pe_int pps_nil) (by rfl) (by rfl) (fun z => by cases z) (by decide)) (pa_cons (pe_lst (pa_cons pe_str (pa_cons pe_int pa_nil))) pa_nil)))))))) pa_nil))))
  (pss_cons (ps_set (i := 10) sc_law.nd rfl (Or.inl rfl) (pe_lst
    (pa_cons (pe_err (T := T) (k := 4) M K1 S0 rfl TB rfl hmT hu (hr.mono (by decide)) (show LamS (defScope s_law) _ from lamS_by (by decide +kernel)) rfl (fun _ _ _ _ _ => rfl) (fun A' o' s' H' E' f' c' hr' => pdX (fun _ _ _ _ h => h) (takes_of rfl rfl rfl rfl) D.next (hr'.mono (by decide)) rfl (pa_cons (pv 12) pa_nil)))
    (pa_cons (pe_err1 (T := T) (k := 4) M K1 S0 rfl TB rfl hmT hu (hr.mono (by decide)) (show LamS1 N_law _ (defScope s_law) _ from lamS1_by (by decide +kernel)) (fun A' o' s' H' E' f' c' hr' => pdX (fun _ _ _ _ h => h) (takes_of rfl rfl rfl rfl) D.free (hr'.mono (by decide)) rfl (pa_cons (pv 12) (pa_cons (pv 12) (pa_cons (pv 11) pa_nil)))))
    (pa_cons (pe_err1 (T := T) (k := 4) M K1 S0 rfl TB rfl hmT hu (hr.mono (by decide)) (show LamS1 N_law _ (defScope s_law) _ from lamS1_by (by decide +kernel)) (fun A' o' s' H' E' f' c' hr' => pdX (fun _ _ _ _ h => h) (takes_of rfl rfl rfl rfl) D.free (hr'.mono (by decide)) rfl (pa_cons pe_str (pa_cons (pv 12) (pa_cons (pv 11) pa_nil)))))
    (pa_cons (pe_err1 (T := T) (k := 4) M K1 S0 rfl TB rfl hmT hu (hr.mono (by decide)) (show LamS1 N_law _ (defScope s_law) _ from lamS1_by (by decide +kernel)) (fun A' o' s' H' E' f' c' hr' => pdX (fun _ _ _ _ h => h) (takes_of rfl rfl rfl rfl) D.free (hr'.mono (by decide)) rfl (pa_cons pe_str (pa_cons pe_str (pa_cons (pv 11) pa_nil))))) pa_nil))))))
  (pss_cons (ps_set (i := 10) sc_law.nd rfl (Or.inl rfl) (pe_op op_cat (pv 10) (pe_lst
    (pa_cons (pe_err (T := T) (k := 4) M K1 S0 rfl TB rfl hmT hu (hr.mono (by decide)) (show LamS (defScope s_law) _ from lamS_by (by decide +kernel)) rfl (fun _ _ _ _ _ => rfl) (fun A' o' s' H' E' f' c' hr' => pdX (fun _ _ _ _ h => h) (takes_of rfl rfl rfl rfl) D.btw (hr'.mono (by decide)) rfl (pa_cons (pv 12) (pa_cons (pv 12) pa_nil))))
    (pa_cons (pe_err1 (T := T) (k := 4) M K1 S0 rfl TB rfl hmT hu (hr.mono (by decide)) (show LamS1 N_law _ (defScope s_law) _ from lamS1_by (by decide +kernel)) (fun A' o' s' H' E' f' c' hr' => pdX (fun _ _ _ _ h => h) (takes_of rfl rfl rfl rfl) D.btw (hr'.mono (by decide)) rfl (pa_cons pe_str (pa_cons (pv 12) pa_nil)))) pa_nil)))))
  (pss_cons (ps_if (pt_cmpR (op_neD hr.units) (pv 10) (pe_lst (pa_cons (pe_tup (pa_cons pe_str (pa_cons pe_str pa_nil))) (pa_cons (pe_tup (pa_cons pe_str (pa_cons pe_str pa_nil))) (pa_cons (pe_tup (pa_cons pe_str (pa_cons pe_str pa_nil))) (pa_cons (pe_tup (pa_cons pe_str (pa_cons pe_str pa_nil))) (pa_cons (pe_tup (pa_cons pe_str (pa_cons pe_str pa_nil))) (pa_cons (pe_tup (pa_cons pe_str (pa_cons pe_str pa_nil))) pa_nil))))))) (nomark _)) (pss_one (ps_ret pe_bl)) pss_nil)
  (pss_one (ps_ret (pe_and (pe_cmpR op_isN (pdN D.next (hr.mono (by decide)) rfl (pa_cons pe_str pa_nil)) pe_non (nomark _)) (pe_one (pe_cmpR op_eq (pdN D.btw (hr.mono (by decide)) rfl (pa_cons pe_str (pa_cons pe_str pa_nil))) (pe_op op_mul pe_int (pe_callTy call_int1 (by rfl) M.int (by decide +kernel) (pa_cons (pe_callB (cr_sum rfl) (by rfl) M.sum (by decide +kernel) (pa_cons (pe_lc (own := [("size", 14)]) rfl sc_law.nd (pi_range1 rfl M.range (pa_cons pe_int pa_nil)) (blkOk_by (own := [("size", 14)]) (N := N_law) (sc := defScope s_law) (by decide +kernel)) (fun _ _ _ _ _ => (pg_name (i := 14) sc_law.nd rfl (Or.inl rfl))) (fun _ _ _ _ _ => pts_nil) (fun _ _ _ _ _ => (pd D.power (hr.mono (by decide)) rfl (pa_cons (pv 14) pa_nil)))) pa_nil)) pa_nil))) (nomark _))))))))))), ?_⟩
  rintro Q nx x0 p q n σ H1 hn ⟨⟨x2, x3, x4, x5, x6, x7, x8, x9, rfl⟩, hP, hT⟩ hQ
  refine ⟨_, rfl, by show 1 ≤ sizeLine; decide, fun t1 nt1 => ⟨by show 8 ≤ sizeLine; decide, fun lo nlo => ?_⟩⟩
  have s1 := (Same.upd (o := .tup [.str "a"]) nt1).trans (.upd (o := .lst [.non, .int 5, .str "", .str "A", .str "ninechars", .ref t1, .bl true, .str "a b"]) nlo)
  have s0 := Same.upd (o := .tup [V.str "a"]) nt1
  obtain ⟨nlp, _⟩ := (hP.same s0).hp nlo
  obtain ⟨nt1p, _⟩ := hP.hp nt1
  refine ⟨p, q, lo, _, n, rfl, nlp, .inl (.inl upd_same), by simp, by simp, hP.same s1, by omega, fun odd H2 hodd k2 P2 => ?_⟩
  have ht1 : H2 t1 = some (.tup [.str "a"]) := k2.at nt1p (by rw [upd_ne (ne_of_none upd_same nlo), upd_same])
  have k12 : Kp p H1 H2 := s1.kp.trans k2
  -- bad
  refine ⟨_, rfl, by show 1 ≤ sizeLine; decide, fun l1 nl1 => ⟨by show 1 ≤ sizeLine; decide, fun l2 nl2 => fun d1 nd1 => ⟨upd_same, [(Sum.inr "a", .int 1)], rfl, by decide, ?_⟩⟩⟩
  refine ⟨by show 2 ≤ sizeLine; decide, fun l3 nl3 => ⟨by show 7 ≤ sizeLine; decide, fun lb nlb => ?_⟩⟩
  rw [upd_upd] at nl3 nlb
  rw [upd_upd]
  have sa := Same.upd (o := .lst [V.str "A"]) nl1
  have sb := Same.upd (o := .lst [V.non]) nl2
  have sc := Same.upd (o := .dK (mergeK [] [(Sum.inr (Str.ofString "a"), V.int 1)])) nd1
  have sd := Same.upd (o := .lst [V.str "a", .int 5]) nl3
  have se := Same.upd (o := .lst [V.non, .int 5, .str "a", .ref l1, .ref l2, .ref d1, .ref l3]) nlb
  have s2 := (((sa.trans sb).trans sc).trans sd).trans se
  have P3 := P2.same s2
  have np := fun {x : Addr} (z : H2 x = none) => (P2.hp z).1
  have z1 := nl1
  have z2 := sa.free nl2
  have z3 := (sa.trans sb).free nd1
  have z4 := ((sa.trans sb).trans sc).free nl3
  have z5 := (((sa.trans sb).trans sc).trans sd).free nlb
  refine ⟨p, q, lb, _, n + 1, rfl, np z5, .inl (.inl upd_same), by simp, by simp, P3, by omega, fun bad H3 hbad k3 P4 => ?_⟩
  have h1 : H3 l1 = some (.lst [.str "A"]) := k3.at (np z1) (se _ _ (sd _ _ (sc _ _ (sb _ _ upd_same))))
  have h2 : H3 l2 = some (.lst [.non]) := k3.at (np z2) (se _ _ (sd _ _ (sc _ _ upd_same)))
  have h3 : H3 d1 = some (.dK (mergeK [] [(Sum.inr (Str.ofString "a"), V.int 1)])) := k3.at (np z3) (se _ _ (sd _ _ upd_same))
  have h4 : H3 l3 = some (.lst [.str "a", .int 5]) := k3.at (np z4) (se _ _ upd_same)
  have k23 : Kp p H2 H3 := s2.kp.trans k3
  have tyS : ∀ x : Str, x.length ≤ 20 → Ty K H3 (.str x) "str" := fun x h => .s x (Nat.le_trans h (by decide))
  have hB : Bad K H3 bad := by
    simp only [List.mem_cons, List.not_mem_nil, or_false] at hbad
    rcases hbad with e | e | e | e | e | e | e <;> rw [e]
    · exact ⟨"NoneType", .o _ _ (by decide) (.base .non) (fun _ z => nomatch z), .inl (by decide)⟩
    · exact ⟨"int", .o _ _ (by decide) (.base (.int 5)) (fun _ z => nomatch z), .inl (by decide)⟩
    · exact ⟨"str", tyS _ (by decide +kernel), .inl (by decide)⟩
    · exact ⟨"list", .o _ _ (by decide) (.base (.lst h1)) (fun _ z => nomatch z), .inr ⟨by decide, l1, _, rfl, h1, by simp, fun z hz => (by rw [List.mem_singleton.mp hz]; exact ⟨_, tyS _ (by decide +kernel)⟩), by decide +kernel⟩⟩
    · exact ⟨"list", .o _ _ (by decide) (.base (.lst h2)) (fun _ z => nomatch z), .inr ⟨by decide, l2, _, rfl, h2, by simp, fun z hz => (by rw [List.mem_singleton.mp hz]; exact ⟨"NoneType", .o _ _ (by decide) (.base .non) (fun _ z => nomatch z)⟩), by decide +kernel⟩⟩
    · exact ⟨"dict", .o _ _ (by decide) (.base (.dK h3)) (fun _ z => nomatch z), .inl (by decide)⟩
    · refine ⟨"list", .o _ _ (by decide) (.base (.lst h4)) (fun _ z => nomatch z), .inr ⟨by decide, l3, _, rfl, h4, by simp, fun z hz => ?_, by decide +kernel⟩⟩
      simp only [List.mem_cons, List.not_mem_nil, or_false] at hz
      rcases hz with e | e
      · rw [e]; exact ⟨_, tyS _ (by decide +kernel)⟩
      · rw [e]; exact ⟨"int", .o _ _ (by decide) (.base (.int 5)) (fun _ z => nomatch z)⟩
  have ht3 := k23.at nt1p ht1
  have hO : Odd K H3 odd := by
    simp only [List.mem_cons, List.not_mem_nil, or_false] at hodd
    have str : ∀ x : Str, x.length ≤ 20 → isNm (.str x) = false → Odd K H3 (.str x) := fun x h1 h2 => ⟨"str", .s x (Nat.le_trans h1 (by decide)), h2⟩
    rcases hodd with e | e | e | e | e | e | e | e <;> rw [e]
    · exact ⟨"NoneType", .o _ _ (by decide) (.base .non) (fun _ z => nomatch z), rfl⟩
    · exact ⟨"int", .o _ _ (by decide) (.base (.int 5)) (fun _ z => nomatch z), rfl⟩
    · exact str _ (by decide +kernel) (by decide +kernel)
    · exact str _ (by decide +kernel) (by decide +kernel)
    · exact str _ (by decide +kernel) (by decide +kernel)
    · exact ⟨"tuple", .o _ _ (by decide) (.base (.tup ht3)) (fun _ z => nomatch z), rfl⟩
    · exact ⟨"bool", .o _ _ (by decide) (.base (.bl true)) (fun _ z => nomatch z), rfl⟩
    · exact str _ (by decide +kernel) (by decide +kernel)
  have k13 : Kp p H1 H3 := k12.trans k23
  have hTb : H3 Pt = some (.tbl #[]) := k13.at (fun z => by
    obtain ⟨ns, lap, rest, _, e, _⟩ := hP
    rw [z, e] at hT
    cases hT) hT
  have T3 : Tabs T H3 := fun x hx => by
    rw [eT] at hx
    rw [List.mem_singleton.mp hx]
    exact TabS.nil hTb
  have nA : isNm (.str "a") = true := by decide +kernel
  have nB : isNm (.str "b") = true := by decide +kernel
  have tA : ∀ Hx, Ty K Hx (.str "a") "str" := fun Hx => .s _ (Nat.le_trans (show (PySem.Str.ofString "a").length ≤ 20 by decide +kernel) (by decide))
  have tB : ∀ Hx, Ty K Hx (.str "b") "str" := fun Hx => .s _ (Nat.le_trans (show (PySem.Str.ofString "b").length ≤ 20 by decide +kernel) (by decide))
  have noO : ∀ {G : Prop} {Hx : Hp}, Odd K Hx odd → isNm odd = true → G := fun {G Hx} h z => by
    obtain ⟨_, _, e⟩ := h
    rw [e] at z
    cases z
  refine step_err "name" T3 (fun Hb E Q' eb hB' => ?_) (fun Ha p1 ea Ta hp1 => ?_)
  · obtain ⟨t, ht, hf⟩ := hO.ext eb
    exact ⟨_, rfl, odd, t, rfl, ht, fun l e hl _ _ => noO (hO.ext eb) (e ▸ nm_isNm hl), fun _ => hB'⟩
  refine step_err "low" Ta (fun Hx E Q' ex hB' => ?_) (fun Hb p2 eb Tb hp2 => ?_)
  · have e3 := ea.trans ex
    obtain ⟨t, ht, hf⟩ := hO.ext e3
    obtain ⟨tb, hbt, _⟩ := hB.ext e3
    exact ⟨_, rfl, _, rfl, _, rfl, odd, t, odd, t, bad, tb, rfl, ht, ht, hbt, fun _ => hB', fun z => noO (hO.ext e3) z, fun z => noO (hO.ext e3) z⟩
  refine step_err "high" Tb (fun Hx E Q' ex hB' => ?_) (fun Hc p3 ec Tc hp3 => ?_)
  · have e3 := (ea.trans eb).trans ex
    obtain ⟨t, ht, hf⟩ := hO.ext e3
    obtain ⟨tb, hbt, _⟩ := hB.ext e3
    exact ⟨_, rfl, _, rfl, _, "str", odd, t, bad, tb, rfl, tA _, ht, hbt, fun z => (by rw [nA] at z; cases z), fun _ _ => hB', fun _ z => noO (hO.ext e3) z⟩
  refine step_err "taken" Tc (fun Hx E Q' ex hB' => ?_) (fun Hd p4 ed Td hp4 => ?_)
  · have e3 := ((ea.trans eb).trans ec).trans ex
    obtain ⟨tb, hbt, hcase⟩ := hB.ext e3
    refine ⟨_, rfl, _, "str", _, "str", bad, tb, rfl, tA _, tB _, hbt, fun z => (by rw [nA] at z; cases z), fun _ z => (by rw [nB] at z; cases z), fun _ _ => ?_⟩
    rcases hcase with h | ⟨h, a, xs, e, hS, hlen, hty, hnm⟩
    · exact .inl ⟨h, hB'⟩
    · exact .inr ⟨h, a, xs, e, .inl (.inl (.inl hS)), hlen, hty, fun _ => hB', fun z => (by rw [hnm] at z; cases z)⟩
  refine ⟨by show 4 ≤ sizeLine; decide, fun ha nha => ?_⟩
  have s5 := Same.upd (o := .lst [.ref p1, .ref p2, .ref p3, .ref p4]) nha
  refine ⟨_, rfl, ?_⟩
  refine step_err "low" (Td.ext s5) (fun Hx E Q' ex hB' => ?_) (fun He p5 ee Te hp5 => ?_)
  · have e3 := ((((ea.trans eb).trans ec).trans ed).trans (.of s5)).trans ex
    obtain ⟨t, ht, hf⟩ := hO.ext e3
    exact ⟨_, rfl, _, rfl, odd, t, odd, t, rfl, ht, ht, fun l m e1 _ hl _ _ _ => noO (hO.ext e3) (e1 ▸ nm_isNm hl), fun _ => hB', fun z => noO (hO.ext e3) z⟩
  refine step_err "high" Te (fun Hx E Q' ex hB' => ?_) (fun Hf p6 ef Tf hp6 => ?_)
  · have e3 := (((((ea.trans eb).trans ec).trans ed).trans (.of s5)).trans ee).trans ex
    obtain ⟨t, ht, hf⟩ := hO.ext e3
    exact ⟨_, rfl, _, "str", odd, t, rfl, tA _, ht, fun l m _ e1 _ hl _ _ => noO (hO.ext e3) (e1 ▸ nm_isNm hl), fun z => (by rw [nA] at z; cases z), fun _ _ => hB'⟩
  refine ⟨by show 2 ≤ sizeLine; decide, fun hb nhb => ?_⟩
  have s6 := Same.upd (o := .lst [.ref p5, .ref p6]) nhb
  have hha : Hf ha = some (.lst [.ref p1, .ref p2, .ref p3, .ref p4]) := ef _ _ (ee _ _ upd_same fun _ z => nomatch z) fun _ z => nomatch z
  refine ⟨ha, hb, _, _, rfl, rfl, s6 _ _ hha, upd_same, by show 6 ≤ sizeLine; decide, fun hc nhc => ?_⟩
  have s7 := Same.upd (o := .lst ([.ref p1, .ref p2, .ref p3, .ref p4] ++ [.ref p5, .ref p6])) nhc
  have e67 : ExtN Hf (upd (upd Hf hb (.lst [.ref p5, .ref p6])) hc (.lst ([.ref p1, .ref p2, .ref p3, .ref p4] ++ [.ref p5, .ref p6]))) := .of (s6.trans s7)
  have g6 := e67 _ _ hp6 fun _ z => nomatch z
  have g5 := (ef.trans e67) _ _ hp5 fun _ z => nomatch z
  have e4 := (((LamX.ExtN.of s5).trans ee).trans ef).trans e67
  have g4 := e4 _ _ hp4 fun _ z => nomatch z
  have g3 := (ed.trans e4) _ _ hp3 fun _ z => nomatch z
  have g2 := ((ec.trans ed).trans e4) _ _ hp2 fun _ z => nomatch z
  have g1 := (((eb.trans ec).trans ed).trans e4) _ _ hp1 fun _ z => nomatch z
  have g0 := upd_same (H := upd Hf hb (.lst [.ref p5, .ref p6])) (a := hc) (o := .lst ([.ref p1, .ref p2, .ref p3, .ref p4] ++ [.ref p5, .ref p6]))
  obtain ⟨HG, eHG⟩ : ∃ HG, HG = upd (upd Hf hb (.lst [.ref p5, .ref p6])) hc (.lst ([.ref p1, .ref p2, .ref p3, .ref p4] ++ [.ref p5, .ref p6])) := ⟨_, rfl⟩
  rw [← eHG] at g0 g1 g2 g3 g4 g5 g6
  dsimp only [gName]
  rw [← eHG]
  refine seq_if (fun _ => True) (fun G hG => ?_) (fun H9 _ => ?_)
  · refine ⟨_, rfl, by show 2 ≤ sizeLine; decide, fun u1 nu1 => ⟨by show 2 ≤ sizeLine; decide, fun u2 nu2 => ⟨by show 2 ≤ sizeLine; decide, fun u3 nu3 => ⟨by show 2 ≤ sizeLine; decide, fun u4 nu4 => ⟨by show 2 ≤ sizeLine; decide, fun u5 nu5 => ⟨by show 2 ≤ sizeLine; decide, fun u6 nu6 => ⟨by show 6 ≤ sizeLine; decide, fun ul nul => ?_⟩⟩⟩⟩⟩⟩⟩
    have v1 := Same.upd (o := .tup [.str "value", .str "name"]) nu1
    have v2 := Same.upd (o := .tup [.str "value", .str "low"]) nu2
    have v3 := Same.upd (o := .tup [.str "value", .str "high"]) nu3
    have v4 := Same.upd (o := .tup [.str "value", .str "taken"]) nu4
    have v5 := Same.upd (o := .tup [.str "value", .str "low"]) nu5
    have v6 := Same.upd (o := .tup [.str "value", .str "high"]) nu6
    have v7 := Same.upd (o := .lst [.ref u1, .ref u2, .ref u3, .ref u4, .ref u5, .ref u6]) nul
    have va := ((((((v1.trans v2).trans v3).trans v4).trans v5).trans v6).trans v7)
    have dp : ∀ {Hx : Hp} {a : Addr} {s1 s2 : Str}, Hx a = some (.tup [.str s1, .str s2]) → Dp K Hx (.ref a) (.tuple [.str s1, .str s2]) := fun h => .tup (.inl (.inl h)) (.cons (.str _) (.cons (.str _) .nil))
    refine ⟨heardD, heardD, ?_, ?_, by decide +kernel, by decide +kernel, ?_⟩
    · exact .lst (.inl (.inl (va _ _ g0))) (.cons (dp (va _ _ g1)) (.cons (dp (va _ _ g2)) (.cons (dp (va _ _ g3)) (.cons (dp (va _ _ g4)) (.cons (dp (va _ _ g5)) (.cons (dp (va _ _ g6)) .nil))))))
    · have w6 := v7 _ _ (upd_same (a := u6) (o := .tup [.str "value", .str "high"]))
      have w5 := v7 _ _ (v6 _ _ (upd_same (a := u5) (o := .tup [.str "value", .str "low"])))
      have w4 := v7 _ _ (v6 _ _ (v5 _ _ (upd_same (a := u4) (o := .tup [.str "value", .str "taken"]))))
      have w3 := v7 _ _ (v6 _ _ (v5 _ _ (v4 _ _ (upd_same (a := u3) (o := .tup [.str "value", .str "high"])))))
      have w2 := v7 _ _ (v6 _ _ (v5 _ _ (v4 _ _ (v3 _ _ (upd_same (a := u2) (o := .tup [.str "value", .str "low"]))))))
      have w1 := v7 _ _ (v6 _ _ (v5 _ _ (v4 _ _ (v3 _ _ (v2 _ _ (upd_same (H := HG) (a := u1) (o := .tup [.str "value", .str "name"])))))))
      exact .lst (.inl (.inl upd_same)) (.cons (dp w1) (.cons (dp w2) (.cons (dp w3) (.cons (dp w4) (.cons (dp w5) (.cons (dp w6) .nil))))))
    · rw [show PyData.eqv heardD heardD = true by decide +kernel]
      exact ⟨_, rfl, hG _ True.intro⟩
  · dsimp only [tNext]
    have ez : (PySem.Str.ofString "zzzzzzzz") = S (List.replicate 8 122) := by decide +kernel
    have hz : Nm (List.replicate 8 122) := ⟨by decide, by decide, by decide⟩
    have ha : Nm [97] := ⟨by decide, by decide, by decide⟩
    refine ⟨_, "str", rfl, .s _ (by rw [ez]; exact small_len hz.len), fun l e hl H10 s10 => ?_, fun z => ?_⟩
    rotate_left
    · rw [ez, nm_isNm hz] at z
      cases z
    rw [ez] at e
    obtain rfl := S_inj (V.str.inj e)
    rw [show nxt 8 (List.replicate 8 122) = none by decide +kernel]
    refine ⟨rfl, true, rfl, iteT ?_⟩
    refine ⟨_, "str", _, "str", rfl, tA _, .s _ (by rw [ez]; exact small_len hz.len), fun l m e1 e2 hl hm H11 s11 => ?_, fun z => (by rw [nA] at z; cases z), fun _ z => (by rw [ez, nm_isNm hz] at z; cases z)⟩
    rw [a_S] at e1
    rw [ez] at e2
    obtain rfl := S_inj (V.str.inj e1)
    obtain rfl := S_inj (V.str.inj e2)
    refine ⟨8, rfl, by decide, by decide, fun D3 nD3 => ?_⟩
    refine lc_same walk_rangeV (by simp) (fun z => match z with | .int j => some (.int ((26 ^ j.toNat : Nat) : Int)) | _ => none) nD3 (by simp; decide) (fun _ _ => True.intro) (fun z hz H12 acc s12 hl12 hz12 Nx n1 n2 => ?_) (fun H12 s12 hl12 => ?_)
    · obtain ⟨j, hj, rfl⟩ := List.mem_map.mp hz
      have hj8 : j < 8 := by simpa using List.mem_range.mp hj
      refine ⟨rfl, _, rfl, j, ?_, by omega, acc, hl12, hz12, n1 H12 _ (Same.refl H12) ?_⟩
      · show [V.int (0 + (j : Int))] = _
        rw [Int.zero_add]
      · show some (V.int ((26 ^ (0 + (j : Int)).toNat : Nat) : Int)) = _
        rw [show (0 + (j : Int)).toNat = j by omega]
    · refine ⟨D3, (List.range (7 + 1)).map fun s => ((26 ^ s : Nat) : Int), rfl, .inl (.inl ?_), ?_⟩
      · rw [hl12]
        exact congrArg (fun q => some (HO.lst q)) (by decide +kernel)
      · rw [sum_pow]
        refine .inl ⟨_, rfl, _, _, rfl, rfl, .inl ⟨by decide, by decide⟩, rfl, ?_⟩
        rw [show decide (V.int (btw [97] (List.replicate 8 122)) = V.int (26 * (L 7 : Int))) = true from decide_eq_true (by decide +kernel)]
        exact hQ _
end
end K92
set_option Elab.async false
set_option linter.all false
set_option maxRecDepth 100000
set_option maxHeartbeats 4000000
namespace K92
open PySem PySem.Spec PyProof.Rows L2 Nam PlugX LamX LamB
def spLaw (K : PySem.W.Frag) (Pt : Addr) : Sp := fun vs H Q _ => ∃ (a : Addr) (ns : List Int), vs = [.ref a] ∧ SqL K H a (ns.map V.int) ∧ ns.length ≤ 1000 ∧ H Pt = some (.tbl #[]) ∧ ∀ H', Q (.bl true) H'
section
variable {P : Program} {w : World} {K : PySem.W.Frag} {mg : Str → Option Value} {base : Heap} {CP CV CN CM CNn CE CT c Pt f : Addr} {fd : FuncData}
theorem law_ok (M : MG mg) (K1 : ErrK K mg CP CV CN CM CNn CE CT) (D : Ds P w K mg base CV) (S0 : St0 K mg "_law_error" s_law_error ["ask"]) (TB : LamX.TabB base mg c Pt) (F : FnP K "law" s_law f fd) (hcode : fd.code = .ref c) :
    FnOk P w K mg base CX0 7 f fd ["script"] (spLaw K Pt) := by
  obtain ⟨oc, od, dV, kV, doc, pm, an, cdv, ct, osl, rfl, lk, hcd, _, _⟩ := F.ex
  obtain rfl : cdv = .ref c := hcode
  refine fn_of lk hcd sc_law (fun vs H Q E h => ?_) fun A outer s H vs Q E hr h => ?_
  · obtain ⟨a, ns, rfl, _⟩ := h
    rfl
  · obtain ⟨tt, ht, qt⟩ := law_turn (Pt := Pt) M K1 D f A outer s H E hr
    obtain ⟨tl, hl, ql⟩ := law_tail M K1 D S0 TB f A outer s H E hr
    refine ⟨_, PSs.nox (pss_cons (ps_set (i := 1) sc_law.nd rfl (Or.inr rfl) (pd D.pen (hr.mono (by decide)) rfl (pa_cons (pv 0) pa_nil)))
      (pss_cons (ps_for PassesOwn.never rfl (pi_range1 rfl M.range (pa_cons pe_int pa_nil)) (pg_name (i := 2) sc_law.nd rfl (Or.inl rfl)) ht) hl)), ?_⟩
    obtain ⟨a, ns, rfl, hS, hn, hT, hQ⟩ := h
    refine ⟨_, rfl, a, ns, rfl, hS, hn, fun H1 p q s1 np nq hP => ?_⟩
    refine ⟨6, rfl, by decide, by decide, ?_⟩
    refine for_it walk_range (fun i σ H' => TurnIn a p q Pt (40 * i) σ H') ⟨⟨none, none, none, none, none, none, none, none, rfl⟩, hP, s1 _ _ hT⟩ (fun _ _ _ _ _ => True.intro) ?_ ?_
    · rintro i x σ H2 H3 hi ⟨⟨x2, x3, x4, x5, x6, x7, x8, x9, rfl⟩, hP, hT⟩ ⟨rfl, rfl⟩
      have hi6 : i < 6 := hi
      exact qt _ a p q (40 * i) _ _ (by omega) ⟨⟨_, _, _, _, _, _, _, _, rfl⟩, hP, hT⟩ fun σ' H' h => h
    · rintro σ H2 h
      exact ql _ _ a p q _ σ H2 (by decide) h hQ
end
end K92
set_option Elab.async false
set_option linter.all false
set_option maxRecDepth 100000
set_option maxHeartbeats 4000000
/-! # A hook of one's own: defs, facts, tables, own errors (ExT), the statics too. -/
namespace PlugH
open PySem PySem.Spec PyProof.Rows L2 He PlugX PySem.HandSPX
/-- one error class: its name, its field, the qualified name of its __init__, the places in the text of that -/
structure EC where
  x : Str
  f : Str
  q : Str
  p : PPs
abbrev FnC : Type := Option (Str × Str × Arguments × FuncBody × Scope × Addr × List Str × Addr)
def fnC (K : PySem.W.Frag) (a : Addr) : FnC := match K.lookup a with
  | some ⟨_, _, .func fd, _⟩ => some (fd.name, fd.qualname, fd.params, fd.body, fd.scope, fd.globals, fd.closure.map (·.1), fd.builtins)
  | _ => none
def EC.val (e : EC) : FnC := some ("__init__", e.q, iArgs e.f e.p, .stmts (iBody e.f e.p), iScope e.f, mainGlobals, ["__class__"], builtinsNs)
def clsB (K : PySem.W.Frag) (C : Addr) : Bool := match K.lookup C with
  | some ⟨.type c, _, .cls cd, sl⟩ => decide (c = "type") && ((match cd.mro with
    | .ref C' :: bm => decide (C' = C) && refsVE bm
    | _ => false) && (cd.hasDict && (!cd.hasDel && (match sl.toList with
      | [_, _, _, _, some (.builtin n), _] => decide (n = "ValueError.__new__")
      | _ => false))))
  | _ => false
theorem clsB_ok {K : PySem.W.Frag} {C : Addr} (h : clsB K C = true) : ∃ nm q N bs bm sn sub ab col dd k0 k1 k2 k3 k5, K.lookup C = some (excClassObj nm q C N bs bm true sn sub ab col dd k0 k1 k2 k3 k5 "ValueError.__new__") ∧ refsVE bm = true := by
  unfold clsB at h
  split at h
  · rename_i c dd cd sl ho
    simp only [Bool.and_eq_true, Bool.not_eq_true', decide_eq_true_eq] at h
    obtain ⟨h1, h2, h3, h4, h5⟩ := h
    subst h1
    obtain ⟨nm, bs, mro, N, q, hdct, sn, sub, ab, col, del⟩ := cd
    split at h2
    · rename_i C' bm hm
      simp only [Bool.and_eq_true, decide_eq_true_eq] at h2
      obtain ⟨h6, h7⟩ := h2
      subst h6
      split at h5
      · rename_i k0 k1 k2 k3 n k5 hs
        have h8 : n = "ValueError.__new__" := of_decide_eq_true h5
        subst h8
        have hs2 : sl = #[k0, k1, k2, k3, some (.builtin "ValueError.__new__"), k5] := by
          have := congrArg List.toArray hs
          simpa using this
        have hm : mro = .ref C' :: bm := hm
        have h3 : hdct = true := h3
        have h4 : del = false := h4
        subst hs2 hm h3 h4
        exact ⟨nm, q, N, bs, bm, sn, sub, ab, col, dd, k0, k1, k2, k3, k5, ho, h7⟩
      · cases h5
    · cases h2
  · cases h
/-- the rest that ExT tells -/
def restB (file : Str) (K : PySem.W.Frag) (e : EC) : Bool :=
  clsB K (ga K e.x) && (eqO (PySem.W.nsIn K mainGlobals e.x) (some (some (.ref (ga K e.x)))) && (eqO (PySem.W.nsIn K mainGlobals "super") (some none) && (eqO (PySem.W.findIn K (.ref (ga K e.x)) "__setattr__") (some (some (.builtin "object.__setattr__"))) && (eqO (PySem.W.findIn K (.ref (ga K e.x)) e.f) (some none) &&
  (eqO (PySem.W.findIn K (.ref (ga K e.x)) "__init__") (some (some (.ref (ma K (ga K e.x) "__init__")))) && (decide (PySem.W.typeIn K (.ref (ma K (ga K e.x) "__init__")) = some (.type "function")) && (PySem.W.keepIn K (.ref (ga K e.x)) && (decide (PySem.W.subIn K (.ref (ga K e.x)) (.type "BaseException") = some true) &&
  (decide (PySem.W.subIn K (.ref (ga K e.x)) (.type "ValueError") = some true) && (decide (PySem.W.typeIn K (.ref (ga K e.x)) = some (.type "type")) && (eqO (PySem.W.ks_superIn K (ga K e.x) (ga K e.x) "__init__") (some (some (.builtin "ValueError.__init__"))) && (decide (PySem.W.mroIn K (ga K e.x) (.ref (ga K e.x)) = some true) &&
  (eqO (PySem.W.nsIn K cStatics "thirdparty.any") (some none) && (match K.lookup (ma K (ga K e.x) "__init__") with
    | some ⟨_, _, .func fd, _⟩ => (match fd.code, fd.closure, fd.defaults with
      | .ref cda, [(_, cc)], .none => PySem.W.codeIn K (.ref cda) e.q && ((match K.lookup cda with
        | some ⟨_, _, .fields vs, _⟩ => (match (vs[2]? : Option Value) with
          | some (.str z _) => decide (z = file)
          | _ => false)
        | _ => false) && (match K.lookup cc with
          | some ⟨_, _, .cell (some (.ref C')), _⟩ => decide (C' = ga K e.x)
          | _ => false))
      | _, _, _ => false)
    | _ => false))))))))))))))
theorem ext_of {P : Program} {K : PySem.W.Frag} {h : Heap} {mg : Str → Option Value} {e : EC} (X : K.In h) (G : h.Ns mainGlobals mg) (ho : fnC K (ma K (ga K e.x) "__init__") = e.val) (hr : restB P.main.file K e = true) (top : (P.main.scope.names.lookup ("super" : Str)).isSome = false)
    (line : ((e.p 4).endLine == (e.p 6).line) = true) : ∃ cda cc, ExT P K mg e.x e.f (ga K e.x) (ma K (ga K e.x) "__init__") cda cc := by
  unfold restB at hr
  simp only [Bool.and_eq_true, decide_eq_true_eq] at hr
  obtain ⟨r1, r2, r3, r4, r5, r6, r7, r8, r9, r10, r11, r12, r13, r14, r15⟩ := hr
  unfold fnC at ho
  split at r15
  · rename_i oc od fd osl hf
    rw [hf] at ho
    split at r15
    · rename_i cda u cc hcode hclo hdef
      obtain ⟨n1, n2, n3, n4, n5, n6, n7, n8, n9, n10, n11, n12, n13, n14, n15⟩ := fd
      have e2 : (some (n1, n2, n3, n4, n5, n6, n7.map (·.1), n15) : FnC) = e.val := ho
      unfold EC.val at e2
      simp only [Option.some.injEq, Prod.mk.injEq] at e2
      obtain ⟨h1, h2, h3, h4, h5, h6, h7, h8⟩ := e2
      have hcode : n13 = .ref cda := hcode
      have hclo : n7 = [(u, cc)] := hclo
      have hdef : n8 = .none := hdef
      subst h1 h2 h3 h4 h5 h6 h8 hcode hclo hdef
      have hu : u = "__class__" := by simpa using h7
      subst hu
      simp only [Bool.and_eq_true] at r15
      obtain ⟨q1, q2, q3⟩ := r15
      split at q2
      · rename_i ccl cdd vs ccs hcd
        split at q2
        · rename_i z tz hz
          have hz2 : z = P.main.file := of_decide_eq_true q2
          split at q3
          · rename_i cl cld C' csl hcell
            have hC : C' = ga K e.x := of_decide_eq_true q3
            subst hC
            refine ⟨cda, cc, ⟨PySem.W.mg_of X G (eqO_ok r2), PySem.W.mg_none_of X G (eqO_ok r3), clsB_ok r1, eqO_ok r4, eqO_ok r5, eqO_ok r6, r7, r8, r9, r10, r11, eqO_ok r12, r13, eqO_ok r14, top, ?_, ?_, ?_⟩⟩
            · exact ⟨e.q, oc, od, n9, n10, n11, n12, n14, osl, e.p, hf, q1, line⟩
            · exact ⟨ccl, cdd, vs, ccs, z, tz, hcd, hz, by rw [hz2]; exact beq_self_eq_true _⟩
            · exact ⟨cl, cld, csl, hcell⟩
          · cases q3
        · cases q2
      · cases q2
    · cases r15
  · cases r15
/-! ### the hook -/
/-- what is looked at -/
def adrs (g : Addr → Option Obj) (n : Nat) : List Addr := cStatics :: asD g n
abbrev AlP : Type := (AlD × List FnC) × Bool
def obsP (n : Nat) (fa : List Fa) (fn : List DefD) (tf : List Defn) (es : List EC) (ex : PySem.W.Frag → Bool) (g : Addr → Option Obj) : AlP :=
  ((obsD fa fn (frT g (adrs g n)), es.map fun e => fnC (frT g (adrs g n)) (ma (frT g (adrs g n)) (ga (frT g (adrs g n)) e.x) "__init__")), ex (frT g (adrs g n)) && tabsB g tf (frT g (adrs g n)))
def valP (fn : List DefD) (es : List EC) : AlP := ((valD fn, es.map EC.val), true)
structure SaysP (fa : List Fa) (fn : List DefD) (tf : List Defn) (es : List EC) (ex : PySem.W.Frag → Bool) (h : Heap) (K : PySem.W.Frag) : Prop where
  d : SaysD fa fn K
  ini : ∀ e ∈ es, fnC K (ma K (ga K e.x) "__init__") = e.val
  more : ex K = true
  tab : ∀ p ∈ tf, PySem.W.codeHdIn K (cT K p).1 (cT K p).2 = true ∧ K.lookup (cT K p).2 = none ∧ h.get? (cT K p).2 = some { cls := .none, data := .fields #[] }
theorem saysP_of {n : Nat} {fa : List Fa} {fn : List DefD} {tf : List Defn} {es : List EC} {ex : PySem.W.Frag → Bool} {h : Heap} (q : obsP n fa fn tf es ex h.get? = valP fn es) : SaysP fa fn tf es ex h (frT h.get? (adrs h.get? n)) := by
  obtain ⟨K, eK⟩ : ∃ K, K = frT h.get? (adrs h.get? n) := ⟨_, rfl⟩
  have q1 : obsD fa fn K = valD fn := by
    rw [eK]
    exact congrArg (fun z : AlP => z.1.1) q
  have q2 : (es.map fun e => fnC K (ma K (ga K e.x) "__init__")) = es.map EC.val := by
    rw [eK]
    exact congrArg (fun z : AlP => z.1.2) q
  have q3 : (ex K && tabsB h.get? tf K) = true := by
    rw [eK]
    exact congrArg (fun z : AlP => z.2) q
  rw [← eK]
  rw [Bool.and_eq_true] at q3
  refine ⟨q1, fun e he => ?_, q3.1, fun p hp => ?_⟩
  · obtain ⟨i, hi⟩ := List.mem_iff_getElem?.mp he
    have q4 := congrArg (fun l => l[i]?) q2
    simp only [List.getElem?_map, hi, Option.map_some] at q4
    exact Option.some.inj q4
  · have q5 := List.all_eq_true.mp q3.2 p hp
    rw [Bool.and_eq_true] at q5
    refine ⟨q5.1, ?_⟩
    cases e : h.get? (cT K p).2 with
    | none =>
      have q6 := q5.2
      rw [e] at q6
      cases q6
    | some o =>
      have q6 := q5.2
      rw [e] at q6
      have eo := emptyTab_eq q6
      refine ⟨?_, by rw [eo]⟩
      have e' : h.get? (cT (frT h.get? (adrs h.get? n)) p).2 = some o := by rw [← eK]; exact e
      rw [eK]
      exact frT_none e' q6
def hookP (n : Nat) (fa : List Fa) (fn : List DefD) (tf : List Defn) (es : List EC) (ex : PySem.W.Frag → Bool) : PySem.W.Hook where
  α := AlP
  obs := fun s => obsP n fa fn tf es ex s.heap.get?
  val := fun _ => valP fn es
  says := fun _ h => ∃ K : PySem.W.Frag, K.In h ∧ SaysP fa fn tf es ex h K
  of := fun _ _ q => ⟨_, frT_in, saysP_of q⟩
  keeps := fun _ _ _ ⟨K, hK, c⟩ k => ⟨K, PySem.W.Frag.In.keeps hK k, ⟨c.d, c.ini, c.more, fun p hp => ⟨(c.tab p hp).1, (c.tab p hp).2.1, k _ _ (c.tab p hp).2.2⟩⟩⟩
theorem obsP_eq {n : Nat} {fa : List Fa} {fn : List DefD} {tf : List Defn} {es : List EC} {ex : PySem.W.Frag → Bool} {g : Addr → Option Obj} {s : Shared} (q : ∀ a, g a = s.heap.get? a) : obsP n fa fn tf es ex g = (hookP n fa fn tf es ex).obs s := by
  rw [show g = s.heap.get? from funext q] <;> rfl
/-! ### a def by its place -/
def dd (x : Str) (st : Stmt) : DefD := ⟨(x, none), x, x, defArgs st, defBody st, defScope st, [], []⟩
theorem st0_of {fa : List Fa} {fn : List DefD} {K : PySem.W.Frag} {h : Heap} {mg : Str → Option Value} {x : Str} {st : Stmt} {ps : List Str} (X : K.In h) (G : h.Ns mainGlobals mg) (c : SaysD fa fn K) (hd : dd x st ∈ fn) (hg : Fa.glo x ∈ fa)
    (hb : ∀ (kV doc pm : Value) (an : Option Addr) (cdv ct : Value) (us : List Value), us.length = ps.length → bindArgs (PySem.W.fnOf x x (defArgs st) (defBody st) (defScope st) .none kV doc pm an cdv ct) ⟨us, []⟩ = pure (ps.zip us)) : St0 K mg x st ps := by
  obtain ⟨fd, F⟩ := c.defs hd
  have F' : FnP K x st (ga K x) fd := F
  exact ⟨ga K x, fd, glo_ok X G (c.facts hg), F', F'.bindsN hb⟩
end PlugH
set_option Elab.async false
set_option linter.all false
set_option maxRecDepth 100000
set_option maxHeartbeats 0
namespace K92
open PySem PySem.Spec PyProof.Rows L2 Nam PlugX LamX LamB He PlugH
def eV : EC := ⟨"BadValue", "part", "BadValue.__init__", fun i => ([⟨12, 17, 12, 21⟩, ⟨12, 23, 12, 27⟩, ⟨13, 8, 13, 13⟩, ⟨13, 8, 13, 15⟩, ⟨13, 8, 13, 24⟩, ⟨13, 25, 13, 29⟩, ⟨13, 8, 13, 30⟩, ⟨13, 8, 13, 30⟩, ⟨14, 8, 14, 12⟩, ⟨14, 8, 14, 17⟩, ⟨14, 20, 14, 24⟩, ⟨14, 8, 14, 24⟩] : List Pos).getD i ⟨0, 0, 0, 0⟩⟩
def fn : List DefD := [dd "is_listed" s_is_listed, dd "is_name" s_is_name, dd "next_after" s_next_after, dd "longer_ones" s_longer_ones, dd "rank_of" s_rank_of, dd "free_in" s_free_in, dd "next_name" s_next_name, dd "free_name" s_free_name, dd "names_between" s_names_between,
  dd "_law_pen" s_law_pen, dd "_law_draw" s_law_draw, dd "_law_pick" s_law_pick, dd "_law_error" s_law_error, dd "_law_mixed" s_law_mixed, dd "_law_name" s_law_name, dd "_law_right_behind" s_law_right_behind, dd "_law_count" s_law_count, dd "_law_power" s_law_power, dd "law" s_law]
def fa : List Fa := [.glo "is_listed", .glo "is_name", .glo "next_after", .glo "longer_ones", .glo "rank_of", .glo "free_in", .glo "next_name", .glo "free_name", .glo "names_between",
  .glo "_law_pen", .glo "_law_draw", .glo "_law_pick", .glo "_law_error", .glo "_law_mixed", .glo "_law_name", .glo "_law_right_behind", .glo "_law_count", .glo "_law_power", .glo "law",
  .glo "PlugError", .glo "BadValue", .glo "BadNumber", .glo "Misfit", .glo "NoName", .glo "BadEvent", .glo "TooMany",
  .free "isinstance", .free "len", .free "list", .free "tuple", .free "str", .free "all", .free "range", .free "enumerate", .free "max", .free "int", .free "abs", .free "sum",
  .str "LETTERS" "abcdefghijklmnopqrstuvwxyz", .int "LONGEST" 8, .str "LAST" "z"]
def excB (K : PySem.W.Frag) (D : Addr) : Bool := eqO (PySem.W.findIn K (.ref D) "__getattribute__") (some (some (.builtin "BaseException.__getattribute__"))) && (eqO (PySem.W.findIn K (.ref D) "__getattr__") (some none) && (decide (PySem.W.subIn K (.ref D) (.type "BaseException") = some true) &&
  (PySem.W.hasDictIn K D && (eqO (PySem.W.findIn K (.ref D) "__class__") (some (some (.builtin "object.__class__"))) && (eqO (PySem.W.specialIn K (.builtin "object.__class__") "__get__") (some (some (.builtin "getset_descriptor.__get__"))) && (decide (PySem.W.takesIn K (.builtin "object.__class__") = some true) && decide (PySem.W.mroIn K D (.type "object") = some true)))))))
def errB (K : PySem.W.Frag) : Bool := decide (PySem.W.exmOne K (.ref (ga K "BadValue")) (.ref (ga K "PlugError")) = some true) && (excB K (ga K "BadValue") && (eqO (PySem.W.findIn K (.ref (ga K "BadValue")) "part") (some none) && (decide (PySem.W.kitOne K (.ref (ga K "BadValue")) (.ref (ga K "BadValue")) = some true) &&
  (decide (PySem.W.kitOne K (.ref (ga K "BadValue")) (.ref (ga K "BadNumber")) = some false) && decide (PySem.W.kitOne K (.ref (ga K "BadValue")) (.ref (ga K "Misfit")) = some false)))))
def ex (K : PySem.W.Frag) : Bool := restB prog.main.file K eV && errB K
def tf : List Defn := [("law", none)]
abbrev Rw : PySem.W.OpenRow := PySem.W.OpenLaw.row PySem.Challenge.rw_pulledplug_k92_names_in_their_order
abbrev hk : PySem.W.Hook := hookP 5 fa fn tf [eV] ex
def ob (s : PySem.W.SharedT) : AlP := obsP 5 fa fn tf [eV] ex (HandSHeadRun.getT s)
theorem ob_eq (s : PySem.W.SharedT) : ob s = hk.obs s.abs := obsP_eq (HandSHeadRun.getT_eq s)
def names : List PySem.Str := ["LETTERS", "is_listed", "is_name", "PlugError", "BadValue", "BadNumber", "Misfit", "TooMany", "NoName", "BadEvent", "LONGEST", "LAST", "next_after", "longer_ones", "rank_of", "free_in", "next_name", "free_name", "names_between",
  "_law_pen", "_law_draw", "_law_pick", "_law_error", "_law_mixed", "_law_name", "_law_right_behind", "_law_count", "_law_power"]
theorem run (w : World) : HandSHeadRun.RunEq Rw (PySem.W.view Rw.prog [32]) hk ob 6000 names w := by
  intro os
  kernel_rfl
end K92
set_option Elab.async false
set_option linter.all false
set_option maxRecDepth 100000
set_option maxHeartbeats 0
namespace K92
open PySem PySem.Spec PyProof.Rows L2 Nam PlugX LamX LamB He PlugH
section
variable {K : PySem.W.Frag} {mg : Str → Option Value} {h : Heap}
theorem excB_ok {D : Addr} (c : excB K D = true) : ExcC K D := by
  unfold excB at c
  simp only [Bool.and_eq_true, decide_eq_true_eq] at c
  obtain ⟨c1, c2, c3, c4, c5, c6, c7, c8⟩ := c
  exact ⟨eqO_ok c1, eqO_ok c2, c3, c4, eqO_ok c5, eqO_ok c6, c7, c8⟩
theorem gc_glo {x : Str} (X : K.In h) (G : h.Ns mainGlobals mg) (c : (Fa.glo x).ok K = true) : Gc mg x (.ref (ga K x)) := ⟨_, glo_ok X G c, rfl⟩
theorem errK_of (X : K.In h) (G : h.Ns mainGlobals mg) (c : SaysD fa fn K) (e : errB K = true) : ErrK K mg (ga K "PlugError") (ga K "BadValue") (ga K "BadNumber") (ga K "Misfit") (ga K "NoName") (ga K "BadEvent") (ga K "TooMany") := by
  unfold errB at e
  simp only [Bool.and_eq_true, decide_eq_true_eq] at e
  obtain ⟨e1, e2, e3, e4, e5, e6⟩ := e
  have x := excB_ok e2
  exact ⟨glo_ok X G (c.facts (by simp [fa])), gc_glo X G (c.facts (by simp [fa])), gc_glo X G (c.facts (by simp [fa])), gc_glo X G (c.facts (by simp [fa])), gc_glo X G (c.facts (by simp [fa])), gc_glo X G (c.facts (by simp [fa])), gc_glo X G (c.facts (by simp [fa])),
    e1, x, ⟨x.hg, x.hk, x.hs, x.hd⟩, eqO_ok e3, e4, e5, e6⟩
theorem mg_of (X : K.In h) (G : h.Ns mainGlobals mg) (c : SaysD fa fn K) : MG mg := by
  have fr := fun (x : Str) (m : Fa.free x ∈ fa) => free_ok X G (c.facts m)
  refine ⟨fr _ (by simp [fa]), fr _ (by simp [fa]), fr _ (by simp [fa]), fr _ (by simp [fa]), fr _ (by simp [fa]), fr _ (by simp [fa]), fr _ (by simp [fa]), fr _ (by simp [fa]), fr _ (by simp [fa]), fr _ (by simp [fa]), fr _ (by simp [fa]), fr _ (by simp [fa]), ?_, ?_, ?_⟩
  · obtain ⟨t, e⟩ := str_ok X G (c.facts (f := .str "LETTERS" "abcdefghijklmnopqrstuvwxyz") (by simp [fa]))
    exact ⟨_, e, t, by rw [letters_S]⟩
  · obtain ⟨t, e⟩ := int_ok X G (c.facts (f := .int "LONGEST" 8) (by simp [fa]))
    exact ⟨_, e, t, rfl⟩
  · obtain ⟨t, e⟩ := str_ok X G (c.facts (f := .str "LAST" "z") (by simp [fa]))
    exact ⟨_, e, t, by rw [z_S]⟩
theorem law_at {w : World} {fL : Addr} (X : K.In h) (G : h.Ns mainGlobals mg) (hfa : mg ("law" : Str) = some (.ref fL)) (c : SaysP fa fn tf [eV] ex h K) : LawAtS PySem.Challenge.rw_pulledplug_k92_names_in_their_order w K CX0 7 63 "script" mg fL h := by
  have hex : restB prog.main.file K eV = true ∧ errB K = true := Bool.and_eq_true_iff.mp c.more
  obtain ⟨hr, he⟩ := hex
  have M := mg_of X G c.d
  have K1 := errK_of X G c.d he
  obtain ⟨cda, cc, T⟩ := ext_of (P := prog) (e := eV) X G (c.ini eV List.mem_cons_self) hr (by decide +kernel) (by decide +kernel)
  have T : ExT prog K mg "BadValue" "part" (ga K "BadValue") (ma K (ga K "BadValue") "__init__") cda cc := T
  have s_listed : St0 K mg "is_listed" s_is_listed ["value"] := st0_of X G c.d (by simp [fn]) (by simp [fa]) fun _ _ _ _ _ _ us hl => match us, hl with | [_], _ => rfl
  have s_name : St0 K mg "is_name" s_is_name ["value"] := st0_of X G c.d (by simp [fn]) (by simp [fa]) fun _ _ _ _ _ _ us hl => match us, hl with | [_], _ => rfl
  have s_after : St0 K mg "next_after" s_next_after ["name"] := st0_of X G c.d (by simp [fn]) (by simp [fa]) fun _ _ _ _ _ _ us hl => match us, hl with | [_], _ => rfl
  have s_longer : St0 K mg "longer_ones" s_longer_ones ["many"] := st0_of X G c.d (by simp [fn]) (by simp [fa]) fun _ _ _ _ _ _ us hl => match us, hl with | [_], _ => rfl
  have s_rank : St0 K mg "rank_of" s_rank_of ["name"] := st0_of X G c.d (by simp [fn]) (by simp [fa]) fun _ _ _ _ _ _ us hl => match us, hl with | [_], _ => rfl
  have s_fin : St0 K mg "free_in" s_free_in ["low", "high", "taken"] := st0_of X G c.d (by simp [fn]) (by simp [fa]) fun _ _ _ _ _ _ us hl => match us, hl with | [_, _, _], _ => rfl
  have s_nxn : St0 K mg "next_name" s_next_name ["name"] := st0_of X G c.d (by simp [fn]) (by simp [fa]) fun _ _ _ _ _ _ us hl => match us, hl with | [_], _ => rfl
  have s_free : St0 K mg "free_name" s_free_name ["low", "high", "taken"] := st0_of X G c.d (by simp [fn]) (by simp [fa]) fun _ _ _ _ _ _ us hl => match us, hl with | [_, _, _], _ => rfl
  have s_btw : St0 K mg "names_between" s_names_between ["low", "high"] := st0_of X G c.d (by simp [fn]) (by simp [fa]) fun _ _ _ _ _ _ us hl => match us, hl with | [_, _], _ => rfl
  have s_pen : St0 K mg "_law_pen" s_law_pen ["script"] := st0_of X G c.d (by simp [fn]) (by simp [fa]) fun _ _ _ _ _ _ us hl => match us, hl with | [_], _ => rfl
  have s_draw : St0 K mg "_law_draw" s_law_draw ["pen", "many"] := st0_of X G c.d (by simp [fn]) (by simp [fa]) fun _ _ _ _ _ _ us hl => match us, hl with | [_, _], _ => rfl
  have s_pick : St0 K mg "_law_pick" s_law_pick ["pen", "some"] := st0_of X G c.d (by simp [fn]) (by simp [fa]) fun _ _ _ _ _ _ us hl => match us, hl with | [_, _], _ => rfl
  have s_error : St0 K mg "_law_error" s_law_error ["ask"] := st0_of X G c.d (by simp [fn]) (by simp [fa]) fun _ _ _ _ _ _ us hl => match us, hl with | [_], _ => rfl
  have s_mixed : St0 K mg "_law_mixed" s_law_mixed ["pen", "some"] := st0_of X G c.d (by simp [fn]) (by simp [fa]) fun _ _ _ _ _ _ us hl => match us, hl with | [_, _], _ => rfl
  have s_lname : St0 K mg "_law_name" s_law_name ["pen"] := st0_of X G c.d (by simp [fn]) (by simp [fa]) fun _ _ _ _ _ _ us hl => match us, hl with | [_], _ => rfl
  have s_right : St0 K mg "_law_right_behind" s_law_right_behind ["name", "later"] := st0_of X G c.d (by simp [fn]) (by simp [fa]) fun _ _ _ _ _ _ us hl => match us, hl with | [_, _], _ => rfl
  have s_count : St0 K mg "_law_count" s_law_count ["name"] := st0_of X G c.d (by simp [fn]) (by simp [fa]) fun _ _ _ _ _ _ us hl => match us, hl with | [_], _ => rfl
  have s_power : St0 K mg "_law_power" s_law_power ["size"] := st0_of X G c.d (by simp [fn]) (by simp [fa]) fun _ _ _ _ _ _ us hl => match us, hl with | [_], _ => rfl
  obtain ⟨fd, F⟩ := c.d.defs (d := dd "law" s_law) (by simp [fn])
  have F : FnP K "law" s_law (ga K "law") fd := F
  have hL : fL = ga K "law" := by
    have e := hfa.symm.trans (glo_ok X G (c.d.facts (f := .glo "law") (by simp [fa])))
    cases e
    rfl
  subst hL
  have hcode : fd.code = .ref (cT K ("law", none)).1 := by
    obtain ⟨oc, od, dV, kV, doc, pm, an, cdv, ct, osl, rfl, lk, hcd, _, _⟩ := F.ex
    obtain ⟨c', rfl⟩ := codeIn_ref hcd
    exact congrArg Value.ref (codeOf_eq (p := ("law", none)) lk rfl).symm
  obtain ⟨t1, t2, t3⟩ := c.tab ("law", none) List.mem_cons_self
  have b := F.bindsA (ps := ["script"]) fun _ _ _ _ _ _ us hl => match us, hl with | [_], _ => rfl
  refine ⟨fd, [cT K ("law", none)], spLaw K (cT K ("law", none)).2, fun p hp => ?_, fun p hp => ?_, fun p hp => ?_, fun s v => b s [v] rfl, fun H a ns hl _ hT hS => ⟨a, ns, rfl, hS, Nat.le_trans hl (by decide), hT _ List.mem_cons_self, fun _ => rfl⟩, fun base _ _ TB => ?_⟩
  · rw [List.mem_singleton.mp hp]; exact t3
  · rw [List.mem_singleton.mp hp]; exact t2
  · rw [List.mem_singleton.mp hp]; exact PySem.W.codeHd_of_K X t1
  · have D1 := d_is_listed (P := prog) (w := w) (base := base) M s_listed
    have D2 := d_is_name (P := prog) (w := w) (base := base) M s_name
    have D3 := d_next_after (P := prog) (w := w) (base := base) M s_after
    have D4 := d_longer_ones (P := prog) (w := w) (base := base) M s_longer
    have D5 := d_rank_of M s_rank D4
    have D6 := d_free_in M s_fin D3
    have G1 := d_law_draw (P := prog) (w := w) (base := base) M s_draw
    have G2 := d_law_pick M s_pick G1
    have G3 := d_law_power (P := prog) (w := w) (base := base) M s_power
    exact law_ok M K1 ⟨d_law_pen M s_pen, G1, G2, d_law_mixed M s_mixed G1, d_law_name M s_lname G2, d_law_right M s_right, d_law_count M s_count G3, G3, d_next_name M s_nxn T D2 D3, d_names_between M s_btw T D2 D5, d_free_name M s_free T D2 D1 D6⟩ s_error (TB _ List.mem_cons_self) F hcode
end
end K92
open PySem PySem.W PySem.Calls PyProof.Rows
theorem PySem.Challenge.cw_pulledplug_k92_names_in_their_order_holds : PySem.Challenge.rw_pulledplug_k92_names_in_their_order.Holds := by
  w_on; o_law
  refine HandSHeadRun.head_any (r := K92.Rw) (q := view K92.Rw.prog [32]) (H := K92.hk) (ob := K92.ob) (M := 6000) (loose := K92.names) (d := HandSHeadRun.topDef K92.Rw.prog 32) (kwd := []) K92.ob_eq
    (by kernel_rfl) (fun s => by kernel_rfl) K92.run (by kernel_rfl) (by kernel_rfl) (by kernel_rfl) (by rfl) (by first | assumption | decide +kernel) (by decide +kernel) ⟨rfl, rfl, rfl, rfl, rfl, by decide +kernel⟩ ?hw ?hc
  case hw => w_witness2
  case hc =>
    refine LamX.walk_ofTsE (l := PySem.Challenge.rw_pulledplug_k92_names_in_their_order) (n := 63) (k := 7) (x := "script") (CX := fun _ => L2.CX0) rfl (by decide) (by kernel_rfl) ⟨rfl, by decide, by decide⟩ ?F (fun _ _ _ _ _ z => z)
    intro w mg fL h Y G hmg0
    obtain ⟨K, KX, c⟩ := Y
    have hmg : mg ("law" : PySem.Str) = some (.ref fL) := by
      have e : (HandSHeadRun.topDef K92.Rw.prog 32).name = ("law" : PySem.Str) := by kernel_rfl
      rw [← e]
      exact hmg0
    exact ⟨K, KX, K92.law_at KX G hmg c⟩
