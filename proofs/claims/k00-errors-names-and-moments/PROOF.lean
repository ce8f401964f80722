import PyProof.Rows.All
import Wide.All
import OpenK.AllK
import Wide.FinOn
import KE.GoesEnum
import KE.GoesMore
import HandS.ForMost
import HandS.Evl
import HandS.FStr
import HandS.StrMore
import HandS.StrSplit
import HandS.Walk
import HandS.RaiseMore
import HandS.IsInst
import HandS.Dict
import HandS.ForSpec
import HandS.Exc
import HandS.ExcField
import HandS.ExcIs
import KE.KExcIs
import KE.RegKIsAll
import KE.KExcSuper
import HandS.RaiseFrom
import HandS.SuiteRaise
import HandS.Replace
import HandS.ReplaceLit
import HandS.TryMany
import HandS.Strs
import HandS.Style
import HandS.SortInts
import HandS.TupAny
import KE.SortData
import KE.KItemsList
import KE.KDictList
import HandS.DictTup
import HandS.ListItems
import HandS.DictComp
import HandS.Flow
import HandS.SetFor
import KE.SortKeyHeap
import HandS.SortKw
import HandS.WrittenGet
import HandS.Zip
import HandS.More
import PyProof.Rows.Chain
import HandS.Deep
import HandS.SortRule
import HandS.SortOrd
import PyProof.Rows.SortKeyStr
import HandS.Property
import PyProof.P3In
import HandS.ExcValue
import HandS.ExcInit
import PySem.Challenge.RW_limitweave_k00_errors_names_and_moments
set_option Elab.async false
set_option linter.all false
set_option maxRecDepth 100000
set_option maxHeartbeats 4000000
namespace PySem
namespace LwX
open PySem.W PySem.Calls PyProof.Rows PySem.HandSPX
/-! ### an own error: class C(B): def __init__(self, f): super().__init__(msg); self.f = f -/
def xA (f : Str) (p1 p2 : Pos) : Arguments := { posonlyargs := [], args := [{ arg := "self", annotation := none, pos := p1 }, { arg := f, annotation := none, pos := p2 }], vararg := none, kwonlyargs := [], kw_defaults := [], kwarg := none, defaults := [] }
def xB (msg f : Str) (j : Nat) (q1 q2 q3 q4 q5 q6 q7 q8 q9 q10 : Pos) : List Stmt :=
  [.Expr (.Call (.Attribute (.Call (.Name "super" q1) [] [] q2) "__init__" q3) [.Constant (.str msg) j q4] [] q5) q6, .Assign [.Attribute (.Name "self" q7) f q8] (.Name f q9) q10]
def xS (f : Str) : Scope := { kind := .function, names := [(PySem.Str.ofString "self", .local), (f, .local), (PySem.Str.ofString "__class__", .free), (PySem.Str.ofString "super", .globalImplicit)], isGenerator := false, isCoroutine := false, more := [] }
/-- what is told of the names alone -/
structure FieldOk (f : Str) : Prop where
  kf : (xS f).names.lookup f = some .local
  ks : (xS f).names.lookup ("super" : Str) = some .globalImplicit
  kc : (xS f).names.lookup ("__class__" : Str) = some .free
  nf : (("self" : Str) == f) = false
  nd : (f == ("__debug__" : Str)) = false
  bd : ∀ (qual : Str) (p1 p2 : Pos) (body : List Stmt) (doc pm : Value) (an : Option Addr) (cdv ct : Value) (cc : Addr) (a v : Value), bindArgs (ksFn "__init__" qual (xA f p1 p2) body (xS f) .none .none doc pm an cdv ct cc) ⟨[a, v], []⟩ = pure [(("self" : Str), a), (f, v)]
/-- what the written part says of the class nm, at C, and of its __init__, at fI -/
structure ErrTxt (file : Str) (K : Frag) (mg : Str → Option Value) (nm f : Str) (C fI : Addr) : Prop where
  fo : FieldOk f
  gC : mg nm = some (.ref C)
  cls : ∃ q N bs bm sn sub ab col dd k0 k1 k2 k3 k5, K.lookup C = some (excClassObj nm q C N bs bm true sn sub ab col dd k0 k1 k2 k3 k5 "ValueError.__new__") ∧ refsVE bm = true
  sa : findIn K (.ref C) "__setattr__" = some (some (.builtin "object.__setattr__"))
  ga : findIn K (.ref C) "__getattribute__" = some (some (.builtin "BaseException.__getattribute__"))
  gg : findIn K (.ref C) "__getattr__" = some none
  noN : findIn K (.ref C) f = some none
  iC : findIn K (.ref C) "__init__" = some (some (.ref fI))
  tC : typeIn K (.ref fI) = some (.type "function")
  kC : keepIn K (.ref C) = true
  exC : subIn K (.ref C) (.type "BaseException") = some true
  veC : subIn K (.ref C) (.type "ValueError") = some true
  selfC : mroIn K C (.ref C) = some true
  tyC : typeIn K (.ref C) = some (.type "type")
  hdC : hasDictIn K C = true
  te : exmOne K (.ref C) (.ref C) = some true
  su : ks_superIn K C C "__init__" = some (some (.builtin "ValueError.__init__"))
  opq : nsIn K cStatics "thirdparty.any" = some none
  gS : mg "super" = none
  fn : ∃ (oc : Value) (od : Option Addr) (qual msg : Str) (j : Nat) (doc pm : Value) (an : Option Addr) (cda cc : Addr) (ct : Value) (osl : Array (Option Value)) (p1 p2 q1 q2 q3 q4 q5 q6 q7 q8 q9 q10 : Pos),
    K.lookup fI = some ⟨oc, od, .func (ksFn "__init__" qual (xA f p1 p2) (xB msg f j q1 q2 q3 q4 q5 q6 q7 q8 q9 q10) (xS f) .none .none doc pm an (.ref cda) ct cc), osl⟩ ∧ codeIn K (.ref cda) qual = true ∧
    (∃ (ccl : Value) (cdd : Option Addr) (vs : Array Value) (ccs : Array (Option Value)) (tf : Tok), K.lookup cda = some ⟨ccl, cdd, .fields vs, ccs⟩ ∧ vs[2]? = some (.str file tf)) ∧
    (∃ (cl : Value) (cld : Option Addr) (csl : Array (Option Value)), K.lookup cc = some ⟨cl, cld, .cell (some (.ref C)), csl⟩) ∧ (q3.endLine == q5.line) = true
theorem one_size (v : Value) : [v].length ≤ sizeLine := by
  rw [sizeLine_eq]
  exact (by decide : 1 ≤ 16777216)
/-- what __init__ leaves of a fresh exception at x -/
structure InitEnd (h h' : Heap) (f : Str) (x C dx t1 : Addr) (v : Value) : Prop where
  keep : ∀ b o, b ≠ x → h.get? b = some o → h'.get? b = some o
  obj : h'.get? x = some { cls := .ref C, dict := some dx, data := .fields #[.ref t1, .none, .none, .none, .bool false, .none] }
  dbig : h.objs.size ≤ dx
  dne : dx ≠ x
  ns : h'.Ns1 dx (fun y => if y = f then some v else none)
/-- a made error -/
structure OwnMade (h h' : Heap) (f : Str) (e C d : Addr) (v : Value) : Prop where
  keep : ∀ b o, h.get? b = some o → h'.get? b = some o
  new : h.objs.size ≤ e
  obj : ∃ t1 : Addr, h'.get? e = some { cls := .ref C, dict := some d, data := .fields #[.ref t1, .none, .none, .none, .bool false, .none] }
  dbig : h.objs.size ≤ d
  dne : d ≠ e
  ns : h'.Ns1 d (fun y => if y = f then some v else none)
section
variable {prog : Program} {w : World} {A : Around} {E : Value → Shared → Prop} {R : Result → Shared → Prop} {s : Shared} {K : Frag} {mg : Str → Option Value} {nm f : Str} {C fI : Addr}
/-- super().__init__(..) at e, an exception with the args at t0: the args are laid anew -/
theorem xi_super {h : Heap} {g : Array GenState} {d : Drawn} {t : Nat} {os : OsState} {e t0 u : Addr} {rest : List Value} {nm2 q : Str} {N : Addr} {bs bm : List Value} {hdct : Bool} {sn : List Str} {sub : List Value} {ab : Bool} {col : Option Bool} {dd : Option Addr} {k0 k1 k2 k3 k5 : Option Value} {Q : Value → Shared → Prop}
    (hC : h.get? C = some (excClassObj nm2 q C N bs bm hdct sn sub ab col dd k0 k1 k2 k3 k5 "ValueError.__new__")) (he : h.get? e = some (excO C t0)) (hu : h.get? u = some (kxs_mw "ValueError.__init__" e)) (hz : rest.length ≤ sizeLine)
    (hq : ∀ h' t1, (∀ b o, b ≠ e → h.get? b = some o → h'.get? b = some o) → h'.get? e = some (excO C t1) → Q .none ⟨h', g, d, t, os⟩) :
    wpAny (model prog w) A (call (.ref u) rest) Q E ⟨h, g, d, t, os⟩ := by
  refine wpAny_call (codeAny_of_tree ?_)
  show wpAny _ A.in1 (callAny (.ref u) ⟨rest, []⟩) _ _ _
  simp only [callAny]
  refine wpAny_bind (wpAny_load hu ?_)
  simp only [kxs_mw, show (Value.type "method-wrapper" == Value.type "method" || Value.type "method-wrapper" == Value.type "builtin_function_or_method" || Value.type "method-wrapper" == Value.type "method-wrapper") = true by decide, if_true]
  refine KFB.if_so (by decide) ?_
  refine wpAny_bind (check_bound_init F.excBase_ValueError.toExcCallFacts hC he rfl ?_)
  refine wpAny_bind (wpAny_pure (wpAny_pure ?_))
  refine ⟨plainId_quiet F.excBase_ValueError.init.plain _, codeAny_builtin F.excBase_ValueError.initEntry ?_⟩
  exact exc_init_tree (cls := .ref C) (t0 := t0) (dv := none) (c2 := .none) (c3 := .none) (b4 := .bool false) he hz fun h' k e' _ => hq h' _ k e'
theorem xi_init {mb : Str → Option Value} (T : ErrTxt prog.main.file K mg nm f C fI) {x t0 : Addr} {v : Value} (X : K.In s.heap) (hlim : s.heap.NoLimit) (hgl : s.heap.Ns mainGlobals mg) (hbl : s.heap.Ns builtinsNs mb) (hbs : mb "super" = some (.type "super"))
    (htop : (prog.main.scope.names.lookup ("super" : Str)).isSome = false)
    (hx : s.heap.get? x = some (excO C t0)) (hnx : K.lookup x = none) (hroom : A.depth < recursionLimit)
    (hq : ∀ h' tk dx t1, InitEnd s.heap h' f x C dx t1 v → R (.ok (.ret .none)) { s with heap := h', toks := tk }) :
    codeAny (model prog w) A (.call (.ref fI) ⟨[.ref x, v], []⟩) R s := by
  obtain ⟨oc, od, qual, msg, j, doc, pm, an, cda, cc, ct, osl, p1, p2, q1, q2, q3, q4, q5, q6, q7, q8, q9, q10, ho, hcd, ⟨ccl, cdd, vs, ccs, tf, hcode, hvs⟩, ⟨cl, cld, csl, hcell⟩, hline⟩ := T.fn
  obtain ⟨nm2, q, N, bs, bm, sn, sub, ab, col, dd, k0, k1, k2, k3, k5, hC, hbm⟩ : ∃ nm2 q N bs bm sn sub ab col dd k0 k1 k2 k3 k5, K.lookup C = some (excClassObj nm2 q C N bs bm true sn sub ab col dd k0 k1 k2 k3 k5 "ValueError.__new__") ∧ refsVE bm = true := ⟨nm, T.cls⟩
  have hcl : clsIn K C = some { name := nm2, bases := bs, mro := .ref C :: bm, ns := N, qualname := q, hasDict := true, slotNames := sn, subclasses := sub, abstract := ab, collection := col, hasDel := false } := by unfold clsIn; rw [hC] <;> rfl
  refine ks_codeAny_call_defAt (fd := ksFn "__init__" qual (xA f p1 p2) (xB msg f j q1 q2 q3 q4 q5 q6 q7 q8 q9 q10) (xS f) .none .none doc pm an (.ref cda) ct cc) (body := xB msg f j q1 q2 q3 q4 q5 q6 q7 q8 q9 q10) (binds := [("self", .ref x), (f, v)]) hroom (X _ _ ho) rfl hlim (codeRec_of X hcd) rfl
    (BindsTo.of_eq (T.fo.bd _ _ _ _ _ _ _ _ _ _ _ _)) ?hcl ?hloc (fun h₁ hns k₁ => ?_)
  case hcl =>
    intro y hy
    simp only [xS, List.mem_cons, List.not_mem_nil, or_false] at hy
    rcases hy with rfl | rfl | rfl | rfl <;> (intro z; cases z)
  case hloc =>
    intro y hy
    simp only [List.mem_cons, List.not_mem_nil, or_false] at hy
    rcases hy with rfl | rfl
    · rfl
    · exact T.fo.kf
  have hxL : s.heap.objs.size ≠ x := Nat.ne_of_gt (Heap.lt_size hx)
  have X₁ : K.In h₁ := X.keeps k₁
  have hx₁ := k₁ _ _ hx
  have hC₁ := X₁ _ _ hC
  have hself : List.lookup ("self" : Str) ([("self", Value.ref x), (f, v)] : List (Str × Value)).reverse = some (Value.ref x) := by
    show List.lookup ("self" : Str) [(f, v), ("self", Value.ref x)] = _
    rw [List.lookup_cons, T.fo.nf]
    rfl
  have hfv : List.lookup f ([("self", Value.ref x), (f, v)] : List (Str × Value)).reverse = some v := by
    show List.lookup f [(f, v), (("self" : Str), Value.ref x)] = _
    rw [List.lookup_cons, show (f == f) = true from beq_self_eq_true f]
  have hns2 := hns
  show _root_.PySem.wpAt (model prog w) _ _ (execs (_ :: _) (ksEnv qual (xS f) s.heap.objs.size fI (.ref cda) cc)) _ _ _
  refine ks_wpAt_execs_cons (ks_wpAt_Expr_any (ks_wpAt_MethodCall (pl := do return (← importBound (.Call (.Name "super" q1) [] [] q2) (ksEnv qual (xS f) s.heap.objs.size fI (.ref cda) cc)).getD true) ?_ ?he))
  case he =>
    rw [arm_eval_Call]
    unfold methodCall calleeOf methodCallPos
    have hform : methodCallForm ([Expr.Constant (Const.str msg) j q4].length + ([] : List Keyword).length) (backTo q5 (starEach [Expr.Constant (Const.str msg) j q4] (ksEnv qual (xS f) s.heap.objs.size fI (.ref cda) cc))) (backToKw q5 (keywordEach [] (ksEnv qual (xS f) s.heap.objs.size fI (.ref cda) cc))) = true := rfl
    rw [hform]
    simp only [hline, Bool.or_true, if_true]
    rfl
  have hmr : ∀ {h : Heap}, K.In h → W.Looks (model prog w) h (mroOf (.ref C)) (.ref C :: bm) := fun X => (W.looks_clsIn X hcl).andThen .now
  refine ks_wpAt_super_base (env := ksEnv qual (xS f) s.heap.objs.size fI (.ref cda) cc) T.fo.ks T.fo.kc (by decide) rfl (X₁ _ _ ho) rfl rfl rfl (X₁ _ _ hcode) rfl hvs (beq_self_eq_true _) htop ?_
  refine ks_loadName_global rfl T.fo.ks (loadGlobal_builtin (env := ksEnv qual (xS f) s.heap.objs.size fI (.ref cda) cc) (hgl.keeps k₁) T.gS (hbl.keeps k₁) hbs ⟨rfl, ?_⟩)
  refine wpAny_loadName_free rfl T.fo.kc rfl ⟨_, X₁ _ _ hcell, rfl⟩ ?_
  refine wpAny_loadName_local rfl rfl hns hself ?_
  refine ks_wpAny_isType_cls hC₁ rfl ⟨rfl, ?_⟩
  refine ks_wpAny_call_super hC₁ rfl hx₁ rfl (fun c e => by cases e) (looks_mroIn X₁ T.selfC) (fun h₂ hso k₂ => ?_)
  have X₂ : K.In h₂ := X₁.keeps k₂
  have hx₂ := k₂ _ _ hx₁
  have I₂ : InstAt h₂ x (excO C t0) C none := ⟨hx₂, rfl, rfl, trivial⟩
  have hsu := T.su
  unfold ks_superIn at hsu
  rw [hcl, Option.bind_some] at hsu
  refine kxs_getMethod kxs_ValueError hso (looks_opaque X₂ T.opq) (hmr X₂) rfl X₂ hsu (I₂.type.andThen (looks_subIn X₂ T.veC)) (ks_ne X₂ I₂ hcl) (by decide) ?_
  show wpAny _ _ (callWith q5 (.ref h₂.objs.size) [] (backTo q5 ((false, eval (Expr.Constant (Const.str msg) j q4) (ksEnv qual (xS f) s.heap.objs.size fI (.ref cda) cc)) :: [])) []) _ _ _
  have k₃ : ∀ b o, h₂.get? b = some o → (h₂.push (kxs_mw "ValueError.__init__" x)).get? b = some o := fun b o e => Heap.get?_push_of_some _ e
  have hu₃ : (h₂.push (kxs_mw "ValueError.__init__" x)).get? h₂.objs.size = some (kxs_mw "ValueError.__init__" x) := Heap.get?_push_at rfl rfl
  refine kxs_callWith (i := "ValueError.__init__") (x := x) rfl (evalArgs_plain ?_)
  refine Calls.spliced_cons (Calls.Constant_str (k := j) (pos := q4) (Calls.spliced_nil ⟨hu₃, ?_⟩))
  refine xi_super (X₂.keeps k₃ _ _ hC) (k₃ _ _ hx₂) hu₃ (one_size _) fun h₄ t1 k₄ hx₄ => ?_
  have kk : ∀ b o, b ≠ x → h₁.get? b = some o → h₄.get? b = some o := fun b o hb e => k₄ b o hb (k₃ _ _ (k₂ _ _ e))
  have X₄ : K.In h₄ := fun a o e => kk a o (fun z => by rw [z, hnx] at e; cases e) (X₁ a o e)
  have hns₄ : h₄.Ns s.heap.objs.size (fun y => List.lookup y ([("self", Value.ref x), (f, v)] : List (Str × Value)).reverse) := by
    obtain ⟨oL, es, ep, hL, r⟩ := hns
    exact ⟨oL, es, ep, kk _ _ hxL hL, r⟩
  -- self.f = f
  refine wpAt_of_wpAny (wpAny_execs_cons (plainObj_wpAny_Assign_Attribute ?_ rfl))
  refine wpAny_Name (wpAny_loadName_local (env := ksEnv qual (xS f) s.heap.objs.size fI (.ref cda) cc) rfl T.fo.kf hns₄ hfv ?_) T.fo.nd
  refine wpAny_Name (wpAny_loadName_local (env := ksEnv qual (xS f) s.heap.objs.size fI (.ref cda) cc) rfl rfl hns₄ hself ?_) (by decide)
  refine set_plain X₄ (ox := excO C t1) (od := none) ⟨hx₄, rfl, rfl, trivial⟩ T.sa ?_
  refine exc_osa X₄ hx₄ hcl (show refsVE (.ref C :: bm) = true from hbm) rfl T.noN (fun h₅ tk₅ dx k₅ dn dne hx₅ hn₅ => ?_)
  refine wpAny_execs_nil (hq h₅ tk₅ dx t1 ⟨fun b o hb e => k₅ b o hb (kk b o hb (k₁ b o e)), hx₅, ?_, dne, hn₅⟩)
  have z : s.heap.objs.size < h₄.objs.size := hns₄.lt
  exact Nat.le_of_lt (Nat.lt_of_lt_of_le z dn)
/-- X(v) -/
theorem xi_made {mb : Str → Option Value} (T : ErrTxt prog.main.file K mg nm f C fI) {v : Value} (X : K.In s.heap) (hlim : s.heap.NoLimit) (hgl : s.heap.Ns mainGlobals mg) (hbl : s.heap.Ns builtinsNs mb) (hbs : mb "super" = some (.type "super"))
    (htop : (prog.main.scope.names.lookup ("super" : Str)).isSome = false) (hroom : A.depth + 1 < recursionLimit)
    (hq : ∀ h' tk e d, OwnMade s.heap h' f e C d v → R (.ok (.ret (.ref e))) { s with heap := h', toks := tk }) :
    codeAny (model prog w) A (.call (.ref C) ⟨[v], []⟩) R s := by
  obtain ⟨q, N, bs, bm, sn, sub, ab, col, dd, k0, k1, k2, k3, k5, hC, hbm⟩ := T.cls
  obtain ⟨hp, g, dr, tk, os⟩ := s
  have k : ∀ b o, hp.get? b = some o → ((hp.push (kdv_tup [v])).push (excO C hp.objs.size)).get? b = some o := fun b o e => Heap.get?_push_of_some _ (Heap.get?_push_of_some _ e)
  have hget : ((hp.push (kdv_tup [v])).push (excO C hp.objs.size)).get? (hp.objs.size + 1) = some (excO C hp.objs.size) := by heap_get
  have hnx : K.lookup (hp.objs.size + 1) = none := by
    cases e : K.lookup (hp.objs.size + 1) with
    | none => rfl
    | some o =>
      have z : hp.get? (hp.objs.size + 1) = some o := X _ _ e
      exact absurd (Nat.lt_of_succ_lt (Heap.lt_size z)) (Nat.lt_irrefl _)
  refine call_own F.excBase_ValueError (fun X => refsVE_contains X bm hbm) (X _ _ hC) (looks_findIn X T.iC) (fun self => bind_fn X self T.tC) (one_size v) ?_
  refine xi_init (s := ⟨(hp.push (kdv_tup [v])).push (excO C hp.objs.size), g, dr, tk, os⟩) T (X.keeps k) (hlim.keeps k) (hgl.keeps k) (hbl.keeps k) hbs htop hget hnx ?_ fun h' tk' dx t1 ⟨k', hx, dn, dne, hns⟩ => ?_
  · show A.depth + 1 < recursionLimit
    exact hroom
  · have old : ∀ b o, hp.get? b = some o → h'.get? b = some o := fun b o e => k' b o (Nat.ne_of_lt (Nat.lt_succ_of_lt (Heap.lt_size e))) (k b o e)
    have z : hp.objs.size + 1 + 1 ≤ dx := by
      first
        | (simpa only [Heap.size_push] using dn)
        | exact dn
        | (have q := dn; rw [Heap.size_push, Heap.size_push] at q; exact q)
    exact ⟨rfl, hq h' tk' (hp.objs.size + 1) dx ⟨old, Nat.le_succ _, ⟨_, hx⟩, Nat.le_trans (Nat.le_trans (Nat.le_succ _) (Nat.le_succ _)) z, dne, hns⟩⟩
end
end LwX
end PySem
namespace L2
open PySem PySem.Spec PyProof.Rows
theorem relO_one {v : V} {v' : Value} (r : RelV v v') (f g : Str) : RelO (List.lookup g [(f, v)]) (if g = f then some v' else none) := by
  by_cases hw : g = f
  · subst hw
    rw [if_pos rfl]
    have q : List.lookup g [(g, v)] = some v := by simp [List.lookup]
    rw [q]
    exact r
  · rw [if_neg hw]
    have qw : (g == f) = false := by simpa using hw
    have q2 : List.lookup g [(f, v)] = none := by simp [List.lookup, qw]
    rw [q2]
    trivial
section
variable {X : Cx} {nm f : Str} {C fI : Addr}
/-- X(e), X an own error with one field f -/
def tMkErr (C : Addr) (f : Str) (ta : TA) : St → Hp → XK → Prop := fun σ H Q => ta σ H fun vs H1 => ∃ v, vs = [v] ∧ ∀ d, H1 d = none → Q (.ref C) (some d) (upd H1 d (.xd [(f, v)]))
theorem pmk5_err {a : Expr} {ta : TA} {p pos : Pos} (T : PySem.LwX.ErrTxt X.prog.main.file X.K X.mg nm f C fI) (htop : (X.prog.main.scope.names.lookup ("super" : Str)).isSome = false) (hroom : X.A.depth + 3 < recursionLimit) (ha : PA X [a] ta) (hg : Gl X nm) (hnd : (nm == ("__debug__" : Str)) = false)
    (he : starEach (a :: []) X.env = (false, eval a X.env) :: starEach [] X.env := by rfl) (hpl : (backTo pos (starEach [] X.env)).any (·.1) = false := by rfl) :
    L2H.PMk5 X (.Call (.Name nm p) [a] [] pos) (tMkErr C f ta) := by
  intro pins s σ H Q I h
  refine wpAny_Call_Name_kw (ld_glob I hg T.gC ?_ hnd)
  refine PySem.W.callWith_K (h₀ := X.base) I.ok.mod.kin T.kC (thn (ha.run pos pins s σ H _ I h) fun us s1 hh => ?_) he hpl
  obtain ⟨vs, H1, I1, r1, v, ev, q1⟩ := hh
  subst ev
  refine ⟨I1.kIn, ?_⟩
  cases r1 with
  | cons rv rn =>
    rename_i v' us'
    cases rn
    show wpAny _ _ (call (.ref C) [v']) _ _ _
    have hlim := I1.nolimit
    obtain ⟨mb, hbl, hbx⟩ := I1.ok.mod.blt
    have hgl1 := I1.mod.glob.keeps I1.bk
    have hbl1 := hbl.keeps I1.bk
    have hbs : mb "super" = some (.type "super") := (hbx "super" (by decide +kernel)).trans (by first | rfl | kernel_rfl | decide +kernel)
    obtain ⟨hp, g, dr, tk, os⟩ := s1
    refine wpAny_call (PySem.LwX.xi_made T I1.kIn hlim hgl1 hbl1 hbs htop (by omega) fun h' tk' e d M => ?_)
    show L2N.MkP X pins σ Q (.ref e) ⟨h', g, dr, tk', os⟩ ∧ L2H.Six (.ref e) ⟨h', g, dr, tk', os⟩
    obtain ⟨t1, hoe⟩ := M.obj
    have hns := M.ns
    obtain ⟨G', g1, g2⟩ := restrict h' fun b => decide (b ≠ e)
    have gk : ∀ b, b ≠ e → G'.get? b = h'.get? b := fun b hb => g1 b (decide_eq_true hb)
    have ge : G'.get? e = none := g2 e (by simp)
    have old : ∀ b o, hp.get? b = some o → G'.get? b = some o := fun b o q => (gk b (Nat.ne_of_lt (Nat.lt_of_lt_of_le (Heap.lt_size q) M.new))).trans (M.keep b o q)
    have ob : ObjOk X.prog X.w (upd H1 d (.xd [(f, v)])) G' d (.xd [(f, v)]) :=
      ⟨_, hns.at (fun o q => (gk d M.dne).trans q), fun g => relO_one rv f g⟩
    have J : Inv X pins σ (upd H1 d (.xd [(f, v)])) ⟨G', g, dr, tk', os⟩ := I1.laid (t' := tk') old M.dbig ob
    refine ⟨⟨e, _, _, ⟨G', g, dr, tk', os⟩, _, .ref C, some d, rfl, J, fun b o q => ?_, ge, hoe, ⟨rfl, rfl, fun vs z => by cases z; rfl⟩, rfl, rfl, ?_, rfl, I1.bare, raises_own T.exC T.tyC, q1 d (I1.hok.fresh M.dbig)⟩, fun a oe vs ea hg hd => ?_⟩
    · by_cases hb : b = e
      · have q' : G'.get? b = some o := q
        rw [hb, ge] at q'; cases q'
      · exact (gk b hb).symm.trans q
    · rw [upd_ne (Ne.symm M.dne)]
      exact I1.hok.fresh M.new
    · cases ea
      have hg' : h'.get? e = some oe := hg
      rw [hoe] at hg'
      cases hg'
      cases hd
      show (4 : Nat) < 6
      decide
/-- what is made with no context serves where none is asked -/
theorem pmk_of5 {e : Expr} {t : St → Hp → XK → Prop} (h : L2H.PMk5 X e t) : PMk X e t := fun pins s σ H Q I q => thn (h pins s σ H Q I q) fun u s' x => by
  obtain ⟨⟨a, oe, vs, sI, H', cls, d, e1, J, k, n1, e2, hz, r⟩, _⟩ := x
  exact ⟨a, oe, vs, sI, H', cls, d, e1, J, k, n1, e2, hz.zc, r⟩
/-- raise X(e), where nothing is handled: for a def whose errors have no context (L2N), and for any -/
def tRaise (C : Addr) (f : Str) (W : WX) (ta : TA) : TS := fun _ σ H => tMkErr C f ta σ H fun cls d H' => W cls d σ H'
theorem ps_raiseE {a : Expr} {ta : TA} {W : WX} {p pos pos2 : Pos} (hc : X.calm = true) (T : PySem.LwX.ErrTxt X.prog.main.file X.K X.mg nm f C fI) (htop : (X.prog.main.scope.names.lookup ("super" : Str)).isSome = false) (hroom : X.A.depth + 3 < recursionLimit) (tk : Takes X W) (ha : PA X [a] ta) (hg : Gl X nm) (hnd : (nm == ("__debug__" : Str)) = false)
    (he : starEach (a :: []) X.env = (false, eval a X.env) :: starEach [] X.env := by rfl) (hpl : (backTo pos (starEach [] X.env)).any (·.1) = false := by rfl) :
    PS X (.Raise (some (.Call (.Name nm p) [a] [] pos)) none pos2) (tRaise C f W ta) := ps_raise hc tk (pmk_of5 (pmk5_err T htop hroom ha hg hnd he hpl))
theorem ps_raiseEN {a : Expr} {ta : TA} {W : WX} {p pos pos2 : Pos} (hc : X.calm = true) (T : PySem.LwX.ErrTxt X.prog.main.file X.K X.mg nm f C fI) (htop : (X.prog.main.scope.names.lookup ("super" : Str)).isSome = false) (hroom : X.A.depth + 3 < recursionLimit) (tk : L2N.Takes X W) (ha : PA X [a] ta) (hg : Gl X nm) (hnd : (nm == ("__debug__" : Str)) = false)
    (he : starEach (a :: []) X.env = (false, eval a X.env) :: starEach [] X.env := by rfl) (hpl : (backTo pos (starEach [] X.env)).any (·.1) = false := by rfl) :
    PS X (.Raise (some (.Call (.Name nm p) [a] [] pos)) none pos2) (tRaise C f W ta) := L2N.ps_raise hc tk (pmk5_err T htop hroom ha hg hnd he hpl).pmk
/-- raise X(e) from None in an except suite -/
theorem ps_raiseEH {a : Expr} {ta : TA} {W : WX} {j : Nat} {p pos cpos pos2 : Pos} (hc : L2H.HotC X) (T : PySem.LwX.ErrTxt X.prog.main.file X.K X.mg nm f C fI) (htop : (X.prog.main.scope.names.lookup ("super" : Str)).isSome = false) (hroom : X.A.depth + 3 < recursionLimit) (tk : Takes X W) (ha : PA X [a] ta) (hg : Gl X nm) (hnd : (nm == ("__debug__" : Str)) = false)
    (he : starEach (a :: []) X.env = (false, eval a X.env) :: starEach [] X.env := by rfl) (hpl : (backTo pos (starEach [] X.env)).any (·.1) = false := by rfl) :
    PS X (.Raise (some (.Call (.Name nm p) [a] [] pos)) (some (.Constant .none j cpos)) pos2) (tRaise C f W ta) := L2H.ps_raiseHN hc tk (pmk5_err T htop hroom ha hg hnd he hpl)
/-- isinstance(e, c), e the exception that the suite holds, with a dict of its own -/
def rIsED (K : PySem.W.Frag) (D a : Addr) (cls : Value) (d : Option Addr) : List V → Hp → VK → Prop := fun xs H Q => ∃ (c : V) (cv : Value) (b : Bool) (dd : Addr) (fs : List (Str × V)), xs = [.ref a, c] ∧ cls = .ref D ∧ (∀ u, RelV c u → u = cv) ∧ PySem.W.kitOne K (.ref D) cv = some b ∧ d = some dd ∧ H dd = some (.xd fs) ∧ Q (.bl b) H
theorem call_isED {K : PySem.W.Frag} {a D : Addr} {oe : Obj} {cls : Value} {d : Option Addr} {pn : List (Addr × Obj)} (hK : X.K = K) (C : ExcC K D) (hz : Zc cls d oe) (hf : ∃ vs, oe.data = .fields vs) : CallR (X.suite a ((a, oe) :: pn)) (.builtin "isinstance") (rIsED K D a cls d) := by
  subst hK
  intro pins s σ H xs us Q I r h
  obtain ⟨c, cv, b, dd, fs, rfl, rfl, hcv, e, ed, ea, q⟩ := h
  cases r with
  | cons rx rr =>
    cases rr with
    | cons rt rr =>
      cases rr
      cases rx
      have ec := hcv _ rt
      subst ec
      subst ed
      obtain ⟨hget, _⟩ := I.pin (a, oe) (List.mem_append.mpr (.inl List.mem_cons_self))
      obtain ⟨vs, hd⟩ := hf
      have hx : ObjOk X.prog X.w H s.heap dd (.xd fs) := I.hok dd _ ea
      obtain ⟨mA, hns, hr⟩ := hx
      obtain ⟨od, ho, hl⟩ := lookIn_ns hns
      have J : PySem.W.InstAt s.heap a oe D (some od) := ⟨hget, hz.1, by unfold PySem.W.notCls; rw [hd] <;> rfl, by rw [hz.2]; exact ho⟩
      obtain ⟨cd, hcl, _⟩ := PySem.W.any_some C.hd
      exact PySem.W.kia_one (PySem.W.kitx_exc (by rw [hcl]; rfl) C.hg C.hk C.hs C.ha C.hn C.ht C.hm) I.kIn J e (fun z => nomatch z) fun tk => ⟨.bl b, H, I.kept (t' := tk) fun _ _ z => z, rfl, q⟩
end
/-- around a body whose errors have no context nothing is let out -/
theorem takes0N {X : Cx} : L2N.Takes X (fun _ _ _ _ => False) := fun _ _ x => by
  obtain ⟨_, _, _, _, _, _, _, _, _, _, _, _, _, _, _, _, z⟩ := x
  exact z.elim
theorem room3m {k : Nat} {A : Around} (hr : Room k A) (h : Option Value) : (A.mark h).depth + 3 < recursionLimit := by have := hr.dp; show A.depth + 3 < recursionLimit; omega
theorem room3 {k : Nat} {A : Around} (hr : Room k A) : A.depth + 3 < recursionLimit := by have := hr.dp; omega
section
variable {P : Program} {w : World} {K : PySem.W.Frag} {mg : Str → Option Value} {base : Heap}
/-- as Fun.okX, for a def whose errors have no context -/
theorem Fun.okN {x qual : Str} {st : Stmt} {f : Addr} {fd : FuncData} {N ps : List Str} {k : Nat} {sp : Sp} (F : Fun K x qual st f fd) (S : FnScope N ps (defScope st)) (len : ∀ vs H Q E, sp vs H Q E → vs.length = ps.length)
    (hbody : ∀ (cdv : Value) (A : Around) (outer : List Env) (s : Shared) (H : Hp) (vs : List V) (Q : VK) (E : XK), Room k (A.deeper (envOfC qual (defScope st) s.heap.objs.size f cdv)) → sp vs H Q E →
      ∃ t, PSs (cxOf (L2N.CX P w) P w K mg base N qual (defScope st) f cdv A outer s H E) (defBody st) t ∧ t { nx := fun _ H' => Q .non H', rt := Q } (start N vs) H) : FnOk P w K mg base (L2N.CX P w) (k + 1) f fd ps sp := by
  obtain ⟨oc, od, kV, doc, pm, an, cdv, ct, osl, rfl, lk, hcd⟩ := F.ex
  exact fn_of lk hcd S len fun A outer s H vs Q E hr hsp => hbody cdv A outer s H vs Q E hr hsp
end
/-- an error of the class at S is what «except S» names -/
theorem exm_self {K : PySem.W.Frag} {S : Addr} (h1 : PySem.W.subIn K (.ref S) (.type "BaseException") = some true) (h2 : PySem.W.isClsIn K S = true) (h3 : PySem.W.typeIn K (.ref S) = some (.type "type")) (h4 : PySem.W.subIn K (.ref S) (.ref S) = some true) :
    PySem.W.exmOne K (.ref S) (.ref S) = some true := by
  have e1 : (PySem.W.subIn K (.ref S) (.type "BaseException") == some true) = true := by rw [h1] <;> rfl
  have e2 : ((PySem.W.clsIn K S).isSome && PySem.W.typeIn K (.ref S) == some (.type "type")) = true := by
    have h2' : (PySem.W.clsIn K S).isSome = true := h2
    rw [h2', h3] <;> rfl
  show (if (PySem.W.subIn K (.ref S) (.type "BaseException") == some true) = true then (if ((PySem.W.clsIn K S).isSome && PySem.W.typeIn K (.ref S) == some (.type "type")) = true then PySem.W.subIn K (.ref S) (.ref S) else none) else none) = some true
  rw [if_pos e1, if_pos e2]
  exact h4
end L2
namespace PySem
open Builtin Builtin.Str
/-- x.replace(y, z, 1) where y stands in x -/
theorem gives_str_replace1 (x y z : Str) (t u v q : Tok) (h0 : (u == 0 || v == 0) = false) (huv : (u == v) = false) (hyz : (y == z) = false) (hc : ((occurrences x y 0 x.length 1).isEmpty || (y.length == 0 && z.length == 0)) = false)
    (hl : tooLong (x.length + (occurrences x y 0 x.length 1).length * z.length) = false) :
    Gives («str.replace» ⟨[.str x t, .str y u, .str z v, .int 1 q], []⟩) (.str (glued z (partsBetween x (occurrences x y 0 x.length 1) y.length))) := by
  show Gives (do
      let limit ← countLimit "str.replace" (some (.int 1 q)) (x.length + 1)
      let cuts := occurrences x y 0 x.length limit
      if (cuts.isEmpty || (y.length == 0 && z.length == 0)) = true then (do rule "str.replace.nothing"; ret (.str x t)) else
          (do let same ← isSame (.str y u) (.str z v)
              if same = true then (do rule "str.replace.old-is-new"; ret (.str x t)) else
              if tooLong (x.length + cuts.length * z.length) = true then unsupported "str.replace:memory" else
              retStr (glued z (partsBetween x cuts y.length)))) _
  rw [countLimit_int "str.replace" 1 q (x.length + 1) (by decide)]
  show Gives (if ((occurrences x y 0 x.length 1).isEmpty || (y.length == 0 && z.length == 0)) = true then (do rule "str.replace.nothing"; ret (.str x t)) else
          (do let same ← isSame (.str y u) (.str z v)
              if same = true then (do rule "str.replace.old-is-new"; ret (.str x t)) else
              if tooLong (x.length + (occurrences x y 0 x.length 1).length * z.length) = true then unsupported "str.replace:memory" else
              retStr (glued z (partsBetween x (occurrences x y 0 x.length 1) y.length)))) _
  rw [hc, isSame_str_other y z u v h0 huv hyz, hl]
  exact .of_eq rfl
end PySem
namespace L2
open PySem PySem.Spec PyProof.Rows
/-- o.replace(y, z, 1), y written, in the text -/
def rRepl1 (y z : Str) : V → Hp → VK → Prop := fun v H1 Q => ∃ x : Str, v = .str x ∧ x.length ≤ 100000 ∧ y.length ≤ 10 ∧ 0 < y.length ∧ z.length ≤ 10 ∧ Builtin.Str.occurrences x y 0 x.length 1 ≠ [] ∧ (Builtin.Str.glued z (Builtin.Str.partsBetween x (Builtin.Str.occurrences x y 0 x.length 1) y.length)).length ≤ sizeLine ∧ Q (.str (Builtin.Str.glued z (Builtin.Str.partsBetween x (Builtin.Str.occurrences x y 0 x.length 1) y.length))) H1
def tRepl1 (to : TE) (y z : Str) : TE := fun σ H Q => to σ H fun v H1 => rRepl1 y z v H1 Q
section
variable {X : Cx} {o : Expr} {to : TE} {y z : Str} {j k m : Nat} {c0 c1 c2 apos pos : Pos}
theorem pet_repl1 (ho : PE X o to) (hyz : (y == z) = false := by decide)
    (hst : starEach [.Constant (.str y) j c0, .Constant (.str z) k c1, .Constant (.int 1) m c2] X.env = [(false, eval (.Constant (.str y) j c0) X.env), (false, eval (.Constant (.str z) k c1) X.env), (false, eval (.Constant (.int 1) m c2) X.env)] := by rfl)
    (hbase : attributeBase o "replace" X.env (eval o X.env) = eval o X.env := by rfl) (hline : (apos.endLine == pos.line) = true := by rfl) :
    PET X (.Call (.Attribute o "replace" apos) [.Constant (.str y) j c0, .Constant (.str z) k c1, .Constant (.int 1) m c2] [] pos) (tRepl1 to y z) := by
  intro pins s σ H Q h0 I h
  refine PySem.wpAny_Call_method_lateS hbase (by rw [hst]; rfl) hline ?_
  rw [hst]
  refine wpAny_mono (PySem.wpAny_toks (ho.run pins s σ H _ I h)) (fun v s1 q => ?_) fun _ _ z => z.2
  obtain ⟨hk, v', H1, I1, r1, x, e1, hx, hy, hy0, hz, hoc, hfit, q⟩ := q
  subst e1
  obtain ⟨tx, e2⟩ := r1
  subst e2
  refine ⟨"str", _, PySem.F.plainAttrs_str, PySem.F.slot_str_replace, PySem.F.type_str_replace, typeIs_str _ _ _, (fun _ e => nomatch e), Calls.callWith_builtin rfl (Calls.evalArgs_plain (Calls.spliced_cons ?_))⟩
  refine Calls.Constant_str (k := j) (pos := c0) (Calls.spliced_cons (Calls.Constant_str (k := k) (pos := c1) (Calls.spliced_cons ?_)))
  refine wpAny_Constant_int (k := m) (pos := c2) (Calls.spliced_nil ?_)
  have hl : Builtin.Str.tooLong (x.length + (Builtin.Str.occurrences x y 0 x.length 1).length * z.length) = false := by
    have h1 := StrLaws.occ_length_le x y 0 x.length 1
    have h2 : (Builtin.Str.occurrences x y 0 x.length 1).length * z.length ≤ 1 * 10 := Nat.mul_le_mul h1 hz
    unfold Builtin.Str.tooLong
    refine decide_eq_false ?_
    have : 2000000 ≤ sizeLine := by decide
    omega
  refine call_gives F.slot_str_replace (typeIs_str _ _ _) F.entry_str_replace (F.args_str_replace_4 _ _ _ _)
    (gives_str_replace1 x y z tx s1.toks (s1.toks + 1) _ (by rw [Bool.or_eq_false_iff]; exact ⟨beq_false_of_ne (show s1.toks ≠ 0 by omega), beq_false_of_ne (show s1.toks + 1 ≠ 0 by omega)⟩) (beq_false_of_ne (show s1.toks ≠ s1.toks + 1 by omega)) hyz ?_ hl) ?_
  · have e1 : (Builtin.Str.occurrences x y 0 x.length 1).isEmpty = false := by
      cases h : Builtin.Str.occurrences x y 0 x.length 1 with
      | nil => exact absurd h hoc
      | cons a r => rfl
    have e2 : (y.length == 0) = false := by simp; omega
    rw [e1, e2]
    rfl
  · exact ⟨hfit, .str _, H1, I1.tok _, ⟨_, rfl⟩, q⟩
/-- behind a written text a token is out -/
theorem pa_strT {es : List Expr} {ta : TA} {c : Str} (hr : PAT X es ta) (hs : starEach (.Constant (.str c) j c0 :: es) X.env = (false, eval (.Constant (.str c) j c0) X.env) :: starEach es X.env := by rfl) : PA X (.Constant (.str c) j c0 :: es) (tCons (tC (.str c)) ta) := by
  refine ⟨fun pos pins s σ H Q I h => ?_⟩
  rw [hs]
  show wpAny _ _ (spliced ((false, eval (.Constant (.str c) j c0) X.env) :: backTo pos (starEach es X.env))) _ _ s
  refine Calls.spliced_cons (Calls.Constant_str (k := j) (pos := c0) ?_)
  exact thn (hr pos pins _ σ H _ (by show 1 ≤ s.toks + 1; omega) (I.tok (s.toks + 1)) h) fun us s2 ⟨xs, H2, I2, r2, q2⟩ => ⟨.str c :: xs, H2, I2, .cons ⟨_, rfl⟩ r2, q2⟩
end
end L2
namespace Lw
open PySem PySem.Spec PyProof.Rows L2
open Evl (Ex)
/-! ### A. stepping through a reading, from the left: one lemma a combinator -/
section
variable {K : PySem.W.Frag} {σ : L2.St} {H : Hp} {D : Ends} {Q : VK} {QB : Bool → Hp → Prop} {te ta tb tc : TE} {tt tu : TT} {t u : TS} {g : TG} {v x y : V} {i j : Int} {b : Bool}
theorem g_seq (q : t { D with nx := u D } σ H) : tSeq t u D σ H := q
theorem g_next (q : D.nx σ H) : tNext D σ H := q
theorem g_asg (q : te σ H (fun x H1 => g x σ H1 D.nx)) : tAsg te g D σ H := q
theorem g_name {n : Nat} {Qs : L2.St → Hp → Prop} (q : Qs (σ.set n (some v)) H) : gName n v σ H Qs := q
theorem g_ret (q : te σ H D.rt) : tRet te D σ H := q
theorem g_drop (q : te σ H fun _ H1 => D.nx σ H1) : tDrop te D σ H := q
theorem g_ifS (q : tt σ H fun b H1 => if b = true then t D σ H1 else u D σ H1) : tIfS tt t u D σ H := q
theorem g_var {n : Nat} (h : σ[n]? = some (some v)) (q : Q v H) : tVar n σ H Q := ⟨v, h, q⟩
theorem g_c (q : Q v H) : tC v σ H Q := q
theorem g_op {r : R2} (q : ta σ H fun x H1 => tb σ H1 fun y H2 => r x y H2 Q) : tOp r ta tb σ H Q := q
theorem g_un {r : V → Hp → VK → Prop} (q : ta σ H fun x H1 => r x H1 Q) : tUn r ta σ H Q := q
theorem g_chain {r r' : R2} (q : ta σ H fun x H1 => tb σ H1 fun y H2 => r x y H2 fun z H3 => ∃ k, z = .bl k ∧ (if k = true then tc σ H3 fun w' H4 => r' y w' H4 Q else Q (.bl false) H3)) : tChain r r' ta tb tc σ H Q := q
theorem g_rI0 {f : Int → Int → V} (q : Q (f i j) H) : rI0 f (.int i) (.int j) H Q := ⟨i, j, rfl, rfl, q⟩
theorem g_rI {C : Int → Int → Prop} {f : Int → Int → V} (hc : C i j) (q : Q (f i j) H) : rI C f (.int i) (.int j) H Q := ⟨i, j, rfl, rfl, hc, q⟩
theorem g_rU {f : Int → V} (q : Q (f i) H) : rU f (.int i) H Q := ⟨i, rfl, q⟩
theorem g_ipI {f : Int → Int → Int} (q : Q (.int (f i j)) H) : ipI f (.int i) (.int j) H Q := ⟨i, j, rfl, rfl, q⟩
theorem g_test (q : te σ H fun x H' => ∃ k, x = .bl k ∧ QB k H') : tTest te σ H QB := q
theorem g_tB (q : te σ H fun x H' => ∃ k, x = .bl k ∧ QB k H') : tB te σ H QB := q
theorem g_bl {P : Bool → Prop} (q : P b) : ∃ k, V.bl b = .bl k ∧ P k := ⟨b, rfl, q⟩
theorem g_not (q : tt σ H fun c H1 => QB (!c) H1) : tNot tt σ H QB := q
theorem g_and (q : tt σ H fun c H1 => if c = true then tu σ H1 QB else QB false H1) : tAnd tt tu σ H QB := q
theorem g_or (q : tt σ H fun c H1 => if c = true then QB true H1 else tu σ H1 QB) : tOr tt tu σ H QB := q
theorem g_andV (q : ta σ H fun x H1 => ∃ c, x = .bl c ∧ if c = true then tb σ H1 Q else Q (.bl false) H1) : tAndV ta tb σ H Q := q
theorem g_orV (q : ta σ H fun x H1 => ∃ c, x = .bl c ∧ if c = true then Q (.bl true) H1 else tb σ H1 Q) : tOrV ta tb σ H Q := q
theorem g_notV (q : ta σ H fun x H1 => ∃ c, x = .bl c ∧ Q (.bl (!c)) H1) : tNotV ta σ H Q := q
theorem g_if (q : tt σ H fun c H1 => if c = true then ta σ H1 Q else tb σ H1 Q) : tIf tt ta tb σ H Q := q
theorem g_tup {t : TA} (q : t σ H fun xs H1 => xs.length ≤ sizeLine ∧ ∀ p, H1 p = none → Q (.ref p) (upd H1 p (.tup xs))) : tTup t σ H Q := q
theorem g_lst {t : TA} (q : t σ H fun xs H1 => xs.length ≤ sizeLine ∧ ∀ p, H1 p = none → Q (.ref p) (upd H1 p (.lst xs))) : tLst t σ H Q := q
theorem g_nil {R : List V → Hp → Prop} (q : R [] H) : tNil σ H R := q
theorem g_cons {t : TA} {R : List V → Hp → Prop} (q : te σ H fun x H1 => t σ H1 fun xs H2 => R (x :: xs) H2) : tCons te t σ H R := q
theorem g_call {sp : Sp} {dvs : List V} {E : XK} {t : TA} (q : t σ H fun vs H1 => sp (vs ++ dvs) H1 Q E) : tCall sp dvs E t σ H Q := q
theorem g_cb {r : List V → Hp → VK → Prop} {t : TA} (q : t σ H fun vs H1 => r vs H1 Q) : tCB r t σ H Q := q
theorem g_bm {T : String} {r : V → List V → Hp → VK → Prop} {t : TA} (q : te σ H fun x H1 => tyV K T x H1 ∧ t σ H1 fun xs H2 => r x xs H2 Q) : tBM K T r te t σ H Q := q
theorem g_bm0 {T : String} {r : V → List V → Hp → VK → Prop} (q : te σ H fun x H1 => tyV K T x H1 ∧ r x [] H1 Q) : tBM0 K T r te σ H Q := q
theorem g_m0 {r : V → List V → Hp → VK → Prop} (q : te σ H fun x H1 => (∃ a, x = .str a) ∧ r x [] H1 Q) : tM0 r te σ H Q := q
theorem g_m1 {r : V → List V → Hp → VK → Prop} (q : te σ H fun x H1 => (∃ a, x = .str a) ∧ ta σ H1 fun y H2 => r x [y] H2 Q) : tM1 r te ta σ H Q := q
theorem g_sl {r : V → Option Int → Option Int → Hp → VK → Prop} {tl th : TO} (q : te σ H fun x H1 => tl σ H1 fun l H2 => th σ H2 fun u H3 => r x l u H3 Q) : tSl r te tl th σ H Q := q
theorem g_nop {R : Option Int → Hp → Prop} (q : R none H) : tNoPart σ H R := q
theorem g_part {R : Option Int → Hp → Prop} (q : te σ H fun x H1 => ∃ i, x = .int i ∧ R (some i) H1) : tPart te σ H R := q
theorem g_isI {P : Int → Prop} (q : P i) : ∃ k, V.int i = .int k ∧ P k := ⟨i, rfl, q⟩
theorem g_isS {P : Prop} {z : Str} (q : P) : (∃ a, V.str z = .str a) ∧ P := ⟨⟨z, rfl⟩, q⟩
theorem g_aug {n : Nat} {ti : TIp} (h : σ[n]? = some (some v)) (q : te σ H fun y H1 => ti v y H1 fun z H2 => D.nx (σ.set n (some z)) H2) : tAug n te ti D σ H := ⟨v, h, q⟩
/-! equality of scalars -/
theorem g_eqI (q : Q (.bl (decide (i = j))) H) : rEq (.int i) (.int j) H Q := ⟨rfl, by
  have e : decide (V.int i = V.int j) = decide (i = j) := by by_cases h : i = j <;> simp [h]
  rw [e]; exact q⟩
theorem g_neI (q : Q (.bl (!decide (i = j))) H) : rNe (.int i) (.int j) H Q := ⟨rfl, by
  have e : decide (V.int i = V.int j) = decide (i = j) := by by_cases h : i = j <;> simp [h]
  rw [e]; exact q⟩
theorem g_eqS {z w : Str} (q : Q (.bl (decide (z = w))) H) : rEq (.str z) (.str w) H Q := ⟨rfl, by
  have e : decide (V.str z = V.str w) = decide (z = w) := by by_cases h : z = w <;> simp [h]
  rw [e]; exact q⟩
theorem g_neS {z w : Str} (q : Q (.bl (!decide (z = w))) H) : rNe (.str z) (.str w) H Q := ⟨rfl, by
  have e : decide (V.str z = V.str w) = decide (z = w) := by by_cases h : z = w <;> simp [h]
  rw [e]; exact q⟩
/-! ways -/
theorem w_ite {P R : Prop} (h1 : b = true → P) (h2 : b = false → R) : if b = true then P else R := by
  cases b with
  | true => rw [if_pos rfl]; exact h1 rfl
  | false => rw [if_neg Bool.false_ne_true]; exact h2 rfl
theorem w_dec {p P R : Prop} [Decidable p] (h1 : p → P) (h2 : ¬ p → R) : if decide p = true then P else R :=
  w_ite (fun e => h1 (of_decide_eq_true e)) fun e => h2 (of_decide_eq_false e)
theorem w_ndec {p P R : Prop} [Decidable p] (h1 : ¬ p → P) (h2 : p → R) : if (!decide p) = true then P else R :=
  w_ite (fun e => h1 (by simpa using e)) fun e => h2 (by simpa using e)
theorem w_t {P R : Prop} (h : P) : if true = true then P else R := by rw [if_pos rfl]; exact h
theorem w_f {P R : Prop} (h : R) : if false = true then P else R := by rw [if_neg Bool.false_ne_true]; exact h
theorem w_yes {P R : Prop} (e : b = true) (h : P) : if b = true then P else R := by rw [if_pos e]; exact h
theorem w_no {P R : Prop} (e : b = false) (h : R) : if b = true then P else R := by rw [e, if_neg Bool.false_ne_true]; exact h
/-! loops -/
def LoopOk (J : It) (g : TG) (tb : TS) (D : Ends) (σ : L2.St) (H1 : Hp) : Prop := ∃ W : Nat → Nat → L2.St → Hp → Prop, (∃ m, W 0 m σ H1) ∧ ∀ i m σ H, W i m σ H →
  (J.stop i H ∧ D.nx σ H) ∨ (J.go i H ∧ ∃ N : L2.St → Hp → Prop, (∀ σ' H', N σ' H' → ∃ m', m' < m ∧ W (i + 1) m' σ' H') ∧ ∀ x H', J.yld i H x H' → g x σ H' fun σ2 H2 => tb { D with nx := N, ct := N, bk := D.nx } σ2 H2)
theorem g_for {wi : TI} (q : wi σ H fun J H1 => LoopOk J g t D σ H1) : tFor wi g t D σ H := q
theorem l_it {J : It} {n : Nat} {G : Hp → Prop} {Y : Nat → Hp → V → Hp → Prop} (w : Walk J n G Y) (Pv : Nat → L2.St → Hp → Prop) (h0 : Pv 0 σ H) (hG : ∀ i σ H, i ≤ n → Pv i σ H → G H)
    (hs : ∀ i x σ H H', i < n → Pv i σ H → Y i H x H' → g x σ H' fun σ2 H2 => t { D with nx := Pv (i + 1), ct := Pv (i + 1), bk := D.nx } σ2 H2) (hd : ∀ σ H, Pv n σ H → D.nx σ H) : LoopOk J g t D σ H := for_it w Pv h0 hG hs hd
def LcOk (J : It) (g : TG) (tt : TT) (te : TE) (vs : List Nat) (Q : VK) (σ : L2.St) (H1 : Hp) : Prop := ∀ D, H1 D = none → ∃ W : Nat → Nat → Hp → Prop, (∃ m, W 0 m (upd H1 D (.lst []))) ∧ ∀ i m H, W i m H →
  (J.stop i H ∧ Q (.ref D) H) ∨ (J.go i H ∧ ∃ Nx : Hp → Prop, (∀ H', Nx H' → ∃ m', m' < m ∧ W (i + 1) m' H') ∧ ∀ x H', J.yld i H x H' → g x (wipe σ vs) H' fun σ2 H2 => wipe σ2 vs = wipe σ vs ∧ tt σ2 H2 fun b H3 =>
    if b = true then te σ2 H3 fun y H4 => ∃ acc, H4 D = some (.lst acc) ∧ acc.length < sizeLine ∧ Nx (upd H4 D (.lst (acc ++ [y]))) else Nx H3)
theorem g_lc {wi : TI} {vs : List Nat} (q : wi σ H fun J H1 => LcOk J g tt te vs Q σ H1) : tLc wi g tt te vs σ H Q := q
/-- a comprehension [f(x) for x in ..] without a test: the i-th element becomes F i; what stood stands -/
theorem lc_pure {J : It} {n : Nat} {G : Hp → Prop} {Y : Nat → Hp → V → Hp → Prop} {vs : List Nat} (w : Walk J n G Y) (F : Nat → V) (hn : n < sizeLine)
    (hG : ∀ H', Ex H H' → G H')
    (hs : ∀ i x H1 H2, i < n → Ex H H1 → Y i H1 x H2 → ∀ R : VK, (∀ H3, (∀ a o, H2 a = some o → H3 a = some o) → R (F i) H3) →
      g x (wipe σ vs) H2 fun σ2 H3 => wipe σ2 vs = wipe σ vs ∧ te σ2 H3 R)
    (hy : ∀ i H1 x H2, Y i H1 x H2 → Ex H1 H2)
    (hq : ∀ p H', H p = none → Ex H H' → H' p = some (.lst ((List.range n).map F)) → Q (.ref p) H') : LcOk J g tYes te vs Q σ H := by
  intro D hD
  refine lc_it w (fun i H' => Ex H H' ∧ H' D = some (.lst ((List.range i).map F))) ⟨Ex.new hD, upd_same⟩ (fun i H' _ h => hG H' h.1) (fun i x H1 H2 hi hP hY => ?_) (fun H' h => hq D H' hD h.1 h.2)
  obtain ⟨hE, hL⟩ := hP
  have e2 := hy i H1 x H2 hY
  have key : ∀ H3, (∀ a o, H2 a = some o → H3 a = some o) → ∃ acc, H3 D = some (.lst acc) ∧ acc.length < sizeLine ∧ (Ex H (upd H3 D (.lst (acc ++ [F i]))) ∧ upd H3 D (.lst (acc ++ [F i])) D = some (.lst ((List.range (i + 1)).map F))) := fun H3 e3 => by
    refine ⟨_, e3 _ _ (e2 _ _ hL), by rw [List.length_map, List.length_range]; omega, Evl.Ex.mut ((hE.trans e2).trans e3) hD, ?_⟩
    rw [upd_same, List.range_succ, List.map_append]
    rfl
  have main := hs i x H1 H2 hi hE hY (fun y H4 => ∃ acc, H4 D = some (.lst acc) ∧ acc.length < sizeLine ∧ (Ex H (upd H4 D (.lst (acc ++ [y]))) ∧ upd H4 D (.lst (acc ++ [y])) D = some (.lst ((List.range (i + 1)).map F)))) key
  exact main
/-! what is walked -/
def rIL (K : PySem.W.Frag) (R : It → Hp → Prop) : VK := fun x H1 => ∃ a, x = .ref a ∧ (∃ xs, SqL K H1 a xs) ∧ R (Itl K a) H1
def rIT (K : PySem.W.Frag) (R : It → Hp → Prop) : VK := fun x H1 => ∃ a, x = .ref a ∧ (∃ xs, SqT K H1 a xs) ∧ R (Itt K a) H1
theorem g_iList {tl : TE} {R : It → Hp → Prop} (q : tl σ H (rIL K R)) : iList K tl σ H R := q
theorem g_iTup {tl : TE} {R : It → Hp → Prop} (q : tl σ H (rIT K R)) : iTup K tl σ H R := q
theorem g_atL {R : It → Hp → Prop} {a : Addr} {xs : List V} (h : SqL K H a xs) (q : R (Itl K a) H) : rIL K R (.ref a) H := ⟨a, rfl, ⟨xs, h⟩, q⟩
theorem g_atT {R : It → Hp → Prop} {a : Addr} {xs : List V} (h : SqT K H a xs) (q : R (Itt K a) H) : rIT K R (.ref a) H := ⟨a, rfl, ⟨xs, h⟩, q⟩
theorem g_iStr {R : It → Hp → Prop} (q : te σ H fun v H1 => ∃ x, v = .str x ∧ R (Its x) H1) : iStr te σ H R := q
theorem g_atS {P : Str → Prop} {z : Str} (q : P z) : ∃ x, V.str z = .str x ∧ P x := ⟨z, rfl, q⟩
theorem g_iRng1 {ta : TA} {R : It → Hp → Prop} (q : ta σ H fun vs H1 => ∃ j : Int, vs = [.int j] ∧ -(2 ^ 62) ≤ j ∧ j < 2 ^ 62 ∧ R (Itr 0 j.toNat) H1) : iRng1 ta σ H R := q
theorem g_rng {P : Int → Prop} (h : -(2 ^ 62) ≤ i ∧ i < 2 ^ 62) (q : P i) : ∃ j : Int, ([V.int i] : List V) = [.int j] ∧ -(2 ^ 62) ≤ j ∧ j < 2 ^ 62 ∧ P j := ⟨i, rfl, h.1, h.2, q⟩
/-! list items -/
theorem g_ixL {p : Addr} {xs : List V} (h : SqL K H p xs) (ha : atI xs i = some v) (q : Q v H) : rIxL K (.ref p) (.int i) H Q := ⟨p, xs, i, v, rfl, rfl, h, ha, q⟩
theorem g_ixT {p : Addr} {xs : List V} (h : SqT K H p xs) (ha : atI xs i = some v) (q : Q v H) : rIxT K (.ref p) (.int i) H Q := ⟨p, xs, i, v, rfl, rfl, h, ha, q⟩
theorem g_ixS {z : Str} {c : Nat} (h : z.length ≤ sizeLine) (ha : atI z.cps.toList i = some c) (q : Q (.str ⟨#[c]⟩) H) : rIxS (.str z) (.int i) H Q := ⟨z, i, c, rfl, rfl, h, ha, q⟩
theorem g_app {l : Addr} {xs : List V} (hl : H l = some (.lst xs)) (hz : xs.length < sizeLine) (q : Q .non (upd H l (.lst (xs ++ [v])))) : rAppend (.ref l) [v] H Q := ⟨l, xs, v, rfl, rfl, hl, hz, q⟩
theorem g_tyL {P : Prop} {l : Addr} {xs : List V} (hl : SqL K H l xs) (q : P) : tyV K "list" (.ref l) H ∧ P := ⟨.inl ⟨rfl, xs, hl⟩, q⟩
theorem g_tyS {P : Prop} {z : Str} (q : P) : tyV K "str" (.str z) H ∧ P := ⟨rfl, q⟩
theorem g_slL {p : Addr} {xs : List V} {lo hi : Option Int} (h : SqL K H p xs) (q : ∀ p, H p = none → Q (.ref p) (upd H p (.lst (cutV xs lo hi)))) : rSlL K (.ref p) lo hi H Q := ⟨p, xs, rfl, h, q⟩
theorem g_slS {z : Str} {lo hi : Option Int} (h : z.length ≤ sizeLine) (q : Q (.str (cutS z lo hi)) H) : rSlS (.str z) lo hi H Q := ⟨z, rfl, h, q⟩
end

/-! ### B. further rules -/
section
variable {X : Cx}
theorem pe_globE {x : Str} {pos : Pos} {v : V} (h : ∃ u, X.mg x = some u ∧ RelV v u) (hg : Gl X x) (hd : (x == ("__debug__" : Str)) = false := by decide) : PE X (.Name x pos) (tC v) := by
  obtain ⟨u, hm, r⟩ := h
  exact pe_glob hg hm r hd
def rIntI : List V → Hp → VK → Prop := fun xs H Q => ∃ i, xs = [.int i] ∧ Q (.int i) H
def rIntB : List V → Hp → VK → Prop := fun xs H Q => ∃ k, xs = [.bl k] ∧ Q (.int (if k then 1 else 0)) H
theorem call_intI : CallR X (.type "int") rIntI := fun pins s σ H xs us Q I r h => call_int1 pins s σ H xs us Q I r (.inl h)
theorem call_intB : CallR X (.type "int") rIntB := fun pins s σ H xs us Q I r h => call_int1 pins s σ H xs us Q I r (.inr h)
theorem mt_rjustF : MtR X "str.rjust" (fun x xs H Q => ∃ (a b : Str) (i : Int), x = .str a ∧ xs = [.int i, .str b] ∧ PadOk i = true ∧ b.length = 1 ∧ Q (.str (Txt.rjustF a i (b.cps.getD 0 0))) H) := by
  intro pins s σ H x xs v us Q I rx rs h
  obtain ⟨a, b, i, rfl, rfl, hp, hb, q⟩ := h
  obtain ⟨t, rfl⟩ := rx
  cases rs with
  | cons r1 rs =>
    cases rs with
    | cons r2 rs =>
      cases rs
      obtain ⟨t1, rfl⟩ := r1
      obtain ⟨t2, rfl⟩ := r2
      exact rjust_fill hp hb fun t' k => ⟨.str _, H, I.tok _, ⟨t', rfl⟩, q⟩
def rAbs : List V → Hp → VK → Prop := fun xs H Q => ∃ i, xs = [.int i] ∧ Q (.int (if i < 0 then -i else i)) H
theorem call_absN : CallR X (.builtin "abs") rAbs := call_abs
def rMax2 : List V → Hp → VK → Prop := fun xs H Q => ∃ i j, xs = [.int i, .int j] ∧ Q (.int (if j > i then j else i)) H
theorem call_max2N (hc : X.calm = true) : CallR X (.builtin "max") rMax2 := call_max2 hc
def rMin2 : List V → Hp → VK → Prop := fun xs H Q => ∃ i j, xs = [.int i, .int j] ∧ Q (.int (if j < i then j else i)) H
theorem call_min2N (hc : X.calm = true) : CallR X (.builtin "min") rMin2 := call_min2 hc
def rLen (K : PySem.W.Frag) : List V → Hp → VK → Prop := fun xs H Q => ∃ p ys, xs = [.ref p] ∧ (SqL K H p ys ∨ SqT K H p ys) ∧ Q (.int ys.length) H
theorem call_lenN : CallR X (.builtin "len") (rLen X.K) := call_len_seq
def rLenS : List V → Hp → VK → Prop := fun xs H Q => ∃ z, xs = [.str z] ∧ z.length ≤ sizeLine ∧ Q (.int z.length) H
theorem call_lenSN : CallR X (.builtin "len") rLenS := call_len_str
def rOrd : List V → Hp → VK → Prop := fun xs H Q => ∃ x, xs = [.str x] ∧ x.length = 1 ∧ Q (.int (x.cps.getD 0 0 : Nat)) H
theorem call_ordN : CallR X (.builtin "ord") rOrd := call_ord
def rAddS : R2 := fun x y H Q => ∃ i j, x = .str i ∧ y = .str j ∧ i.length + j.length ≤ sizeLine ∧ Q (.str (i ++ j)) H
theorem op_addSN : OpR X (binaryOp .Add) rAddS := op_add_str
def rCmpS (f : List Nat → List Nat → Bool) : R2 := fun x y H Q => ∃ i j, x = .str i ∧ y = .str j ∧ Q (.bl (f i.cps.toList j.cps.toList)) H
theorem op_lt_strN : OpR X (compareOp .Lt) (rCmpS fun a b => decide (a < b)) := op_lt_str
theorem op_le_strN : OpR X (compareOp .LtE) (rCmpS fun a b => !decide (b < a)) := op_le_str
theorem op_gt_strN : OpR X (compareOp .Gt) (rCmpS fun a b => decide (b < a)) := op_gt_str
theorem op_ge_strN : OpR X (compareOp .GtE) (rCmpS fun a b => !decide (a < b)) := op_ge_str
def rInS : R2 := fun x y H Q => ∃ (c : Nat) (z : Str), x = .str ⟨#[c]⟩ ∧ y = .str z ∧ Q (.bl (decide (c ∈ z.cps.toList))) H
def rNinS : R2 := fun x y H Q => ∃ (c : Nat) (z : Str), x = .str ⟨#[c]⟩ ∧ y = .str z ∧ Q (.bl (!decide (c ∈ z.cps.toList))) H
theorem op_inSN : OpR X (compareOp .In) rInS := op_in_sign
theorem op_ninSN : OpR X (compareOp .NotIn) rNinS := op_notIn_sign
def rIsN : R2 := fun x y H Q => y = .non ∧ Q (.bl (decide (x = .non))) H
def rNotN : R2 := fun x y H Q => y = .non ∧ Q (.bl (!decide (x = .non))) H
theorem op_isNN : OpR X (compareOp .Is) rIsN := op_isN
theorem op_notNN : OpR X (compareOp .IsNot) rNotN := op_notN
def rStrI : List V → Hp → VK → Prop := fun xs H Q => ∃ i : Int, xs = [.int i] ∧ i.natAbs.log2 < 1920 ∧ Q (.str (toString i)) H
theorem call_strIN : CallR X (.type "str") rStrI := call_str_int
def rJoin (K : PySem.W.Frag) : V → List V → Hp → VK → Prop := fun x xs H Q => ∃ a p, ∃ ys : List Str, x = .str a ∧ xs = [.ref p] ∧ (SqL K H p (ys.map V.str) ∨ SqT K H p (ys.map V.str)) ∧ (ys.map (·.length)).sum + ys.length * a.length ≤ 16777216 ∧ Q (.str (Txt.join a ys)) H
theorem mt_joinN : MtR X "str.join" (rJoin X.K) := mt_join
def rRjust : V → List V → Hp → VK → Prop := fun x xs H Q => ∃ (a b : Str) (i : Int), x = .str a ∧ xs = [.int i, .str b] ∧ PadOk i = true ∧ b.length = 1 ∧ Q (.str (Txt.rjustF a i (b.cps.getD 0 0))) H
theorem mt_rjustN : MtR X "str.rjust" rRjust := mt_rjustF
def rSplitMax : V → List V → Hp → VK → Prop := fun x xs H Q => ∃ (a b : Str) (k : Int), x = .str a ∧ xs = [.str b, .int k] ∧ (b.length == 0) = false ∧ -(2 ^ 63) ≤ k ∧ k < 2 ^ 63 ∧ a.length + 2 ≤ sizeLine ∧ rNewStrs (Txt.splitMax a b k) H Q
theorem mt_splitMaxN : MtR X "str.split" rSplitMax := mt_splitMax
def rSplit : V → List V → Hp → VK → Prop := fun x xs H Q => ∃ a b, x = .str a ∧ xs = [.str b] ∧ (b.length == 0) = false ∧ a.length + 2 ≤ sizeLine ∧ rNewStrs (Txt.split a b) H Q
theorem mt_splitN : MtR X "str.split" rSplit := mt_split
def rIntS : List V → Hp → VK → Prop := fun xs H Q => ∃ a n, xs = [.str a] ∧ PySem.intText? a = some n ∧ a.length ≤ 640 ∧ Q (.int n) H
theorem call_intSN : CallR X (.type "int") rIntS := call_int_str
/-! enumerate(text, k) -/
def Itse (x : Str) (k0 : Int) : It :=
  ⟨fun i _ => i < x.cps.size, fun i H v H' => ∃ T c, v = .ref T ∧ H T = none ∧ H' = upd H T (.tup [.int (k0 + (i : Nat)), .str ⟨#[c]⟩]) ∧ x.cps[i]? = some c, fun i _ => x.cps.size ≤ i⟩
theorem turn_enumStr {P : Program} {w : World} {K : PySem.W.Frag} {elts : List Expr} {kk : Nat} {tpos : Pos} (x : Str) (k0 : Int) (tx : Tok) (e it : Addr) :
    Turn P w K (.Tuple elts kk tpos) (Itse x k0) [e, it] e (fun i h => (∃ old, IsEnum h e it (k0 + ((i : Nat) : Int)) old) ∧ h.IsStrIter it (strIterType x) x tx i ∧ e ≠ it ∧ i ≤ x.cps.size) where
  mem := by simp
  obj := fun i h st b hb => by
    obtain ⟨⟨old, he⟩, ⟨o, ho, hc, hd⟩, _, _⟩ := st
    have e' : b = e ∨ b = it := by simpa using hb
    rcases e' with z | z
    · rw [z]; exact ⟨_, he, fun v q => nomatch q⟩
    · rw [z]; exact ⟨o, ho, fun v q => by rw [hd] at q; cases q⟩
  keep := fun i h h' st k => let ⟨⟨old, he⟩, ⟨o, ho, r⟩, hne⟩ := st; ⟨⟨old, k e (by simp) _ he⟩, ⟨o, k it (by simp) o ho, r⟩, hne⟩
  item := by
    intro X hP hw hK hc i pins s σ H E I hf st hg
    subst hP hw hK
    obtain ⟨⟨old, he⟩, hit, hne, hle⟩ := st
    have hel : e < s.heap.objs.size := Heap.lt_size he
    have hil : it < s.heap.objs.size := by obtain ⟨_, q, _⟩ := hit; exact Heap.lt_size q
    have hh : X.A.in1.handled = none := I.ok.hd hc
    refine wpAny_pyNext_enum_itemC (Draws.text hh it x tx) he hit hg hne (by simpa using hne) fun y h' tk hP ho hit' hT hsz hk => ?_
    obtain ⟨c, u, hcx, rfl⟩ := hP
    refine ⟨_, rfl, wpAny_letOwnedTupleGo_enum (s := { s with heap := h', toks := tk + 1 }) ho fun h'' he' sb => ?_⟩
    have hT2 : h''.get? s.heap.objs.size = some { cls := .type "tuple", data := .seq #[.int (k0 + ((i : Nat) : Int)) tk, .str ⟨#[c]⟩ u] } := (sb.2 _ (Nat.ne_of_gt hel)).trans hT
    have new : ObjOk X.prog X.w (upd H s.heap.objs.size (.tup [.int (k0 + (i : Nat)), .str ⟨#[c]⟩])) h'' s.heap.objs.size (.tup [.int (k0 + (i : Nat)), .str ⟨#[c]⟩]) :=
      ⟨by show 2 ≤ sizeLine; decide, [.int (k0 + ((i : Nat) : Int)) tk, .str ⟨#[c]⟩ u], .cons ⟨_, rfl⟩ (.cons ⟨_, rfl⟩ .nil), ⟨_, hT2, rfl, _, rfl⟩⟩
    have I1 : Inv X pins σ (upd H s.heap.objs.size (.tup [.int (k0 + (i : Nat)), .str ⟨#[c]⟩])) { s with heap := h'', toks := tk + 1 } :=
      I.turnedNew (ch := [e, it]) (fun b ob hb q => (sb.2 b (fun z => hb (by simp [z]))).trans (hk b ob (fun z => hb (by simp [z])) (fun z => hb (by simp [z])) q)) hf (Nat.le_refl _) new
    refine ⟨.ref s.heap.objs.size, _, I1, rfl, ⟨_, c, rfl, I.hok.fresh (Nat.le_refl _), rfl, hcx⟩, ⟨⟨.str ⟨#[c]⟩ u, ?_⟩, ?_, hne, hg⟩, fun b hb => ?_⟩
    · have e1 : k0 + ((i + 1 : Nat) : Int) = k0 + (i : Int) + 1 := by omega
      rw [e1]; exact he'
    · obtain ⟨o, ho', r⟩ := hit'
      exact ⟨o, (sb.2 it (Ne.symm hne)).trans ho', r⟩
    · have hb' : b < s.heap.objs.size := by
        have e' : b = e ∨ b = it := by simpa using hb
        rcases e' with z | z
        · rw [z]; exact hel
        · rw [z]; exact hil
      rw [upd_ne (Nat.ne_of_lt hb')]
      exact (hf b hb).1
  done := by
    intro X hP hw hK hc i pins s σ H E I hf st hg
    subst hP hw hK
    obtain ⟨⟨old, he⟩, hit, hne, hle⟩ := st
    obtain ⟨f0, f1, f2, f3, f4, f5⟩ := hf it (by simp)
    have hh : X.A.in1.handled = none := I.ok.hd hc
    have hi : i = x.cps.size := Nat.le_antisymm hle hg
    subst hi
    exact wpAny_pyNext_enum_endD (Draws.text hh it x tx) he hit fun h' eb => ⟨rfl, I.turned (t' := s.toks) (fun b o hb q => eb b o hb q) f0 f1 f3 f4 f5⟩
  self := fun A i s Q E st h => let ⟨⟨_, he⟩, _⟩ := st; wpAny_pyIter_enum he h
def iEnumStr (ta : TA) : TI := fun σ H R => ta σ H fun vs H1 => ∃ (x : Str) (k : Int), vs = [.str x, .int k] ∧ (-(2 ^ 63) ≤ k ∧ k < 2 ^ 63) ∧ R (Itse x k) H1
theorem pi_enumStr {a b : Expr} {ta : TA} {p pos tpos : Pos} {elts : List Expr} {kk : Nat} (hg : Gl X "enumerate") (hm : X.mg "enumerate" = none) (ha : PA X [a, b] ta)
    (hs : starEach [a, b] X.env = (false, eval a X.env) :: starEach [b] X.env := by rfl) (hpl : (backTo pos (starEach [b] X.env)).any (·.1) = false := by rfl) :
    PI X (.Tuple elts kk tpos) (.Call (.Name "enumerate" p) [a, b] [] pos) (iEnumStr ta) := by
  refine ⟨fun pins s σ H R I h => ?_⟩
  refine Call_ (ld_blt I hg hm boot_enumerate (PyProof.Rows.callWith_type1 (thn (ha.run pos pins s σ H _ I h) fun us s1 ⟨vs, H1, I1, r1, q1⟩ => ?_) hs hpl))
  obtain ⟨x, k, ex, ⟨hk0, hk1⟩, q⟩ := q1
  subst ex
  cases r1 with
  | cons r rr =>
    cases rr with
    | cons r' rr =>
      cases rr
      obtain ⟨t, rfl⟩ := r
      obtain ⟨t', rfl⟩ := r'
      refine enum_begins (begins_text x t) trivial hk0 hk1 fun h' he hit hsz hk => wpAny_pyIter_enum he ?_
      have I2 : Inv X pins σ H1 { s1 with heap := h' } := I1.kept (t' := s1.toks) hk
      refine ⟨s1.heap.objs.size + 1, [s1.heap.objs.size + 1, s1.heap.objs.size], _, _, H1, rfl, I2, turn_enumStr x k t (s1.heap.objs.size + 1) s1.heap.objs.size, ⟨⟨.none, ?_⟩, ⟨_, hit, rfl, rfl⟩, Nat.succ_ne_self _, Nat.zero_le _⟩, fun b hb => ?_, q⟩
      · have e0 : k + ((0 : Nat) : Int) = k := by simp
        rw [e0]; exact he
      · have e' : b = s1.heap.objs.size + 1 ∨ b = s1.heap.objs.size := by simpa using hb
        have hle : s1.heap.objs.size ≤ b := by
          rcases e' with z | z
          · rw [z]; exact Nat.le_add_right _ _
          · rw [z]; exact Nat.le_refl _
        exact I1.fpOk hle (I1.hok.fresh hle)
theorem walk_enumStr {z : Str} {k : Int} : Walk (Itse z k) z.cps.size (fun _ => True) (fun i H v H' => ∃ T c, v = .ref T ∧ H T = none ∧ H' = upd H T (.tup [.int (k + (i : Nat)), .str ⟨#[c]⟩]) ∧ z.cps[i]? = some c) :=
  ⟨fun _ _ hi _ => hi, fun _ _ => Nat.le_refl _, fun _ _ _ _ _ _ y => y⟩
end

/-! ### C. the steps as one word -/
theorem fits_of {n : Nat} (h : n ≤ 1000000) : n ≤ sizeLine := Nat.le_trans h (by decide)
theorem fits_lt {n : Nat} (h : n ≤ 1000000) : n < sizeLine := Nat.lt_of_le_of_lt h (by decide)
theorem ex_sqL {K : PySem.W.Frag} {H H' : Hp} {a : Addr} {xs : List V} (e : Ex H H') (h : SqL K H a xs) : SqL K H' a xs := Evl.ex_l e h
theorem ex_sqT {K : PySem.W.Frag} {H H' : Hp} {a : Addr} {xs : List V} (e : Ex H H') (h : SqT K H a xs) : SqT K H' a xs := Evl.ex_t e h
theorem ex_at {H H' : Hp} {a : Addr} {o : HO} (e : Ex H H') (h : H a = some o) : H' a = some o := e a o h
theorem ex_free {H H' : Hp} {p : Addr} (e : Ex H H') (h : H' p = none) : H p = none := Evl.fresh_back e h
theorem g_intI {H : Hp} {Q : VK} {i : Int} (q : Q (.int i) H) : rIntI [.int i] H Q := ⟨i, rfl, q⟩
theorem g_intB {H : Hp} {Q : VK} {b : Bool} (q : Q (.int (if b then 1 else 0)) H) : rIntB [.bl b] H Q := ⟨b, rfl, q⟩
theorem g_abs {H : Hp} {Q : VK} {i : Int} (q : Q (.int (if i < 0 then -i else i)) H) : rAbs [.int i] H Q := ⟨i, rfl, q⟩
theorem g_max2 {H : Hp} {Q : VK} {i j : Int} (q : Q (.int (if j > i then j else i)) H) : rMax2 [.int i, .int j] H Q := ⟨i, j, rfl, q⟩
theorem g_min2 {H : Hp} {Q : VK} {i j : Int} (q : Q (.int (if j < i then j else i)) H) : rMin2 [.int i, .int j] H Q := ⟨i, j, rfl, q⟩
theorem g_lenL {K : PySem.W.Frag} {H : Hp} {Q : VK} {p : Addr} {xs : List V} (h : SqL K H p xs) (q : Q (.int xs.length) H) : rLen K [.ref p] H Q := ⟨p, xs, rfl, .inl h, q⟩
theorem g_lenT {K : PySem.W.Frag} {H : Hp} {Q : VK} {p : Addr} {xs : List V} (h : SqT K H p xs) (q : Q (.int xs.length) H) : rLen K [.ref p] H Q := ⟨p, xs, rfl, .inr h, q⟩
theorem g_lenS {H : Hp} {Q : VK} {z : Str} (h : z.length ≤ sizeLine) (q : Q (.int z.length) H) : rLenS [.str z] H Q := ⟨z, rfl, h, q⟩
theorem g_addS {H : Hp} {Q : VK} {z w : Str} (h : z.length + w.length ≤ sizeLine) (q : Q (.str (z ++ w)) H) : rAddS (.str z) (.str w) H Q := ⟨z, w, rfl, rfl, h, q⟩
theorem g_ordS {H : Hp} {Q : VK} {c : Nat} (q : Q (.int (c : Nat)) H) : rOrd [.str ⟨#[c]⟩] H Q := ⟨⟨#[c]⟩, rfl, rfl, q⟩
theorem g_cmpS {H : Hp} {Q : VK} {f : List Nat → List Nat → Bool} {z w : Str} (q : Q (.bl (f z.cps.toList w.cps.toList)) H) : rCmpS f (.str z) (.str w) H Q := ⟨z, w, rfl, rfl, q⟩
theorem g_inS {H : Hp} {Q : VK} {c : Nat} {w : Str} (q : Q (.bl (decide (c ∈ w.cps.toList))) H) : rInS (.str ⟨#[c]⟩) (.str w) H Q := ⟨c, w, rfl, rfl, q⟩
theorem g_ninS {H : Hp} {Q : VK} {c : Nat} {w : Str} (q : Q (.bl (!decide (c ∈ w.cps.toList))) H) : rNinS (.str ⟨#[c]⟩) (.str w) H Q := ⟨c, w, rfl, rfl, q⟩
theorem g_isN {H : Hp} {Q : VK} {v : V} (q : Q (.bl (decide (v = .non))) H) : rIsN v .non H Q := ⟨rfl, q⟩
theorem g_notN {H : Hp} {Q : VK} {v : V} (q : Q (.bl (!decide (v = .non))) H) : rNotN v .non H Q := ⟨rfl, q⟩
theorem g_strI {H : Hp} {Q : VK} {i : Int} (h : i.natAbs.log2 < 1920) (q : Q (.str (toString i)) H) : rStrI [.int i] H Q := ⟨i, rfl, h, q⟩
theorem g_join {K : PySem.W.Frag} {H : Hp} {Q : VK} {z : Str} {p : Addr} {ys : List Str} (h : SqL K H p (ys.map V.str)) (hz : (ys.map (·.length)).sum + ys.length * z.length ≤ 16777216) (q : Q (.str (Txt.join z ys)) H) : rJoin K (.str z) [.ref p] H Q := ⟨z, p, ys, rfl, rfl, .inl h, hz, q⟩
theorem g_rjust {H : Hp} {Q : VK} {z w : Str} {i : Int} (hp : PadOk i = true) (hb : w.length = 1) (q : Q (.str (Txt.rjustF z i (w.cps.getD 0 0))) H) : rRjust (.str z) [.int i, .str w] H Q := ⟨z, w, i, rfl, rfl, hp, hb, q⟩
theorem g_splitMax {H : Hp} {Q : VK} {z w : Str} {k : Int} (hb : (w.length == 0) = false) (hk : -(2 ^ 63) ≤ k ∧ k < 2 ^ 63) (hz : z.length + 2 ≤ sizeLine) (q : ∀ p, H p = none → Q (.ref p) (upd H p (.lst ((Txt.splitMax z w k).map V.str)))) : rSplitMax (.str z) [.str w, .int k] H Q := ⟨z, w, k, rfl, rfl, hb, hk.1, hk.2, hz, q⟩
theorem g_split {H : Hp} {Q : VK} {z w : Str} (hb : (w.length == 0) = false) (hz : z.length + 2 ≤ sizeLine) (q : ∀ p, H p = none → Q (.ref p) (upd H p (.lst ((Txt.split z w).map V.str)))) : rSplit (.str z) [.str w] H Q := ⟨z, w, rfl, rfl, hb, hz, q⟩
theorem g_intS {H : Hp} {Q : VK} {z : Str} {n : Int} (h : PySem.intText? z = some n) (hz : z.length ≤ 640) (q : Q (.int n) H) : rIntS [.str z] H Q := ⟨z, n, rfl, h, hz, q⟩
theorem g_all {K : PySem.W.Frag} {H : Hp} {Q : VK} {p : Addr} {bs : List Bool} (h : SqL K H p (bs.map V.bl)) (q : Q (.bl (bs.all id)) H) : rAll K [.ref p] H Q := ⟨p, bs, rfl, h, q⟩
theorem g_sum {K : PySem.W.Frag} {H : Hp} {Q : VK} {p : Addr} {ns : List Int} (h : SqL K H p (ns.map V.int)) (q : Q (.int ns.sum) H) : rSum K [.ref p] H Q := ⟨p, ns, rfl, h, q⟩
theorem l_while {tt : TT} {tb : TS} {D : Ends} {σ : L2.St} {H : Hp} (W : Nat → L2.St → Hp → Prop) (m : Nat) (w0 : W m σ H)
    (hs : ∀ m σ H, W m σ H → ∃ b, (∀ QB : Bool → Hp → Prop, QB b H → tt σ H QB) ∧ (b = true → tb { D with nx := fun σ' H' => ∃ m', m' < m ∧ W m' σ' H', ct := fun σ' H' => ∃ m', m' < m ∧ W m' σ' H', bk := D.nx } σ H) ∧ (b = false → D.nx σ H)) : tWhile tt tb D σ H := by
  refine ⟨W, ⟨m, w0⟩, fun m σ H hw => ?_⟩
  obtain ⟨b, ht, h1, h2⟩ := hs m σ H hw
  refine ht _ ?_
  cases b with
  | true => exact w_t ⟨_, fun _ _ n => n, h1 rfl⟩
  | false => exact w_f (h2 rfl)
theorem cutV_to (ys : List V) {k : Int} (h : 0 ≤ k) : cutV ys none (some k) = ys.take k.toNat := by
  obtain ⟨n, rfl⟩ := Int.eq_ofNat_of_zero_le h
  unfold cutV
  rw [HT.sIx_none, HT.sIx_nat, List.drop_zero, Nat.sub_zero, Int.toNat_natCast]
  by_cases hn : n ≤ ys.length
  · rw [Nat.min_eq_left hn]
  · rw [Nat.min_eq_right (by omega), List.take_of_length_le (Nat.le_refl _), List.take_of_length_le (by omega)]
theorem cutV_from (ys : List V) {k : Int} (h : 0 ≤ k) : cutV ys (some k) none = ys.drop k.toNat := by
  obtain ⟨n, rfl⟩ := Int.eq_ofNat_of_zero_le h
  unfold cutV
  rw [HT.sIx_none, HT.sIx_nat, Int.toNat_natCast]
  by_cases hn : n ≤ ys.length
  · rw [Nat.min_eq_left hn]
    exact List.take_of_length_le (by rw [List.length_drop]; omega)
  · rw [Nat.min_eq_right (by omega), List.drop_of_length_le (Nat.le_refl _), List.drop_of_length_le (by omega), List.take_nil]
/-- if p: x = e (no else), one continuation for both ways -/
theorem w_ifset {p : Prop} [Decidable p] {te : TE} {n : Nat} {D : Ends} {σ : L2.St} {H : Hp} (W : V → Prop) (h1 : p → ∀ R : VK, (∀ x H', W x → Ex H H' → R x H') → te σ H R) (h0 : ¬ p → ∃ old, σ[n]? = some (some old) ∧ W old)
    (hk : ∀ x H', W x → Ex H H' → D.nx (σ.set n (some x)) H') : if decide p = true then tAsg te (gName n) D σ H else tNext D σ H := by
  refine w_dec (fun h => ?_) (fun h => ?_)
  · exact h1 h _ hk
  · obtain ⟨old, e, w⟩ := h0 h
    have e2 : σ.set n (some old) = σ := by
      apply List.ext_getElem?
      intro k
      by_cases hk : n = k
      · subst hk
        have hl : n < σ.length := (List.getElem?_eq_some_iff.mp e).1
        rw [List.getElem?_set_self hl, e]
      · rw [List.getElem?_set_ne hk]
    have q := hk old H w (Evl.Ex.refl H)
    rw [e2] at q
    exact q
theorem g_new {P : Addr → Prop} {n : Nat} {H : Hp} (hz : n ≤ sizeLine) (q : ∀ p, H p = none → P p) : n ≤ sizeLine ∧ ∀ p, H p = none → P p := ⟨hz, q⟩
/-! rules whose reading names the written part: told for a K that is said -/
section
variable {X : Cx} {K : PySem.W.Frag}
theorem ix_listK (h : X.K = K) : IxR X (rIxL K) := by subst h; exact ix_list
theorem ix_tupK (h : X.K = K) : IxR X (rIxT K) := by subst h; exact ix_tup
theorem sl_listK (h : X.K = K) : SlR X (rSlL K) := by subst h; exact sl_list
theorem sl_tupK (h : X.K = K) : SlR X (rSlT K) := by subst h; exact sl_tup
theorem call_lenK (h : X.K = K) : CallR X (.builtin "len") (rLen K) := by subst h; exact call_lenN
theorem op_inK (h : X.K = K) : OpR X (compareOp .In) (rIn K false) := by subst h; exact op_in_seq
theorem op_ninK (h : X.K = K) : OpR X (compareOp .NotIn) (rIn K true) := by subst h; exact op_notIn_seq
theorem op_eqDK (h : X.K = K) (hu : X.A.units + 64 < cLine) : OpR X (compareOp .Eq) (rEqD K) := by subst h; exact op_eqD hu
theorem op_neDK (h : X.K = K) (hu : X.A.units + 64 < cLine) : OpR X (compareOp .NotEq) (rNeD K) := by subst h; exact op_neD hu
theorem op_catTK (h : X.K = K) : OpR X (binaryOp .Add) (rCatT K) := by subst h; exact op_catT
theorem cr_allK (h : X.K = K) (hc : X.calm = true) : CallR X (.builtin "all") (rAll K) := by subst h; exact cr_all hc
theorem cr_anyK (h : X.K = K) (hc : X.calm = true) : CallR X (.builtin "any") (rAny K) := by subst h; exact cr_any hc
theorem cr_sumK (h : X.K = K) (hc : X.calm = true) : CallR X (.builtin "sum") (rSum K) := by subst h; exact cr_sum hc
theorem mt_joinK (h : X.K = K) : MtR X "str.join" (rJoin K) := by subst h; exact mt_joinN
theorem pe_bmK {o e : Expr} {es : List Expr} {to : TE} {t : TA} {name : Str} {apos cpos : Pos} {T id : String} {r : V → List V → Hp → VK → Prop} (h : X.K = K) (pa : PlainAttrs T) (slot : Slot T name id) (hty : typeOf (.builtin id) = pure (.type "method_descriptor")) (hm : MtR X id r) (ho : PE X o to) (ha : PA X (e :: es) t)
    (hbase : attributeBase o name X.env (eval o X.env) = eval o X.env := by rfl)
    (hfew : ((backTo cpos (starEach (e :: es) X.env)).all (fun x => !x.1) && (backToKw cpos (keywordEach [] X.env)).all (fun x => x.1.isSome)
      && decide ((e :: es).length + ([] : List Keyword).length + (if ([] : List Keyword).isEmpty then 0 else 1) < 30)) = true := by rfl)
    (hline : (apos.endLine == cpos.line) = true := by rfl) (hs : starEach (e :: es) X.env = (false, eval e X.env) :: starEach es X.env := by rfl) (hplain : (backTo cpos (starEach es X.env)).any (·.1) = false := by rfl) :
    PE X (.Call (.Attribute o name apos) (e :: es) [] cpos) (tBM K T r to t) := by subst h; exact pe_bm pa slot hty hm ho ha hbase hfew hline hs hplain
theorem pg_tupK {es : List Expr} {k : Nat} {pos : Pos} {t : TGs} {n : Nat} (h : X.K = K) (hc : X.calm = true) (hs : PGs X es t) (hn : (assignEach es X.env).length = n := by rfl) (hst : (assignEach es X.env).findIdx? (·.1) = none := by rfl) : PG X (.Tuple es k pos) (gTup K n t) := by
  subst h; exact pg_tup hc hs hn hst
theorem pi_listK {tg l : Expr} {tl : TE} (h : X.K = K) (hl : PE X l tl) : PI X tg l (iList K tl) := by subst h; exact pi_list hl
theorem pi_tupK {tg l : Expr} {tl : TE} (h : X.K = K) (hl : PE X l tl) : PI X tg l (iTup K tl) := by subst h; exact pi_tup hl
end
open TL
/-! ### D. comprehensions over a text, a range, a list -/
section
variable {K : PySem.W.Frag} {σ : L2.St} {H : Hp} {Q : VK} {te : TE} {g : TG} {vs : List Nat}
theorem map_getD {α : Type} (l : List α) (d : α) (f : α → V) : (List.range l.length).map (fun i => f (l.getD i d)) = l.map f := by
  apply List.ext_getElem?
  intro k
  by_cases h : k < l.length
  · simp [h, List.getD]
  · simp [h]
theorem lc_str {z : Str} (f : Nat → V) (hn : z.length ≤ 1000000)
    (hs : ∀ c ∈ tl z, ∀ H1, Ex H H1 → ∀ R : VK, (∀ H3, Ex H1 H3 → R (f c) H3) → g (.str ⟨#[c]⟩) (wipe σ vs) H1 fun σ2 H3 => wipe σ2 vs = wipe σ vs ∧ te σ2 H3 R)
    (hq : ∀ p H', H p = none → Ex H H' → H' p = some (.lst ((tl z).map f)) → Q (.ref p) H') : LcOk (Its z) g tYes te vs Q σ H := by
  have hl : z.cps.size = (tl z).length := by simp [tl]
  refine lc_pure walk_str (fun i => f ((tl z).getD i 0)) (fits_lt (by rw [hl, ← len_tl]; exact hn)) (fun _ _ => trivial) (fun i x H1 H2 hi hE hY R hR => ?_) (fun i H1 x H2 hY => ?_) (fun p H' hp hE hL => ?_)
  · obtain ⟨rfl, c, hc, rfl⟩ := hY
    have e : (tl z)[i]? = some c := by simpa [tl] using hc
    have e2 : (tl z).getD i 0 = c := by rw [List.getD_eq_getElem?_getD, e]; rfl
    exact hs c (List.mem_of_getElem? e) H2 hE R fun H3 h3 => by
      have q := hR H3 h3
      simp only [e2] at q
      exact q
  · obtain ⟨rfl, _⟩ := hY
    exact Evl.Ex.refl _
  · refine hq p H' hp hE ?_
    rw [hL, hl, map_getD]
theorem lc_rng {n : Nat} (f : Nat → V) (hn : n ≤ 1000000)
    (hs : ∀ i, i < n → ∀ H1, Ex H H1 → ∀ R : VK, (∀ H3, Ex H1 H3 → R (f i) H3) → g (.int ((i : Nat) : Int)) (wipe σ vs) H1 fun σ2 H3 => wipe σ2 vs = wipe σ vs ∧ te σ2 H3 R)
    (hq : ∀ p H', H p = none → Ex H H' → H' p = some (.lst ((List.range n).map f)) → Q (.ref p) H') : LcOk (Itr 0 n) g tYes te vs Q σ H := by
  refine lc_pure walk_range f (fits_lt hn) (fun _ _ => trivial) (fun i x H1 H2 hi hE hY R hR => ?_) (fun i H1 x H2 hY => ?_) hq
  · obtain ⟨rfl, rfl⟩ := hY
    have e : (0 : Int) + (i : Nat) = ((i : Nat) : Int) := Int.zero_add _
    show g (.int ((0 : Int) + (i : Nat))) _ _ _
    rw [e]
    exact hs i hi H2 hE R hR
  · obtain ⟨rfl, _⟩ := hY
    exact Evl.Ex.refl _
theorem lc_lst {α : Type} {a : Addr} {xs : List α} (enc : α → V) (f : α → V) (d : α) (hS : SqL K H a (xs.map enc)) (hn : xs.length ≤ 1000000)
    (hs : ∀ x ∈ xs, ∀ H1, Ex H H1 → ∀ R : VK, (∀ H3, Ex H1 H3 → R (f x) H3) → g (enc x) (wipe σ vs) H1 fun σ2 H3 => wipe σ2 vs = wipe σ vs ∧ te σ2 H3 R)
    (hq : ∀ p H', H p = none → Ex H H' → H' p = some (.lst (xs.map f)) → Q (.ref p) H') : LcOk (Itl K a) g tYes te vs Q σ H := by
  refine lc_pure (walk_list (xs := xs.map enc)) (fun i => f (xs.getD i d)) (fits_lt (by rw [List.length_map]; exact hn)) (fun H' e => ex_sqL e hS) (fun i x H1 H2 hi hE hY R hR => ?_) (fun i H1 x H2 hY => ?_) (fun p H' hp hE hL => ?_)
  · obtain ⟨rfl, hx⟩ := hY
    rw [List.getElem?_map] at hx
    cases e : xs[i]? with
    | none => rw [e] at hx; cases hx
    | some y =>
      rw [e] at hx
      have ex : enc y = x := Option.some.inj hx
      subst ex
      have e2 : xs.getD i d = y := by rw [List.getD_eq_getElem?_getD, e]; rfl
      exact hs y (List.mem_of_getElem? e) H2 hE R fun H3 h3 => by
        have q := hR H3 h3
        simp only [e2] at q
        exact q
  · obtain ⟨rfl, _⟩ := hY
    exact Evl.Ex.refl _
  · refine hq p H' hp hE ?_
    rw [hL, List.length_map, map_getD]
end
/-! ### E. texts as lists of codes -/
def stxt (l : List Nat) : Str := ⟨l.toArray⟩
theorem tl_stxt (l : List Nat) : tl (stxt l) = l := rfl
theorem len_stxt (l : List Nat) : (stxt l).length = l.length := by rw [len_tl, tl_stxt]
theorem stxt_tl (z : Str) : stxt (tl z) = z := ext_tl rfl
theorem stxt_inj {l m : List Nat} (h : stxt l = stxt m) : l = m := by have e := congrArg tl h; exact e
theorem stxt_app (l m : List Nat) : stxt l ++ stxt m = stxt (l ++ m) := ext_tl (by rw [tl_append]; rfl)
theorem tl_cutS (z : Str) (lo hi : Option Int) : tl (cutS z lo hi) = ((tl z).drop (HT.sIx z.length 0 lo)).take (HT.sIx z.length z.length hi - HT.sIx z.length 0 lo) := rfl
theorem tl_cut_to (z : Str) {k : Int} (h : 0 ≤ k) : tl (cutS z none (some k)) = (tl z).take k.toNat := by
  obtain ⟨n, rfl⟩ := Int.eq_ofNat_of_zero_le h
  rw [tl_cutS, HT.sIx_none, HT.sIx_nat, List.drop_zero, Nat.sub_zero, Int.toNat_natCast, len_tl]
  by_cases hn : n ≤ (tl z).length
  · rw [Nat.min_eq_left hn]
  · rw [Nat.min_eq_right (by omega), List.take_of_length_le (Nat.le_refl _), List.take_of_length_le (by omega)]
theorem tl_cut_from (z : Str) {k : Int} (h : 0 ≤ k) : tl (cutS z (some k) none) = (tl z).drop k.toNat := by
  obtain ⟨n, rfl⟩ := Int.eq_ofNat_of_zero_le h
  rw [tl_cutS, HT.sIx_none, HT.sIx_nat, Int.toNat_natCast, len_tl]
  by_cases hn : n ≤ (tl z).length
  · rw [Nat.min_eq_left hn]
    exact List.take_of_length_le (by rw [List.length_drop]; omega)
  · rw [Nat.min_eq_right (by omega), List.drop_of_length_le (Nat.le_refl _), List.drop_of_length_le (by omega), List.take_nil]
theorem tl_cut_toNeg (z : Str) {k : Nat} (h : 0 < k) : tl (cutS z none (some (-(k : Int)))) = (tl z).take ((tl z).length - k) := by
  rw [tl_cutS, HT.sIx_none, List.drop_zero, Nat.sub_zero]
  have e : HT.sIx z.length z.length (some (-(k : Int))) = (tl z).length - k := by
    show (if -(k : Int) < 0 then (-(k : Int) + (z.length : Int)).toNat else _) = _
    rw [if_pos (by omega), len_tl]
    omega
  rw [e]
theorem tl_cut_fromNeg (z : Str) {k : Nat} (h : 0 < k) : tl (cutS z (some (-(k : Int))) none) = (tl z).drop ((tl z).length - k) := by
  rw [tl_cutS, HT.sIx_none]
  have e : HT.sIx z.length 0 (some (-(k : Int))) = (tl z).length - k := by
    show (if -(k : Int) < 0 then (-(k : Int) + (z.length : Int)).toNat else _) = _
    rw [if_pos (by omega), len_tl]
    omega
  rw [e]
  exact List.take_of_length_le (by rw [List.length_drop, len_tl]; omega)
theorem joinL_nil (ps : List (List Nat)) : joinL [] ps = ps.flatten := by
  induction ps with
  | nil => rfl
  | cons p r ih =>
    cases r with
    | nil => show p = [p].flatten; simp
    | cons q r =>
      show p ++ ([] ++ joinL [] (q :: r)) = _
      rw [ih]; simp
theorem tl_glue (ys : List Str) : tl (Txt.join "" ys) = (ys.map tl).flatten := by
  rw [join_eq, tl_join]
  exact joinL_nil _
/-! the first blank -/
def brk : List Nat → Option (List Nat × List Nat)
  | [] => none
  | c :: r => if c = 32 then some ([], r) else match brk r with
    | none => none
    | some (a, b) => some (c :: a, b)
theorem brk_none : ∀ {l : List Nat}, 32 ∉ l → brk l = none
  | [], _ => rfl
  | c :: r, h => by
    have h1 : c ≠ 32 := fun e => h (by rw [e]; exact List.mem_cons_self)
    have h2 : 32 ∉ r := fun e => h (List.mem_cons_of_mem _ e)
    unfold brk
    rw [if_neg h1, brk_none h2]
theorem brk_app : ∀ {a : List Nat} (r : List Nat), 32 ∉ a → brk (a ++ 32 :: r) = some (a, r)
  | [], r, _ => by show brk (32 :: r) = _; unfold brk; rw [if_pos rfl]
  | c :: a, r, h => by
    have h1 : c ≠ 32 := fun e => h (by rw [e]; exact List.mem_cons_self)
    have h2 : 32 ∉ a := fun e => h (List.mem_cons_of_mem _ e)
    show brk (c :: (a ++ 32 :: r)) = _
    unfold brk
    rw [if_neg h1, brk_app r h2]
theorem brk_some : ∀ {l a r : List Nat}, brk l = some (a, r) → l = a ++ 32 :: r ∧ 32 ∉ a
  | [], a, r, h => by cases h
  | c :: l, a, r, h => by
    unfold brk at h
    by_cases h1 : c = 32
    · rw [if_pos h1] at h
      injection h with h
      injection h with ha hr
      subst ha; subst hr; subst h1
      exact ⟨rfl, by simp⟩
    · rw [if_neg h1] at h
      cases e : brk l with
      | none => rw [e] at h; cases h
      | some p =>
        obtain ⟨a', b'⟩ := p
        rw [e] at h
        injection h with h
        injection h with ha hr
        obtain ⟨e1, e2⟩ := brk_some e
        subst ha; subst hr
        refine ⟨by rw [e1]; rfl, fun hm => ?_⟩
        rcases List.mem_cons.mp hm with z | z
        · exact h1 z.symm
        · exact e2 z
theorem brk_mem : ∀ {l : List Nat}, brk l = none → 32 ∉ l
  | [], _ => by simp
  | c :: r, h => by
    unfold brk at h
    by_cases h1 : c = 32
    · rw [if_pos h1] at h; cases h
    · rw [if_neg h1] at h
      have hr : brk r = none := by
        cases e2 : brk r with
        | none => rfl
        | some p => obtain ⟨a', b'⟩ := p; rw [e2] at h; cases h
      intro hm
      rcases List.mem_cons.mp hm with z | z
      · exact h1 z.symm
      · exact brk_mem hr z
/-- the parts between the first n blanks -/
def cutN : Nat → List Nat → List (List Nat)
  | 0, l => [l]
  | n + 1, l => match brk l with
    | none => [l]
    | some (a, r) => a :: cutN n r
open PySem.StrLaws PySem.Builtin.Str in
theorem run_lim (s sub : Str) (hi limit lo : Nat) (hw : 1 ≤ sub.length) : ∀ (m cur : Nat) (st : Array Nat × Nat), ChainG s sub hi lo st.fst.toList st.snd → st.fst.size ≤ limit → (st.fst.size < limit → ∀ k, st.snd ≤ k → k < cur → ¬ At s sub hi k) →
    ChainG s sub hi lo (forIn (List.range' cur m) st (occBody s sub hi limit)).run.fst.toList (forIn (List.range' cur m) st (occBody s sub hi limit)).run.snd ∧
    (forIn (List.range' cur m) st (occBody s sub hi limit)).run.fst.size ≤ limit ∧
    ((forIn (List.range' cur m) st (occBody s sub hi limit)).run.fst.size < limit → ∀ k, (forIn (List.range' cur m) st (occBody s sub hi limit)).run.snd ≤ k → k < cur + m → ¬ At s sub hi k)
  | 0, cur, st, h, hz, hn => ⟨h, hz, hn⟩
  | m + 1, cur, st, h, hz, hn => by
    rw [List.range'_succ, List.forIn_cons]
    unfold occBody
    have e : cur + (m + 1) = (cur + 1) + m := by omega
    rw [e]
    split
    · rename_i hc
      refine run_lim s sub hi limit lo hw m (cur + 1) _ ?_ ?_ ?_
      · show ChainG s sub hi lo (st.fst.push cur).toList (cur + sub.length)
        rw [Array.toList_push]
        exact chainG_snoc h hc.1.1.2 ⟨hc.1.2, hc.2⟩ (hn hc.1.1.1)
      · show (st.fst.push cur).size ≤ limit
        rw [Array.size_push]
        exact hc.1.1.1
      · intro _ k h1 h2
        have h1' : cur + sub.length ≤ k := h1
        omega
    · rename_i hc
      refine run_lim s sub hi limit lo hw m (cur + 1) _ h hz ?_
      intro hlt k h1 h2 hA
      by_cases hk : k < cur
      · exact hn hlt k h1 hk hA
      · have ek : k = cur := by omega
        subst ek
        exact hc ⟨⟨⟨hlt, h1⟩, hA.1⟩, hA.2⟩
open PySem.StrLaws PySem.Builtin.Str in
theorem occ_lim (x y : Str) (limit : Nat) (hw : 1 ≤ y.length) : ∃ f, ChainG x y x.length 0 (occurrences x y 0 x.length limit) f ∧ (occurrences x y 0 x.length limit).length ≤ limit ∧
    ((occurrences x y 0 x.length limit).length < limit → ∀ k, f ≤ k → ¬ At x y x.length k) := by
  rw [occ_eq]
  have key := run_lim x y x.length limit 0 hw (x.length + 1 - 0) 0 ((#[] : Array Nat), 0) rfl (Nat.zero_le _) (fun _ k _ h => by omega)
  refine ⟨_, key.1, by simpa using key.2.1, fun hl k hk hA => ?_⟩
  exact key.2.2 (by simpa using hl) k hk (by have := hA.1; omega) hA
open PySem.StrLaws PySem.Builtin.Str in
theorem parts_cutN {x : Str} : ∀ (cuts : List Nat) (a f n : Nat), a ≤ (tl x).length → ChainG x ⟨#[32]⟩ x.length a cuts f → cuts.length ≤ n → (cuts.length < n → ∀ k, f ≤ k → ¬ At x ⟨#[32]⟩ x.length k) →
    (partsFrom x 1 a cuts).map tl = cutN n ((tl x).drop a)
  | [], a, f, n, ha, h, hc, hn => by
    have e : f = a := h
    subst e
    show [tl (strSub x f x.length)] = _
    rw [tl_strSub_end]
    cases n with
    | zero => rfl
    | succ n =>
      have hb : brk ((tl x).drop f) = none := by
        refine brk_none ?_
        have q := part_free x 32 f x.length (Nat.le_refl _) (fun k h1 _ => hn (Nat.succ_pos _) k h1)
        have q2 : 32 ∉ tl (strSub x f x.length) := q
        rw [tl_strSub_end] at q2
        exact q2
      unfold cutN
      rw [hb]
  | c :: r, a, f, n, ha, h, hc, hn => by
    obtain ⟨h1, h2, h3, h4⟩ := h
    have hc1 : c + 1 ≤ x.length := h2.1
    have hx := len_tl x
    cases n with
    | zero => simp at hc
    | succ n =>
      have ih := parts_cutN r (c + 1) f n (by omega) h4 (by simpa using hc) (fun hl => hn (by simpa using hl))
      show tl (strSub x a c) :: (partsFrom x 1 (c + 1) r).map tl = _
      have hat : (tl x)[c]? = some 32 := (subAt_one x 32 c).mp h2
      have q : 32 ∉ tl (strSub x a c) := part_free x 32 a c (by omega) (fun k k1 k2 => h3 k k1 k2)
      have hclt : c < (tl x).length := by omega
      have e : (tl x).drop a = tl (strSub x a c) ++ 32 :: (tl x).drop (c + 1) := by
        rw [tl_strSub]
        have e1 : (tl x).drop c = 32 :: (tl x).drop (c + 1) := by
          rw [List.drop_eq_getElem_cons hclt]
          congr 1
          rw [List.getElem?_eq_getElem hclt] at hat
          exact Option.some.inj hat
        have e2 : ((tl x).drop a).drop (c - a) = (tl x).drop c := by
          rw [List.drop_drop]
          congr 1
          omega
        rw [← e1, ← e2, List.take_append_drop]
      rw [e]
      unfold cutN
      rw [brk_app _ q, ih]
open PySem.StrLaws PySem.Builtin.Str in
/-- x.split(" ", k) -/
theorem splitMax_cutN (x : Str) {k : Int} (hk : 0 < k) : (Txt.splitMax x " " k).map tl = cutN k.toNat (tl x) := by
  have ey : (" " : Str) = ⟨#[32]⟩ := by decide
  rw [ey]
  have elim : limitOf x k = k.toNat := by unfold limitOf; rw [if_neg (by omega)]
  obtain ⟨f, g, hz, hn⟩ := occ_lim x ⟨#[32]⟩ k.toNat (by decide)
  have key := parts_cutN _ 0 f k.toNat (Nat.zero_le _) g hz hn
  rw [List.drop_zero] at key
  have none_case : occurrences x ⟨#[32]⟩ 0 x.length k.toNat = [] → [x].map tl = cutN k.toNat (tl x) := fun ho => by
    rw [ho] at key
    rw [← key]
    show [tl x] = [tl (strSub x 0 x.length)]
    rw [sub_whole]
  have hkind : ¬ Builtin.Str.strKind x < Builtin.Str.strKind ⟨#[32]⟩ := kind_ok (by decide +kernel)
  unfold Txt.splitMax
  rw [elim]
  by_cases h1 : (decide (x.length < (⟨#[32]⟩ : Str).length) || decide (Builtin.Str.strKind x < Builtin.Str.strKind ⟨#[32]⟩)) = true
  · rw [if_pos h1]
    have hlt : x.length < 1 := by
      simp only [Bool.or_eq_true, decide_eq_true_eq] at h1
      rcases h1 with h | h
      · exact h
      · exact absurd h hkind
    refine none_case ?_
    cases ho : occurrences x ⟨#[32]⟩ 0 x.length k.toNat with
    | nil => rfl
    | cons c r =>
      rw [ho] at g
      have hc : c + 1 ≤ x.length := g.2.1.1
      omega
  · rw [if_neg h1]
    by_cases h2 : (occurrences x ⟨#[32]⟩ 0 x.length k.toNat).isEmpty = true
    · rw [if_pos h2]
      exact none_case (List.isEmpty_iff.mp h2)
    · rw [if_neg h2, partsBetween_eq]
      exact key
/-! ### E2. more steps: texts, all, f-strings, pairs -/
section
variable {K : PySem.W.Frag} {σ : L2.St} {H : Hp} {Q : VK} {te : TE} {g : TG}
theorem g_allF {α : Type} {p : Addr} {l : List α} {b : α → Bool} (h : SqL K H p (l.map fun c => V.bl (b c))) (q : Q (.bl (l.all b)) H) : rAll K [.ref p] H Q := by
  have e : (l.map fun c => V.bl (b c)) = (l.map b).map V.bl := by rw [List.map_map]; rfl
  rw [e] at h
  refine g_all h ?_
  have e2 : (l.map b).all id = l.all b := by rw [List.all_map]; rfl
  rw [e2]
  exact q
theorem g_gtup2 {T : Addr} {x y : V} {i j : Nat} {Qs : L2.St → Hp → Prop} (h : SqT K H T [x, y]) (q : Qs ((σ.set i (some x)).set j (some y)) H) : gTup K 2 (gCons (gName i) (gCons (gName j) gNil)) (.ref T) σ H Qs :=
  ⟨T, [x, y], rfl, h, rfl, x, [y], rfl, y, [], rfl, rfl, q⟩
def rFmt (Q : VK) : VK := fun x H1 => (∃ y : Str, x = .str y ∧ y.length ≤ sizeLine ∧ Q (.str y) H1) ∨ ∃ i : Int, x = .int i ∧ i.natAbs.log2 < 1920 ∧ Q (.str (toString i)) H1
theorem g_fmt (q : te σ H (rFmt Q)) : tFmt te σ H Q := q
theorem g_fmtI {i : Int} (h : i.natAbs.log2 < 1920) (q : Q (.str (toString i)) H) : rFmt Q (.int i) H := .inr ⟨i, rfl, h, q⟩
theorem g_fmtS {z : Str} (h : z.length ≤ sizeLine) (q : Q (.str z) H) : rFmt Q (.str z) H := .inl ⟨z, rfl, h, q⟩
theorem g_jsN {acc : Str} {R : Str → Hp → Prop} (q : R acc H) : tJs [] acc σ H R := q
theorem g_jsC {t : TE} {ts : List TE} {acc : Str} {R : Str → Hp → Prop} (q : t σ H fun x H1 => ∃ y : Str, x = .str y ∧ (acc ++ y).length ≤ sizeLine ∧ tJs ts (acc ++ y) σ H1 R) : tJs (t :: ts) acc σ H R := q
theorem g_jsS {acc s : Str} {P : Str → Prop} (h : (acc ++ s).length ≤ sizeLine) (q : P s) : ∃ y, V.str s = .str y ∧ (acc ++ y).length ≤ sizeLine ∧ P y := ⟨s, rfl, h, q⟩
theorem log_small {i : Int} (h : i.natAbs < 2 ^ 64) : i.natAbs.log2 < 1920 := by
  by_cases h0 : i.natAbs = 0
  · rw [h0]; decide
  · have h1 := (Nat.log2_lt h0).mpr h
    omega
theorem len_app (a b : Str) : (a ++ b).length = a.length + b.length := by rw [len_tl, tl_append, List.length_append, ← len_tl, ← len_tl]
theorem tl_num' {i : Int} (h : 0 ≤ i) : tl (toString i : Str) = numL i.toNat := by
  obtain ⟨n, rfl⟩ := Int.eq_ofNat_of_zero_le h
  rw [Int.toNat_natCast]
  exact tl_num n
theorem len_num {i : Int} (h : 0 ≤ i) {k : Nat} (hk : 0 < k) (h1 : i.toNat < 10 ^ k) : (toString i : Str).length ≤ k := by
  rw [len_tl, tl_num' h]
  exact numL_len hk h1
theorem lt_sing (c d : Nat) : decide (([c] : List Nat) < [d]) = decide (c < d) := by
  by_cases h : c < d
  · have h2 : ([c] : List Nat) < [d] := List.Lex.rel h
    simp [h, h2]
  · have h2 : ¬ ([c] : List Nat) < [d] := fun z => by
      cases z with
      | rel r => exact h r
      | cons r => cases r
    simp [h, h2]
end
section
variable {K : PySem.W.Frag} {H : Hp} {Q : VK} {i : Int} {z : Str} {p : Addr}
theorem g_isNi (q : Q (.bl false) H) : rIsN (.int i) .non H Q := ⟨rfl, q⟩
theorem g_isNn (q : Q (.bl true) H) : rIsN .non .non H Q := ⟨rfl, q⟩
theorem g_isNr (q : Q (.bl false) H) : rIsN (.ref p) .non H Q := ⟨rfl, q⟩
theorem g_isNs (q : Q (.bl false) H) : rIsN (.str z) .non H Q := ⟨rfl, q⟩
theorem g_ntNi (q : Q (.bl true) H) : rNotN (.int i) .non H Q := ⟨rfl, q⟩
theorem g_ntNn (q : Q (.bl false) H) : rNotN .non .non H Q := ⟨rfl, q⟩
theorem g_ntNr (q : Q (.bl true) H) : rNotN (.ref p) .non H Q := ⟨rfl, q⟩
theorem g_ntNs (q : Q (.bl true) H) : rNotN (.str z) .non H Q := ⟨rfl, q⟩
theorem at_ints {ns : List Int} {i : Int} (h0 : 0 ≤ i) (h1 : i < ns.length) : atI (ns.map V.int) i = some (.int (ns.getD i.toNat 0)) := by
  obtain ⟨n, rfl⟩ := Int.eq_ofNat_of_zero_le h0
  refine atI_nat ?_
  have hn : n < ns.length := by omega
  rw [List.getElem?_map, List.getElem?_eq_getElem hn, Int.toNat_natCast, List.getD_eq_getElem?_getD, List.getElem?_eq_getElem hn]
  rfl
end
theorem join_signs (l : List Nat) : Txt.join "" (l.map fun c => (⟨#[c]⟩ : Str)) = stxt l := by
  refine ext_tl ?_
  rw [tl_glue, tl_stxt, List.map_map]
  induction l with
  | nil => rfl
  | cons c r ih => rw [List.map_cons, List.flatten_cons, ih]; rfl
theorem len_sing (c : Nat) : (⟨#[c]⟩ : Str).length = 1 := rfl
theorem g_joinC {K : PySem.W.Frag} {H : Hp} {Q : VK} {p : Addr} {l : List Nat} (h : SqL K H p (l.map fun c => V.str ⟨#[c]⟩)) (hl : l.length ≤ 1000000) (q : Q (.str (stxt l)) H) : rJoin K (.str "") [.ref p] H Q := by
  have e : (l.map fun c => V.str ⟨#[c]⟩) = (l.map fun c => (⟨#[c]⟩ : Str)).map V.str := by rw [List.map_map]; rfl
  rw [e] at h
  refine g_join h ?_ (by rw [join_signs]; exact q)
  have e1 : ((l.map fun c => (⟨#[c]⟩ : Str)).map (·.length)).sum = l.length := by
    rw [List.map_map]
    clear h e hl q
    induction l with
    | nil => rfl
    | cons c r ih =>
      rw [List.map_cons, List.sum_cons, ih, List.length_cons]
      show 1 + r.length = r.length + 1
      omega
  rw [e1, show ("" : Str).length = 0 by decide +kernel]
  omega
theorem at_codes {l : List Nat} {i : Int} (h0 : 0 ≤ i) (h1 : i < l.length) : atI l i = some (l.getD i.toNat 0) := by
  obtain ⟨n, rfl⟩ := Int.eq_ofNat_of_zero_le h0
  refine atI_nat ?_
  have hn : n < l.length := by omega
  rw [List.getElem?_eq_getElem hn, Int.toNat_natCast, List.getD_eq_getElem?_getD, List.getElem?_eq_getElem hn]
  rfl
theorem set_parts (l : List Nat) {p : Nat} (d : Nat) (h : p < l.length) : l.take p ++ ([d] ++ l.drop (p + 1)) = l.set p d := by
  rw [List.set_eq_take_append_cons_drop, if_pos h]
  rfl
def repS (n : Nat) (z : Str) : Str := stxt (List.replicate n (tl z)).flatten
theorem fold_rep (z : Array Nat) : ∀ (n : Nat) (acc : Array Nat), ((List.replicate n z).foldl (· ++ ·) acc).toList = acc.toList ++ (List.replicate n z.toList).flatten
  | 0, acc => by simp
  | n + 1, acc => by
    rw [List.replicate_succ, List.foldl_cons, fold_rep z n, List.replicate_succ, List.flatten_cons, Array.toList_append, List.append_assoc]
def rMulS : R2 := fun x y H Q => ∃ (z : Str) (n : Int), x = .str z ∧ y = .int n ∧ 0 ≤ n ∧ n ≤ 100000 ∧ z.length * n.toNat ≤ 1000000 ∧ Q (.str (repS n.toNat z)) H
theorem op_mulSN {X : Cx} : OpR X (binaryOp .Mult) rMulS := by
  intro pins s σ H x y v u Q I rx ry h
  obtain ⟨z, n, rfl, rfl, h0, h1, hz, q⟩ := h
  obtain ⟨t, rfl⟩ := rx
  obtain ⟨t', rfl⟩ := ry
  have hr : (decide (n < -(2 ^ 63 : Int)) || decide (n ≥ 2 ^ 63)) = false := by
    rw [decide_eq_false (by omega), decide_eq_false (by omega)]; rfl
  refine PySem.P.mul_str hr (fun hn _ => ?_) (fun hn _ => ?_) ?_
  · have hle : (z.length : Int) ≤ (2 ^ 63 - 1) / n := (Int.le_ediv_iff_mul_le (show 0 < n by omega)).mpr (by
      have e1 : ((z.length * n.toNat : Nat) : Int) = (z.length : Int) * n := by
        rw [Int.natCast_mul, Int.toNat_of_nonneg h0]
      omega)
    omega
  · unfold Builtin.Str.tooLong
    refine decide_eq_false ?_
    have : 1000000 ≤ sizeLine := by decide
    omega
  · by_cases hn : n < 1
    · rw [if_pos hn]
      have e : repS n.toNat z = Str.empty := by
        have : n.toNat = 0 := by omega
        rw [this]; rfl
      rw [e] at q
      exact ⟨by decide, .str Str.empty, H, I.tok _, ⟨_, rfl⟩, q⟩
    · rw [if_neg hn]
      by_cases h2 : (n == 1 || z.length == 0) = true
      · rw [if_pos h2]
        have e : repS n.toNat z = z := by
          rcases (Bool.or_eq_true _ _).mp h2 with h3 | h3
          · have : n.toNat = 1 := by have := eq_of_beq h3; omega
            rw [this]
            refine ext_tl ?_
            show (List.replicate 1 (tl z)).flatten = tl z
            simp
          · have h4 : (tl z).length = 0 := by rw [← len_tl]; exact eq_of_beq h3
            have h5 : tl z = [] := List.eq_nil_of_length_eq_zero h4
            refine ext_tl ?_
            show (List.replicate n.toNat (tl z)).flatten = tl z
            rw [h5]; simp
        rw [e] at q
        exact ⟨.str z, H, I, ⟨_, rfl⟩, q⟩
      · rw [if_neg h2]
        have e : (⟨(List.replicate n.toNat z.cps).foldl (· ++ ·) #[]⟩ : Str) = repS n.toNat z := ext_tl (by
          show ((List.replicate n.toNat z.cps).foldl (· ++ ·) #[]).toList = _
          rw [fold_rep]; rfl)
        rw [e]
        refine ⟨?_, .str (repS n.toNat z), H, I.tok _, ⟨_, rfl⟩, q⟩
        refine fits_of ?_
        have e2 : (repS n.toNat z).length = n.toNat * z.length := by
          unfold repS
          rw [len_stxt, len_tl]
          simp
        rw [e2, Nat.mul_comm]
        exact hz
theorem g_mulS {H : Hp} {Q : VK} {z : Str} {n : Int} (h : 0 ≤ n ∧ n ≤ 100000) (hz : z.length * n.toNat ≤ 1000000) (q : Q (.str (repS n.toNat z)) H) : rMulS (.str z) (.int n) H Q := ⟨z, n, rfl, rfl, h.1, h.2, hz, q⟩
theorem g_cat {H : Hp} {Q : VK} {l b : Addr} {xs zs : List V} (h : H l = some (.lst xs)) (h' : H b = some (.lst zs)) (hz : xs.length + zs.length ≤ sizeLine) (q : ∀ p, H p = none → Q (.ref p) (upd H p (.lst (xs ++ zs)))) : rCat (.ref l) (.ref b) H Q := ⟨l, b, xs, zs, rfl, rfl, h, h', hz, q⟩
theorem tl_cut_mid (z : Str) : tl (cutS z (some 1) (some (-1))) = ((tl z).drop 1).take ((tl z).length - 2) := by
  rw [tl_cutS]
  have e1 : HT.sIx z.length 0 (some 1) = min 1 (tl z).length := by
    show (if (1 : Int) < 0 then ((1 : Int) + (z.length : Int)).toNat else min (1 : Int).toNat z.length) = _
    rw [if_neg (by decide), len_tl]; rfl
  have e2 : HT.sIx z.length z.length (some (-1)) = (tl z).length - 1 := by
    show (if (-1 : Int) < 0 then (-1 + (z.length : Int)).toNat else min (-1 : Int).toNat z.length) = _
    rw [if_pos (by decide), len_tl]; omega
  rw [e1, e2]
  cases tl z with
  | nil => rfl
  | cons c r =>
    rw [List.length_cons, show min 1 (r.length + 1) = 1 by omega]
    congr 1
theorem tl_cut_from_neg (z : Str) {k : Nat} (h : 0 < k) {i : Int} (hi : i = -(k : Int)) : tl (cutS z (some i) none) = (tl z).drop ((tl z).length - k) := by subst hi; exact tl_cut_fromNeg z h
theorem tl_cut_to_neg (z : Str) {k : Nat} (h : 0 < k) {i : Int} (hi : i = -(k : Int)) : tl (cutS z none (some i)) = (tl z).take ((tl z).length - k) := by subst hi; exact tl_cut_toNeg z h
theorem strOk_of {l : List Nat} (h : ∀ c ∈ l, c ≤ 1000000) : PyData.strOk (stxt l) = true := by
  unfold PyData.strOk
  simp [stxt]
  intro x hx
  have := h x hx
  omega
/-! ### F. records: the plain law -/
theorem numL_head {n : Nat} (h : 0 < n) : ∃ c r, numL n = c :: r ∧ c ≠ 48 := by
  induction n using Nat.strongRecOn with
  | _ n ih =>
    by_cases h1 : n < 10
    · exact ⟨48 + n, [], numL_lt h1, by omega⟩
    · obtain ⟨c, r, e, hc⟩ := ih (n / 10) (by omega) (by omega)
      exact ⟨c, r ++ [48 + n % 10], by rw [numL_step (by omega), e]; rfl, hc⟩
/-- the number that a part writes with at most k digits -/
def numOf (k : Int) (l : List Nat) : Option Int :=
  if 1 ≤ l.length ∧ (l.length : Int) ≤ k ∧ (∀ c ∈ l, 48 ≤ c ∧ c ≤ 57) ∧ ¬ (1 < l.length ∧ l.head? = some 48) then some ((NumText.digitsVal l : Nat) : Int) else none
theorem numOf_numL {n k : Nat} (hk : 0 < k) (h : n < 10 ^ k) : numOf k (numL n) = some (n : Int) := by
  have h1 : (numL n).length ≤ k := numL_len hk h
  have h2 : 1 ≤ (numL n).length := by
    cases e : numL n with
    | nil => exact absurd e (numL_ne n)
    | cons c r => simp
  have hz : ¬ (1 < (numL n).length ∧ (numL n).head? = some 48) := by
    rintro ⟨hl, hh⟩
    by_cases h0 : 0 < n
    · obtain ⟨c, r, e, hc⟩ := numL_head h0
      rw [e] at hh
      exact hc (Option.some.inj hh)
    · have e0 : n = 0 := by omega
      subst e0
      rw [numL_lt (by decide)] at hl
      simp at hl
  unfold numOf
  rw [if_pos ⟨h2, by omega, numL_digits n, hz⟩, numL_val]
def three (n : Nat) : List Nat := List.replicate (3 - (numL n).length) 48 ++ numL n
theorem val_zeros : ∀ (k : Nat) (l : List Nat), NumText.digitsVal (List.replicate k 48 ++ l) = NumText.digitsVal l
  | 0, l => by simp
  | k + 1, l => by
    rw [List.replicate_succ, List.cons_append]
    have e : NumText.digitsVal (48 :: (List.replicate k 48 ++ l)) = NumText.digitsVal (List.replicate k 48 ++ l) := rfl
    rw [e, val_zeros k l]
theorem three_val (n : Nat) : NumText.digitsVal (three n) = n := by unfold three; rw [val_zeros, numL_val]
theorem three_inj {m n : Nat} (h : three m = three n) : m = n := by
  have e := congrArg NumText.digitsVal h
  rw [three_val, three_val] at e
  exact e
theorem three_len {n : Nat} (h : n < 1000) : (three n).length = 3 := by
  have h1 : (numL n).length ≤ 3 := numL_len (by decide) (by omega)
  unfold three
  rw [List.length_append, List.length_replicate]
  omega
theorem three_plain {n : Nat} : ∀ c ∈ three n, 32 ≤ c ∧ c ≤ 126 := fun c hc => by
  unfold three at hc
  rcases List.mem_append.mp hc with z | z
  · have := (List.mem_replicate.mp z).2
    omega
  · have := numL_digits n c z
    omega
def S1 : List Nat → Int
  | [] => 0
  | c :: r => (c : Int) + S1 r
def S2 : Int → List Nat → Int
  | _, [] => 0
  | k, c :: r => k * (c : Int) + S2 (k + 1) r
theorem S1_set : ∀ {l : List Nat} {p c x : Nat}, l[p]? = some x → S1 (l.set p c) = S1 l + ((c : Int) - x)
  | [], p, c, x, h => by simp at h
  | a :: r, 0, c, x, h => by
    have e : a = x := by simpa using h
    subst e
    show (c : Int) + S1 r = (a : Int) + S1 r + ((c : Int) - a)
    omega
  | a :: r, p + 1, c, x, h => by
    have ih := S1_set (l := r) (p := p) (c := c) (x := x) (by simpa using h)
    show (a : Int) + S1 (r.set p c) = (a : Int) + S1 r + ((c : Int) - x)
    omega
theorem S2_set : ∀ {l : List Nat} {p c x : Nat} (k : Int), l[p]? = some x → S2 k (l.set p c) = S2 k l + (k + p) * ((c : Int) - x)
  | [], p, c, x, k, h => by simp at h
  | a :: r, 0, c, x, k, h => by
    have e : a = x := by simpa using h
    subst e
    show k * (c : Int) + S2 (k + 1) r = k * (a : Int) + S2 (k + 1) r + (k + ((0 : Nat) : Int)) * ((c : Int) - a)
    have e2 : (k + ((0 : Nat) : Int)) * ((c : Int) - a) = k * c - k * a := by
      rw [show k + ((0 : Nat) : Int) = k by simp, Int.mul_sub]
    rw [e2]
    omega
  | a :: r, p + 1, c, x, k, h => by
    have ih := S2_set (l := r) (p := p) (c := c) (x := x) (k + 1) (by simpa using h)
    show k * (a : Int) + S2 (k + 1) (r.set p c) = k * (a : Int) + S2 (k + 1) r + (k + ((p + 1 : Nat) : Int)) * ((c : Int) - x)
    have e2 : k + ((p + 1 : Nat) : Int) = k + 1 + (p : Int) := by omega
    rw [ih, e2]
    omega
def chk (l : List Nat) : List Nat := three (S1 l % 997).toNat ++ three (S2 1 l % 997).toNat
theorem mod_lt (a : Int) : (a % 997).toNat < 1000 := by
  have h1 := Int.emod_nonneg a (show (997 : Int) ≠ 0 by decide)
  have h2 := Int.emod_lt_of_pos a (show (0 : Int) < 997 by decide)
  omega
theorem chk_len (l : List Nat) : (chk l).length = 6 := by
  unfold chk
  rw [List.length_append, three_len (mod_lt _), three_len (mod_lt _)]
theorem mod_eq_of {a b : Int} (h : (a % 997).toNat = (b % 997).toNat) : (997 : Int) ∣ a - b := by
  have h1 := Int.emod_nonneg a (show (997 : Int) ≠ 0 by decide)
  have h2 := Int.emod_nonneg b (show (997 : Int) ≠ 0 by decide)
  have e : a % 997 = b % 997 := by omega
  omega
theorem cop : ∀ a : Nat, a < 997 → a ≠ 0 → Nat.gcd 997 a = 1 := by
  have h : ∀ a : Fin 997, a.val ≠ 0 → Nat.gcd 997 a.val = 1 := by decide +kernel
  exact fun a ha h0 => h ⟨a, ha⟩ h0
theorem prime997 {a b : Int} (h : (997 : Int) ∣ a * b) (ha : a.natAbs < 997) (hb : b.natAbs < 997) : a = 0 ∨ b = 0 := by
  by_cases h0 : a = 0
  · exact .inl h0
  · right
    have h1 : (997 : Nat) ∣ a.natAbs * b.natAbs := by
      have := Int.natAbs_dvd_natAbs.mpr h
      rw [Int.natAbs_mul] at this
      exact this
    have h2 : Nat.Coprime 997 a.natAbs := cop _ ha (by omega)
    have h3 : (997 : Nat) ∣ b.natAbs := h2.dvd_of_dvd_mul_left h1
    have h4 := Nat.eq_zero_of_dvd_of_lt h3 hb
    omega
/-- the three digits of two sums that are the same -/
theorem chk_inj {l m : List Nat} (h : chk l = chk m) : (997 : Int) ∣ S1 l - S1 m ∧ (997 : Int) ∣ S2 1 l - S2 1 m := by
  unfold chk at h
  obtain ⟨h1, h2⟩ := List.append_inj h (by rw [three_len (mod_lt _), three_len (mod_lt _)])
  exact ⟨mod_eq_of (three_inj h1), mod_eq_of (three_inj h2)⟩
theorem small_dvd {a : Int} (h : (997 : Int) ∣ a) (ha : a.natAbs < 997) : a = 0 := by
  have h3 : (997 : Nat) ∣ a.natAbs := Int.natAbs_dvd_natAbs.mpr h
  have h4 := Nat.eq_zero_of_dvd_of_lt h3 ha
  omega
theorem set_self {l : List Nat} {p x : Nat} (h : l[p]? = some x) : l.set p x = l := by
  apply List.ext_getElem?
  intro k
  by_cases hk : p = k
  · subst hk
    rw [List.getElem?_set_self (List.getElem?_eq_some_iff.mp h).1, h]
  · rw [List.getElem?_set_ne hk]
/-- one sign of the head replaced: both sums change -/
theorem one_head {l : List Nat} {p c x : Nat} (hx : l[p]? = some x) (hl : l.length ≤ 996) (hc : c ≤ 126) (hxb : x ≤ 126) (hne : c ≠ x) :
    ¬ (997 : Int) ∣ S1 (l.set p c) - S1 l ∧ ¬ (997 : Int) ∣ S2 1 (l.set p c) - S2 1 l := by
  have hp : p < l.length := (List.getElem?_eq_some_iff.mp hx).1
  have e1 : S1 (l.set p c) - S1 l = (c : Int) - x := by rw [S1_set hx]; omega
  have e2 : S2 1 (l.set p c) - S2 1 l = (1 + (p : Int)) * ((c : Int) - x) := by rw [S2_set 1 hx]; omega
  rw [e1, e2]
  refine ⟨fun h => ?_, fun h => ?_⟩
  · have := small_dvd h (by omega)
    omega
  · rcases prime997 h (by omega) (by omega) with z | z <;> omega
/-- two signs of the head replaced: not both sums stay -/
theorem two_head {l : List Nat} {p q c d x y : Nat} (hx : l[p]? = some x) (hy : l[q]? = some y) (hpq : p ≠ q) (hl : l.length ≤ 996) (hc : c ≤ 126) (hd : d ≤ 126) (hxb : x ≤ 126) (hyb : y ≤ 126)
    (h1 : (997 : Int) ∣ S1 ((l.set p c).set q d) - S1 l) (h2 : (997 : Int) ∣ S2 1 ((l.set p c).set q d) - S2 1 l) : c = x ∧ d = y := by
  have hp : p < l.length := (List.getElem?_eq_some_iff.mp hx).1
  have hq : q < l.length := (List.getElem?_eq_some_iff.mp hy).1
  have hy' : (l.set p c)[q]? = some y := by rw [List.getElem?_set_ne hpq, hy]
  have e1 : S1 ((l.set p c).set q d) - S1 l = ((c : Int) - x) + ((d : Int) - y) := by rw [S1_set hy', S1_set hx]; omega
  have e2 : S2 1 ((l.set p c).set q d) - S2 1 l = (1 + (p : Int)) * ((c : Int) - x) + (1 + (q : Int)) * ((d : Int) - y) := by rw [S2_set 1 hy', S2_set 1 hx]; omega
  rw [e1] at h1
  rw [e2] at h2
  have h0 : ((c : Int) - x) + ((d : Int) - y) = 0 := small_dvd h1 (by omega)
  have e3 : ((d : Int) - y) = -((c : Int) - x) := by omega
  rw [e3] at h2
  have e4 : (1 + (p : Int)) * ((c : Int) - x) + (1 + (q : Int)) * (-((c : Int) - x)) = ((p : Int) - q) * ((c : Int) - x) := by
    rw [Int.mul_neg, ← Int.sub_eq_add_neg, ← Int.sub_mul]
    congr 1
    omega
  rw [e4] at h2
  rcases prime997 h2 (by omega) (by omega) with z | z <;> omega
theorem set_ge {l : List Nat} {p c n : Nat} (h : n ≤ p) : (l.set p c).take n = l.take n := by
  rw [List.take_set, List.set_eq_of_length_le (by rw [List.length_take]; omega)]
theorem set_lt_drop {l : List Nat} {p c n : Nat} (h : p < n) : (l.set p c).drop n = l.drop n := by
  rw [List.drop_set, if_pos h]
theorem set_lt_take {l : List Nat} {p c n : Nat} : (l.set p c).take n = (l.take n).set p c := List.take_set
theorem set_ge_drop {l : List Nat} {p c n : Nat} (h : n ≤ p) : (l.set p c).drop n = (l.drop n).set (p - n) c := by
  rw [List.drop_set, if_neg (by omega)]
/-- two lists of three at both ends of a list that is changed at one place -/
theorem one_place {a b a' b' : List Nat} {s e : Nat} (ha : a.length = 3) (ha' : a'.length = 3) (h : 32 :: (a' ++ b') = (32 :: (a ++ b)).set s e) : a' = a ∨ b' = b := by
  cases s with
  | zero =>
    have h2 : a' ++ b' = a ++ b := by
      have : (32 :: (a ++ b)).set 0 e = e :: (a ++ b) := rfl
      rw [this] at h
      exact (List.cons.inj h).2
    exact .inl (List.append_inj h2 (by omega)).1
  | succ s =>
    have h2 : a' ++ b' = (a ++ b).set s e := by
      have : (32 :: (a ++ b)).set (s + 1) e = 32 :: ((a ++ b).set s e) := rfl
      rw [this] at h
      exact (List.cons.inj h).2
    rw [List.set_append] at h2
    by_cases hs : s < a.length
    · rw [if_pos hs] at h2
      exact .inr (List.append_inj h2 (by rw [List.length_set]; omega)).2
    · rw [if_neg hs] at h2
      exact .inl (List.append_inj h2 (by omega)).1
/-- THE LAW of replaced signs: hd a head, the line hd, a blank, its digits; at most two places replaced -/
theorem replaced_law {hd : List Nat} {p q c d : Nat} (hl : hd.length ≤ 996) (hb : ∀ x ∈ hd, x ≤ 126) (hc : c ≤ 126) (hdd : d ≤ 126)
    (hp : p < hd.length + 7) (hq : q < hd.length + 7)
    (e : (((hd ++ 32 :: chk hd).set p c).set q d).drop hd.length = 32 :: chk ((((hd ++ 32 :: chk hd).set p c).set q d).take hd.length)) :
    ((hd ++ 32 :: chk hd).set p c).set q d = hd ++ 32 :: chk hd := by
  have t0 : (hd ++ 32 :: chk hd).take hd.length = hd := by simp
  have d0 : (hd ++ 32 :: chk hd).drop hd.length = 32 :: chk hd := by simp
  have back : ∀ L' : List Nat, L'.take hd.length = hd → L'.drop hd.length = 32 :: chk (L'.take hd.length) → L' = hd ++ 32 :: chk hd := fun L' h1 h2 => by
    rw [← List.take_append_drop hd.length L', h2, h1]
  have get : ∀ k, k < hd.length → ∃ x, hd[k]? = some x ∧ x ≤ 126 := fun k hk => ⟨hd[k], List.getElem?_eq_getElem hk, hb _ (List.getElem_mem hk)⟩
  by_cases hpn : p < hd.length
  · by_cases hqn : q < hd.length
    · -- both in the head: the digits stay
      have td : (((hd ++ 32 :: chk hd).set p c).set q d).drop hd.length = 32 :: chk hd := by rw [set_lt_drop hqn, set_lt_drop hpn, d0]
      have tt : (((hd ++ 32 :: chk hd).set p c).set q d).take hd.length = (hd.set p c).set q d := by rw [set_lt_take, set_lt_take, t0]
      rw [td, tt] at e
      obtain ⟨k1, k2⟩ := chk_inj (List.cons.inj e).2.symm
      refine back _ ?_ (by rw [td, tt]; exact e)
      rw [tt]
      obtain ⟨x, hx, hxb⟩ := get p hpn
      by_cases hpq : p = q
      · subst hpq
        rw [List.set_set] at k1 k2 ⊢
        by_cases hdx : d = x
        · subst hdx; exact set_self hx
        · exact absurd k1 (one_head hx hl hdd hxb hdx).1
      · obtain ⟨y, hy, hyb⟩ := get q hqn
        obtain ⟨e1, e2⟩ := two_head hx hy hpq hl hc hdd hxb hyb k1 k2
        subst e1; subst e2
        rw [set_self hx, set_self hy]
    · -- p in the head, q behind it
      have td : (((hd ++ 32 :: chk hd).set p c).set q d).drop hd.length = (32 :: chk hd).set (q - hd.length) d := by rw [set_ge_drop (by omega), set_lt_drop hpn, d0]
      have tt : (((hd ++ 32 :: chk hd).set p c).set q d).take hd.length = hd.set p c := by rw [set_ge (by omega), set_lt_take, t0]
      have e' := e
      rw [td, tt] at e'
      obtain ⟨x, hx, hxb⟩ := get p hpn
      by_cases hcx : c = x
      · subst hcx
        exact back _ (by rw [tt, set_self hx]) e
      · exfalso
        obtain ⟨n1, n2⟩ := one_head hx hl hc hxb hcx
        unfold chk at e'
        rcases one_place (three_len (mod_lt _)) (three_len (mod_lt _)) e'.symm with z | z
        · exact n1 (mod_eq_of (three_inj z))
        · exact n2 (mod_eq_of (three_inj z))
  · by_cases hqn : q < hd.length
    · have td : (((hd ++ 32 :: chk hd).set p c).set q d).drop hd.length = (32 :: chk hd).set (p - hd.length) c := by rw [set_lt_drop hqn, set_ge_drop (by omega), d0]
      have tt : (((hd ++ 32 :: chk hd).set p c).set q d).take hd.length = hd.set q d := by rw [set_lt_take, set_ge (by omega), t0]
      have e' := e
      rw [td, tt] at e'
      obtain ⟨x, hx, hxb⟩ := get q hqn
      by_cases hcx : d = x
      · subst hcx
        exact back _ (by rw [tt, set_self hx]) e
      · exfalso
        obtain ⟨n1, n2⟩ := one_head hx hl hdd hxb hcx
        unfold chk at e'
        rcases one_place (three_len (mod_lt _)) (three_len (mod_lt _)) e'.symm with z | z
        · exact n1 (mod_eq_of (three_inj z))
        · exact n2 (mod_eq_of (three_inj z))
    · exact back _ (by rw [set_ge (by omega), set_ge (by omega), t0]) e
/-! the mirror of records -/
def plainL (l : List Nat) : Bool := l.all fun c => decide (32 ≤ c) && decide (c ≤ 126)
def headL (n : Int) (body : List Nat) : List Nat := numL body.length ++ 32 :: (numL n.toNat ++ 32 :: body)
def lineL (n : Int) (body : List Nat) : List Nat := headL n body ++ 32 :: chk (headL n body)
def readRec (l : List Nat) : Option (Int × List Nat) :=
  if plainL l = true ∧ l.drop (l.length - 7) = 32 :: chk (l.take (l.length - 7)) then
    match cutN 2 (l.take (l.length - 7)) with
    | [a, b, c] => match numOf 3 a, numOf 6 b with
      | some s, some n => if s = (c.length : Int) ∧ 1 ≤ s ∧ s ≤ 700 then some (n, c) else none
      | _, _ => none
    | _ => none
  else none
theorem cut_head {n : Int} {body : List Nat} : cutN 2 (headL n body) = [numL body.length, numL n.toNat, body] := by
  unfold headL cutN
  rw [brk_app _ (numL_free (.inl (by decide)))]
  show _ :: cutN 1 _ = _
  unfold cutN
  rw [brk_app _ (numL_free (.inl (by decide)))]
  rfl
theorem headL_plain {n : Int} {body : List Nat} (h : ∀ c ∈ body, 32 ≤ c ∧ c ≤ 126) : ∀ c ∈ headL n body, 32 ≤ c ∧ c ≤ 126 := fun c hc => by
  unfold headL at hc
  rcases List.mem_append.mp hc with z | z
  · have := numL_digits _ c z; omega
  · rcases List.mem_cons.mp z with z | z
    · omega
    · rcases List.mem_append.mp z with z | z
      · have := numL_digits _ c z; omega
      · rcases List.mem_cons.mp z with z | z
        · omega
        · exact h c z
theorem chk_plain (l : List Nat) : ∀ c ∈ chk l, 32 ≤ c ∧ c ≤ 126 := fun c hc => by
  unfold chk at hc
  rcases List.mem_append.mp hc with z | z
  · exact three_plain c z
  · exact three_plain c z
theorem lineL_plain {n : Int} {body : List Nat} (h : ∀ c ∈ body, 32 ≤ c ∧ c ≤ 126) : ∀ c ∈ lineL n body, 32 ≤ c ∧ c ≤ 126 := fun c hc => by
  unfold lineL at hc
  rcases List.mem_append.mp hc with z | z
  · exact headL_plain h c z
  · rcases List.mem_cons.mp z with z | z
    · omega
    · exact chk_plain _ c z
theorem lineL_len (n : Int) (body : List Nat) : (lineL n body).length = (headL n body).length + 7 := by
  unfold lineL
  rw [List.length_append, List.length_cons, chk_len]
theorem headL_len {n : Int} {body : List Nat} (h0 : 0 ≤ n) (h1 : n < 1000000) (hb : body.length < 1000) : (headL n body).length ≤ 11 + body.length := by
  have e1 : (numL body.length).length ≤ 3 := numL_len (by decide) hb
  have e2 : (numL n.toNat).length ≤ 6 := numL_len (by decide) (by show n.toNat < 1000000; omega)
  unfold headL
  rw [List.length_append, List.length_cons, List.length_append, List.length_cons]
  omega
theorem read_line {n : Int} {body : List Nat} (h0 : 0 ≤ n) (h1 : n < 1000000) (hb : 1 ≤ body.length) (hb2 : body.length ≤ 700) (hp : ∀ c ∈ body, 32 ≤ c ∧ c ≤ 126) : readRec (lineL n body) = some (n, body) := by
  have e1 : (lineL n body).length - 7 = (headL n body).length := by rw [lineL_len]; omega
  have e2 : (lineL n body).take (headL n body).length = headL n body := by unfold lineL; simp
  have e3 : (lineL n body).drop (headL n body).length = 32 :: chk (headL n body) := by unfold lineL; simp
  have e4 : plainL (lineL n body) = true := by
    unfold plainL
    rw [List.all_eq_true]
    intro c hc
    have := lineL_plain hp c hc
    simp [this.1, this.2]
  have e5 : numOf 3 (numL body.length) = some ((body.length : Nat) : Int) := numOf_numL (k := 3) (by decide) (by show body.length < 1000; omega)
  have e6 : numOf 6 (numL n.toNat) = some ((n.toNat : Nat) : Int) := numOf_numL (k := 6) (by decide) (by show n.toNat < 1000000; omega)
  have e7 : ((n.toNat : Nat) : Int) = n := by omega
  unfold readRec
  rw [e1, e2, e3, if_pos ⟨e4, rfl⟩, cut_head]
  simp only [e5, e6, e7]
  rw [if_pos ⟨trivial, by omega, by omega⟩]
theorem cutN2_cases (l : List Nat) : (∃ a b c, cutN 2 l = [a, b, c]) ∨ (cutN 2 l).length < 3 := by
  unfold cutN
  cases brk l with
  | none => exact .inr (by simp)
  | some p =>
    obtain ⟨a, r⟩ := p
    show (∃ a' b c, a :: cutN 1 r = [a', b, c]) ∨ (a :: cutN 1 r).length < 3
    unfold cutN
    cases brk r with
    | none => exact .inr (by simp)
    | some p =>
      obtain ⟨b, c⟩ := p
      exact .inl ⟨a, b, c, rfl⟩
theorem map_tl3 {ps : List Str} {a b c : List Nat} (h : ps.map tl = [a, b, c]) : ps = [stxt a, stxt b, stxt c] := map_tl_inj h
/-! heads that are none -/
def recHead (hd : List Nat) : Option (Int × List Nat) :=
  match cutN 2 hd with
  | [a, b, c] => match numOf 3 a, numOf 6 b with
    | some s, some n => if s = (c.length : Int) ∧ 1 ≤ s ∧ s ≤ 700 then some (n, c) else none
    | _, _ => none
  | _ => none
theorem readRec_head (l : List Nat) : readRec l = if plainL l = true ∧ l.drop (l.length - 7) = 32 :: chk (l.take (l.length - 7)) then recHead (l.take (l.length - 7)) else none := rfl
theorem read_none {l : List Nat} (h : recHead (l.take (l.length - 7)) = none) : readRec l = none := by
  rw [readRec_head, h]
  split <;> rfl
theorem checked_none {hd : List Nat} (h : recHead hd = none) : readRec (hd ++ 32 :: chk hd) = none := by
  refine read_none ?_
  have e : (hd ++ 32 :: chk hd).length - 7 = hd.length := by rw [List.length_append, List.length_cons, chk_len]; omega
  rw [e, List.take_left]
  exact h
theorem cut3 {a b : List Nat} (c : List Nat) (ha : 32 ∉ a) (hb : 32 ∉ b) : cutN 2 (a ++ 32 :: (b ++ 32 :: c)) = [a, b, c] := by
  unfold cutN
  rw [brk_app _ ha]
  show _ :: cutN 1 _ = _
  unfold cutN
  rw [brk_app _ hb]
  rfl
theorem cut2 {a b : List Nat} (ha : 32 ∉ a) (hb : 32 ∉ b) : cutN 2 (a ++ 32 :: b) = [a, b] := by
  unfold cutN
  rw [brk_app _ ha]
  show _ :: cutN 1 _ = _
  unfold cutN
  rw [brk_none hb]
theorem cut1 {a : List Nat} (ha : 32 ∉ a) : cutN 2 a = [a] := by
  unfold cutN
  rw [brk_none ha]
theorem recHead3 {a b : List Nat} (c : List Nat) (ha : 32 ∉ a) (hb : 32 ∉ b) (h : ∀ s n, numOf 3 a = some s → numOf 6 b = some n → ¬ (s = (c.length : Int) ∧ 1 ≤ s ∧ s ≤ 700)) : recHead (a ++ 32 :: (b ++ 32 :: c)) = none := by
  unfold recHead
  rw [cut3 c ha hb]
  show (match numOf 3 a, numOf 6 b with
    | some s, some n => if s = (c.length : Int) ∧ 1 ≤ s ∧ s ≤ 700 then some (n, c) else none
    | _, _ => none) = none
  cases e1 : numOf 3 a with
  | none => rfl
  | some s =>
    cases e2 : numOf 6 b with
    | none => rfl
    | some n => exact if_neg (h s n e1 e2)
theorem numOf_zero {k : Int} {l : List Nat} (h : 1 ≤ l.length) : numOf k (48 :: l) = none := by
  unfold numOf
  rw [if_neg]
  rintro ⟨_, _, _, hn⟩
  exact hn ⟨by rw [List.length_cons]; omega, rfl⟩
theorem numOf_bad {k : Int} {c : Nat} {l : List Nat} (h : ¬ (48 ≤ c ∧ c ≤ 57)) : numOf k (c :: l) = none := by
  unfold numOf
  rw [if_neg]
  rintro ⟨_, _, hd, _⟩
  exact h (hd c List.mem_cons_self)
theorem numOf_nil {k : Int} : numOf k [] = none := by
  unfold numOf
  rw [if_neg]
  rintro ⟨h, _⟩
  exact absurd h (by decide)
theorem numL_pos (n : Nat) : 1 ≤ (numL n).length := by
  cases e : numL n with
  | nil => exact absurd e (numL_ne n)
  | cons c r => simp
theorem free32 (n : Nat) : 32 ∉ numL n := numL_free (.inl (by decide))
theorem chk_ge (l : List Nat) : ∀ c ∈ chk l, 48 ≤ c := fun c hc => by
  have h3 : ∀ n, ∀ c ∈ three n, 48 ≤ c := fun n c hc => by
    unfold three at hc
    rcases List.mem_append.mp hc with z | z
    · rw [(List.mem_replicate.mp z).2]; omega
    · exact (numL_digits n c z).1
  unfold chk at hc
  rcases List.mem_append.mp hc with z | z
  · exact h3 _ c z
  · exact h3 _ c z
/-- a beginning of a line is none -/
theorem prefix_none {n : Int} {body : List Nat} {cut : Nat} (hb : body.length ≤ 700) (hc : cut < (lineL n body).length) : readRec ((lineL n body).take cut) = none := by
  have ll := lineL_len n body
  refine read_none ?_
  rw [List.length_take, Nat.min_eq_left (by omega), List.take_take, Nat.min_eq_left (by omega)]
  have e1 : (lineL n body).take (cut - 7) = (headL n body).take (cut - 7) := by
    unfold lineL
    rw [List.take_append_of_le_length (by omega)]
  rw [e1]
  have hm : cut - 7 < (headL n body).length ∨ (headL n body).length = 0 := by omega
  have hpos : 0 < (headL n body).length := by
    unfold headL
    have := numL_pos body.length
    rw [List.length_append]; omega
  have hm : cut - 7 < (headL n body).length := by omega
  generalize cut - 7 = m at hm ⊢
  have hlen : (headL n body).length = (numL body.length).length + 1 + (numL n.toNat).length + 1 + body.length := by
    unfold headL
    rw [List.length_append, List.length_cons, List.length_append, List.length_cons]; omega
  unfold headL
  rw [List.take_append]
  by_cases h1 : m ≤ (numL body.length).length
  · have e2 : m - (numL body.length).length = 0 := by omega
    rw [e2, List.take_zero, List.append_nil]
    unfold recHead
    rw [cut1 (fun hm => free32 _ (List.mem_of_mem_take hm))]
  · rw [List.take_of_length_le (show (numL body.length).length ≤ m by omega)]
    obtain ⟨m2, hm2⟩ : ∃ m2, m - (numL body.length).length = m2 + 1 := ⟨m - (numL body.length).length - 1, by omega⟩
    rw [hm2, List.take_succ_cons, List.take_append]
    by_cases h2 : m2 ≤ (numL n.toNat).length
    · have e2 : m2 - (numL n.toNat).length = 0 := by omega
      rw [e2, List.take_zero, List.append_nil]
      unfold recHead
      rw [cut2 (free32 _) (fun hm => free32 _ (List.mem_of_mem_take hm))]
    · rw [List.take_of_length_le (show (numL n.toNat).length ≤ m2 by omega)]
      obtain ⟨m3, hm3⟩ : ∃ m3, m2 - (numL n.toNat).length = m3 + 1 := ⟨m2 - (numL n.toNat).length - 1, by omega⟩
      rw [hm3, List.take_succ_cons]
      refine recHead3 _ (free32 _) (free32 _) fun s k hs _ hh => ?_
      have e3 : numOf 3 (numL body.length) = some ((body.length : Nat) : Int) := numOf_numL (k := 3) (by decide) (by show body.length < 1000; omega)
      rw [e3] at hs
      have e4 : ((body.length : Nat) : Int) = s := Option.some.inj hs
      have e5 := hh.1
      rw [List.length_take] at e5
      omega
theorem plus_nl {l : List Nat} : readRec (l ++ [10]) = none := by
  rw [readRec_head, if_neg]
  rintro ⟨h, _⟩
  unfold plainL at h
  rw [List.all_append] at h
  simp at h
theorem plus_blank {n : Int} {body : List Nat} : readRec (lineL n body ++ [32]) = none := by
  rw [readRec_head, if_neg]
  rintro ⟨_, h⟩
  have ll := lineL_len n body
  have e : (lineL n body ++ [32]).length - 7 = (headL n body).length + 1 := by rw [List.length_append, ll, List.length_singleton]; omega
  rw [e] at h
  have e2 : (lineL n body ++ [32]).drop ((headL n body).length + 1) = chk (headL n body) ++ [32] := by
    unfold lineL
    rw [List.append_assoc, List.drop_append]
    rw [List.drop_of_length_le (by omega)]
    rw [show (headL n body).length + 1 - (headL n body).length = 1 by omega]
    rfl
  rw [e2] at h
  cases e3 : chk (headL n body) with
  | nil => have := chk_len (headL n body); rw [e3] at this; simp at this
  | cons c r =>
    rw [e3] at h
    have h5 := (List.cons.inj h).1
    have := chk_ge (headL n body) c (by rw [e3]; exact List.mem_cons_self)
    omega
theorem blank_line {n : Int} {body : List Nat} : readRec (32 :: lineL n body) = none := by
  have ll := lineL_len n body
  refine read_none ?_
  have e : (32 :: lineL n body).length - 7 = (headL n body).length + 1 := by rw [List.length_cons, ll]; omega
  rw [e, List.take_succ_cons]
  have e2 : (lineL n body).take (headL n body).length = headL n body := by unfold lineL; simp
  rw [e2]
  unfold recHead cutN
  have e3 : brk (32 :: headL n body) = some ([], headL n body) := brk_app (a := []) _ (by simp)
  rw [e3]
  show (match [] :: cutN 1 (headL n body) with
    | [a, b, c] => _
    | _ => none) = none
  generalize cutN 1 (headL n body) = r
  match r with
  | [] => rfl
  | [_] => rfl
  | [b, c] =>
    show (match numOf 3 [], numOf 6 b with
      | some s, some n => if s = (c.length : Int) ∧ 1 ≤ s ∧ s ≤ 700 then some (n, c) else none
      | _, _ => none) = none
    rw [numOf_nil]
  | _ :: _ :: _ :: _ => rfl
def ckd (l : List Nat) : List Nat := l ++ 32 :: chk l
theorem ckd_none {hd : List Nat} (h : recHead hd = none) : readRec (ckd hd) = none := checked_none h
theorem ckd_len (l : List Nat) : (ckd l).length = l.length + 7 := by unfold ckd; rw [List.length_append, List.length_cons, chk_len]
/-! ### more steps: dicts with texts as keys, isinstance, str of a part, slices of tuples -/
section
variable {X : Cx} {K : PySem.W.Frag} {H : Hp} {Q : VK} {σ : L2.St} {D : Ends}
theorem q_of {R : VK} {H H0 : Hp} {b c : Bool} (q : ∀ H', Ex H0 H' → R (.bl c) H') (x : Ex H0 H) (e : c = b) : R (.bl b) H := by rw [← e]; exact q H x
def rIEn (K : PySem.W.Frag) (R : It → Hp → Prop) : List V → Hp → Prop := fun vs H1 => ∃ a xs, vs = [.ref a] ∧ SqL K H1 a xs ∧ R (Ite K a) H1
theorem g_iEnum {ta : TA} {R : It → Hp → Prop} (q : ta σ H (rIEn K R)) : iEnum K ta σ H R := q
theorem g_enL {R : It → Hp → Prop} {a : Addr} {xs : List V} (h : SqL K H a xs) (q : R (Ite K a) H) : rIEn K R [.ref a] H := ⟨a, xs, rfl, h, q⟩
def rListOf (K : PySem.W.Frag) : List V → Hp → VK → Prop := fun xs H Q => ∃ p ys, xs = [.ref p] ∧ (SqL K H p ys ∨ SqT K H p ys) ∧ ∀ l, H l = none → Q (.ref l) (upd H l (.lst ys))
theorem call_listK (h : X.K = K) : CallR X (.type "list") (rListOf K) := by subst h; exact call_list_of
theorem g_listL {p : Addr} {ys : List V} (h : SqL K H p ys) (q : ∀ l, H l = none → Q (.ref l) (upd H l (.lst ys))) : rListOf K [.ref p] H Q := ⟨p, ys, rfl, .inl h, q⟩
theorem g_listT {p : Addr} {ys : List V} (h : SqT K H p ys) (q : ∀ l, H l = none → Q (.ref l) (upd H l (.lst ys))) : rListOf K [.ref p] H Q := ⟨p, ys, rfl, .inr h, q⟩
theorem g_dnew (q : ∀ p, H p = none → Q (.ref p) (upd H p (.dK []))) : tDNewK σ H Q := q
def rDIn : V → V → Hp → VK → Prop := fun y x H Q => ∃ a o, x = .ref a ∧ DGet H a y o ∧ Q (.bl o.isSome) H
theorem g_din {ty td : TE} (q : ty σ H fun y H1 => td σ H1 fun x H2 => rDIn y x H2 Q) : tDIn ty td σ H Q := q
def rDNin : V → V → Hp → VK → Prop := fun y x H Q => ∃ a o, x = .ref a ∧ DGet H a y o ∧ Q (.bl (!o.isSome)) H
theorem g_dnin {ty td : TE} (q : ty σ H fun y H1 => td σ H1 fun x H2 => rDNin y x H2 Q) : tDNotIn ty td σ H Q := q
theorem g_dinS {a : Addr} {kvs : List (Key × V)} {z : Str} (h : H a = some (.dK kvs)) (q : Q (.bl (valV kvs (Sum.inr z)).isSome) H) : rDIn (.str z) (.ref a) H Q := ⟨a, _, rfl, DGet.k (k := Sum.inr z) h, q⟩
theorem g_dninS {a : Addr} {kvs : List (Key × V)} {z : Str} (h : H a = some (.dK kvs)) (q : Q (.bl (!(valV kvs (Sum.inr z)).isSome)) H) : rDNin (.str z) (.ref a) H Q := ⟨a, _, rfl, DGet.k (k := Sum.inr z) h, q⟩
def rDPut (D : Ends) (σ : L2.St) : V → V → V → Hp → Prop := fun v x y H3 => ∃ a H4, x = .ref a ∧ DPut H3 a y v H4 ∧ D.nx σ H4
theorem g_dput {td ty tv : TE} (q : tv σ H fun v H1 => td σ H1 fun x H2 => ty σ H2 fun y H3 => rDPut D σ v x y H3) : sDPut td ty tv D σ H := q
theorem g_dputS {a : Addr} {kvs : List (Key × V)} {z : Str} {v : V} (h : H a = some (.dK kvs)) (hz : kvs.length < sizeLine) (q : D.nx σ (upd H a (.dK (putK kvs (Sum.inr z) v)))) : rDPut D σ v (.ref a) (.str z) H :=
  ⟨a, _, rfl, DPut.k (k := Sum.inr z) h hz, q⟩
theorem g_eqB {b c : Bool} (q : Q (.bl (decide (b = c))) H) : rEq (.bl b) (.bl c) H Q := ⟨rfl, by
  have e : decide (V.bl b = V.bl c) = decide (b = c) := by rw [Bool.eq_iff_iff]; simp
  rw [e]; exact q⟩
theorem g_neB {b c : Bool} (q : Q (.bl (!decide (b = c))) H) : rNe (.bl b) (.bl c) H Q := ⟨rfl, by
  have e : decide (V.bl b = V.bl c) = decide (b = c) := by rw [Bool.eq_iff_iff]; simp
  rw [e]; exact q⟩
theorem kit_str_str : kitB "str" "str" = some true := by decide +kernel
theorem kit_str_int : kitB "str" "int" = some false := by decide +kernel
theorem kit_str_bool : kitB "str" "bool" = some false := by decide +kernel
theorem kit_str_tuple : kitB "str" "tuple" = some false := by decide +kernel
theorem kit_str_list : kitB "str" "list" = some false := by decide +kernel
theorem kit_str_dict : kitB "str" "dict" = some false := by decide +kernel
theorem kit_int_str : kitB "int" "str" = some false := by decide +kernel
theorem kit_int_int : kitB "int" "int" = some true := by decide +kernel
theorem kit_int_bool : kitB "int" "bool" = some false := by decide +kernel
theorem kit_int_tuple : kitB "int" "tuple" = some false := by decide +kernel
theorem kit_int_list : kitB "int" "list" = some false := by decide +kernel
theorem kit_int_dict : kitB "int" "dict" = some false := by decide +kernel
theorem kit_bool_str : kitB "bool" "str" = some false := by decide +kernel
theorem kit_bool_int : kitB "bool" "int" = some true := by decide +kernel
theorem kit_bool_bool : kitB "bool" "bool" = some true := by decide +kernel
theorem kit_bool_tuple : kitB "bool" "tuple" = some false := by decide +kernel
theorem kit_bool_list : kitB "bool" "list" = some false := by decide +kernel
theorem kit_bool_dict : kitB "bool" "dict" = some false := by decide +kernel
theorem kit_NoneType_str : kitB "NoneType" "str" = some false := by decide +kernel
theorem kit_NoneType_int : kitB "NoneType" "int" = some false := by decide +kernel
theorem kit_NoneType_bool : kitB "NoneType" "bool" = some false := by decide +kernel
theorem kit_NoneType_tuple : kitB "NoneType" "tuple" = some false := by decide +kernel
theorem kit_NoneType_list : kitB "NoneType" "list" = some false := by decide +kernel
theorem kit_NoneType_dict : kitB "NoneType" "dict" = some false := by decide +kernel
theorem kit_tuple_str : kitB "tuple" "str" = some false := by decide +kernel
theorem kit_tuple_int : kitB "tuple" "int" = some false := by decide +kernel
theorem kit_tuple_bool : kitB "tuple" "bool" = some false := by decide +kernel
theorem kit_tuple_tuple : kitB "tuple" "tuple" = some true := by decide +kernel
theorem kit_tuple_list : kitB "tuple" "list" = some false := by decide +kernel
theorem kit_tuple_dict : kitB "tuple" "dict" = some false := by decide +kernel
theorem kit_list_str : kitB "list" "str" = some false := by decide +kernel
theorem kit_list_int : kitB "list" "int" = some false := by decide +kernel
theorem kit_list_bool : kitB "list" "bool" = some false := by decide +kernel
theorem kit_list_tuple : kitB "list" "tuple" = some false := by decide +kernel
theorem kit_list_list : kitB "list" "list" = some true := by decide +kernel
theorem kit_list_dict : kitB "list" "dict" = some false := by decide +kernel
/-- isinstance(x, T), T a built-in class -/
def rInst (K : PySem.W.Frag) : List V → Hp → VK → Prop := fun xs H Q => ∃ (x : V) (t n : String) (b : Bool), xs = [x, .ty n] ∧ TyX K H x (.type t) ∧ kitB t n = some b ∧ Q (.bl b) H
theorem call_instK (h : X.K = K) : CallR X (.builtin "isinstance") (rInst K) := by
  subst h
  intro pins s σ H xs us Q I r ⟨x, t, n, b, e, ty, k, q⟩
  exact call_isi pins s σ H xs us Q I r ⟨x, .ty n, .type t, .type n, b, e, .ty n, ty, kit_ty k, q⟩
theorem g_instS {z : Str} {n : String} {b : Bool} (k : kitB "str" n = some b) (q : Q (.bl b) H) : rInst K [.str z, .ty n] H Q := ⟨_, _, n, b, rfl, .base (.str z), k, q⟩
theorem g_instI {i : Int} {n : String} {b : Bool} (k : kitB "int" n = some b) (q : Q (.bl b) H) : rInst K [.int i, .ty n] H Q := ⟨_, _, n, b, rfl, .base (.int i), k, q⟩
theorem g_instB {i : Bool} {n : String} {b : Bool} (k : kitB "bool" n = some b) (q : Q (.bl b) H) : rInst K [.bl i, .ty n] H Q := ⟨_, _, n, b, rfl, .base (.bl i), k, q⟩
theorem g_instN {n : String} {b : Bool} (k : kitB "NoneType" n = some b) (q : Q (.bl b) H) : rInst K [.non, .ty n] H Q := ⟨_, _, n, b, rfl, .base .non, k, q⟩
theorem g_instT {p : Addr} {xs : List V} {n : String} {b : Bool} (h : SqT K H p xs) (k : kitB "tuple" n = some b) (q : Q (.bl b) H) : rInst K [.ref p, .ty n] H Q := by
  refine ⟨_, "tuple", n, b, rfl, ?_, k, q⟩
  rcases h with (h | ⟨o, h⟩) | ⟨o, its, m, h, hc, _⟩
  · exact .base (.tup h)
  · exact .fTuple h
  · exact .kTuple h hc
theorem g_instL {p : Addr} {xs : List V} {n : String} {b : Bool} (h : SqL K H p xs) (k : kitB "list" n = some b) (q : Q (.bl b) H) : rInst K [.ref p, .ty n] H Q := by
  refine ⟨_, "list", n, b, rfl, ?_, k, q⟩
  rcases h with (h | ⟨o, h⟩) | ⟨o, its, m, h, hc, _⟩
  · exact .base (.lst h)
  · exact .base (.frz h)
  · exact .kList h hc
/-- str(x) of a whole number or a text -/
def rStrV : List V → Hp → VK → Prop := fun xs H Q => (∃ i : Int, xs = [.int i] ∧ i.natAbs.log2 < 1920 ∧ Q (.str (toString i)) H) ∨ ∃ a : Str, xs = [.str a] ∧ Q (.str a) H
theorem call_strV : CallR X (.type "str") rStrV := by
  intro pins s σ H xs us Q I r h
  rcases h with h | h
  · exact call_str_int pins s σ H xs us Q I r h
  · exact SkE.call_str_str pins s σ H xs us Q I r h
def partS : V → Str
  | .str s => s
  | .int i => toString i
  | _ => ""
/-- a part of an entry: a plain text or a number of at most ten digits -/
def IsPart (v : V) : Prop := (∃ z : Str, v = .str z ∧ z.length ≤ 20 ∧ ∀ c ∈ tl z, 33 ≤ c ∧ c ≤ 126) ∨ ∃ i : Int, v = .int i ∧ 0 ≤ i ∧ i ≤ 9999999999
theorem IsPart.len {v : V} (h : IsPart v) : (partS v).length ≤ 20 := by
  rcases h with ⟨z, rfl, hz, _⟩ | ⟨i, rfl, h0, h1⟩
  · exact hz
  · exact Nat.le_trans (len_num (k := 10) h0 (by decide) (by omega)) (by decide)
theorem IsPart.plain {v : V} (h : IsPart v) : ∀ c ∈ tl (partS v), 33 ≤ c ∧ c ≤ 126 := fun c hc => by
  rcases h with ⟨z, rfl, _, hz⟩ | ⟨i, rfl, h0, h1⟩
  · exact hz c hc
  · have hc' : c ∈ tl (toString i : Str) := hc
    rw [tl_num' h0] at hc'
    have := numL_digits _ c hc'
    omega
theorem g_strP {v : V} (h : IsPart v) (q : Q (.str (partS v)) H) : rStrV [v] H Q := by
  rcases h with ⟨z, rfl, _, _⟩ | ⟨i, rfl, h0, h1⟩
  · exact .inr ⟨z, rfl, q⟩
  · exact .inl ⟨i, rfl, log_small (by omega), q⟩
def rSlTN (K : PySem.W.Frag) : V → Option Int → Option Int → Hp → VK → Prop := rSlT K
theorem g_slT {p : Addr} {xs : List V} {lo hi : Option Int} (h : SqT K H p xs) (hw : ¬ (HT.sIx xs.length 0 lo = 0 ∧ HT.sIx xs.length xs.length hi = xs.length)) (q : ∀ p, H p = none → Q (.ref p) (upd H p (.tup (cutV xs lo hi)))) : rSlT K (.ref p) lo hi H Q :=
  ⟨p, xs, rfl, h, hw, q⟩
theorem g_slT1 {p : Addr} {v w : V} {r : List V} (h : SqT K H p (v :: w :: r)) (q : ∀ p, H p = none → Q (.ref p) (upd H p (.tup [v]))) : rSlT K (.ref p) none (some 1) H Q := by
  refine g_slT h (fun z => ?_) (fun p hp => ?_)
  · have h2 := z.2
    rw [show (1 : Int) = ((1 : Nat) : Int) from rfl, HT.sIx_nat, List.length_cons, List.length_cons] at h2
    omega
  · have e : cutV (v :: w :: r) none (some 1) = [v] := by rw [cutV_to _ (by decide)]; rfl
    rw [e]; exact q p hp
theorem g_slTt {p : Addr} {v : V} {r : List V} (h : SqT K H p (v :: r)) (q : ∀ p, H p = none → Q (.ref p) (upd H p (.tup r))) : rSlT K (.ref p) (some 1) none H Q := by
  refine g_slT h (fun z => ?_) (fun p hp => ?_)
  · have h2 := z.1
    rw [show (1 : Int) = ((1 : Nat) : Int) from rfl, HT.sIx_nat, List.length_cons] at h2
    omega
  · have e : cutV (v :: r) (some 1) none = r := by rw [cutV_from _ (by decide)]; rfl
    rw [e]; exact q p hp
theorem g_eqD {x y : V} (d e : PyData) (b : Bool) (h1 : Dp K H x d) (h2 : Dp K H y e) (s1 : SeqAt.shaped d = true) (s2 : SeqAt.shaped e = true) (hb : PyData.eqv d e = b) (q : Q (.bl b) H) : rEqD K x y H Q := ⟨d, e, h1, h2, s1, s2, by rw [hb]; exact q⟩
theorem g_neD {x y : V} (d e : PyData) (b : Bool) (h1 : Dp K H x d) (h2 : Dp K H y e) (s1 : SeqAt.shaped d = true) (s2 : SeqAt.shaped e = true) (hb : (!PyData.eqv d e) = b) (q : Q (.bl b) H) : rNeD K x y H Q := ⟨d, e, h1, h2, s1, s2, by rw [hb]; exact q⟩
theorem g_neSame {x y : V} (d : PyData) (h1 : Dp K H x d) (h2 : Dp K H y d) (s1 : SeqAt.shaped d = true) (q : Q (.bl false) H) : rNeD K x y H Q := ⟨d, d, h1, h2, s1, s1, by rw [SeqAt.eqv_refl _ (SeqAt.canLay_of_shaped s1)]; exact q⟩
theorem sqT_upd {l p : Addr} {xs vs : List V} {o : HO} (hl : H l = some (.lst xs)) (h : SqT K H p vs) : SqT K (upd H l o) p vs := by
  rcases h with (h | ⟨o', h⟩) | h
  · exact .inl (.inl (by rw [upd_ne (fun e => by rw [e, hl] at h; cases h)]; exact h))
  · exact .inl (.inr ⟨o', by rw [upd_ne (fun e => by rw [e, hl] at h; cases h)]; exact h⟩)
  · exact .inr h
theorem sqT_updD {l p : Addr} {kvs : List (Key × V)} {vs : List V} {o : HO} (hl : H l = some (.dK kvs)) (h : SqT K H p vs) : SqT K (upd H l o) p vs := by
  rcases h with (h | ⟨o', h⟩) | h
  · exact .inl (.inl (by rw [upd_ne (fun e => by rw [e, hl] at h; cases h)]; exact h))
  · exact .inl (.inr ⟨o', by rw [upd_ne (fun e => by rw [e, hl] at h; cases h)]; exact h⟩)
  · exact .inr h
end
/-! ### a comprehension over a tuple -/
section
variable {K : PySem.W.Frag} {H : Hp} {Q : VK} {σ : L2.St} {g : TG} {te : TE} {vs : List Nat}
theorem lc_tup {a : Addr} {xs : List V} (f : V → V) (hS : SqT K H a xs) (hn : xs.length ≤ 1000000)
    (hs : ∀ x ∈ xs, ∀ H1, Ex H H1 → ∀ R : VK, (∀ H3, Ex H1 H3 → R (f x) H3) → g x (wipe σ vs) H1 fun σ2 H3 => wipe σ2 vs = wipe σ vs ∧ te σ2 H3 R)
    (hq : ∀ p H', H p = none → Ex H H' → H' p = some (.lst (xs.map f)) → Q (.ref p) H') : LcOk (Itt K a) g tYes te vs Q σ H := by
  refine lc_pure (walk_tup (xs := xs)) (fun i => f (xs.getD i .non)) (fits_lt hn) (fun H' e => ex_sqT e hS) (fun i x H1 H2 hi hE hY R hR => ?_) (fun i H1 x H2 hY => ?_) (fun p H' hp hE hL => ?_)
  · obtain ⟨rfl, hx⟩ := hY
    have e2 : xs.getD i .non = x := by rw [List.getD_eq_getElem?_getD, hx]; rfl
    exact hs x (List.mem_of_getElem? hx) H2 hE R fun H3 h3 => by
      have q := hR H3 h3
      simp only [e2] at q
      exact q
  · obtain ⟨rfl, _⟩ := hY
    exact Evl.Ex.refl _
  · refine hq p H' hp hE ?_
    rw [hL, map_getD]
end
/-! ### the plain law of entries -/
theorem joinL_cons (S p : List Nat) (q : List Nat) (r : List (List Nat)) : joinL S (p :: q :: r) = p ++ S ++ joinL S (q :: r) := by
  simp [joinL]
def glueP (z : Str) : List V → Str
  | [] => z
  | v :: r => glueP (z ++ " " ++ partS v) r
theorem glueP_snoc : ∀ (r : List V) (z : Str) (v : V), glueP z (r ++ [v]) = glueP z r ++ " " ++ partS v
  | [], _, _ => rfl
  | a :: r, z, v => glueP_snoc r _ v
theorem tl_glueP : ∀ (r : List V) (z : Str), tl (glueP z r) = joinL [32] (tl z :: r.map fun v => tl (partS v))
  | [], z => by simp [glueP, joinL]
  | v :: r, z => by
    show tl (glueP (z ++ " " ++ partS v) r) = _
    rw [tl_glueP r, List.map_cons]
    cases r with
    | nil => simp [joinL, tl_append]; rfl
    | cons w r =>
      rw [List.map_cons, joinL_cons, joinL_cons, joinL_cons, tl_append, tl_append]
      simp only [List.append_assoc]
      rfl
theorem glueP_join (z : Str) (r : List V) : glueP z r = Txt.join " " (z :: r.map partS) := by
  refine ext_tl ?_
  rw [tl_glueP, join_eq, tl_join, List.map_cons, List.map_map]
  rfl
theorem glueP_len : ∀ (r : List V) (z : Str), (∀ v ∈ r, IsPart v) → (glueP z r).length ≤ z.length + 21 * r.length
  | [], z, _ => Nat.le_refl _
  | v :: r, z, h => by
    have h1 := glueP_len r (z ++ " " ++ partS v) fun w hw => h w (.tail _ hw)
    have h2 := (h v (.head _)).len
    rw [len_app, len_app, show (" " : Str).length = 1 from rfl] at h1
    rw [List.length_cons]
    show (glueP (z ++ " " ++ partS v) r).length ≤ _
    omega
theorem joinL_ge {S : List Nat} : ∀ {ps : List (List Nat)} {p : List Nat}, p ∈ ps → p.length ≤ (joinL S ps).length
  | [], p, h => by cases h
  | [q], p, h => by
    have e : p = q := by simpa using h
    rw [e]; simp [joinL]
  | a :: q :: r, p, h => by
    rw [joinL_cons, List.length_append, List.length_append]
    rcases List.mem_cons.mp h with rfl | h
    · omega
    · have := joinL_ge (S := S) h
      omega
theorem split_le (z y : Str) : ∀ p ∈ Txt.split z y, p.length ≤ z.length := fun p hp => by
  have h := StrLaws.join_split z y
  have h1 := congrArg (fun x => (tl x).length) h
  have h2 : (joinL (tl y) ((Txt.split z y).map tl)).length = (tl z).length := by rw [← tl_join]; exact h1
  have h3 := joinL_ge (S := tl y) (List.mem_map_of_mem (f := tl) hp)
  rw [len_tl, len_tl]
  omega
theorem glueP_take {r : List V} {z : Str} (h : ∀ v ∈ r, IsPart v) (i : Nat) : (glueP z (r.take i)).length ≤ z.length + 21 * r.length := by
  have h1 := glueP_len (r.take i) z fun v hv => h v (List.mem_of_mem_take hv)
  rw [List.length_take] at h1
  omega
theorem glueP_step {r : List V} {z : Str} {i : Nat} {v : V} (h : r[i]? = some v) : glueP z (r.take (i + 1)) = glueP z (r.take i) ++ " " ++ partS v := by
  rw [List.take_add_one, h]
  exact glueP_snoc _ _ _
inductive Ent where
  | ask (k g : Str) (c m : Int)
  | rel (k : Str) (m : Int)
namespace Ent
def vs : Ent → List V
  | .ask k g c m => [.str "ask", .str k, .str g, .int c, .int m]
  | .rel k m => [.str "release", .str k, .int m]
def key : Ent → Str
  | .ask k _ _ _ => k
  | .rel k _ => k
def mom : Ent → Int
  | .ask _ _ _ m => m
  | .rel _ m => m
def isAsk : Ent → Bool
  | .ask _ _ _ _ => true
  | .rel _ _ => false
def line (e : Ent) : Str := Txt.join " " (e.vs.map partS)
def data : Ent → PyData
  | .ask k g c m => .tuple [.str "ask", .str k, .str g, .int c, .int m]
  | .rel k m => .tuple [.str "release", .str k, .int m]
end Ent
def inLet (c : Nat) : Bool := decide (c ∈ ("abcdefghijklmnopqrstuvwxyz0123456789" : Str).cps.toList)
def isName (z : Str) : Bool := decide (1 ≤ (z.length : Int)) && decide ((z.length : Int) ≤ 12) && (tl z).all inLet
def isKey (z : Str) : Bool := decide (1 ≤ (z.length : Int)) && decide ((z.length : Int) ≤ 20) && (tl z).all fun c => inLet c || decide (c = 45)
theorem inLet_plain {c : Nat} (h : inLet c = true) : 33 ≤ c ∧ c ≤ 126 := by
  have h1 : ∀ c ∈ ("abcdefghijklmnopqrstuvwxyz0123456789" : Str).cps.toList, 33 ≤ c ∧ c ≤ 126 := by decide +kernel
  exact h1 c (of_decide_eq_true h)
theorem isName_part {z : Str} (h : isName z = true) : IsPart (.str z) := by
  unfold isName at h
  rw [Bool.and_eq_true, Bool.and_eq_true] at h
  have h1 := of_decide_eq_true h.1.2
  exact .inl ⟨z, rfl, by omega, fun c hc => inLet_plain (List.all_eq_true.mp h.2 c hc)⟩
theorem isKey_part {z : Str} (h : isKey z = true) : IsPart (.str z) := by
  unfold isKey at h
  rw [Bool.and_eq_true, Bool.and_eq_true] at h
  have h1 := of_decide_eq_true h.1.2
  refine .inl ⟨z, rfl, by omega, fun c hc => ?_⟩
  have h2 := List.all_eq_true.mp h.2 c hc
  rw [Bool.or_eq_true] at h2
  rcases h2 with h2 | h2
  · exact inLet_plain h2
  · have := of_decide_eq_true h2; omega
def Ent.ok : Ent → Bool
  | .ask k g c m => isKey k && (isName g && ((decide (1 ≤ c) && decide (c ≤ 1000)) && (decide (0 ≤ m) && decide (m ≤ 1000000000))))
  | .rel k m => isKey k && (decide (0 ≤ m) && decide (m ≤ 1000000000))
theorem Ent.ok_parts {e : Ent} (h : e.ok = true) : ∀ v ∈ e.vs, IsPart v := by
  cases e with
  | ask k g c m =>
    simp only [Ent.ok, Bool.and_eq_true, decide_eq_true_eq] at h
    obtain ⟨hk, hg, ⟨hc0, hc1⟩, hm0, hm1⟩ := h
    intro v hv
    simp only [Ent.vs, List.mem_cons, List.not_mem_nil, or_false] at hv
    rcases hv with rfl | rfl | rfl | rfl | rfl
    · exact .inl ⟨_, rfl, by decide +kernel, by decide +kernel⟩
    · exact isKey_part hk
    · exact isName_part hg
    · exact .inr ⟨c, rfl, by omega, by omega⟩
    · exact .inr ⟨m, rfl, by omega, by omega⟩
  | rel k m =>
    simp only [Ent.ok, Bool.and_eq_true, decide_eq_true_eq] at h
    obtain ⟨hk, hm0, hm1⟩ := h
    intro v hv
    simp only [Ent.vs, List.mem_cons, List.not_mem_nil, or_false] at hv
    rcases hv with rfl | rfl | rfl
    · exact .inl ⟨_, rfl, by decide +kernel, by decide +kernel⟩
    · exact isKey_part hk
    · exact .inr ⟨m, rfl, by omega, by omega⟩
theorem Ent.vs_len (e : Ent) : e.vs.length ≤ 5 := by
  cases e with
  | ask k g c m => exact Nat.le_refl 5
  | rel k m => show 3 ≤ 5; decide
theorem Ent.line_eq (e : Ent) : ∃ z r, e.vs = .str z :: r ∧ e.line = glueP z r := by
  cases e with
  | ask k g c m => exact ⟨_, _, rfl, (glueP_join _ _).symm⟩
  | rel k m => exact ⟨_, _, rfl, (glueP_join _ _).symm⟩
theorem Ent.line_len {e : Ent} (h : e.ok = true) : e.line.length ≤ 120 := by
  obtain ⟨v, r, e1, e2⟩ := e.line_eq
  have hp := Ent.ok_parts h
  have hl := e.vs_len
  rw [e1] at hp hl
  rw [e2]
  have h1 := glueP_len r v fun w hw => hp w (.tail _ hw)
  have h2 : v.length ≤ 20 := (hp (.str v) (.head _)).len
  rw [List.length_cons] at hl
  omega
theorem joinL_mem {S : List Nat} : ∀ {ps : List (List Nat)} {c : Nat}, c ∈ joinL S ps → c ∈ S ∨ ∃ p ∈ ps, c ∈ p
  | [], c, h => by simp [joinL] at h
  | [p], c, h => .inr ⟨p, .head _, by simpa [joinL] using h⟩
  | p :: q :: r, c, h => by
    rw [joinL_cons, List.mem_append, List.mem_append] at h
    rcases h with (h | h) | h
    · exact .inr ⟨p, .head _, h⟩
    · exact .inl h
    · rcases joinL_mem h with h | ⟨x, hx, hc⟩
      · exact .inl h
      · exact .inr ⟨x, .tail _ hx, hc⟩
theorem Ent.line_plain {e : Ent} (h : e.ok = true) : ∀ c ∈ tl e.line, 32 ≤ c ∧ c ≤ 126 := fun c hc => by
  unfold Ent.line at hc
  rw [join_eq, tl_join] at hc
  rcases joinL_mem hc with h1 | ⟨p, hp, h1⟩
  · have h2 : c ∈ [32] := h1
    have : c = 32 := by simpa using h2
    omega
  · rw [List.map_map] at hp
    obtain ⟨v, hv, rfl⟩ := List.mem_map.mp hp
    have := (Ent.ok_parts h v hv).plain c h1
    omega
/-- a row: each entry is one, at moments that don't fall, keys asked once and released when asked -/
def lastM (es : List Ent) : Int := (es.getLast?.map Ent.mom).getD 0
def Row (es : List Ent) : Prop := ∀ i e, es[i]? = some e → e.ok = true ∧ lastM (es.take i) ≤ e.mom ∧ (e.isAsk = true ↔ e.key ∉ (es.take i).map Ent.key)
def stepOk (es : List Ent) (i : Nat) (e : Ent) : Prop := e.ok = true ∧ lastM (es.take i) ≤ e.mom ∧ (e.isAsk = true ↔ e.key ∉ (es.take i).map Ent.key)
def FirstBad (es : List Ent) (i : Nat) : Prop := Row (es.take i) ∧ ∃ e, es[i]? = some e ∧ ¬ stepOk es i e
theorem Row.nil : Row [] := fun i e h => by simp at h
theorem Row.take {es : List Ent} (h : Row es) (n : Nat) : Row (es.take n) := fun i e hi => by
  have h1 : i < n ∧ es[i]? = some e := by
    rw [List.getElem?_take] at hi
    by_cases hn : i < n
    · rw [if_pos hn] at hi; exact ⟨hn, hi⟩
    · rw [if_neg hn] at hi; cases hi
  rw [List.take_take, Nat.min_eq_left (Nat.le_of_lt h1.1)]
  exact h i e h1.2
theorem Row.snoc {es : List Ent} (h : Row es) {e : Ent} (h1 : e.ok = true) (h2 : lastM es ≤ e.mom) (h3 : e.isAsk = true ↔ e.key ∉ es.map Ent.key) : Row (es ++ [e]) := fun i x hi => by
  rcases Nat.lt_trichotomy i es.length with hl | hl | hl
  · rw [List.getElem?_append_left hl] at hi
    rw [List.take_append_of_le_length (Nat.le_of_lt hl)]
    exact h i x hi
  · subst hl
    rw [List.getElem?_append_right (Nat.le_refl _), Nat.sub_self] at hi
    cases hi
    rw [List.take_append_of_le_length (Nat.le_refl _), List.take_of_length_le (Nat.le_refl _)]
    exact ⟨h1, h2, h3⟩
  · rw [List.getElem?_eq_none (by rw [List.length_append]; simp; omega)] at hi
    cases hi
theorem Row.more {es : List Ent} {i : Nat} {e : Ent} (h : Row (es.take i)) (hi : es[i]? = some e) (hs : stepOk es i e) : Row (es.take (i + 1)) := by
  rw [List.take_add_one, hi]
  exact h.snoc hs.1 hs.2.1 hs.2.2
theorem Row.ok {es : List Ent} (h : Row es) : ∀ e ∈ es, e.ok = true := fun e he => by
  obtain ⟨i, hi, e1⟩ := List.mem_iff_getElem.mp he
  exact (h i e (by rw [List.getElem?_eq_getElem hi, e1])).1
theorem lastM_snoc (es : List Ent) (e : Ent) : lastM (es ++ [e]) = e.mom := by
  unfold lastM
  rw [List.getLast?_append]
  rfl
theorem lastM_nn {es : List Ent} (h : Row es) : 0 ≤ lastM es := by
  unfold lastM
  cases e : es.getLast? with
  | none => exact Int.le_refl _
  | some x =>
    have hx := h.ok x (List.mem_of_getLast? e)
    show 0 ≤ x.mom
    cases x with
    | ask k g c m =>
      simp only [Ent.ok, Bool.and_eq_true, decide_eq_true_eq] at hx
      exact hx.2.2.2.1
    | rel k m =>
      simp only [Ent.ok, Bool.and_eq_true, decide_eq_true_eq] at hx
      exact hx.2.1
def textOf (es : List Ent) : Str := Txt.join (⟨#[10]⟩ : Str) (es.map Ent.line)
/-- the list of entries stands in the heap -/
def RowAt (K : PySem.W.Frag) (H : Hp) (l : Addr) (xs : List (Addr × Ent)) : Prop := SqL K H l (xs.map fun x => V.ref x.1) ∧ ∀ x ∈ xs, SqT K H x.1 x.2.vs
theorem RowAt.mono {K : PySem.W.Frag} {H H' : Hp} {l : Addr} {xs : List (Addr × Ent)} (h : RowAt K H l xs) (e : Ex H H') : RowAt K H' l xs := ⟨ex_sqL e h.1, fun x hx => ex_sqT e (h.2 x hx)⟩
/-- the entry that a line tells, if any -/
def entOf : List (List Nat) → Option Ent
  | [w, k, g, c, m] => if stxt w = "ask" then (match numOf 4 c, numOf 10 m with | some c, some m => some (.ask (stxt k) (stxt g) c m) | _, _ => none) else none
  | [w, k, m] => if stxt w = "release" then (match numOf 10 m with | some m => some (.rel (stxt k) m) | none => none) else none
  | _ => none
def readEnt (z : Str) : Option Ent := entOf ((Txt.split z " ").map tl)
theorem entOf_len {ps : List Str} {m : Nat} (hp : ∀ p ∈ ps, p.length ≤ m) {e : Ent} (h : entOf (ps.map tl) = some e) : ∀ s, V.str s ∈ e.vs → s.length ≤ m + 7 := by
  match ps, h with
  | [w, k, g, c, n], h =>
    have h1 := hp k (by simp)
    have h2 := hp g (by simp)
    simp only [List.map_cons, List.map_nil, entOf, stxt_tl] at h
    split at h
    · split at h
      · cases h
        intro s hs
        simp only [Ent.vs, List.mem_cons, List.not_mem_nil, or_false, V.str.injEq, reduceCtorEq, or_false] at hs
        rcases hs with rfl | rfl | rfl
        · have : ("ask" : Str).length = 3 := rfl
          omega
        · omega
        · omega
      · cases h
    · cases h
  | [w, k, n], h =>
    have h1 := hp k (by simp)
    simp only [List.map_cons, List.map_nil, entOf, stxt_tl] at h
    split at h
    · split at h
      · cases h
        intro s hs
        simp only [Ent.vs, List.mem_cons, List.not_mem_nil, or_false, V.str.injEq, reduceCtorEq, or_false] at hs
        rcases hs with rfl | rfl
        · have : ("release" : Str).length = 7 := rfl
          omega
        · omega
      · cases h
    · cases h
  | [], h => cases h
  | [_], h => cases h
  | [_, _], h => cases h
  | [_, _, _, _], h => cases h
  | _ :: _ :: _ :: _ :: _ :: _ :: _, h => cases h
theorem readEnt_len {z : Str} {e : Ent} (h : readEnt z = some e) : ∀ s, V.str s ∈ e.vs → s.length ≤ z.length + 7 := entOf_len (split_le z " ") h
/-- the first wrong line: the lines ahead of it make the row es -/
def BadLine (zs : List Str) (n : Nat) (es : List Ent) : Prop := (zs.take n).map readEnt = es.map some ∧ Row es ∧ ∃ z, zs[n]? = some z ∧ ∀ e, readEnt z = some e → ¬ Row (es ++ [e])
theorem firstBad_of {es : List Ent} {e : Ent} (h : Row es) (hb : ¬ Row (es ++ [e])) : FirstBad (es ++ [e]) es.length := by
  have ht : (es ++ [e]).take es.length = es := by rw [List.take_append_of_le_length (Nat.le_refl _), List.take_of_length_le (Nat.le_refl _)]
  refine ⟨by rw [ht]; exact h, e, by rw [List.getElem?_append_right (Nat.le_refl _), Nat.sub_self]; rfl, fun hs => hb ?_⟩
  unfold stepOk at hs
  rw [ht] at hs
  exact h.snoc hs.1 hs.2.1 hs.2.2
theorem split_line {e : Ent} (h : e.ok = true) : Txt.split e.line " " = e.vs.map partS := by
  unfold Ent.line
  refine split_join (s := 32) (S := []) rfl (by decide +kernel) (by cases e <;> exact fun z => nomatch z) (fun p hp => ?_)
  obtain ⟨v, hv, rfl⟩ := List.mem_map.mp hp
  intro h32
  have := (Ent.ok_parts h v hv).plain 32 h32
  omega
theorem num_back {i : Int} {k : Nat} (h0 : 0 ≤ i) (hk : 0 < k) (h1 : i.toNat < 10 ^ k) : numOf k (tl (toString i : Str)) = some i := by
  rw [tl_num' h0, numOf_numL hk h1, Int.toNat_of_nonneg h0]
theorem read_back {e : Ent} (h : e.ok = true) : readEnt e.line = some e := by
  unfold readEnt
  rw [split_line h]
  cases e with
  | ask k g c m =>
    simp only [Ent.ok, Bool.and_eq_true, decide_eq_true_eq] at h
    obtain ⟨hk, hg, ⟨hc0, hc1⟩, hm0, hm1⟩ := h
    show entOf [tl "ask", tl k, tl g, tl (toString c : Str), tl (toString m : Str)] = _
    have e1 := num_back (i := c) (k := 4) (by omega) (by decide) (by omega)
    have e2 := num_back (i := m) (k := 10) (by omega) (by decide) (by omega)
    unfold entOf
    simp only [stxt_tl, if_pos rfl]
    rw [show ((4 : Nat) : Int) = 4 from rfl] at e1
    rw [show ((10 : Nat) : Int) = 10 from rfl] at e2
    rw [e1, e2]
    rfl
  | rel k m =>
    simp only [Ent.ok, Bool.and_eq_true, decide_eq_true_eq] at h
    obtain ⟨hk, hm0, hm1⟩ := h
    show entOf [tl "release", tl k, tl (toString m : Str)] = _
    have e2 := num_back (i := m) (k := 10) (by omega) (by decide) (by omega)
    unfold entOf
    simp only [stxt_tl, if_pos rfl]
    rw [show ((10 : Nat) : Int) = 10 from rfl] at e2
    rw [e2]
    rfl
theorem split_text {es : List Ent} (h : ∀ e ∈ es, e.ok = true) (hn : es ≠ []) : Txt.split (textOf es) (⟨#[10]⟩ : Str) = es.map Ent.line := by
  unfold textOf
  refine split_join (s := 10) (S := []) rfl (by decide +kernel) (fun z => hn (List.map_eq_nil_iff.mp z)) (fun p hp => ?_)
  obtain ⟨e, he, rfl⟩ := List.mem_map.mp hp
  intro h10
  have := Ent.line_plain (h e he) 10 h10
  omega
theorem line_pos {e : Ent} : 0 < e.line.length := by
  have h : 0 < (tl e.line).length := by
    unfold Ent.line
    rw [join_eq, tl_join]
    cases e with
    | ask k g c m =>
      show 0 < (joinL _ (tl "ask" :: tl k :: _)).length
      rw [joinL_cons, List.length_append, List.length_append]
      have : (tl "ask").length = 3 := by decide +kernel
      omega
    | rel k m =>
      show 0 < (joinL _ (tl "release" :: tl k :: _)).length
      rw [joinL_cons, List.length_append, List.length_append]
      have : (tl "release").length = 7 := by decide +kernel
      omega
  rw [len_tl]; exact h
theorem text_nil_iff {es : List Ent} : textOf es = "" ↔ es = [] := by
  constructor
  · intro h
    cases es with
    | nil => rfl
    | cons e r =>
      have h1 := congrArg (fun z => (tl z).length) h
      have h2 : (tl (textOf (e :: r))).length = 0 := h1.trans (by decide +kernel)
      unfold textOf at h2
      rw [join_eq, tl_join, List.map_cons, List.map_cons] at h2
      have h3 := line_pos (e := e)
      rw [len_tl] at h3
      cases r with
      | nil => simp only [List.map_nil, joinL] at h2; omega
      | cons a r =>
        rw [List.map_cons, List.map_cons, joinL_cons, List.length_append, List.length_append] at h2
        omega
  · rintro rfl; decide +kernel
theorem sum_le {b : Nat} : ∀ {ys : List Str}, (∀ y ∈ ys, y.length ≤ b) → (ys.map (·.length)).sum ≤ b * ys.length
  | [], _ => by simp
  | y :: r, h => by
    have h1 := sum_le (ys := r) fun z hz => h z (.tail _ hz)
    have h2 := h y (.head _)
    simp only [List.map_cons, List.sum_cons, List.length_cons, Nat.mul_add, Nat.mul_one]
    omega
theorem text_len {es : List Ent} (h : ∀ e ∈ es, e.ok = true) : (textOf es).length ≤ 121 * es.length := by
  have key : ∀ es : List Ent, (∀ e ∈ es, e.ok = true) → (joinL [10] ((es.map Ent.line).map tl)).length ≤ 121 * es.length := by
    intro es
    induction es with
    | nil => intro _; simp [joinL]
    | cons e r ih =>
      intro h
      have h1 := Ent.line_len (h e (.head _))
      rw [len_tl] at h1
      have h2 := ih fun x hx => h x (.tail _ hx)
      cases r with
      | nil => simp only [List.map_cons, List.map_nil, joinL, List.length_cons, List.length_nil]; omega
      | cons a r =>
        simp only [List.map_cons] at h2 ⊢
        rw [joinL_cons, List.length_append, List.length_append]
        simp only [List.length_cons, List.length_nil] at h2 ⊢
        omega
  rw [len_tl]
  unfold textOf
  rw [join_eq, tl_join]
  exact key es h
theorem part_ok {v : V} (h : IsPart v) : PyData.strOk (partS v) = true := by
  have e : partS v = stxt (tl (partS v)) := (stxt_tl _).symm
  rw [e]
  exact strOk_of fun c hc => by have := h.plain c hc; omega
theorem data_ok {e : Ent} (h : e.ok = true) : e.data.canLay0 = true ∧ e.data.depth = 1 := by
  have hp := Ent.ok_parts h
  cases e with
  | ask k g c m =>
    have h1 : PyData.strOk k = true := part_ok (hp (.str k) (.tail _ (.head _)))
    have h2 : PyData.strOk g = true := part_ok (hp (.str g) (.tail _ (.tail _ (.head _))))
    refine ⟨?_, rfl⟩
    show (PyData.strOk "ask" && (PyData.strOk k && (PyData.strOk g && (true && (true && true))))) = true
    rw [h1, h2, show PyData.strOk "ask" = true by decide +kernel]
    rfl
  | rel k m =>
    have h1 : PyData.strOk k = true := part_ok (hp (.str k) (.tail _ (.head _)))
    refine ⟨?_, rfl⟩
    show (PyData.strOk "release" && (PyData.strOk k && (true && true))) = true
    rw [h1, show PyData.strOk "release" = true by decide +kernel]
    rfl
theorem row_shaped {es : List Ent} (h : ∀ e ∈ es, e.ok = true) : SeqAt.shaped (.list (es.map Ent.data)) = true := by
  have key : ∀ es : List Ent, (∀ e ∈ es, e.ok = true) → PyData.canLayAll0 (es.map Ent.data) = true ∧ PyData.depthAll (es.map Ent.data) ≤ 1 := by
    intro es
    induction es with
    | nil => intro _; exact ⟨rfl, Nat.zero_le _⟩
    | cons e r ih =>
      intro h
      obtain ⟨h1, h2⟩ := ih fun x hx => h x (.tail _ hx)
      obtain ⟨h3, h4⟩ := data_ok (h e (.head _))
      refine ⟨?_, ?_⟩
      · show (e.data.canLay0 && PyData.canLayAll0 (r.map Ent.data)) = true
        rw [h3, h1]; rfl
      · show max e.data.depth (PyData.depthAll (r.map Ent.data)) ≤ 1
        rw [h4]; omega
  obtain ⟨h1, h2⟩ := key es h
  show (PyData.canLayAll0 (es.map Ent.data) && decide (PyData.depthAll (es.map Ent.data) + 1 ≤ 64)) = true
  rw [h1, decide_eq_true (by omega)]
  rfl
theorem lines_shaped {es : List Ent} (h : ∀ e ∈ es, e.ok = true) : SeqAt.shaped (.list (es.map fun e => .str e.line)) = true := by
  have key : ∀ es : List Ent, (∀ e ∈ es, e.ok = true) → PyData.canLayAll0 (es.map fun e => .str e.line) = true ∧ PyData.depthAll (es.map fun e => PyData.str e.line) = 0 := by
    intro es
    induction es with
    | nil => intro _; exact ⟨rfl, rfl⟩
    | cons e r ih =>
      intro h
      obtain ⟨h1, h2⟩ := ih fun x hx => h x (.tail _ hx)
      have h3 : PyData.strOk e.line = true := by
        rw [← stxt_tl e.line]
        exact strOk_of fun c hc => by have := Ent.line_plain (h e (.head _)) c hc; omega
      refine ⟨?_, ?_⟩
      · show (PyData.strOk e.line && PyData.canLayAll0 (r.map fun e => PyData.str e.line)) = true
        rw [h3, h1]; rfl
      · show max 0 (PyData.depthAll (r.map fun e => PyData.str e.line)) = 0
        rw [h2]; rfl
  obtain ⟨h1, h2⟩ := key es h
  show (PyData.canLayAll0 (es.map fun e => PyData.str e.line) && decide (PyData.depthAll (es.map fun e => PyData.str e.line) + 1 ≤ 64)) = true
  rw [h1, h2]
  rfl
theorem lines_shaped2 {es : List Ent} (h : ∀ e ∈ es, e.ok = true) : SeqAt.shaped (.list ((es.map Ent.line).map PyData.str)) = true := by
  rw [List.map_map]
  exact lines_shaped h
theorem lines_map (xs : List (Addr × Ent)) : (xs.map fun x => V.str x.2.line) = ((xs.map (·.2)).map Ent.line).map V.str := by rw [List.map_map, List.map_map]; rfl
theorem join_fits {es : List Ent} (h : ∀ e ∈ es, e.ok = true) (hn : es.length ≤ 1000) : ((es.map Ent.line).map (·.length)).sum + (es.map Ent.line).length * ("\n" : Str).length ≤ 16777216 := by
  have h1 := sum_le (b := 120) (ys := es.map Ent.line) fun y hy => by
    obtain ⟨v, hv, rfl⟩ := List.mem_map.mp hy
    exact Ent.line_len (h v hv)
  rw [List.length_map] at h1 ⊢
  rw [show ("\n" : Str).length = 1 from rfl]
  omega
theorem dp_ent {K : PySem.W.Frag} {H : Hp} {p : Addr} {e : Ent} (h : SqT K H p e.vs) : Dp K H (.ref p) e.data := by
  cases e with
  | ask k g c m => exact .tup h (.cons (.str _) (.cons (.str _) (.cons (.str _) (.cons (.int _) (.cons (.int _) .nil)))))
  | rel k m => exact .tup h (.cons (.str _) (.cons (.str _) (.cons (.int _) .nil)))
theorem dp_row {K : PySem.W.Frag} {H : Hp} {l : Addr} {xs : List (Addr × Ent)} (h : RowAt K H l xs) : Dp K H (.ref l) (.list ((xs.map (·.2)).map Ent.data)) := by
  refine .lst h.1 ?_
  have key : ∀ xs : List (Addr × Ent), (∀ x ∈ xs, SqT K H x.1 x.2.vs) → DpAll K H (xs.map fun x => V.ref x.1) ((xs.map (·.2)).map Ent.data) := by
    intro xs
    induction xs with
    | nil => intro _; exact .nil
    | cons x r ih => intro h; exact .cons (dp_ent (h x (.head _))) (ih fun y hy => h y (.tail _ hy))
  exact key xs h.2
theorem dp_strs {K : PySem.W.Frag} {H : Hp} {l : Addr} {zs : List Str} (h : SqL K H l (zs.map V.str)) : Dp K H (.ref l) (.list (zs.map PyData.str)) := by
  refine .lst h ?_
  clear h
  induction zs with
  | nil => exact .nil
  | cons z r ih => exact .cons (.str z) ih
theorem row_get {xs : List (Addr × Ent)} {i : Nat} {y : V} (h : (xs.map fun x => V.ref x.1)[i]? = some y) : ∃ px e, xs[i]? = some (px, e) ∧ (xs.map (·.2))[i]? = some e ∧ y = .ref px := by
  rw [List.getElem?_map] at h
  cases hx : xs[i]? with
  | none => rw [hx] at h; cases h
  | some x =>
    rw [hx] at h
    exact ⟨x.1, x.2, rfl, by rw [List.getElem?_map, hx]; rfl, (Option.some.inj h).symm⟩
theorem key_put {kvs : List (Key × V)} {k z : Str} {ks : List Str} (h : ∀ z, (valV kvs (Sum.inr z)).isSome = true ↔ z ∈ ks) : (valV (putK kvs (Sum.inr k) (.bl true)) (Sum.inr z)).isSome = true ↔ z ∈ ks ++ [k] := by
  rw [valV_put, List.mem_append, List.mem_singleton, ← h z]
  by_cases e : z = k
  · subst e
    simp
  · rw [if_neg (fun x => e (Sum.inr.inj x))]
    simp [e]
theorem take_snoc {α β : Type} {l : List α} {i : Nat} {x : α} (h : l[i]? = some x) (f : α → β) : (l.take (i + 1)).map f = (l.take i).map f ++ [f x] := by
  rw [List.take_add_one, h, List.map_append]
  rfl
theorem lastM_take {es : List Ent} {i : Nat} {e : Ent} (h : es[i]? = some e) : lastM (es.take (i + 1)) = e.mom := by
  rw [List.take_add_one, h]
  exact lastM_snoc _ _
theorem at_strs {ks : List Str} {i : Int} (h0 : 0 ≤ i) (h1 : i < ((ks.map V.str).length : Int)) : ∃ z ∈ ks, atI (ks.map V.str) i = some (.str z) := by
  obtain ⟨n, rfl⟩ := Int.eq_ofNat_of_zero_le h0
  rw [List.length_map] at h1
  have hn : n < ks.length := by omega
  exact ⟨ks[n], List.getElem_mem hn, atI_nat (j := n) (by rw [List.getElem?_map, List.getElem?_eq_getElem hn]; rfl)⟩
theorem suff_at {m : Int} (h : 0 ≤ m ∧ m < 3) : ∃ (j : Nat) (z : Str), j < 3 ∧ z.length ≤ 2 ∧ atI [V.str "", V.str "-x", V.str "y"] m = some (.str z) ∧ (["", "-x", "y"].getD j "" : Str) = z := by
  have c : m = 0 ∨ m = 1 ∨ m = 2 := by omega
  rcases c with rfl | rfl | rfl
  · exact ⟨0, "", by decide, by decide +kernel, rfl, rfl⟩
  · exact ⟨1, "-x", by decide, by decide +kernel, rfl, rfl⟩
  · exact ⟨2, "y", by decide, by decide +kernel, rfl, rfl⟩
theorem four_at {a b c d : Int} {m : Int} (h : 0 ≤ m ∧ m < 4) {b0 : Int} (ha : 0 < a ∧ a ≤ b0) (hb : 0 < b ∧ b ≤ b0) (hc : 0 < c ∧ c ≤ b0) (hd : 0 < d ∧ d ≤ b0) : ∃ u : Int, atI [V.int a, V.int b, V.int c, V.int d] m = some (.int u) ∧ 0 < u ∧ u ≤ b0 := by
  have e : m = 0 ∨ m = 1 ∨ m = 2 ∨ m = 3 := by omega
  rcases e with rfl | rfl | rfl | rfl
  · exact ⟨a, rfl, ha⟩
  · exact ⟨b, rfl, hb⟩
  · exact ⟨c, rfl, hc⟩
  · exact ⟨d, rfl, hd⟩
/-! the drawn keys and groups -/
def keyOf (k j : Nat) : Str := "k" ++ (toString ((k : Nat) : Int) : Str) ++ (["", "-x", "y"].getD j "" : Str)
theorem keyOf_ok : ∀ k < 14, ∀ j < 3, isKey (keyOf k j) = true := by decide +kernel
theorem keyOf_ne : ∀ k < 14, ∀ k' < 14, ∀ j < 3, ∀ j' < 3, keyOf k j = keyOf k' j' → k = k' := by decide +kernel
def groupsL : List Str := ["a", "b", "g1", "zz", "ab", "abc", "abcd", "abcde", "abcdef", "abcdefg", "abcdefgh", "abcdefghi", "abcdefghij", "abcdefghijk", "abcdefghijkl"]
theorem groups_ok : ∀ g ∈ groupsL, isName g = true := by decide +kernel
/-! ### steps of defs that raise -/
section
variable {K : PySem.W.Frag} {H : Hp} {Q : VK} {σ : L2.St} {D : Ends} {C C2 a dd : Addr} {f : Str} {W Wout : WX} {v : V} {fs : List (Str × V)} {cls c : Value} {d : Option Addr} {ts : Addr → Value → Option Addr → TS}
def rRaise (C : Addr) (f : Str) (W : WX) (σ : L2.St) : List V → Hp → Prop := fun vs H1 => ∃ v, vs = [v] ∧ ∀ d, H1 d = none → W (.ref C) (some d) σ (upd H1 d (.xd [(f, v)]))
theorem g_raise {ta : TA} (q : ta σ H (rRaise C f W σ)) : tRaise C f W ta D σ H := q
theorem g_raise1 (q : ∀ d, H d = none → W (.ref C) (some d) σ (upd H d (.xd [(f, v)]))) : rRaise C f W σ [v] H := ⟨v, rfl, q⟩
theorem g_callS {sp : Sp} {E : L2.St → XK} {t : TA} (q : t σ H fun vs H1 => sp vs H1 Q (E σ)) : tCallS sp E t σ H Q := q
theorem g_only (he : PySem.W.exmOne K cls c = some true) (q : ∀ a, H a = none → ts a cls d D σ H) : WE (wOnly K c ts Wout D) σ cls d H := ⟨true, he, fun _ => q, fun z => nomatch z⟩
theorem g_as {i : Nat} (he : PySem.W.exmOne K cls c = some true) (q : ∀ a, H a = none → ts a cls d { nx := fun σ' H' => D.nx (σ'.set i none) H', rt := D.rt, bk := fun σ' H' => D.bk (σ'.set i none) H', ct := fun σ' H' => D.ct (σ'.set i none) H' } (σ.set i (some (.ref a))) H) :
    WE (wAs K c i ts Wout D) σ cls d H := ⟨true, he, fun _ => q, fun z => nomatch z⟩
def rXf (a : Addr) (cls : Value) (d : Option Addr) (C : Addr) (f : Str) : V → Hp → VK → Prop := fun x H1 Q => x = .ref a ∧ cls = .ref C ∧ ∃ (dd : Addr) (fs : List (Str × V)) (v : V), d = some dd ∧ H1 dd = some (.xd fs) ∧ fs.lookup f = some v ∧ Q v H1
theorem g_xf {te : TE} (q : te σ H fun x H1 => rXf a cls d C f x H1 Q) : tXf a cls d C f te σ H Q := q
theorem g_xf1 (hd : H dd = some (.xd fs)) (hl : fs.lookup f = some v) (q : Q v H) : rXf a (.ref C) (some dd) C f (.ref a) H Q := ⟨rfl, rfl, dd, fs, v, rfl, hd, hl, q⟩
theorem g_isED {b : Bool} (hk : PySem.W.kitOne K (.ref C) (.ref C2) = some b) (hd : H dd = some (.xd fs)) (q : Q (.bl b) H) : rIsED K C a (.ref C) (some dd) [.ref a, .ref C2] H Q :=
  ⟨.ref C2, .ref C2, b, dd, fs, rfl, rfl, (fun u r => r), hk, rfl, hd, q⟩
end
section
variable {H : Hp} {Q : VK} {σ : L2.St}
theorem g_repl1 {to : TE} {y z : Str} (q : to σ H fun v H1 => rRepl1 y z v H1 Q) : tRepl1 to y z σ H Q := q
theorem g_repl1S {x : Str} {a b : List Nat} (ha : 32 ∉ a) (hx : tl x = a ++ 32 :: b) (hl : x.length ≤ 100000) (q : Q (.str (stxt (a ++ 32 :: 32 :: b))) H) : rRepl1 " " "  " (.str x) H Q := by
  have hs := splitMax_cutN x (k := 1) (by decide)
  have hc : cutN (1 : Int).toNat (tl x) = [a, b] := by
    show cutN 1 (tl x) = _
    rw [hx]
    unfold cutN
    rw [brk_app b ha]
    simp [cutN]
  rw [hc] at hs
  have hlim : limitOf x 1 = 1 := rfl
  unfold Txt.splitMax at hs
  rw [hlim] at hs
  have h1 : (decide (x.length < (" " : Str).length) || decide (Builtin.Str.strKind x < Builtin.Str.strKind " ")) = false := by
    cases h : (decide (x.length < (" " : Str).length) || decide (Builtin.Str.strKind x < Builtin.Str.strKind " ")) with
    | false => rfl
    | true =>
      rw [h, if_pos rfl] at hs
      simp at hs
  rw [h1, if_neg Bool.false_ne_true] at hs
  have h2 : (Builtin.Str.occurrences x " " 0 x.length 1).isEmpty = false := by
    cases h : (Builtin.Str.occurrences x " " 0 x.length 1).isEmpty with
    | false => rfl
    | true =>
      rw [h, if_pos rfl] at hs
      simp at hs
  rw [h2, if_neg Bool.false_ne_true] at hs
  have h3 : Builtin.Str.partsBetween x (Builtin.Str.occurrences x " " 0 x.length 1) (" " : Str).length = [stxt a, stxt b] := map_tl_inj (by rw [hs]; rfl)
  have h4 : Builtin.Str.glued "  " [stxt a, stxt b] = stxt (a ++ 32 :: 32 :: b) := by
    rw [StrLaws.glued_eq_join]
    refine ext_tl ?_
    rw [tl_join, tl_stxt]
    show joinL [32, 32] [a, b] = _
    simp [joinL]
  refine ⟨x, rfl, hl, by decide +kernel, by decide +kernel, by decide +kernel, (fun e => by rw [e] at h2; cases h2), ?_, ?_⟩
  · rw [h3, h4, len_stxt]
    have e1 := len_tl x
    rw [hx] at e1
    simp only [List.length_append, List.length_cons] at e1 ⊢
    exact fits_of (by omega)
  · rw [h3, h4]; exact q
end
/-! ### spoilt lines of entries -/
theorem cons_eq2 {α : Type} {a b : α} {l m : List α} (h : a = b) (k : l = m) : a :: l = b :: m := by rw [h, k]
theorem joinL_snoc (S q : List Nat) : ∀ (ps : List (List Nat)), ps ≠ [] → joinL S (ps ++ [q]) = joinL S ps ++ S ++ q
  | [], h => absurd rfl h
  | [p], _ => by simp [joinL]
  | p :: a :: r, _ => by
    have ih := joinL_snoc S q (a :: r) (by simp)
    rw [List.cons_append] at ih
    rw [List.cons_append, List.cons_append, joinL_cons, joinL_cons, ih]
    simp only [List.append_assoc]
/-- the parts of the spoilt line of the entry with the parts pre ++ [mo], w0 ahead -/
def badParts (w0 : Str) (mid : List Str) (mo : Str) : Nat → List Str
  | 0 => [""]
  | 1 => "" :: w0 :: (mid ++ [mo])
  | 2 => w0 :: (mid ++ [mo]) ++ [("" : Str)]
  | 3 => w0 :: "" :: (mid ++ [mo])
  | 4 => w0 :: (mid ++ [mo]) ++ [("1" : Str)]
  | 5 => w0 :: mid
  | 6 => ("x" ++ w0) :: (mid ++ [mo])
  | 7 => ["ask"]
  | 8 => ["release"]
  | 9 => w0 :: mid ++ [("0" : Str) ++ mo]
  | 10 => w0 :: mid ++ [("-" : Str) ++ mo]
  | 11 => w0 :: mid ++ [mo ++ ("x" : Str)]
  | 12 => w0 :: mid ++ [("12345678901" : Str)]
  | 13 => w0 :: mid ++ [("1000000001" : Str)]
  | 14 => ["ask", "K", "g", "1", mo]
  | 15 => ["ask", "k-", "G", "1", mo]
  | 16 => ["ask", "k-", "g", "0", mo]
  | 17 => ["ask", "k-", "g", "1001", mo]
  | 18 => ["ask", "k-", "g", "01", mo]
  | 19 => ["release", "k--never", mo]
  | 20 => ["ask", "k-", "g", "1"]
  | _ => ["release", mo]
/-- the texts as the law makes them: line, its head, the moment's text -/
def spoils (line head mo : Str) (rep : Str) : List Str :=
  ["", " " ++ line, line ++ " ", rep, line ++ " 1", cutS head none (some (-1)), "x" ++ line, "ask", "release",
    head ++ "0" ++ mo, head ++ "-" ++ mo, head ++ mo ++ "x", head ++ "12345678901", head ++ "1000000001",
    "ask K g 1 " ++ mo, "ask k- G 1 " ++ mo, "ask k- g 0 " ++ mo, "ask k- g 1001 " ++ mo,
    "ask k- g 01 " ++ mo, "release k--never " ++ mo, "ask k- g 1", "release " ++ mo]
theorem join_tl (ps : List Str) : tl (Txt.join " " ps) = joinL [32] (ps.map tl) := by rw [join_eq, tl_join]; rfl
theorem spoils_eq {w0 mo line head rep : Str} {mid : List Str} (hl : line = Txt.join " " (w0 :: (mid ++ [mo]))) (hh : tl head = joinL [32] ((w0 :: mid).map tl) ++ [32]) (hr : rep = stxt (tl w0 ++ 32 :: 32 :: joinL [32] ((mid ++ [mo]).map tl))) :
    spoils line head mo rep = (List.range 22).map fun k => Txt.join " " (badParts w0 mid mo k) := by
  have hL : tl line = joinL [32] (tl w0 :: (mid.map tl ++ [tl mo])) := by rw [hl, join_tl, List.map_cons, List.map_append]; rfl
  have hL1 : tl line = tl w0 ++ [32] ++ joinL [32] (mid.map tl ++ [tl mo]) := by
    rw [hL]
    cases h : mid.map tl ++ [tl mo] with
    | nil => simp at h
    | cons a r => rw [joinL_cons]
  have hH : tl head = joinL [32] (tl w0 :: mid.map tl) ++ [32] := by rw [hh, List.map_cons]
  have key : ∀ (a b : Str), tl a = tl b → a = b := fun a b h => ext_tl h
  have hcons : ∀ (p : List Nat) , joinL [32] (p :: (mid.map tl ++ [tl mo])) = p ++ [32] ++ joinL [32] (mid.map tl ++ [tl mo]) := fun p => by
    cases h : mid.map tl ++ [tl mo] with
    | nil => simp at h
    | cons a r => rw [joinL_cons]
  have lit : ∀ (a : Str) (l : List Nat), tl a = l → ∀ z : Str, tl (a ++ z) = l ++ tl z := fun a l h z => by rw [tl_append, h]
  show spoils line head mo rep = [Txt.join " " (badParts w0 mid mo 0), Txt.join " " (badParts w0 mid mo 1), Txt.join " " (badParts w0 mid mo 2), Txt.join " " (badParts w0 mid mo 3), Txt.join " " (badParts w0 mid mo 4), Txt.join " " (badParts w0 mid mo 5), Txt.join " " (badParts w0 mid mo 6), Txt.join " " (badParts w0 mid mo 7), Txt.join " " (badParts w0 mid mo 8), Txt.join " " (badParts w0 mid mo 9), Txt.join " " (badParts w0 mid mo 10), Txt.join " " (badParts w0 mid mo 11), Txt.join " " (badParts w0 mid mo 12), Txt.join " " (badParts w0 mid mo 13), Txt.join " " (badParts w0 mid mo 14), Txt.join " " (badParts w0 mid mo 15), Txt.join " " (badParts w0 mid mo 16), Txt.join " " (badParts w0 mid mo 17), Txt.join " " (badParts w0 mid mo 18), Txt.join " " (badParts w0 mid mo 19), Txt.join " " (badParts w0 mid mo 20), Txt.join " " (badParts w0 mid mo 21)]
  have n0 : tl ("" : Str) = [] := by decide +kernel
  have n32 : tl (" " : Str) = [32] := by decide +kernel
  have hne : tl w0 :: (mid.map tl ++ [tl mo]) ≠ [] := by simp
  have hne2 : tl w0 :: mid.map tl ≠ [] := by simp
  have j5 : ∀ a b c d e : List Nat, joinL [32] [a, b, c, d, e] = a ++ 32 :: (b ++ 32 :: (c ++ 32 :: (d ++ 32 :: e))) := fun a b c d e => by simp [joinL]
  have j3 : ∀ a b c : List Nat, joinL [32] [a, b, c] = a ++ 32 :: (b ++ 32 :: c) := fun a b c => by simp [joinL]
  unfold spoils
  refine cons_eq2 ?_ ?_
  · exact key _ _ (by rw [join_tl]; rfl)
  refine cons_eq2 ?_ ?_
  · refine key _ _ ?_
    rw [join_tl, tl_append, n32, hL]
    simp only [badParts, List.map_cons, List.map_append, List.map_nil, n0]
    rw [joinL_cons]
    rfl
  refine cons_eq2 ?_ ?_
  · refine key _ _ ?_
    rw [join_tl, tl_append, n32, hL]
    simp only [badParts, List.map_cons, List.map_append, List.map_nil, n0]
    show joinL [32] (tl w0 :: (mid.map tl ++ [tl mo])) ++ [32] = joinL [32] ((tl w0 :: (mid.map tl ++ [tl mo])) ++ [[]])
    rw [joinL_snoc _ _ _ hne, List.append_nil]
  refine cons_eq2 ?_ ?_
  · refine key _ _ ?_
    rw [join_tl, hr, tl_stxt]
    simp only [badParts, List.map_cons, List.map_append, List.map_nil, n0]
    rw [joinL_cons, hcons]
    simp
  refine cons_eq2 ?_ ?_
  · refine key _ _ ?_
    rw [join_tl, tl_append, hL, show tl (" 1" : Str) = [32] ++ tl ("1" : Str) by decide +kernel]
    simp only [badParts, List.map_cons, List.map_append, List.map_nil]
    show joinL [32] (tl w0 :: (mid.map tl ++ [tl mo])) ++ ([32] ++ tl ("1" : Str)) = joinL [32] ((tl w0 :: (mid.map tl ++ [tl mo])) ++ [tl ("1" : Str)])
    rw [joinL_snoc _ _ _ hne, List.append_assoc]
  refine cons_eq2 ?_ ?_
  · refine key _ _ ?_
    rw [join_tl, tl_cut_to_neg head (k := 1) (by decide) (i := -1) rfl, hH]
    simp only [badParts, List.map_cons]
    simp
  refine cons_eq2 ?_ ?_
  · refine key _ _ ?_
    rw [join_tl, tl_append, hL1]
    simp only [badParts, List.map_cons, List.map_append, List.map_nil]
    rw [hcons, tl_append]
    simp only [List.append_assoc]
  refine cons_eq2 ?_ ?_
  · exact key _ _ (by rw [join_tl]; rfl)
  refine cons_eq2 ?_ ?_
  · exact key _ _ (by rw [join_tl]; rfl)
  have hsn : ∀ q : Str, tl (Txt.join " " (w0 :: mid ++ [q])) = tl head ++ tl q := fun q => by
    rw [join_tl, hH, List.map_append, List.map_cons]
    exact joinL_snoc _ _ _ hne2
  refine cons_eq2 ?_ ?_
  · refine key _ _ ?_
    show _ = tl (Txt.join " " (w0 :: mid ++ [("0" : Str) ++ mo]))
    rw [hsn, tl_append, tl_append, tl_append, List.append_assoc]
  refine cons_eq2 ?_ ?_
  · refine key _ _ ?_
    show _ = tl (Txt.join " " (w0 :: mid ++ [("-" : Str) ++ mo]))
    rw [hsn, tl_append, tl_append, tl_append, List.append_assoc]
  refine cons_eq2 ?_ ?_
  · refine key _ _ ?_
    show _ = tl (Txt.join " " (w0 :: mid ++ [mo ++ ("x" : Str)]))
    rw [hsn, tl_append, tl_append, tl_append, List.append_assoc]
  refine cons_eq2 ?_ ?_
  · refine key _ _ ?_
    show _ = tl (Txt.join " " (w0 :: mid ++ [("12345678901" : Str)]))
    rw [hsn, tl_append]
  refine cons_eq2 ?_ ?_
  · refine key _ _ ?_
    show _ = tl (Txt.join " " (w0 :: mid ++ [("1000000001" : Str)]))
    rw [hsn, tl_append]
  refine cons_eq2 ?_ ?_
  · refine key _ _ ?_
    rw [join_tl, tl_append]
    show _ = joinL [32] [tl "ask", tl "K", tl "g", tl "1", tl mo]
    rw [j5, show tl ("ask K g 1 " : Str) = tl "ask" ++ 32 :: (tl "K" ++ 32 :: (tl "g" ++ 32 :: (tl "1" ++ [32]))) by decide +kernel]
    simp
  refine cons_eq2 ?_ ?_
  · refine key _ _ ?_
    rw [join_tl, tl_append]
    show _ = joinL [32] [tl "ask", tl "k-", tl "G", tl "1", tl mo]
    rw [j5, show tl ("ask k- G 1 " : Str) = tl "ask" ++ 32 :: (tl "k-" ++ 32 :: (tl "G" ++ 32 :: (tl "1" ++ [32]))) by decide +kernel]
    simp
  refine cons_eq2 ?_ ?_
  · refine key _ _ ?_
    rw [join_tl, tl_append]
    show _ = joinL [32] [tl "ask", tl "k-", tl "g", tl "0", tl mo]
    rw [j5, show tl ("ask k- g 0 " : Str) = tl "ask" ++ 32 :: (tl "k-" ++ 32 :: (tl "g" ++ 32 :: (tl "0" ++ [32]))) by decide +kernel]
    simp
  refine cons_eq2 ?_ ?_
  · refine key _ _ ?_
    rw [join_tl, tl_append]
    show _ = joinL [32] [tl "ask", tl "k-", tl "g", tl "1001", tl mo]
    rw [j5, show tl ("ask k- g 1001 " : Str) = tl "ask" ++ 32 :: (tl "k-" ++ 32 :: (tl "g" ++ 32 :: (tl "1001" ++ [32]))) by decide +kernel]
    simp
  refine cons_eq2 ?_ ?_
  · refine key _ _ ?_
    rw [join_tl, tl_append]
    show _ = joinL [32] [tl "ask", tl "k-", tl "g", tl "01", tl mo]
    rw [j5, show tl ("ask k- g 01 " : Str) = tl "ask" ++ 32 :: (tl "k-" ++ 32 :: (tl "g" ++ 32 :: (tl "01" ++ [32]))) by decide +kernel]
    simp
  refine cons_eq2 ?_ ?_
  · refine key _ _ ?_
    rw [join_tl, tl_append]
    show _ = joinL [32] [tl "release", tl "k--never", tl mo]
    rw [j3, show tl ("release k--never " : Str) = tl "release" ++ 32 :: (tl "k--never" ++ [32]) by decide +kernel]
    simp
  refine cons_eq2 ?_ ?_
  · exact key _ _ (by rw [join_tl]; show _ = joinL [32] [tl "ask", tl "k-", tl "g", tl "1"]; decide +kernel)
  refine cons_eq2 ?_ rfl
  · refine key _ _ ?_
    rw [join_tl, tl_append]
    show _ = joinL [32] [tl "release", tl mo]
    rw [joinL_cons, show tl ("release " : Str) = tl "release" ++ [32] by decide +kernel]
    simp [joinL]
theorem read_parts {ps : List Str} (hne : ps ≠ []) (h : ∀ p ∈ ps, 32 ∉ tl p) : readEnt (Txt.join " " ps) = entOf (ps.map tl) := by
  unfold readEnt
  rw [split_join (s := 32) (S := []) rfl (by decide +kernel) hne h]
theorem ent5 {w k g c m : List Nat} {e : Ent} (h : entOf [w, k, g, c, m] = some e) : ∃ c' m', stxt w = "ask" ∧ numOf 4 c = some c' ∧ numOf 10 m = some m' ∧ e = .ask (stxt k) (stxt g) c' m' := by
  unfold entOf at h
  by_cases hw : stxt w = "ask"
  · simp only [if_pos hw] at h
    cases hc : numOf 4 c with
    | none => rw [hc] at h; cases h
    | some c' =>
      cases hm : numOf 10 m with
      | none => rw [hc, hm] at h; cases h
      | some m' =>
        rw [hc, hm] at h
        cases h
        exact ⟨c', m', hw, rfl, rfl, rfl⟩
  · simp only [if_neg hw] at h
    cases h
theorem ent3 {w k m : List Nat} {e : Ent} (h : entOf [w, k, m] = some e) : ∃ m', stxt w = "release" ∧ numOf 10 m = some m' ∧ e = .rel (stxt k) m' := by
  unfold entOf at h
  by_cases hw : stxt w = "release"
  · simp only [if_pos hw] at h
    cases hm : numOf 10 m with
    | none => rw [hm] at h; cases h
    | some m' =>
      rw [hm] at h
      cases h
      exact ⟨m', hw, rfl, rfl⟩
  · simp only [if_neg hw] at h
    cases h
theorem num_signs {k : Int} {l : List Nat} {i : Int} (h : numOf k l = some i) : ∀ c ∈ l, 48 ≤ c ∧ c ≤ 57 := by
  unfold numOf at h
  split at h
  · rename_i hc
    exact hc.2.2.1
  · cases h
theorem bad_ok {hist : List Ent} {e : Ent} (h : e.ok = false) : ¬ Row (hist ++ [e]) := fun hr => by
  have := hr.ok e (List.mem_append_right _ (.head _))
  rw [h] at this
  cases this
theorem bad_never {hist : List Ent} {k : Str} {m : Int} (h : k ∉ hist.map Ent.key) : ¬ Row (hist ++ [.rel k m]) := fun hr => by
  have h1 := hr hist.length (.rel k m) (by rw [List.getElem?_append_right (Nat.le_refl _), Nat.sub_self]; rfl)
  rw [List.take_append_of_le_length (Nat.le_refl _), List.take_of_length_le (Nat.le_refl _)] at h1
  have h2 : (false = true) := h1.2.2.mpr h
  cases h2
theorem bad_twice {hist : List Ent} {k g : Str} {c m : Int} (h : k ∈ hist.map Ent.key) : ¬ Row (hist ++ [.ask k g c m]) := fun hr => by
  have h1 := hr hist.length (.ask k g c m) (by rw [List.getElem?_append_right (Nat.le_refl _), Nat.sub_self]; rfl)
  rw [List.take_append_of_le_length (Nat.le_refl _), List.take_of_length_le (Nat.le_refl _)] at h1
  exact (h1.2.2.mp rfl) h
theorem bad_early {hist : List Ent} {e : Ent} (h : e.mom < lastM hist) : ¬ Row (hist ++ [e]) := fun hr => by
  have h1 := hr hist.length e (by rw [List.getElem?_append_right (Nat.le_refl _), Nat.sub_self]; rfl)
  rw [List.take_append_of_le_length (Nat.le_refl _), List.take_of_length_le (Nat.le_refl _)] at h1
  have := h1.2.1
  omega
/-- the words of an entry -/
def Ent.mid : Ent → List Str
  | .ask k g c _ => [k, g, toString c]
  | .rel k _ => [k]
def Ent.word : Ent → Str
  | .ask _ _ _ _ => "ask"
  | .rel _ _ => "release"
def Ent.moS (e : Ent) : Str := toString e.mom
theorem Ent.words (e : Ent) : e.vs.map partS = e.word :: (e.mid ++ [e.moS]) := by cases e <;> rfl
theorem Ent.mo_tl {e : Ent} (h : e.ok = true) : tl e.moS = numL e.mom.toNat ∧ 0 ≤ e.mom ∧ e.mom ≤ 1000000000 := by
  have h1 : 0 ≤ e.mom ∧ e.mom ≤ 1000000000 := by
    cases e with
    | ask k g c m =>
      simp only [Ent.ok, Bool.and_eq_true, decide_eq_true_eq] at h
      exact ⟨h.2.2.2.1, h.2.2.2.2⟩
    | rel k m =>
      simp only [Ent.ok, Bool.and_eq_true, decide_eq_true_eq] at h
      exact ⟨h.2.1, h.2.2⟩
  exact ⟨tl_num' h1.1, h1⟩
theorem Ent.words_plain {e : Ent} (h : e.ok = true) : (∀ c ∈ tl e.word, 33 ≤ c ∧ c ≤ 126) ∧ (∀ p ∈ e.mid, ∀ c ∈ tl p, 33 ≤ c ∧ c ≤ 126) ∧ ∀ c ∈ tl e.moS, 33 ≤ c ∧ c ≤ 126 := by
  have hp := Ent.ok_parts h
  have hall : ∀ p ∈ e.word :: (e.mid ++ [e.moS]), ∀ c ∈ tl p, 33 ≤ c ∧ c ≤ 126 := fun p hpm => by
    rw [← e.words] at hpm
    obtain ⟨v, hv, rfl⟩ := List.mem_map.mp hpm
    exact (hp v hv).plain
  exact ⟨hall _ (.head _), fun p hm => hall p (.tail _ (List.mem_append_left _ hm)), hall _ (.tail _ (List.mem_append_right _ (.head _)))⟩
def badLits : List Str := ["", "1", "ask", "release", "12345678901", "1000000001", "K", "g", "k-", "G", "0", "1001", "01", "k--never"]
theorem bad_all {Pr : Str → Prop} {w0 : Str} {mid : List Str} {mo : Str} (h0 : Pr w0) (h1 : ∀ p ∈ mid, Pr p) (h2 : Pr mo) (hx : Pr (("x" : Str) ++ w0)) (hz : Pr (("0" : Str) ++ mo)) (hm : Pr (("-" : Str) ++ mo)) (hxx : Pr (mo ++ ("x" : Str))) (lit : ∀ z ∈ badLits, Pr z) (k : Nat) : badParts w0 mid mo k ≠ [] ∧ ∀ p ∈ badParts w0 mid mo k, Pr p := by
  unfold badParts
  split <;> refine ⟨by simp, fun p hp => ?_⟩ <;> simp only [List.mem_cons, List.mem_append, List.cons_append, List.not_mem_nil, or_false] at hp
  · rw [hp]; exact lit _ (by decide +kernel)
  · rcases hp with rfl | rfl | hp | rfl
    · exact lit _ (by decide +kernel)
    · exact h0
    · exact h1 p hp
    · exact h2
  · rcases hp with rfl | (hp | rfl) | rfl
    · exact h0
    · exact h1 p hp
    · exact h2
    · exact lit _ (by decide +kernel)
  · rcases hp with rfl | rfl | hp | rfl
    · exact h0
    · exact lit _ (by decide +kernel)
    · exact h1 p hp
    · exact h2
  · rcases hp with rfl | (hp | rfl) | rfl
    · exact h0
    · exact h1 p hp
    · exact h2
    · exact lit _ (by decide +kernel)
  · rcases hp with rfl | hp
    · exact h0
    · exact h1 p hp
  · rcases hp with rfl | hp | rfl
    · exact hx
    · exact h1 p hp
    · exact h2
  · rw [hp]; exact lit _ (by decide +kernel)
  · rw [hp]; exact lit _ (by decide +kernel)
  · rcases hp with rfl | hp | rfl
    · exact h0
    · exact h1 p hp
    · exact hz
  · rcases hp with rfl | hp | rfl
    · exact h0
    · exact h1 p hp
    · exact hm
  · rcases hp with rfl | hp | rfl
    · exact h0
    · exact h1 p hp
    · exact hxx
  · rcases hp with rfl | hp | rfl
    · exact h0
    · exact h1 p hp
    · exact lit _ (by decide +kernel)
  · rcases hp with rfl | hp | rfl
    · exact h0
    · exact h1 p hp
    · exact lit _ (by decide +kernel)
  · rcases hp with rfl | rfl | rfl | rfl | rfl
    · exact lit _ (by decide +kernel)
    · exact lit _ (by decide +kernel)
    · exact lit _ (by decide +kernel)
    · exact lit _ (by decide +kernel)
    · exact h2
  · rcases hp with rfl | rfl | rfl | rfl | rfl
    · exact lit _ (by decide +kernel)
    · exact lit _ (by decide +kernel)
    · exact lit _ (by decide +kernel)
    · exact lit _ (by decide +kernel)
    · exact h2
  · rcases hp with rfl | rfl | rfl | rfl | rfl
    · exact lit _ (by decide +kernel)
    · exact lit _ (by decide +kernel)
    · exact lit _ (by decide +kernel)
    · exact lit _ (by decide +kernel)
    · exact h2
  · rcases hp with rfl | rfl | rfl | rfl | rfl
    · exact lit _ (by decide +kernel)
    · exact lit _ (by decide +kernel)
    · exact lit _ (by decide +kernel)
    · exact lit _ (by decide +kernel)
    · exact h2
  · rcases hp with rfl | rfl | rfl | rfl | rfl
    · exact lit _ (by decide +kernel)
    · exact lit _ (by decide +kernel)
    · exact lit _ (by decide +kernel)
    · exact lit _ (by decide +kernel)
    · exact h2
  · rcases hp with rfl | rfl | rfl
    · exact lit _ (by decide +kernel)
    · exact lit _ (by decide +kernel)
    · exact h2
  · rcases hp with rfl | rfl | rfl | rfl
    · exact lit _ (by decide +kernel)
    · exact lit _ (by decide +kernel)
    · exact lit _ (by decide +kernel)
    · exact lit _ (by decide +kernel)
  · rcases hp with rfl | rfl
    · exact lit _ (by decide +kernel)
    · exact h2
theorem bad_plain {w0 : Str} {mid : List Str} {mo : Str} (h0 : ∀ c ∈ tl w0, 33 ≤ c ∧ c ≤ 126) (h1 : ∀ p ∈ mid, ∀ c ∈ tl p, 33 ≤ c ∧ c ≤ 126) (h2 : ∀ c ∈ tl mo, 33 ≤ c ∧ c ≤ 126) (k : Nat) : badParts w0 mid mo k ≠ [] ∧ ∀ p ∈ badParts w0 mid mo k, ∀ c ∈ tl p, 33 ≤ c ∧ c ≤ 126 := by
  have app : ∀ a b : Str, (∀ c ∈ tl a, 33 ≤ c ∧ c ≤ 126) → (∀ c ∈ tl b, 33 ≤ c ∧ c ≤ 126) → ∀ c ∈ tl (a ++ b), 33 ≤ c ∧ c ≤ 126 := fun a b ha hb c hc => by
    rw [tl_append, List.mem_append] at hc
    rcases hc with hc | hc
    · exact ha c hc
    · exact hb c hc
  exact bad_all (Pr := fun p => ∀ c ∈ tl p, 33 ≤ c ∧ c ≤ 126) h0 h1 h2 (app _ _ (by decide +kernel) h0) (app _ _ (by decide +kernel) h2) (app _ _ (by decide +kernel) h2) (app _ _ h2 (by decide +kernel)) (by decide +kernel) k
theorem join_len {y : Str} {b : Nat} : ∀ {ps : List Str}, (∀ p ∈ ps, p.length ≤ b) → (Txt.join y ps).length ≤ (b + y.length) * ps.length := by
  intro ps h
  rw [len_tl, join_eq, tl_join]
  have key : ∀ ps : List Str, (∀ p ∈ ps, p.length ≤ b) → (joinL (tl y) (ps.map tl)).length ≤ (b + y.length) * ps.length := by
    intro ps
    induction ps with
    | nil => intro _; simp [joinL]
    | cons p r ih =>
      intro h
      have h1 := h p (.head _)
      rw [len_tl] at h1
      have h2 := ih fun x hx => h x (.tail _ hx)
      have h3 := len_tl y
      cases r with
      | nil => simp only [List.map_cons, List.map_nil, joinL, List.length_cons, List.length_nil, Nat.zero_add, Nat.mul_one]; omega
      | cons a r =>
        simp only [List.map_cons] at h2 ⊢
        rw [joinL_cons, List.length_append, List.length_append]
        simp only [List.length_cons, Nat.mul_add, Nat.mul_one] at h2 ⊢
        omega
  exact key ps h
theorem bad_len {e : Ent} (h : e.ok = true) (k : Nat) : (Txt.join " " (badParts e.word e.mid e.moS k)).length ≤ 400 := by
  have hp := Ent.ok_parts h
  have hall : ∀ p ∈ e.word :: (e.mid ++ [e.moS]), p.length ≤ 20 := fun p hpm => by
    rw [← e.words] at hpm
    obtain ⟨v, hv, rfl⟩ := List.mem_map.mp hpm
    exact (hp v hv).len
  have h0 := hall _ (.head _)
  have h2 := hall _ (.tail _ (List.mem_append_right _ (.head _)))
  have hb := (bad_all (Pr := fun p => p.length ≤ 40) (w0 := e.word) (mid := e.mid) (mo := e.moS) (by omega) (fun p hm => Nat.le_trans (hall p (.tail _ (List.mem_append_left _ hm))) (by decide)) (by omega)
    (by rw [len_app, show ("x" : Str).length = 1 from rfl]; omega) (by rw [len_app, show ("0" : Str).length = 1 from rfl]; omega) (by rw [len_app, show ("-" : Str).length = 1 from rfl]; omega) (by rw [len_app, show ("x" : Str).length = 1 from rfl]; omega) (by decide +kernel) k).2
  have h3 := join_len (y := " ") hb
  have h4 : (badParts e.word e.mid e.moS k).length ≤ 7 := by
    unfold badParts
    cases e <;> split <;> simp [Ent.mid]
  rw [show (" " : Str).length = 1 from rfl] at h3
  have : (40 + 1) * (badParts e.word e.mid e.moS k).length ≤ (40 + 1) * 7 := Nat.mul_le_mul_left _ h4
  omega
theorem spoilt_bad {e : Ent} (he : e.ok = true) {k : Nat} (hk : k < 22) {hist : List Ent} (hno : ("k--never" : Str) ∉ hist.map Ent.key) {e' : Ent} (h : readEnt (Txt.join " " (badParts e.word e.mid e.moS k)) = some e') : ¬ Row (hist ++ [e']) := by
  obtain ⟨p0, p1, p2⟩ := Ent.words_plain he
  obtain ⟨hne, hpl⟩ := bad_plain p0 p1 p2 k
  rw [read_parts hne fun p hp h32 => by have := hpl p hp 32 h32; omega] at h
  obtain ⟨hmo, hm0, hm1⟩ := Ent.mo_tl he
  have z0 : numOf 10 (tl (("0" : Str) ++ e.moS)) = none := by
    rw [tl_append, hmo, show tl ("0" : Str) = [48] by decide +kernel]
    exact numOf_zero (numL_pos _)
  have z1 : numOf 10 (tl (("-" : Str) ++ e.moS)) = none := by
    rw [tl_append, show tl ("-" : Str) = [45] by decide +kernel]
    exact numOf_bad (by decide)
  have z2 : numOf 10 (tl (e.moS ++ ("x" : Str))) = none := by
    cases h : numOf 10 (tl (e.moS ++ ("x" : Str))) with
    | none => rfl
    | some i =>
      have h120 : (120 : Nat) ∈ tl (e.moS ++ ("x" : Str)) := by rw [tl_append, show tl ("x" : Str) = [120] by decide +kernel]; simp
      have := num_signs h 120 h120
      omega
  have z3 : numOf 10 (tl ("12345678901" : Str)) = none := by decide +kernel
  have z4 : numOf 10 (tl ("1000000001" : Str)) = some 1000000001 := by decide +kernel
  have z5 : numOf 4 (tl ("01" : Str)) = none := by decide +kernel
  have z6 : numOf 4 (tl ("0" : Str)) = some 0 := by decide +kernel
  have z7 : numOf 4 (tl ("1001" : Str)) = some 1001 := by decide +kernel
  have big5 : ∀ {w k g c m : List Nat}, numOf 10 m = some 1000000001 → entOf [w, k, g, c, m] = some e' → ¬ Row (hist ++ [e']) := fun hm h => by
    obtain ⟨c', m', _, _, h2, rfl⟩ := ent5 h
    rw [hm] at h2
    cases h2
    exact bad_ok (by simp [Ent.ok])
  have big3 : ∀ {w k m : List Nat}, numOf 10 m = some 1000000001 → entOf [w, k, m] = some e' → ¬ Row (hist ++ [e']) := fun hm h => by
    obtain ⟨m', _, h2, rfl⟩ := ent3 h
    rw [hm] at h2
    cases h2
    exact bad_ok (by simp [Ent.ok])
  have no5 : ∀ {w k g c m : List Nat}, numOf 10 m = none → entOf [w, k, g, c, m] = some e' → ¬ Row (hist ++ [e']) := fun hm h => by
    obtain ⟨c', m', _, _, h2, _⟩ := ent5 h
    rw [hm] at h2
    cases h2
  have no3 : ∀ {w k m : List Nat}, numOf 10 m = none → entOf [w, k, m] = some e' → ¬ Row (hist ++ [e']) := fun hm h => by
    obtain ⟨m', _, h2, _⟩ := ent3 h
    rw [hm] at h2
    cases h2
  match k, hk with
  | 0, _ => cases h
  | 1, _ => cases e <;> cases h
  | 2, _ => cases e <;> cases h
  | 3, _ => cases e <;> cases h
  | 4, _ => cases e <;> cases h
  | 5, _ => cases e <;> cases h
  | 6, _ =>
    cases e with
    | ask k g c m =>
      obtain ⟨c', m', hw, _⟩ := ent5 h
      exact absurd hw (show ¬ stxt (tl (("x" : Str) ++ ("ask" : Str))) = "ask" by decide +kernel)
    | rel k m =>
      obtain ⟨m', hw, _⟩ := ent3 h
      exact absurd hw (show ¬ stxt (tl (("x" : Str) ++ ("release" : Str))) = "release" by decide +kernel)
  | 7, _ => cases h
  | 8, _ => cases h
  | 9, _ =>
    cases e with
    | ask k g c m => exact no5 z0 h
    | rel k m => exact no3 z0 h
  | 10, _ =>
    cases e with
    | ask k g c m => exact no5 z1 h
    | rel k m => exact no3 z1 h
  | 11, _ =>
    cases e with
    | ask k g c m => exact no5 z2 h
    | rel k m => exact no3 z2 h
  | 12, _ =>
    cases e with
    | ask k g c m => exact no5 z3 h
    | rel k m => exact no3 z3 h
  | 13, _ =>
    cases e with
    | ask k g c m => exact big5 z4 h
    | rel k m => exact big3 z4 h
  | 14, _ =>
    obtain ⟨c', m', _, _, _, rfl⟩ := ent5 h
    rw [stxt_tl]
    exact bad_ok (by simp only [Ent.ok, show isKey "K" = false by decide +kernel, Bool.false_and])
  | 15, _ =>
    obtain ⟨c', m', _, _, _, rfl⟩ := ent5 h
    rw [stxt_tl, stxt_tl]
    exact bad_ok (by simp only [Ent.ok, show isName "G" = false by decide +kernel, Bool.false_and, Bool.and_false])
  | 16, _ =>
    obtain ⟨c', m', _, h1, _, rfl⟩ := ent5 h
    rw [z6] at h1
    cases h1
    exact bad_ok (by simp [Ent.ok])
  | 17, _ =>
    obtain ⟨c', m', _, h1, _, rfl⟩ := ent5 h
    rw [z7] at h1
    cases h1
    exact bad_ok (by simp [Ent.ok])
  | 18, _ =>
    obtain ⟨c', m', _, h1, _, rfl⟩ := ent5 h
    rw [z5] at h1
    cases h1
  | 19, _ =>
    obtain ⟨m', _, _, rfl⟩ := ent3 h
    rw [stxt_tl]
    exact bad_never hno
  | 20, _ => cases h
  | 21, _ => cases h
  | _ + 22, hk => omega
theorem Ent.line_words (e : Ent) : e.line = Txt.join " " (e.word :: (e.mid ++ [e.moS])) := by unfold Ent.line; rw [e.words]
/-- the head of a line: all but the moment -/
theorem head_tl {e : Ent} {i : Int} (hi : i = -(e.moS.length : Int)) (hp : 0 < e.moS.length) : tl (cutS e.line none (some i)) = joinL [32] ((e.word :: e.mid).map tl) ++ [32] := by
  have hm : tl e.moS ≠ [] := fun h => by rw [len_tl, h] at hp; simp at hp
  rw [tl_cut_to_neg e.line (k := e.moS.length) hp hi, e.line_words, join_tl, List.map_cons, List.map_append, ← List.cons_append]
  show (joinL [32] ((tl e.word :: e.mid.map tl) ++ [tl e.moS])).take _ = _
  rw [joinL_snoc _ _ _ (by simp), List.map_cons]
  have e2 : (joinL [32] (tl e.word :: e.mid.map tl) ++ [32] ++ tl e.moS).length - e.moS.length = (joinL [32] (tl e.word :: e.mid.map tl) ++ [32]).length := by
    rw [List.length_append, len_tl]; omega
  show List.take ((joinL [32] ((tl e.word :: e.mid.map tl) ++ [tl e.moS])).length - e.moS.length) _ = _
  rw [joinL_snoc _ _ _ (by simp), e2]
  exact List.take_left' rfl
theorem mo_pos {e : Ent} (h : e.ok = true) : 0 < e.moS.length := by
  rw [len_tl, (Ent.mo_tl h).1]
  exact numL_pos _
theorem at_strsE {ks : List Str} {i : Int} (h0 : 0 ≤ i) (h1 : i < (ks.length : Int)) : atI (ks.map V.str) i = some (.str (ks.getD i.toNat "")) := by
  obtain ⟨n, rfl⟩ := Int.eq_ofNat_of_zero_le h0
  have hn : n < ks.length := by omega
  refine atI_nat (j := n) ?_
  rw [List.getElem?_map, List.getElem?_eq_getElem hn, Int.toNat_natCast, List.getD_eq_getElem?_getD, List.getElem?_eq_getElem hn]
  rfl
theorem line_split1 (e : Ent) (h : e.ok = true) : tl e.line = tl e.word ++ 32 :: joinL [32] ((e.mid ++ [e.moS]).map tl) ∧ 32 ∉ tl e.word := by
  refine ⟨?_, fun h32 => by have := (Ent.words_plain h).1 32 h32; omega⟩
  rw [e.line_words, join_tl, List.map_cons]
  cases hh : (e.mid ++ [e.moS]).map tl with
  | nil => simp at hh
  | cons a r => rw [joinL_cons]; simp
/-! ### rows and texts of the law -/
theorem Row.cons {e0 : Ent} {es : List Ent} (h : Row es) (h0 : e0.ok = true) (ha : e0.isAsk = true) (hm : e0.mom = 0) (hk : e0.key ∉ es.map Ent.key) : Row (e0 :: es) := fun i e hi => by
  cases i with
  | zero =>
    cases hi
    exact ⟨h0, by rw [hm]; exact Int.le_refl _, fun _ => by simp, fun _ => ha⟩
  | succ i =>
    rw [List.getElem?_cons_succ] at hi
    obtain ⟨a, b, c⟩ := h i e hi
    have hke : e.key ≠ e0.key := fun z => hk (z ▸ List.mem_map_of_mem (List.mem_of_getElem? hi))
    refine ⟨a, ?_, ?_⟩
    · rw [List.take_succ_cons]
      cases hl : es.take i with
      | nil =>
        have e1 : lastM [e0] = e0.mom := rfl
        rw [e1, hm]
        rw [hl] at b
        exact b
      | cons x r =>
        have e1 : lastM (e0 :: x :: r) = lastM (x :: r) := by unfold lastM; rw [List.getLast?_cons_cons]
        rw [e1, ← hl]
        exact b
    · rw [List.take_succ_cons, List.map_cons, List.mem_cons, not_or, c]
      exact ⟨fun z => ⟨hke, z⟩, fun z => z.2⟩
theorem read_lines {es : List Ent} (h : ∀ e ∈ es, e.ok = true) : (es.map Ent.line).map readEnt = es.map some := by
  rw [List.map_map]
  exact List.map_congr_left fun e he => read_back (h e he)
theorem split_nl {zs : List Str} (hne : zs ≠ []) (h : ∀ z ∈ zs, 10 ∉ tl z) : Txt.split (Txt.join "\n" zs) "\n" = zs := split_join (s := 10) (S := []) rfl (by decide +kernel) hne h
theorem join_ne {a b : Str} {r : List Str} : Txt.join "\n" (a :: b :: r) ≠ "" := fun h => by
  have h1 := congrArg (fun z => (tl z).length) h
  have h2 : (tl (Txt.join "\n" (a :: b :: r))).length = 0 := h1.trans (by decide +kernel)
  rw [join_eq, tl_join, List.map_cons, List.map_cons, joinL_cons, List.length_append, List.length_append, show (tl ("\n" : Str)).length = 1 by decide +kernel] at h2
  omega
theorem join_nl (ps : List Str) : tl (Txt.join "\n" ps) = joinL [10] (ps.map tl) := by rw [join_eq, tl_join]; rfl
theorem join_more {zs : List Str} (hne : zs ≠ []) (x : Str) : Txt.join "\n" (zs ++ [x]) = Txt.join "\n" zs ++ "\n" ++ x := by
  refine ext_tl ?_
  rw [join_nl, tl_append, tl_append, join_nl, List.map_append, show tl ("\n" : Str) = [10] by decide +kernel]
  exact joinL_snoc _ _ _ (fun h => hne (List.map_eq_nil_iff.mp h))
theorem join_front {zs : List Str} (hne : zs ≠ []) (x : Str) : Txt.join "\n" (x :: zs) = x ++ "\n" ++ Txt.join "\n" zs := by
  refine ext_tl ?_
  rw [join_nl, tl_append, tl_append, join_nl, List.map_cons, show tl ("\n" : Str) = [10] by decide +kernel]
  cases h : zs.map tl with
  | nil => exact absurd (List.map_eq_nil_iff.mp h) hne
  | cons a r => exact joinL_cons _ _ _ _
/-- one line changed -/
theorem bad_at {es : List Ent} (hr : Row es) {i : Nat} {x : Str} (hi : i < es.length) (hb : ∀ e, readEnt x = some e → ¬ Row (es.take i ++ [e])) : BadLine ((es.map Ent.line).take i ++ [x] ++ (es.map Ent.line).drop (i + 1)) i (es.take i) := by
  have hl : ((es.map Ent.line).take i).length = i := by rw [List.length_take, List.length_map]; omega
  refine ⟨?_, hr.take i, x, ?_, hb⟩
  · rw [List.append_assoc, List.take_append_of_le_length (by omega), List.take_of_length_le (by omega), ← List.map_take]
    exact read_lines fun e he => hr.ok e (List.mem_of_mem_take he)
  · rw [List.append_assoc, List.getElem?_append_right (by omega), hl, Nat.sub_self]
    rfl
/-- one line more -/
theorem bad_end {es : List Ent} (hr : Row es) {x : Str} (hb : ∀ e, readEnt x = some e → ¬ Row (es ++ [e])) : BadLine (es.map Ent.line ++ [x]) es.length es := by
  refine ⟨?_, hr, x, ?_, hb⟩
  · rw [List.take_append_of_le_length (by rw [List.length_map]; exact Nat.le_refl _), List.take_of_length_le (by rw [List.length_map]; exact Nat.le_refl _)]
    exact read_lines hr.ok
  · rw [List.getElem?_append_right (by rw [List.length_map]; exact Nat.le_refl _), List.length_map, Nat.sub_self]
    rfl
theorem read_empty : readEnt "" = none := by decide +kernel
/-- the text of an own line -/
theorem read_ask {k g c : Str} {m : Int} {ci : Int} (hk : ∀ x ∈ tl k, 33 ≤ x ∧ x ≤ 126) (hg : ∀ x ∈ tl g, 33 ≤ x ∧ x ≤ 126) (hc : numOf 4 (tl c) = some ci) (h0 : 0 ≤ m) (h1 : m ≤ 9999999999) : readEnt (Txt.join " " ["ask", k, g, c, toString m]) = some (.ask k g ci m) := by
  rw [read_parts (by simp) fun p hp h32 => ?_]
  · show entOf [tl "ask", tl k, tl g, tl c, tl (toString m : Str)] = _
    unfold entOf
    have e2 := num_back (i := m) (k := 10) h0 (by decide) (by omega)
    rw [show ((10 : Nat) : Int) = 10 from rfl] at e2
    simp only [stxt_tl, if_pos rfl, hc, e2]
    rfl
  · simp only [List.mem_cons, List.not_mem_nil, or_false] at hp
    rcases hp with rfl | rfl | rfl | rfl | rfl
    · revert h32; decide +kernel
    · have := hk 32 h32; omega
    · have := hg 32 h32; omega
    · have := num_signs hc 32 h32; omega
    · rw [tl_num' h0] at h32; exact free32 _ h32
theorem read_rel {k : Str} {m : Int} (hk : ∀ x ∈ tl k, 33 ≤ x ∧ x ≤ 126) (h0 : 0 ≤ m) (h1 : m ≤ 9999999999) : readEnt (Txt.join " " ["release", k, toString m]) = some (.rel k m) := by
  rw [read_parts (by simp) fun p hp h32 => ?_]
  · show entOf [tl "release", tl k, tl (toString m : Str)] = _
    unfold entOf
    have e2 := num_back (i := m) (k := 10) h0 (by decide) (by omega)
    rw [show ((10 : Nat) : Int) = 10 from rfl] at e2
    simp only [stxt_tl, if_pos rfl, e2]
    rfl
  · simp only [List.mem_cons, List.not_mem_nil, or_false] at hp
    rcases hp with rfl | rfl | rfl
    · revert h32; decide +kernel
    · have := hk 32 h32; omega
    · rw [tl_num' h0] at h32; exact free32 _ h32
theorem Ent.at_last (e : Ent) : atI e.vs (-1) = some (.int e.mom) := by cases e <;> rfl
theorem bad_lt {zs : List Str} {n m : Nat} {es es' : List Ent} (h : BadLine zs n es) (h' : (zs.take m).map readEnt = es'.map some) (hr : Row es') : m ≤ n := by
  refine Nat.le_of_not_lt fun hlt => ?_
  obtain ⟨h1, h2, x, hx, hb⟩ := h
  have hn : n < zs.length := (List.getElem?_eq_some_iff.mp hx).1
  have hz : (zs.take m)[n]? = some x := by rw [List.getElem?_take, if_pos hlt]; exact hx
  have he : (es'.map some)[n]? = some (readEnt x) := by rw [← h', List.getElem?_map, hz]; rfl
  rw [List.getElem?_map] at he
  cases hen : es'[n]? with
  | none => rw [hen] at he; cases he
  | some e =>
    rw [hen] at he
    have he2 : readEnt x = some e := (Option.some.inj he).symm
    refine hb e he2 ?_
    have ht : es'.take n = es := by
      have h3 : (es'.take n).map some = es.map some := by
        rw [← h1, List.map_take, ← h', ← List.map_take, List.take_take, Nat.min_eq_left (Nat.le_of_lt hlt)]
      have h4 : ∀ a b : List Ent, a.map some = b.map some → a = b := by
        intro a
        induction a with
        | nil => intro b hb; cases b with | nil => rfl | cons y r => cases hb
        | cons y r ih =>
          intro b hb
          cases b with
          | nil => cases hb
          | cons z r2 =>
            rw [List.map_cons, List.map_cons] at hb
            obtain ⟨q1, q2⟩ := List.cons.inj hb
            rw [Option.some.inj q1, ih _ q2]
      exact h4 _ _ h3
    have := hr.take (n + 1)
    rw [List.take_add_one, hen, ht] at this
    exact this
theorem bad_not {zs : List Str} {n : Nat} {es es' : List Ent} (h : BadLine zs n es) (h' : zs.map readEnt = es'.map some) (hr : Row es') : False := by
  have h1 := bad_lt (m := zs.length) h (by rw [List.take_of_length_le (Nat.le_refl _)]; exact h') hr
  obtain ⟨_, _, x, hx, _⟩ := h
  have := (List.getElem?_eq_some_iff.mp hx).1
  omega
theorem bad_uniq {zs : List Str} {n n' : Nat} {es es' : List Ent} (h : BadLine zs n es) (h' : BadLine zs n' es') : n = n' := by
  have h1 := bad_lt h h'.1 h'.2.1
  have h2 := bad_lt h' h.1 h.2.1
  omega
theorem row_at {xs : List (Addr × Ent)} {m : Int} (h0 : 0 ≤ m) (h1 : m < (xs.length : Int)) : ∃ px e, xs[m.toNat]? = some (px, e) ∧ atI (xs.map fun x => V.ref x.1) m = some (.ref px) := by
  obtain ⟨n, rfl⟩ := Int.eq_ofNat_of_zero_le h0
  have hn : n < xs.length := by omega
  refine ⟨xs[n].1, xs[n].2, by rw [Int.toNat_natCast, List.getElem?_eq_getElem hn], ?_⟩
  exact atI_nat (j := n) (by rw [List.getElem?_map, List.getElem?_eq_getElem hn]; rfl)
theorem keys_no {z : Str} (h : ∀ k < 14, ∀ j < 3, keyOf k j ≠ z) {ks : List Str} (hk : ∀ z ∈ ks, ∃ k, k < 14 ∧ ∃ j, j < 3 ∧ z = keyOf k j) : z ∉ ks := fun hz => by
  obtain ⟨k, hk, j, hj, e⟩ := hk z hz
  exact h k hk j hj e.symm
theorem lastM_cons_le {e0 : Ent} {es : List Ent} (h : e0.mom = 0) (hn : 0 ≤ lastM es) : lastM (e0 :: es) ≤ lastM es := by
  cases es with
  | nil => rw [show lastM [e0] = e0.mom from rfl, h]; exact hn
  | cons x r => unfold lastM; rw [List.getLast?_cons_cons]; exact Int.le_refl _
theorem no_aa : ∀ k < 14, ∀ j < 3, keyOf k j ≠ "a-a" := by decide +kernel
theorem no_zz : ∀ k < 14, ∀ j < 3, keyOf k j ≠ "z-z" := by decide +kernel
theorem no_never : ∀ k < 14, ∀ j < 3, keyOf k j ≠ "k--never" := by decide +kernel
theorem j5 (a b c d e : List Nat) : joinL [32] [a, b, c, d, e] = a ++ 32 :: (b ++ 32 :: (c ++ 32 :: (d ++ 32 :: e))) := by simp [joinL]
theorem j3 (a b c : List Nat) : joinL [32] [a, b, c] = a ++ 32 :: (b ++ 32 :: c) := by simp [joinL]
theorem line_zy (m : Int) : ("ask z-y g 1 " : Str) ++ (toString m : Str) = Txt.join " " ["ask", "z-y", "g", "1", toString m] := ext_tl (by
  rw [join_tl, tl_append]
  show _ = joinL [32] [tl "ask", tl "z-y", tl "g", tl "1", tl (toString m : Str)]
  rw [j5, show tl ("ask z-y g 1 " : Str) = tl "ask" ++ 32 :: (tl "z-y" ++ 32 :: (tl "g" ++ 32 :: (tl "1" ++ [32]))) by decide +kernel]
  simp)
theorem line_zz (g : Str) (m : Int) : g ++ ("\nask z-z g 1 " : Str) ++ (toString m : Str) = g ++ "\n" ++ Txt.join " " ["ask", "z-z", "g", "1", toString m] := ext_tl (by
  rw [tl_append, tl_append, tl_append, tl_append, join_tl]
  show _ = _ ++ joinL [32] [tl "ask", tl "z-z", tl "g", tl "1", tl (toString m : Str)]
  rw [j5, show tl ("\nask z-z g 1 " : Str) = tl "\n" ++ (tl "ask" ++ 32 :: (tl "z-z" ++ 32 :: (tl "g" ++ 32 :: (tl "1" ++ [32])))) by decide +kernel]
  simp)
theorem line_aa (g : Str) (m : Int) : g ++ ("\nrelease a-a " : Str) ++ (toString m : Str) = g ++ "\n" ++ Txt.join " " ["release", "a-a", toString m] := ext_tl (by
  rw [tl_append, tl_append, tl_append, tl_append, join_tl]
  show _ = _ ++ joinL [32] [tl "release", tl "a-a", tl (toString m : Str)]
  rw [j3, show tl ("\nrelease a-a " : Str) = tl "\n" ++ (tl "release" ++ 32 :: (tl "a-a" ++ [32])) by decide +kernel]
  simp)
theorem line_z0 (g : Str) : ("release z-z 0\n" : Str) ++ g = "release z-z 0" ++ "\n" ++ g := ext_tl (by
  rw [tl_append, tl_append, tl_append, show tl ("release z-z 0\n" : Str) = tl "release z-z 0" ++ tl "\n" by decide +kernel])
theorem read_z0 : readEnt "release z-z 0" = some (.rel "z-z" 0) := by
  have h := read_rel (k := "z-z") (m := 0) (by decide +kernel) (by decide) (by decide)
  rw [show Txt.join " " ["release", "z-z", (toString (0 : Int) : Str)] = ("release z-z 0" : Str) by decide +kernel] at h
  exact h
theorem str_nil (z : Str) : z ++ ("" : Str) = z := ext_tl (by rw [tl_append, show tl ("" : Str) = [] by decide +kernel, List.append_nil])
theorem split_one : Txt.split "\n" "\n" = ([("" : Str), ("" : Str)] : List Str) := by decide +kernel
/-- what told asks of a text with one line more -/
theorem told_end {es : List Ent} (hr : Row es) (hn : 1 ≤ es.length) (hn2 : es.length ≤ 20) {x : Str} (hx : x.length ≤ 400) (h10 : 10 ∉ tl x) (hb : ∀ e, readEnt x = some e → ¬ Row (es ++ [e])) :
    (textOf es ++ "\n" ++ x).length ≤ 90000 ∧ (textOf es ++ "\n" ++ x ≠ "" → Txt.split (textOf es ++ "\n" ++ x) "\n" = es.map Ent.line ++ [x]) ∧ (textOf es ++ "\n" ++ x = "" → es.map Ent.line ++ [x] = []) ∧ (es.map Ent.line ++ [x]).length ≤ 900 ∧ BadLine (es.map Ent.line ++ [x]) es.length es := by
  have hne : es.map Ent.line ≠ [] := fun h => by rw [List.map_eq_nil_iff] at h; rw [h] at hn; cases hn
  have e : textOf es ++ "\n" ++ x = Txt.join "\n" (es.map Ent.line ++ [x]) := (join_more hne x).symm
  have h10' : ∀ z ∈ es.map Ent.line ++ [x], 10 ∉ tl z := fun z hz hc => by
    rcases List.mem_append.mp hz with hz | hz
    · obtain ⟨e, he, rfl⟩ := List.mem_map.mp hz
      have := Ent.line_plain (hr.ok e he) 10 hc
      omega
    · rw [List.mem_singleton] at hz
      subst hz
      exact h10 hc
  refine ⟨?_, fun _ => ?_, fun h => ?_, by rw [List.length_append, List.length_map]; simp only [List.length_cons, List.length_nil]; omega, bad_end hr hb⟩
  · have := text_len hr.ok
    rw [len_app, len_app, show ("\n" : Str).length = 1 from rfl]
    omega
  · rw [e]
    exact split_nl (by simp) h10'
  · exfalso
    have h1 := congrArg (fun z => (tl z).length) h
    have h2 : (tl (textOf es ++ "\n" ++ x)).length = 0 := h1.trans (by decide +kernel)
    rw [tl_append, tl_append, List.length_append, List.length_append, show (tl ("\n" : Str)).length = 1 by decide +kernel] at h2
    omega
theorem words_ok {ps : List Str} (h : ∀ p ∈ ps, p.length ≤ 20 ∧ ∀ c ∈ tl p, 33 ≤ c) (hn : ps.length ≤ 6) : (Txt.join " " ps).length ≤ 400 ∧ 10 ∉ tl (Txt.join " " ps) := by
  refine ⟨?_, fun h10 => ?_⟩
  · have h1 := join_len (y := " ") fun p hp => (h p hp).1
    rw [show (" " : Str).length = 1 from rfl] at h1
    have : (20 + 1) * ps.length ≤ (20 + 1) * 6 := Nat.mul_le_mul_left _ hn
    omega
  · rw [join_tl] at h10
    rcases joinL_mem h10 with h10 | ⟨q, hq, h10⟩
    · exact absurd h10 (by decide)
    · obtain ⟨q2, hq2, rfl⟩ := List.mem_map.mp hq
      have := (h q2 hq2).2 10 h10
      omega
theorem num_word {m : Int} (h0 : 0 ≤ m) (h1 : m ≤ 9999999999) : (toString m : Str).length ≤ 20 ∧ ∀ c ∈ tl (toString m : Str), 33 ≤ c :=
  ⟨Nat.le_trans (len_num (k := 10) h0 (by decide) (by omega)) (by decide), fun c hc => by rw [tl_num' h0] at hc; have := numL_digits _ _ hc; omega⟩
/-! ### entries of any parts -/
def IsSI (v : V) : Prop := (∃ z : Str, v = .str z ∧ z.length ≤ 100000 ∧ PyData.strOk z = true) ∨ ∃ i : Int, v = .int i
def isS : V → Bool
  | .str _ => true
  | _ => false
def dataV : V → PyData
  | .str z => .str z
  | .int i => .int i
  | _ => .none
def toEnt : List V → Option Ent
  | [.str w, .str k, .str g, .int c, .int m] => if w = "ask" then some (.ask k g c m) else none
  | [.str w, .str k, .int m] => if w = "release" then some (.rel k m) else none
  | _ => none
theorem toEnt_vs (e : Ent) : toEnt e.vs = some e := by cases e <;> rfl
theorem toEnt_some {vs : List V} {e : Ent} (h : toEnt vs = some e) : vs = e.vs := by
  unfold toEnt at h
  split at h
  · split at h
    · rename_i hw
      cases h
      rw [hw]; rfl
    · cases h
  · split at h
    · rename_i hw
      cases h
      rw [hw]; rfl
    · cases h
  · cases h
theorem eqv1 {v : V} (h : IsSI v) (w : Str) : PyData.eqv (.tuple [dataV v]) (.tuple [.str w]) = decide (v = .str w) := by
  rcases h with ⟨z, rfl, _⟩ | ⟨i, rfl⟩
  · show ((z == w) && true) = _
    rw [Bool.and_true, Bool.eq_iff_iff, beq_iff_eq, decide_eq_true_eq]
    exact ⟨fun h => by rw [h], fun h => by cases h; rfl⟩
  · show (false && true) = _
    rw [decide_eq_false (by intro z; cases z)]
    rfl
theorem eqv_bools : ∀ bs cs : List Bool, PyData.eqv (.list (bs.map PyData.bool)) (.list (cs.map PyData.bool)) = decide (bs = cs)
  | [], [] => rfl
  | [], c :: cs => by rw [decide_eq_false (by intro z; cases z)]; rfl
  | b :: bs, [] => by rw [decide_eq_false (by intro z; cases z)]; rfl
  | b :: bs, c :: cs => by
    have ih := eqv_bools bs cs
    have e : PyData.eqv (.list ((b :: bs).map PyData.bool)) (.list ((c :: cs).map PyData.bool)) = ((b == c) && PyData.eqv (.list (bs.map PyData.bool)) (.list (cs.map PyData.bool))) := rfl
    rw [e, ih, Bool.eq_iff_iff, Bool.and_eq_true, beq_iff_eq, decide_eq_true_eq, decide_eq_true_eq, List.cons.injEq]
theorem shape_ask {vs : List V} (hs : ∀ v ∈ vs, IsSI v) (h : vs.map isS = [true, true, true, false, false]) (hw : vs.head? = some (.str "ask")) : ∃ e, toEnt vs = some e := by
  obtain ⟨a, b, c, d, e, rfl⟩ : ∃ a b c d e, vs = [a, b, c, d, e] := by
    have hl := congrArg List.length h
    rw [List.length_map] at hl
    match vs, hl with
    | [a, b, c, d, e], _ => exact ⟨a, b, c, d, e, rfl⟩
  · have ha : a = .str "ask" := Option.some.inj hw
    subst ha
    simp only [List.map_cons, List.map_nil, List.cons.injEq, and_true] at h
    obtain ⟨_, h2, h3, h4, h5⟩ := h
    rcases hs b (by simp) with ⟨z2, rfl, _⟩ | ⟨i, rfl⟩
    · rcases hs c (by simp) with ⟨z3, rfl, _⟩ | ⟨i, rfl⟩
      · rcases hs d (by simp) with ⟨z4, rfl, _⟩ | ⟨i4, rfl⟩
        · cases h4
        · rcases hs e (by simp) with ⟨z5, rfl, _⟩ | ⟨i5, rfl⟩
          · cases h5
          · exact ⟨_, toEnt_vs (.ask z2 z3 i4 i5)⟩
      · cases h3
    · cases h2
theorem shape_rel {vs : List V} (hs : ∀ v ∈ vs, IsSI v) (h : vs.map isS = [true, true, false]) (hw : vs.head? = some (.str "release")) : ∃ e, toEnt vs = some e := by
  obtain ⟨a, b, c, rfl⟩ : ∃ a b c, vs = [a, b, c] := by
    have hl := congrArg List.length h
    rw [List.length_map] at hl
    match vs, hl with
    | [a, b, c], _ => exact ⟨a, b, c, rfl⟩
  · have ha : a = .str "release" := Option.some.inj hw
    subst ha
    simp only [List.map_cons, List.map_nil, List.cons.injEq, and_true] at h
    obtain ⟨_, h2, h3⟩ := h
    rcases hs b (by simp) with ⟨z2, rfl, _⟩ | ⟨i, rfl⟩
    · rcases hs c (by simp) with ⟨z3, rfl, _⟩ | ⟨i3, rfl⟩
      · cases h3
      · exact ⟨_, toEnt_vs (.rel z2 i3)⟩
    · cases h2
theorem vs_inj : ∀ {es es' : List Ent}, es.map Ent.vs = es'.map Ent.vs → es = es'
  | [], [], _ => rfl
  | [], _ :: _, h => by cases h
  | _ :: _, [], h => by cases h
  | e :: es, e' :: es', h => by
    rw [List.map_cons, List.map_cons, List.cons.injEq] at h
    have h1 := toEnt_vs e
    rw [h.1, toEnt_vs e'] at h1
    cases h1
    rw [vs_inj h.2]
def okV (ws : List V) : Bool := match toEnt ws with
  | some e => e.ok
  | none => false
def PartsOk (ws : List V) : Prop := 2 ≤ ws.length ∧ ws.length ≤ 100 ∧ ∀ v ∈ ws, IsSI v
def RowV (K : PySem.W.Frag) (H : Hp) (l : Addr) (xs : List (Addr × List V)) : Prop := SqL K H l (xs.map fun x => V.ref x.1) ∧ ∀ x ∈ xs, SqT K H x.1 x.2
theorem RowV.mono {K : PySem.W.Frag} {H H' : Hp} {l : Addr} {xs : List (Addr × List V)} (h : RowV K H l xs) (e : Ex H H') : RowV K H' l xs := ⟨ex_sqL e h.1, fun x hx => ex_sqT e (h.2 x hx)⟩
def BadRow (vss : List (List V)) (n : Nat) (es : List Ent) : Prop := vss.take n = es.map Ent.vs ∧ Row es ∧ ∃ ws, vss[n]? = some ws ∧ ∀ e, toEnt ws = some e → ¬ Row (es ++ [e])
theorem badrow_lt {vss : List (List V)} {n m : Nat} {es es' : List Ent} (h : BadRow vss n es) (h' : vss.take m = es'.map Ent.vs) (hr : Row es') : m ≤ n := by
  refine Nat.le_of_not_lt fun hlt => ?_
  obtain ⟨h1, h2, ws, hx, hb⟩ := h
  have hz : (vss.take m)[n]? = some ws := by rw [List.getElem?_take, if_pos hlt]; exact hx
  rw [h', List.getElem?_map] at hz
  cases he : es'[n]? with
  | none => rw [he] at hz; cases hz
  | some e =>
    rw [he] at hz
    cases hz
    refine hb e (toEnt_vs e) ?_
    have e1 : es = es'.take n := by
      refine vs_inj ?_
      rw [← h1, List.map_take, ← h', List.take_take, Nat.min_eq_left (Nat.le_of_lt hlt)]
    have e2 : es'.take (n + 1) = es ++ [e] := by rw [List.take_add_one, he, e1]; rfl
    rw [← e2]
    exact hr.take _
theorem badrow_not {vss : List (List V)} {n : Nat} {es es' : List Ent} (h : BadRow vss n es) (h' : vss = es'.map Ent.vs) (hr : Row es') : False := by
  have h1 := badrow_lt (m := vss.length) h (by rw [List.take_of_length_le (Nat.le_refl _)]; exact h') hr
  obtain ⟨_, _, x, hx, _⟩ := h
  have := (List.getElem?_eq_some_iff.mp hx).1
  omega
theorem badrow_uniq {vss : List (List V)} {n n' : Nat} {es es' : List Ent} (h : BadRow vss n es) (h' : BadRow vss n' es') : n = n' := by
  have h1 := badrow_lt h h'.1 h'.2.1
  have h2 := badrow_lt h' h.1 h.2.1
  omega
theorem badrow_at {es : List Ent} (hr : Row es) {i : Nat} {ws : List V} (hi : i ≤ es.length) (hb : ∀ e, toEnt ws = some e → ¬ Row (es.take i ++ [e])) : BadRow ((es.map Ent.vs).take i ++ [ws] ++ (es.map Ent.vs).drop i) i (es.take i) := by
  have hl : ((es.map Ent.vs).take i).length = i := by rw [List.length_take, List.length_map]; omega
  refine ⟨?_, hr.take i, ws, ?_, hb⟩
  · rw [List.append_assoc, List.take_append_of_le_length (by omega), List.take_of_length_le (by omega), ← List.map_take]
  · rw [List.append_assoc, List.getElem?_append_right (by omega), hl, Nat.sub_self]
    rfl
theorem badrow_end {es : List Ent} (hr : Row es) {ws : List V} (hb : ∀ e, toEnt ws = some e → ¬ Row (es ++ [e])) : BadRow (es.map Ent.vs ++ [ws]) es.length es := by
  have := badrow_at hr (Nat.le_refl _) (ws := ws) (by rw [List.take_of_length_le (Nat.le_refl _)]; exact hb)
  rw [List.take_of_length_le (by rw [List.length_map]; exact Nat.le_refl _), List.take_of_length_le (Nat.le_refl _), List.drop_of_length_le (by rw [List.length_map]; exact Nat.le_refl _), List.append_nil] at this
  exact this
def Fault (last : Int) (ws : List V) : Prop := ∀ e, toEnt ws = some e → e.ok = false ∨ e.mom < last ∨ ∃ m, e = .rel "fresh" m
theorem fault_bad {last : Int} {ws : List V} (h : Fault last ws) {hist : List Ent} (hl : lastM hist = last) (hk : ("fresh" : Str) ∉ hist.map Ent.key) : ∀ e, toEnt ws = some e → ¬ Row (hist ++ [e]) := fun e he => by
  rcases h e he with h | h | ⟨m, rfl⟩
  · exact bad_ok h
  · exact bad_early (by rw [hl]; exact h)
  · exact bad_never hk
theorem isSI_int (i : Int) : IsSI (.int i) := .inr ⟨i, rfl⟩
theorem isSI_str {z : Str} (h : z.length ≤ 100000) (h2 : PyData.strOk z = true) : IsSI (.str z) := .inl ⟨z, rfl, h, h2⟩
theorem fault_none {last : Int} {ws : List V} (h : toEnt ws = none) : Fault last ws := fun e he => by rw [h] at he; cases he
theorem fault_ask {last : Int} {k g : Str} {c m : Int} (h : isKey k = false ∨ isName g = false ∨ c < 1 ∨ 1000 < c ∨ m < 0 ∨ 1000000000 < m ∨ m < last) : Fault last [.str "ask", .str k, .str g, .int c, .int m] := fun e he => by
  rw [show [V.str "ask", .str k, .str g, .int c, .int m] = (Ent.ask k g c m).vs from rfl, toEnt_vs] at he
  cases he
  by_cases hm : m < last
  · exact .inr (.inl hm)
  · left
    rw [Bool.eq_false_iff]
    intro hok
    simp only [Ent.ok, Bool.and_eq_true, decide_eq_true_eq] at hok
    rcases h with h | h | h
    · rw [h] at hok; exact absurd hok.1 (by decide)
    · rw [h] at hok; exact absurd hok.2.1 (by decide)
    · omega
theorem fault_rel {last : Int} {m : Int} : Fault last [.str "release", .str "fresh", .int m] := fun e he => by
  rw [show [V.str "release", .str "fresh", .int m] = (Ent.rel "fresh" m).vs from rfl, toEnt_vs] at he
  cases he
  exact .inr (.inr ⟨m, rfl⟩)
theorem pick_at {K : PySem.W.Frag} {H : Hp} {Pr : List V → Prop} (xs : List (Addr × List V)) (h : ∀ x ∈ xs, SqT K H x.1 x.2 ∧ Pr x.2) {m : Int} (h0 : 0 ≤ m) (h1 : m < (xs.length : Int)) : ∃ p ws, atI (xs.map fun x => V.ref x.1) m = some (.ref p) ∧ SqT K H p ws ∧ Pr ws := by
  obtain ⟨n, rfl⟩ := Int.eq_ofNat_of_zero_le h0
  have hn : n < xs.length := by omega
  have e := h xs[n] (List.getElem_mem hn)
  refine ⟨xs[n].1, xs[n].2, ?_, e.1, e.2⟩
  refine atI_nat ?_
  rw [List.getElem?_map, List.getElem?_eq_getElem hn]
  rfl
theorem bools_shaped (bs : List Bool) : SeqAt.shaped (.list (bs.map PyData.bool)) = true := by
  have key : ∀ bs : List Bool, PyData.canLayAll0 (bs.map PyData.bool) = true ∧ PyData.depthAll (bs.map PyData.bool) = 0 := by
    intro bs
    induction bs with
    | nil => exact ⟨rfl, rfl⟩
    | cons b r ih =>
      refine ⟨?_, ?_⟩
      · show (true && PyData.canLayAll0 (r.map PyData.bool)) = true
        rw [ih.1]; rfl
      · show max 0 (PyData.depthAll (r.map PyData.bool)) = 0
        rw [ih.2]; rfl
  obtain ⟨h1, h2⟩ := key bs
  show (PyData.canLayAll0 (bs.map PyData.bool) && decide (PyData.depthAll (bs.map PyData.bool) + 1 ≤ 64)) = true
  rw [h1, h2]
  rfl
theorem dp_bools {K : PySem.W.Frag} {H : Hp} {l : Addr} {bs : List Bool} (h : SqL K H l (bs.map V.bl)) : Dp K H (.ref l) (.list (bs.map PyData.bool)) := by
  refine .lst h ?_
  clear h
  induction bs with
  | nil => exact .nil
  | cons z r ih => exact .cons (.bl z) ih
theorem row_getV {xs : List (Addr × List V)} {i : Nat} {y : V} (h : (xs.map fun x => V.ref x.1)[i]? = some y) : ∃ px ws, xs[i]? = some (px, ws) ∧ (xs.map (·.2))[i]? = some ws ∧ y = .ref px := by
  rw [List.getElem?_map] at h
  cases hx : xs[i]? with
  | none => rw [hx] at h; cases h
  | some x =>
    rw [hx] at h
    exact ⟨x.1, x.2, rfl, by rw [List.getElem?_map, hx]; rfl, (Option.some.inj h).symm⟩
theorem hd_shaped {v : V} (h : IsSI v) : SeqAt.shaped (.tuple [dataV v]) = true := by
  rcases h with ⟨z, rfl, _, hz⟩ | ⟨i, rfl⟩
  · show ((PyData.strOk z && true) && decide _) = true
    rw [hz]; rfl
  · rfl
theorem hd_dp {K : PySem.W.Frag} {H : Hp} {p : Addr} {v : V} (h : IsSI v) (hS : SqT K H p [v]) : Dp K H (.ref p) (.tuple [dataV v]) := by
  refine .tup hS (.cons ?_ .nil)
  rcases h with ⟨z, rfl, _⟩ | ⟨i, rfl⟩
  · exact .str z
  · exact .int i
section
variable {K : PySem.W.Frag} {σ : L2.St} {H : Hp} {Q : VK} {te : TE} {g : TG} {vs : List Nat}
theorem lc_filt {α : Type} {a : Addr} {xs : List α} {tt : TT} (enc : α → V) (p : α → Bool) (f : α → V) (hS : SqL K H a (xs.map enc)) (hn : xs.length ≤ 1000000)
    (hs : ∀ x ∈ xs, ∀ H1, Ex H H1 → ∀ (R : VK) (N : Hp → Prop), (p x = true → ∀ H3, Ex H1 H3 → R (f x) H3) → (p x = false → ∀ H3, Ex H1 H3 → N H3) → g (enc x) (wipe σ vs) H1 fun σ2 H3 => wipe σ2 vs = wipe σ vs ∧ tt σ2 H3 fun b H4 => if b = true then te σ2 H4 R else N H4)
    (hq : ∀ p' H', H p' = none → Ex H H' → H' p' = some (.lst ((xs.filter p).map f)) → Q (.ref p') H') : LcOk (Itl K a) g tt te vs Q σ H := by
  intro D hD
  refine lc_it (walk_list (xs := xs.map enc)) (fun i H' => Ex H H' ∧ H' D = some (.lst (((xs.take i).filter p).map f))) ⟨Evl.Ex.new hD, upd_same⟩ (fun i H' _ h => ex_sqL h.1 hS) (fun i x H1 H2 hi hP hY => ?_) (fun H' h => ?_)
  · obtain ⟨hE, hL⟩ := hP
    obtain ⟨rfl, hx⟩ := hY
    rw [List.getElem?_map] at hx
    cases e : xs[i]? with
    | none => rw [e] at hx; cases hx
    | some y =>
      rw [e] at hx
      have ex : enc y = x := Option.some.inj hx
      subst ex
      have hT : xs.take (i + 1) = xs.take i ++ [y] := by rw [List.take_add_one, e]; rfl
      refine hs y (List.mem_of_getElem? e) _ hE _ _ (fun hp H3 e3 => ?_) (fun hp H3 e3 => ?_)
      · refine ⟨_, e3 _ _ hL, ?_, Evl.Ex.mut (hE.trans e3) hD, ?_⟩
        · refine fits_lt ?_
          rw [List.length_map]
          have := List.length_filter_le p (xs.take i)
          rw [List.length_take] at this
          omega
        · rw [upd_same, hT, List.filter_append, List.map_append]
          simp [hp]
      · refine ⟨hE.trans e3, ?_⟩
        rw [e3 _ _ hL, hT, List.filter_append]
        simp [hp]
  · exact hq D H' hD h.1 (by rw [h.2, List.length_map, List.take_of_length_le (Nat.le_refl _)])
end
theorem part_SI {v : V} (h : IsPart v) (hl : ∀ z, v = .str z → z.length ≤ 100000) (ho : ∀ z, v = .str z → PyData.strOk z = true) : IsSI v := by
  rcases h with ⟨z, rfl, _⟩ | ⟨i, rfl, _⟩
  · exact .inl ⟨z, rfl, hl z rfl, ho z rfl⟩
  · exact .inr ⟨i, rfl⟩
theorem ent_parts {e : Ent} (h : e.ok = true) : PartsOk e.vs := by
  refine ⟨?_, Nat.le_trans (Ent.vs_len _) (by decide), fun v hv => ?_⟩
  · cases e with
    | ask k g c m => show 2 ≤ 5; decide
    | rel k m => show 2 ≤ 3; decide
  · have hp := Ent.ok_parts h v hv
    refine part_SI hp (fun z hz => ?_) (fun z hz => ?_)
    · subst hz
      have := hp.len
      exact Nat.le_trans this (by decide)
    · subst hz
      exact part_ok hp
theorem two_of : ∀ (ws : List V), 2 ≤ ws.length → ∃ v0 v1 r, ws = v0 :: v1 :: r
  | v0 :: v1 :: r, _ => ⟨v0, v1, r, rfl⟩
  | [], h => absurd h (by decide)
  | [_], h => absurd h (Nat.not_succ_le_self 1)
theorem okV_none {ws : List V} (h : toEnt ws = none) : okV ws = false := by unfold okV; rw [h]
theorem okV_some {ws : List V} {e : Ent} (h : toEnt ws = some e) : okV ws = e.ok := by unfold okV; rw [h]
theorem g_pick {K : PySem.W.Frag} {H : Hp} {Pr : List V → Prop} {l : Addr} {m : Int} {Q : VK} (xs : List (Addr × List V)) (hl : H l = some (.lst (xs.map fun x => V.ref x.1))) (h : ∀ x ∈ xs, SqT K H x.1 x.2 ∧ Pr x.2) (h0 : 0 ≤ m) (h1 : m < (xs.length : Int)) (q : ∀ p ws, SqT K H p ws → Pr ws → Q (.ref p) H) : rIxL K (.ref l) (.int m) H Q := by
  obtain ⟨p, ws, ha, hs, hp⟩ := pick_at xs h h0 h1
  exact g_ixL (.inl (.inl hl)) ha (q p ws hs hp)
theorem allv_nil {α : Type} {F : α → Prop} : ∀ x ∈ ([] : List α), F x := fun x hx => nomatch hx
theorem allv_cons {α : Type} {F : α → Prop} {y : α} {r : List α} (h : F y) (hr : ∀ x ∈ r, F x) : ∀ x ∈ y :: r, F x := fun x hx => by
  rcases List.mem_cons.mp hx with rfl | hx
  · exact h
  · exact hr x hx
def FaultOk (last : Int) (ws : List V) : Prop := PartsOk ws ∧ Fault last ws
theorem ten9 : (10 : Int) ^ Int.toNat 9 = 1000000000 := by decide +kernel
theorem rowV_of {K : PySem.W.Frag} {H : Hp} {l : Addr} {xr : List (Addr × Ent)} {n : Nat} (h : RowAt K H l xr) (hr : Row (xr.map (·.2))) (hn : xr.length ≤ n) : ∃ (es : List Ent) (xv : List (Addr × List V)), (xv.map (·.2) = es.map Ent.vs ∧ es = xr.map (·.2)) ∧ (xr.map fun x => V.ref x.1) = (xv.map fun x => V.ref x.1) ∧ RowV K H l xv ∧ (∀ x ∈ xv, PartsOk x.2) ∧ xv.length = es.length ∧ es.length ≤ n := by
  refine ⟨xr.map (·.2), xr.map fun x => (x.1, x.2.vs), ⟨by rw [List.map_map, List.map_map]; rfl, rfl⟩, by rw [List.map_map]; rfl, ⟨by rw [List.map_map]; exact h.1, fun x hx => ?_⟩, fun x hx => ?_, by rw [List.length_map, List.length_map], by rw [List.length_map]; exact hn⟩
  · obtain ⟨y, hy, rfl⟩ := List.mem_map.mp hx
    exact h.2 y hy
  · obtain ⟨y, hy, rfl⟩ := List.mem_map.mp hx
    exact ent_parts (hr.ok _ (List.mem_map_of_mem hy))
theorem dp_rowV {K : PySem.W.Frag} {H : Hp} {l : Addr} {xv : List (Addr × List V)} {es : List Ent} (h : RowV K H l xv) (he : xv.map (·.2) = es.map Ent.vs) : Dp K H (.ref l) (.list (es.map Ent.data)) := by
  refine .lst h.1 ?_
  have key : ∀ (xv : List (Addr × List V)) (es : List Ent), xv.map (·.2) = es.map Ent.vs → (∀ x ∈ xv, SqT K H x.1 x.2) → DpAll K H (xv.map fun x => V.ref x.1) (es.map Ent.data) := by
    intro xv
    induction xv with
    | nil =>
      intro es he _
      cases es with
      | nil => exact .nil
      | cons e r => cases he
    | cons x xv ih =>
      intro es he h
      cases es with
      | nil => cases he
      | cons e r =>
        rw [List.map_cons, List.map_cons, List.cons.injEq] at he
        refine .cons (dp_ent ?_) (ih r he.2 fun y hy => h y (.tail _ hy))
        rw [← he.1]
        exact h x (.head _)
  exact key xv es he h.2
theorem row_getVE {xv : List (Addr × List V)} {es : List Ent} {i : Nat} {y : V} (h : (xv.map fun x => V.ref x.1)[i]? = some y) (he : xv.map (·.2) = es.map Ent.vs) : ∃ px e, xv[i]? = some (px, e.vs) ∧ es[i]? = some e ∧ y = .ref px := by
  obtain ⟨px, ws, h1, h2, h3⟩ := row_getV h
  rw [he, List.getElem?_map] at h2
  cases hes : es[i]? with
  | none => rw [hes] at h2; cases h2
  | some e =>
    rw [hes] at h2
    cases h2
    exact ⟨px, e, h1, rfl, h3⟩
theorem parts_take {xv : List (Addr × List V)} {es : List Ent} (h : xv.map (·.2) = es.map Ent.vs) (i : Nat) : (xv.take i).map (·.2) = (es.take i).map Ent.vs := by rw [List.map_take, h, List.map_take]
theorem parts_drop {xv : List (Addr × List V)} {es : List Ent} (h : xv.map (·.2) = es.map Ent.vs) (i : Nat) : (xv.drop i).map (·.2) = (es.drop i).map Ent.vs := by rw [List.map_drop, h, List.map_drop]
def isAskV : List V → Bool
  | .str z :: _ => decide (z = "ask")
  | _ => false
theorem isAskV_vs (e : Ent) : isAskV e.vs = e.isAsk := by
  cases e with
  | ask k g c m => show decide ((("ask" : Str)) = "ask") = true; decide +kernel
  | rel k m => show decide ((("release" : Str)) = "ask") = false; decide +kernel
theorem ask_pick {xv : List (Addr × List V)} {es : List Ent} (he : xv.map (·.2) = es.map Ent.vs) {m : Int} (h0 : 0 ≤ m) (h1 : m < ((xv.filter fun x => isAskV x.2).length : Int)) : ∃ px k g c mo, atI ((xv.filter fun x => isAskV x.2).map fun x => V.ref x.1) m = some (.ref px) ∧ (px, (Ent.ask k g c mo).vs) ∈ xv ∧ Ent.ask k g c mo ∈ es := by
  obtain ⟨n, rfl⟩ := Int.eq_ofNat_of_zero_le h0
  have hn : n < (xv.filter fun x => isAskV x.2).length := by omega
  have hm := List.getElem_mem hn
  obtain ⟨hx, ha⟩ := List.mem_filter.mp hm
  have hx2 : ((xv.filter fun x => isAskV x.2)[n]).2 ∈ es.map Ent.vs := by rw [← he]; exact List.mem_map_of_mem hx
  obtain ⟨e, hes, hev⟩ := List.mem_map.mp hx2
  rw [← hev, isAskV_vs] at ha
  cases e with
  | rel k mo => cases ha
  | ask k g c mo =>
    refine ⟨((xv.filter fun x => isAskV x.2)[n]).1, k, g, c, mo, ?_, ?_, hes⟩
    · refine atI_nat ?_
      rw [List.getElem?_map, List.getElem?_eq_getElem hn]
      rfl
    · rw [hev]; exact hx
theorem snoc_of {α : Type} {l : List α} (h : l ≠ []) : ∃ ys x, l = ys ++ [x] := ⟨l.dropLast, l.getLast h, (List.dropLast_concat_getLast h).symm⟩
theorem last_pick {xv : List (Addr × List V)} {es : List Ent} (he : xv.map (·.2) = es.map Ent.vs) (hn : es ≠ []) : ∃ (px : Addr) (e : Ent), atI (xv.map fun x => V.ref x.1) (-1) = some (.ref px) ∧ (px, Ent.vs e) ∈ xv ∧ Ent.mom e = lastM es := by
  obtain ⟨es0, e, rfl⟩ := snoc_of hn
  have hx0 : xv ≠ [] := fun h => by
    subst h
    rw [List.map_append] at he
    exact absurd he.symm (by simp)
  obtain ⟨xs0, x, rfl⟩ := snoc_of hx0
  rw [List.map_append, List.map_append] at he
  have h2 := List.append_inj' he rfl
  have h3 : x.2 = e.vs := (List.cons.inj h2.2).1
  refine ⟨x.1, e, ?_, ?_, (lastM_snoc _ _).symm⟩
  · rw [List.map_append]
    exact atI_last _ _
  · rw [← h3]; exact List.mem_append_right _ (.head _)
theorem g_slT4 {K : PySem.W.Frag} {H : Hp} {Q : VK} {p : Addr} {a b c d e : V} (h : SqT K H p [a, b, c, d, e]) (q : ∀ p, H p = none → Q (.ref p) (upd H p (.tup [a, b, c, d]))) : rSlT K (.ref p) none (some 4) H Q := by
  refine g_slT h (fun z => ?_) (fun p hp => ?_)
  · have h2 := z.2
    rw [show (4 : Int) = ((4 : Nat) : Int) from rfl, HT.sIx_nat] at h2
    simp only [List.length_cons, List.length_nil] at h2
    omega
  · have e : cutV [a, b, c, d, e] none (some 4) = [a, b, c, d] := by rw [cutV_to _ (by decide)]; rfl
    rw [e]; exact q p hp
theorem g_catT {K : PySem.W.Frag} {H : Hp} {Q : VK} {p r : Addr} {x y : V} {xs ys : List V} (h : SqT K H p (x :: xs)) (h' : SqT K H r (y :: ys)) (hz : (x :: xs).length + (y :: ys).length ≤ sizeLine) (q : ∀ p, H p = none → Q (.ref p) (upd H p (.tup ((x :: xs) ++ (y :: ys))))) : rCatT K (.ref p) (.ref r) H Q :=
  ⟨p, r, _, _, rfl, rfl, h, h', (fun z => nomatch z), hz, (fun z => nomatch z), fun _ => q⟩
theorem row3 : Row [.ask "a" "b" 1000 1000000000, .rel "a" 1000000000, .rel "a" 1000000000] := by
  have h1 : Row [.ask "a" "b" 1000 1000000000] := Row.nil.snoc (by decide +kernel) (by decide +kernel) ⟨(fun _ h => nomatch h), (fun _ => rfl)⟩
  have h2 : Row [.ask "a" "b" 1000 1000000000, .rel "a" 1000000000] := h1.snoc (by decide +kernel) (by decide +kernel) ⟨(fun h => nomatch h), fun h => absurd (List.Mem.head _) h⟩
  exact h2.snoc (by decide +kernel) (by decide +kernel) ⟨(fun h => nomatch h), fun h => absurd (List.Mem.head _) h⟩
theorem no_fresh : ∀ k < 14, ∀ j < 3, keyOf k j ≠ "fresh" := by decide +kernel
/-! ### several except clauses, some of them with a name -/
abbrev SuT := Addr → Value → Option Addr → TS
def wMix (K : PySem.W.Frag) (Wo : WX) (D : Ends) : List (Value × Option Nat × SuT) → WX
  | [] => Wo
  | (c, none, ts) :: r => fun cl d ρ G => ∃ b, PySem.W.exmOne K cl c = some b ∧ (b = true → ∀ a, G a = none → ts a cl d D ρ G) ∧ (b = false → wMix K Wo D r cl d ρ G)
  | (c, some i, ts) :: r => fun cl d ρ G => ∃ b, PySem.W.exmOne K cl c = some b ∧
      (b = true → ∀ a, G a = none → ts a cl d { nx := fun ρ2 G2 => D.nx (ρ2.set i none) G2, rt := D.rt, bk := fun ρ2 G2 => D.bk (ρ2.set i none) G2, ct := fun ρ2 G2 => D.ct (ρ2.set i none) G2 } (ρ.set i (some (.ref a))) G) ∧
      (b = false → wMix K Wo D r cl d ρ G)
inductive HdsMix (X : Cx) : List ExceptHandler → List (Value × Option Nat × SuT) → Prop
  | nil : HdsMix X [] []
  | plain {x : Str} {c : Value} {ts : SuT} {b1 : Stmt} {su : List Stmt} {np pq : Pos} {hd2 : List ExceptHandler} {l : List (Value × Option Nat × SuT)} (hc : Names X x c)
      (hsu : ∀ (a : Addr) (ob : Obj) (cl : Value) (d : Option Addr) (pn : List (Addr × Obj)), Zc cl d ob → (∃ vs, ob.data = .fields vs) → PSs (X.suite a ((a, ob) :: pn)) (b1 :: su) (ts a cl d)) (r : HdsMix X hd2 l) :
      HdsMix X (.ExceptHandler (some (.Name x np)) none (b1 :: su) pq :: hd2) ((c, none, ts) :: l)
  | named {x n : Str} {i : Nat} {c : Value} {ts : SuT} {b1 : Stmt} {su : List Stmt} {np pq : Pos} {hd2 : List ExceptHandler} {l : List (Value × Option Nat × SuT)} (hi : X.N[i]? = some n) (hln : X.env.kindOf n = some .local) (hc : Names X x c)
      (hsu : ∀ (a : Addr) (ob : Obj) (cl : Value) (d : Option Addr) (pn : List (Addr × Obj)), Zc cl d ob → (∃ vs, ob.data = .fields vs) → PSs (X.suite a ((a, ob) :: pn)) (b1 :: su) (ts a cl d)) (r : HdsMix X hd2 l) :
      HdsMix X (.ExceptHandler (some (.Name x np)) (some n) (b1 :: su) pq :: hd2) ((c, some i, ts) :: l)
section
variable {X : Cx} {bd : List Stmt} {h0 : ExceptHandler} {hd : List ExceptHandler} {l : List (Value × Option Nat × SuT)} {pos : Pos} {tb : WX → TS} {Wo : WX}
theorem ps_try_mix (hs : X.stack = X.env :: X.outer) (hf : X.env.frame = some X.env.locals) (hN : X.N.Nodup) (tk : Takes X Wo)
    (hb : ∀ (W : WX) (pn : List (Addr × Obj)) (xe : Value → Shared → Prop), Takes (X.tr pn xe) W → PassesOwn (model X.prog X.w) X.A X.env xe → PSs (X.tr pn xe) bd (tb W))
    (hh : HdsMix X (h0 :: hd) l) : PS X (.Try bd (h0 :: hd) [] [] pos) (fun D ρ G => tb (wMix X.K Wo D l) D ρ G) := by
  refine ⟨fun pk s ρ G D I0 hw => ?_⟩
  have ok0 := I0.ok
  have hfr : X.A.frames = some (X.env :: X.outer) := by rw [ok0.frames, hs]
  refine wpAny_Try_except (wpAny_mono ((hb (wMix X.K Wo D l) (X.pn ++ pk) (fun e s1 => wpAny (model X.prog X.w) X.A (noteFrame e X.env) (fun _ s2 => wpAny (model X.prog X.w) X.A (setFlight e none) (fun _ s3 =>
    wpAny (model X.prog X.w) X.A (handleBy e X.env (h0 :: hd)) (SP X pk D) X.xe s3) X.xe s2) X.xe s1) (fun u sx xx => ?_) PassesOwn.looking).run [] s ρ G D (I0.toTry _) hw) (fun f s1 hsp => ?_) (fun e s1 he => he))
  · obtain ⟨a, B, sH, pk2, ρ1, G1, cl, d, rfl, J1, nb, vp, sky, na, os, ag, w⟩ := xx
    have J : Inv X pk ρ1 G1 sH := J1.ofTry ok0
    have sky2 : Sky B (X.env :: X.outer) a (Zc cl d) X.env.locals sx.heap := by rw [← hs]; exact sky
    show wpAny (model X.prog X.w) X.A (noteFrame (.ref a) X.env) _ _ _
    refine Sky.land Zc.steady hfr hf sky2 fun h3 fx vp3 => ?_
    have J3 : Inv X pk ρ1 G1 { sx with heap := h3 } := J.landed nb fx.1 (vp.trans vp3) os ag
    obtain ⟨ob3, vs3, he3, hz3, hd3⟩ := fx.there
    have nfr : a ∉ frs (X.env :: X.outer) := fun hm => by
      obtain ⟨_, o1, e1, hnf⟩ := fx.2.2.1.mem hm
      rw [he3] at e1; cases e1
      exact hnf _ hd3
    have nL : a ≠ X.env.locals := fun z => nfr (List.mem_filterMap.mpr ⟨X.env, .head _, by rw [hf, z]⟩)
    have nF : a ∉ X.fs := fun hm => by
      obtain ⟨e, he, q⟩ := List.mem_filterMap.mp hm
      exact nfr (List.mem_filterMap.mpr ⟨e, .tail _ he, q⟩)
    have S3 := J3.suite he3 hd3 na nL nF
    have LT : PySem.W.Looks (model X.prog X.w) h3 (typeOf (.ref a)) cl := fun A Q E s k q => wpAny_typeOf_ref (k _ _ he3) (by rw [hz3.1]; exact q)
    have tst : ∀ {x : Str} {np : Pos} {c : Value}, Names X x c → ∀ {Q : Value → Shared → Prop} {E : Value → Shared → Prop}, Q c { sx with heap := h3 } → wpAny (model X.prog X.w) (X.A.mark (some (.ref a))) (eval (.Name x np) X.env) Q E { sx with heap := h3 } := fun {x np c} hc {Q E} q => by
      obtain ⟨hg, hdbg, hm | ⟨hm, hv, hnn⟩⟩ := hc
      · exact ld_glob (X := X.suite a ((a, ob3) :: (X.pn ++ pk))) S3 hg hm q hdbg
      · exact ld_blt (X := X.suite a ((a, ob3) :: (X.pn ++ pk))) S3 hg hm hv q hnn hdbg
    have go : ∀ {hd2 : List ExceptHandler} {l2 : List (Value × Option Nat × SuT)}, HdsMix X hd2 l2 → wMix X.K Wo D l2 cl d ρ1 G1 → wpAny (model X.prog X.w) X.A (handleBy (.ref a) X.env hd2) (SP X pk D) X.xe { sx with heap := h3 } := by
      intro hd2 l2 hk
      induction hk with
      | nil =>
        intro w
        refine wpAny_handleBy_nil ?_
        obtain ⟨k1, k2, k3, ob, vs, T, oT, ts1, he, hz, hd1, h1, hr⟩ := id fx
        unfold PySem.passOn
        refine wpAny_bind (wpAny_field he hd1 h1 ?_)
        rw [if_neg (show ¬ ((Value.ref T == Value.none) = true) from by simp)]
        have fin : wpAny (model X.prog X.w) X.A (setFlight (.ref a) X.env.frame) (fun _ s4 => wpAny (model X.prog X.w) X.A (throw (.ref a) : Sem Flow) (SP X pk D) X.xe s4) X.xe { sx with heap := h3 } := by
          rw [hf]
          exact HandSPX.setFlight_upZ fx fun h4 hh4 vp4 => wpAny_throw (tk _ _ ⟨a, B, sH, pk, ρ1, G1, cl, d, rfl, J, nb, (vp.trans vp3).trans vp4, .inr (.inr (by rw [hs]; exact hh4)), na, os, ag, w⟩)
        first
          | exact wpAny_bind (wpAny_pure (wpAny_bind fin))
          | exact wpAny_bind fin
      | @plain x c ts b1 su np pq hd2 l2 hc hsu r ih =>
        intro w
        obtain ⟨b, hb1, hyes, hno⟩ := w
        refine wpAny_handleBy_cons (codeAny_handlers_test (tst hc ((PySem.W.exm_one (M := model X.prog X.w) (J3.kIn) LT hb1).here ?_))) (by intro q; cases q)
        cases b with
        | false => exact ih (hno rfl)
        | true =>
          refine codeAny_handlers_suite (HandSPX.lands_againZ fx fun h4 fx4 vp4 => ?_)
          have J4 : Inv X pk ρ1 G1 { sx with heap := h4 } := J.landed nb fx4.1 ((vp.trans vp3).trans vp4) os ag
          obtain ⟨ob4, vs4, he4, hz4, hd4⟩ := fx4.there
          have S4 := J4.suite he4 hd4 na nL nF
          refine wpAny_mono ((hsu a ob4 cl d (X.pn ++ pk) hz4 ⟨_, hd4⟩).run [] _ _ G1 _ S4 (hyes rfl a na)) (fun f s6 hsp => ?_) (fun _ _ z => z.elim)
          cases f with
          | ret u => obtain ⟨v6, ρ6, G6, S6, r6, q6⟩ := hsp; exact ⟨_, _, _, S6.unsuite ok0, r6, q6⟩
          | next => obtain ⟨ρ6, G6, S6, q6⟩ := hsp; exact ⟨_, _, S6.unsuite ok0, q6⟩
          | brk => obtain ⟨ρ6, G6, S6, q6⟩ := hsp; exact ⟨_, _, S6.unsuite ok0, q6⟩
          | cont => obtain ⟨ρ6, G6, S6, q6⟩ := hsp; exact ⟨_, _, S6.unsuite ok0, q6⟩
      | @named x n i c ts b1 su np pq hd2 l2 hi hln hc hsu r ih =>
        intro w
        have hloc : Loc X.env.scope n := .inl hln
        obtain ⟨b, hb1, hyes, hno⟩ := w
        refine wpAny_handleBy_cons (codeAny_handlers_test (tst hc ((PySem.W.exm_one (M := model X.prog X.w) (J3.kIn) LT hb1).here ?_))) (by intro q; cases q)
        cases b with
        | false => exact ih (hno rfl)
        | true =>
          refine codeAny_handlers_suite_as (HandSPX.lands_againZ fx fun h4 fx4 vp4 => ?_)
          have J4 : Inv X pk ρ1 G1 { sx with heap := h4 } := J.landed nb fx4.1 ((vp.trans vp3).trans vp4) os ag
          obtain ⟨ob4, vs4, he4, hz4, hd4⟩ := fx4.there
          have S4 := J4.suite he4 hd4 na nL nF
          refine store_ok (X := X.suite a ((a, ob4) :: (X.pn ++ pk))) (v := .ref a) S4 hN hi hloc rfl (fun s5 S5 => ?_) (.inr hln)
          refine wpAny_mono ((hsu a ob4 cl d (X.pn ++ pk) hz4 ⟨_, hd4⟩).run [] s5 _ G1 _ S5 (hyes rfl a na)) (fun f s6 hsp => ?_) (fun _ _ z => z.elim)
          have out : ∀ {ρ6 : L2.St} {G6 : Hp} {Q : Shared → Prop}, Inv (X.suite a ((a, ob4) :: (X.pn ++ pk))) [] ρ6 G6 s6 → (∀ s7, Inv X pk (ρ6.set i none) G6 s7 → Q s7) →
              wpAny (model X.prog X.w) X.A (do bindName X.env n .none; unbindBehindTheSuite X.env n pq) (fun _ s7 => Q s7) X.xe s6 := fun {ρ6 G6 Q} S6 hq => gone_ok (S6.unsuite ok0) hN hi hln hq
          cases f with
          | ret u => obtain ⟨v6, ρ6, G6, S6, r6, q6⟩ := hsp; exact out S6 fun s7 J7 => ⟨_, _, _, J7, r6, q6⟩
          | next => obtain ⟨ρ6, G6, S6, q6⟩ := hsp; exact out S6 fun s7 J7 => ⟨_, _, J7, q6⟩
          | brk => obtain ⟨ρ6, G6, S6, q6⟩ := hsp; exact out S6 fun s7 J7 => ⟨_, _, J7, q6⟩
          | cont => obtain ⟨ρ6, G6, S6, q6⟩ := hsp; exact out S6 fun s7 J7 => ⟨_, _, J7, q6⟩
    exact go hh w
  · cases f with
    | ret u => obtain ⟨v, ρ1, G1, J1, r, q⟩ := hsp; exact ⟨v, ρ1, G1, J1.ofTry ok0, r, q⟩
    | next => obtain ⟨ρ1, G1, J1, q⟩ := hsp; exact wpAny_execs_nil ⟨ρ1, G1, J1.ofTry ok0, q⟩
    | brk => obtain ⟨ρ1, G1, J1, q⟩ := hsp; exact ⟨ρ1, G1, J1.ofTry ok0, q⟩
    | cont => obtain ⟨ρ1, G1, J1, q⟩ := hsp; exact ⟨ρ1, G1, J1.ofTry ok0, q⟩
end
section
variable {K : PySem.W.Frag} {Wo : WX} {D : Ends} {l : List (Value × Option Nat × SuT)} {ρ : L2.St} {cl c : Value} {d : Option Addr} {G : Hp} {ts : SuT}
theorem g_mxT (he : PySem.W.exmOne K cl c = some true) (q : ∀ a, G a = none → ts a cl d D ρ G) : WE (wMix K Wo D ((c, none, ts) :: l)) ρ cl d G := ⟨true, he, fun _ => q, fun z => nomatch z⟩
theorem g_mxN {i : Nat} (he : PySem.W.exmOne K cl c = some true) (q : ∀ a, G a = none → ts a cl d { nx := fun ρ2 G2 => D.nx (ρ2.set i none) G2, rt := D.rt, bk := fun ρ2 G2 => D.bk (ρ2.set i none) G2, ct := fun ρ2 G2 => D.ct (ρ2.set i none) G2 } (ρ.set i (some (.ref a))) G) :
    WE (wMix K Wo D ((c, some i, ts) :: l)) ρ cl d G := ⟨true, he, fun _ => q, fun z => nomatch z⟩
theorem g_mxF {o : Option Nat} (he : PySem.W.exmOne K cl c = some false) (q : WE (wMix K Wo D l) ρ cl d G) : WE (wMix K Wo D ((c, o, ts) :: l)) ρ cl d G := by
  cases o with
  | none => exact ⟨false, he, (fun z => nomatch z), fun _ => q⟩
  | some i => exact ⟨false, he, (fun z => nomatch z), fun _ => q⟩
theorem g_mx0 (q : Wo cl d ρ G) : WE (wMix K Wo D []) ρ cl d G := q
/-- an own error class without __init__ -/
structure PlainTxt (K : PySem.W.Frag) (mg : Str → Option Value) (name : Str) (C : Addr) : Prop where
  gC : mg name = some (.ref C)
  xC : PySem.W.excIn K C [.type "ValueError", .type "Exception", .type "BaseException", .type "object"] "ValueError.__new__" = true
  kC : PySem.W.keepIn K (.ref C) = true
  bC : PySem.W.subIn K (.ref C) (.type "BaseException") = some true
  tC : PySem.W.typeIn K (.ref C) = some (.type "type")
  te : PySem.W.exmOne K (.ref C) (.ref C) = some true
theorem exm_pair {A S : Addr} {b : Bool} (h1 : PySem.W.subIn K (.ref S) (.type "BaseException") = some true) (h2 : PySem.W.isClsIn K S = true) (h3 : PySem.W.typeIn K (.ref S) = some (.type "type")) (h4 : PySem.W.subIn K (.ref A) (.ref S) = some b) :
    PySem.W.exmOne K (.ref A) (.ref S) = some b := by
  have e1 : (PySem.W.subIn K (.ref S) (.type "BaseException") == some true) = true := by rw [h1] <;> rfl
  have e2 : ((PySem.W.clsIn K S).isSome && PySem.W.typeIn K (.ref S) == some (.type "type")) = true := by
    have h2b : (PySem.W.clsIn K S).isSome = true := h2
    rw [h2b, h3] <;> rfl
  show (if (PySem.W.subIn K (.ref S) (.type "BaseException") == some true) = true then (if ((PySem.W.clsIn K S).isSome && PySem.W.typeIn K (.ref S) == some (.type "type")) = true then PySem.W.subIn K (.ref A) (.ref S) else none) else none) = some b
  rw [if_pos e1, if_pos e2]
  exact h4
end
/-! ### views: steps and plain law -/
section
variable {X : Cx} {K : PySem.W.Frag}
def rTupOf (K : PySem.W.Frag) : List V → Hp → VK → Prop := fun xs H Q => ∃ p ys, xs = [V.ref p] ∧ ((SqL K H p ys ∧ ∀ l, H l = none → Q (.ref l) (upd H l (.tup ys))) ∨ (SqT K H p ys ∧ Q (.ref p) H))
theorem call_tupK (h : X.K = K) : CallR X (.type "tuple") (rTupOf K) := by subst h; exact call_tuple_of
theorem mt_indexK (h : X.K = K) : MtR X "list.index" (rIndex K) := by subst h; exact mt_index
def rTIndex (K : PySem.W.Frag) : V → List V → Hp → VK → Prop := fun x xs H Q => ∃ p, ∃ ys : List Str, ∃ z j, x = .ref p ∧ xs = [.str z] ∧ SqT K H p (ys.map V.str) ∧ ys[j]? = some z ∧ (∀ m, m < j → ys[m]? ≠ some z) ∧ Q (.int (j : Nat)) H
theorem mt_tindexK (h : X.K = K) : MtR X "tuple.index" (rTIndex K) := by subst h; exact mt_tup_index
variable {H : Hp} {Q : VK} {p : Addr} {z : Str} {zs : List Str}
theorem g_tupL {ys : List V} (h : SqL K H p ys) (q : ∀ l, H l = none → Q (.ref l) (upd H l (.tup ys))) : rTupOf K [.ref p] H Q := ⟨p, ys, rfl, .inl ⟨h, q⟩⟩
theorem flat_strs : (zs.map V.str).all flatV = true := by
  rw [List.all_eq_true]
  intro x hx
  obtain ⟨y, _, rfl⟩ := List.mem_map.mp hx
  rfl
theorem inV_strs : inV (.str z) (zs.map V.str) = decide (z ∈ zs) := by
  unfold inV
  rw [Bool.eq_iff_iff, List.any_eq_true, decide_eq_true_eq]
  constructor
  · rintro ⟨x, hx, he⟩
    obtain ⟨y, hy, rfl⟩ := List.mem_map.mp hx
    have e : y = z := eq_of_beq he
    rw [← e]; exact hy
  · intro h
    exact ⟨.str z, List.mem_map_of_mem h, beq_self_eq_true z⟩
theorem g_inL (h : SqL K H p (zs.map V.str)) (q : Q (.bl (decide (z ∈ zs))) H) : rIn K false (.str z) (.ref p) H Q := ⟨p, _, rfl, .inl h, rfl, flat_strs, by rw [inV_strs]; exact q⟩
theorem g_ninL (h : SqL K H p (zs.map V.str)) (q : Q (.bl (!decide (z ∈ zs))) H) : rIn K true (.str z) (.ref p) H Q := ⟨p, _, rfl, .inl h, rfl, flat_strs, by rw [inV_strs]; exact q⟩
theorem g_inT (h : SqT K H p (zs.map V.str)) (q : Q (.bl (decide (z ∈ zs))) H) : rIn K false (.str z) (.ref p) H Q := ⟨p, _, rfl, .inr h, rfl, flat_strs, by rw [inV_strs]; exact q⟩
theorem g_ninT (h : SqT K H p (zs.map V.str)) (q : Q (.bl (!decide (z ∈ zs))) H) : rIn K true (.str z) (.ref p) H Q := ⟨p, _, rfl, .inr h, rfl, flat_strs, by rw [inV_strs]; exact q⟩
theorem g_idxT {j : Nat} (h : SqT K H p (zs.map V.str)) (h1 : zs[j]? = some z) (h2 : ∀ m, m < j → zs[m]? ≠ some z) (q : Q (.int (j : Nat)) H) : rTIndex K (.ref p) [.str z] H Q := ⟨p, zs, z, j, rfl, rfl, h, h1, h2, q⟩
theorem g_idxL {j : Nat} (h : SqL K H p (zs.map V.str)) (h1 : zs[j]? = some z) (h2 : ∀ m, m < j → zs[m]? ≠ some z) (q : Q (.int (j : Nat)) H) : rIndex K (.ref p) [.str z] H Q :=
  ⟨p, zs.map V.str, .str z, j, .str z, rfl, rfl, h, rfl, flat_strs, by rw [List.getElem?_map, h1]; rfl, beq_self_eq_true z, fun m z2 hm hz => by
    rw [List.getElem?_map] at hz
    cases hq : zs[m]? with
    | none => rw [hq] at hz; cases hz
    | some y =>
      rw [hq] at hz
      cases hz
      have hne : y ≠ z := fun e => h2 m hm (by rw [hq, e])
      exact beq_eq_false_iff_ne.mpr hne, q⟩
def oS : Option Str → V
  | some z => .str z
  | none => .non
theorem g_neO {a b : Option Str} (q : Q (.bl (!decide (a = b))) H) : rNe (oS a) (oS b) H Q := by
  have e : decide (oS a = oS b) = decide (a = b) := by
    rw [Bool.eq_iff_iff, decide_eq_true_eq, decide_eq_true_eq]
    cases a <;> cases b <;> simp [oS]
  refine ⟨?_, by rw [e]; exact q⟩
  cases a <;> cases b <;> rfl
end
def ViewAt (K : PySem.W.Frag) (H : Hp) (p : Addr) (n : Int) (zs : List Str) : Prop := ∃ q, SqT K H p [.int n, .ref q] ∧ SqT K H q (zs.map V.str)
theorem ViewAt.mono {K : PySem.W.Frag} {H H' : Hp} {p : Addr} {n : Int} {zs : List Str} (h : ViewAt K H p n zs) (e : Ex H H') : ViewAt K H' p n zs := by
  obtain ⟨q, h1, h2⟩ := h
  exact ⟨q, ex_sqT e h1, ex_sqT e h2⟩
inductive Out
  | two (a b : Str)
  | new (zs : List Str)
def OutT (K : PySem.W.Frag) (n : Int) (Q : VK) (H : Hp) : Out → Prop
  | .two a b => ∀ p H', Ex H H' → SqT K H' p [.str a, .str b] → Q (.ref p) H'
  | .new zs => ∀ p H', Ex H H' → ViewAt K H' p n zs → Q (.ref p) H'
def OutL (K : PySem.W.Frag) (Q : VK) (H : Hp) : Out → Prop
  | .two a b => ∀ p H', Ex H H' → SqT K H' p [.str a, .str b] → Q (.ref p) H'
  | .new zs => ∀ l H', Ex H H' → SqL K H' l (zs.map V.str) → Q (.ref l) H'
def outOf (wh : Int) (zs : List Str) (z : Str) : Out :=
  if wh = 1 then (if z ∉ zs then .two "unknown" z else if zs.length = 1 then .two "refused" "view" else .new (zs.filter fun y => !decide (y = z)))
  else (if z ∈ zs then .two "taken" z else if zs.length = 8 then .two "refused" "view" else .new (zs ++ [z]))
def outT (wh : Int) (zs : List Str) (z : Str) : Out := if wh = 2 ∧ isName z = false then .two "refused" "name" else outOf wh zs z
def Told0 (ys : List Str) (o : Out) : Prop :=
  ((∃ z ∈ ys, isName z = false) ∧ o = .two "refused" "name") ∨
  ((∀ z ∈ ys, isName z = true) ∧ ∃ k z, ys[k]? = some z ∧ z ∈ ys.take k ∧ (ys.take k).Nodup ∧ o = .two "taken" z) ∨
  ((∀ z ∈ ys, isName z = true) ∧ ys.Nodup ∧ ¬ (1 ≤ ys.length ∧ ys.length ≤ 8) ∧ o = .two "refused" "view")
theorem nodup_snoc {l : List Str} {z : Str} (h : l.Nodup) (hz : z ∉ l) : (l ++ [z]).Nodup := by
  rw [List.nodup_append]
  refine ⟨h, List.nodup_cons.mpr ⟨(fun h => nomatch h), List.nodup_nil⟩, fun a ha b hb e => ?_⟩
  rw [List.mem_singleton] at hb
  subst hb
  subst e
  exact hz ha
theorem first_ix : ∀ {zs : List Str} {z : Str}, z ∈ zs → ∃ j : Nat, zs[j]? = some z ∧ ∀ m, m < j → zs[m]? ≠ some z
  | y :: r, z, h => by
    by_cases e : y = z
    · exact ⟨0, by rw [e]; rfl, fun m hm => absurd hm (Nat.not_lt_zero m)⟩
    · rcases List.mem_cons.mp h with h | h
      · exact absurd h.symm e
      · obtain ⟨j, h1, h2⟩ := first_ix h
        refine ⟨j + 1, h1, fun m hm => ?_⟩
        cases m with
        | zero => intro h; exact e (Option.some.inj h)
        | succ m => exact h2 m (by omega)
theorem nodup_ix {zs : List Str} (h : zs.Nodup) {i j : Nat} {z : Str} (hi : zs[i]? = some z) (hj : zs[j]? = some z) : i = j := by
  obtain ⟨h1, e1⟩ := List.getElem?_eq_some_iff.mp hi
  obtain ⟨h2, e2⟩ := List.getElem?_eq_some_iff.mp hj
  have hp := List.pairwise_iff_getElem.mp h
  rcases Nat.lt_trichotomy i j with hl | hl | hl
  · exact absurd (e1.trans e2.symm) (hp i j h1 h2 hl)
  · exact hl
  · exact absurd (e2.trans e1.symm) (hp j i h2 h1 hl)
theorem strs_get {zs : List Str} {i : Nat} {y : V} (h : (zs.map V.str)[i]? = some y) : ∃ z, zs[i]? = some z ∧ y = .str z := by
  rw [List.getElem?_map] at h
  cases hz : zs[i]? with
  | none => rw [hz] at h; cases h
  | some z => rw [hz] at h; exact ⟨z, rfl, (Option.some.inj h).symm⟩
section
variable {K : PySem.W.Frag} {σ : L2.St} {H : Hp} {Q : VK} {te : TE} {g : TG} {vs : List Nat}
theorem lc_filtT {α : Type} {a : Addr} {xs : List α} {tt : TT} (enc : α → V) (p : α → Bool) (f : α → V) (hS : SqT K H a (xs.map enc)) (hn : xs.length ≤ 1000000)
    (hs : ∀ x ∈ xs, ∀ H1, Ex H H1 → ∀ (R : VK) (N : Hp → Prop), (p x = true → ∀ H3, Ex H1 H3 → R (f x) H3) → (p x = false → ∀ H3, Ex H1 H3 → N H3) → g (enc x) (wipe σ vs) H1 fun σ2 H3 => wipe σ2 vs = wipe σ vs ∧ tt σ2 H3 fun b H4 => if b = true then te σ2 H4 R else N H4)
    (hq : ∀ p' H', H p' = none → Ex H H' → H' p' = some (.lst ((xs.filter p).map f)) → Q (.ref p') H') : LcOk (Itt K a) g tt te vs Q σ H := by
  intro D hD
  refine lc_it (walk_tup (xs := xs.map enc)) (fun i H' => Ex H H' ∧ H' D = some (.lst (((xs.take i).filter p).map f))) ⟨Evl.Ex.new hD, upd_same⟩ (fun i H' _ h => ex_sqT h.1 hS) (fun i x H1 H2 hi hP hY => ?_) (fun H' h => ?_)
  · obtain ⟨hE, hL⟩ := hP
    obtain ⟨rfl, hx⟩ := hY
    rw [List.getElem?_map] at hx
    cases e : xs[i]? with
    | none => rw [e] at hx; cases hx
    | some y =>
      rw [e] at hx
      have ex : enc y = x := Option.some.inj hx
      subst ex
      have hT : xs.take (i + 1) = xs.take i ++ [y] := by rw [List.take_add_one, e]; rfl
      refine hs y (List.mem_of_getElem? e) _ hE _ _ (fun hp H3 e3 => ?_) (fun hp H3 e3 => ?_)
      · refine ⟨_, e3 _ _ hL, ?_, Evl.Ex.mut (hE.trans e3) hD, ?_⟩
        · refine fits_lt ?_
          rw [List.length_map]
          have := List.length_filter_le p (xs.take i)
          rw [List.length_take] at this
          omega
        · rw [upd_same, hT, List.filter_append, List.map_append]
          simp [hp]
      · refine ⟨hE.trans e3, ?_⟩
        rw [e3 _ _ hL, hT, List.filter_append]
        simp [hp]
  · exact hq D H' hD h.1 (by rw [h.2, List.length_map, List.take_of_length_le (Nat.le_refl _)])
theorem lc_filtS {α : Type} {a : Addr} {xs : List α} {tt : TT} (enc : α → V) (p : α → Bool) (f : α → V) (hS : SqL K H a (xs.map enc)) (hn : xs.length ≤ 1000000)
    (hs : ∀ x ∈ xs, ∀ H1, Ex H H1 → ∀ (R : VK) (N : Hp → Prop), (p x = true → ∀ H3, Ex H1 H3 → R (f x) H3) → (p x = false → ∀ H3, Ex H1 H3 → N H3) → g (enc x) (wipe σ vs) H1 fun σ2 H3 => wipe σ2 vs = wipe σ vs ∧ tt σ2 H3 fun b H4 => if b = true then te σ2 H4 R else N H4)
    (hq : ∀ p' H', H p' = none → Ex H H' → H' p' = some (.lst ((xs.filter p).map f)) → Q (.ref p') H') : LcOk (Itl K a) g tt te vs Q σ H := by
  intro D hD
  refine lc_it (walk_list (xs := xs.map enc)) (fun i H' => Ex H H' ∧ H' D = some (.lst (((xs.take i).filter p).map f))) ⟨Evl.Ex.new hD, upd_same⟩ (fun i H' _ h => ex_sqL h.1 hS) (fun i x H1 H2 hi hP hY => ?_) (fun H' h => ?_)
  · obtain ⟨hE, hL⟩ := hP
    obtain ⟨rfl, hx⟩ := hY
    rw [List.getElem?_map] at hx
    cases e : xs[i]? with
    | none => rw [e] at hx; cases hx
    | some y =>
      rw [e] at hx
      have ex : enc y = x := Option.some.inj hx
      subst ex
      have hT : xs.take (i + 1) = xs.take i ++ [y] := by rw [List.take_add_one, e]; rfl
      refine hs y (List.mem_of_getElem? e) _ hE _ _ (fun hp H3 e3 => ?_) (fun hp H3 e3 => ?_)
      · refine ⟨_, e3 _ _ hL, ?_, Evl.Ex.mut (hE.trans e3) hD, ?_⟩
        · refine fits_lt ?_
          rw [List.length_map]
          have := List.length_filter_le p (xs.take i)
          rw [List.length_take] at this
          omega
        · rw [upd_same, hT, List.filter_append, List.map_append]
          simp [hp]
      · refine ⟨hE.trans e3, ?_⟩
        rw [e3 _ _ hL, hT, List.filter_append]
        simp [hp]
  · exact hq D H' hD h.1 (by rw [h.2, List.length_map, List.take_of_length_le (Nat.le_refl _)])
end
theorem cons_of {zs : List Str} (h : 1 ≤ zs.length) : ∃ z r, zs = z :: r := by
  cases zs with
  | nil => exact absurd h (by decide)
  | cons z r => exact ⟨z, r, rfl⟩
theorem mem_len {zs : List Str} {z : Str} (h : z ∈ zs) : 1 ≤ zs.length := by
  cases zs with
  | nil => cases h
  | cons z r => exact Nat.succ_le_succ (Nat.zero_le _)
theorem snocS_of {zs : List Str} (h : 1 ≤ zs.length) : ∃ r y, zs = r ++ [y] := by
  have hne : zs ≠ [] := fun e => by rw [e] at h; exact absurd h (by decide)
  exact ⟨zs.dropLast, zs.getLast hne, (List.dropLast_concat_getLast hne).symm⟩
theorem g_catTS {K : PySem.W.Frag} {H : Hp} {Q : VK} {p r : Addr} {zs : List Str} {y : V} (h : SqT K H p (zs.map V.str)) (h' : SqT K H r [y]) (h1 : 1 ≤ zs.length) (h2 : zs.length ≤ 1000) (q : ∀ p, H p = none → Q (.ref p) (upd H p (.tup (zs.map V.str ++ [y])))) : rCatT K (.ref p) (.ref r) H Q :=
  ⟨p, r, _, _, rfl, rfl, h, h', (fun e => by rw [List.map_eq_nil_iff] at e; rw [e] at h1; exact absurd h1 (by decide)), fits_of (by rw [List.length_map]; show _ + 1 ≤ _; omega), (fun z => nomatch z), fun _ => q⟩
/-! ### tuples that are known to have no dict: their methods -/
def Dn (H : Hp) (p : Addr) : Prop := ∃ o u, H p = some (.frz o u) ∧ o.cls = .type "tuple" ∧ o.dict = none
theorem ex_dn {H H' : Hp} {p : Addr} (e : Ex H H') (h : Dn H p) : Dn H' p := by
  obtain ⟨o, u, h1, h2⟩ := h
  exact ⟨o, u, e p _ h1, h2⟩
section
variable {X : Cx} {K : PySem.W.Frag}
def rTupF (K : PySem.W.Frag) : List V → Hp → VK → Prop := fun xs H Q => ∃ p ys, xs = [V.ref p] ∧ SqL K H p ys ∧ ∀ l o, H l = none → o.cls = .type "tuple" → o.dict = none → Q (.ref l) (upd H l (.frz o (.tup ys)))
theorem call_tupF (h : X.K = K) : CallR X (.type "tuple") (rTupF K) := by
  subst h
  intro pk s σ H xs us Q I0 rr hh
  obtain ⟨p, ys, rfl, hq, q⟩ := hh
  obtain ⟨u, rfl, rx⟩ := vals1 rr
  cases rx
  obtain ⟨its, r2, pl, hz⟩ := I0.list hq
  have hl := r2.length
  refine call_tuple_list pl.isList (fun hp2 kp => ?_) (by simp only [List.size_toArray] <;> omega)
  have I1 : Inv X pk σ H { s with heap := hp2 } := I0.kept (t' := s.toks) kp
  have I2 : Inv X pk σ (upd H hp2.objs.size (.frz { cls := .type "tuple", data := .seq its.toArray } (.tup ys))) { s with heap := hp2.push { cls := .type "tuple", data := .seq its.toArray } } :=
    I1.laid (t' := s.toks) (fun b o e => Heap.get?_push_of_some _ e) (Nat.le_refl _) ⟨Heap.get?_push_size _ rfl, hz, its, r2, IsTup.new _ _⟩
  exact ⟨.ref hp2.objs.size, _, I2, rfl, q _ _ (I1.hok.fresh (Nat.le_refl _)) rfl rfl⟩
def rCatF (K : PySem.W.Frag) : R2 := fun x y H Q => ∃ a b xs ys, x = .ref a ∧ y = .ref b ∧ SqT K H a xs ∧ SqT K H b ys ∧ xs ≠ [] ∧ ys ≠ [] ∧ xs.length + ys.length ≤ sizeLine ∧
  ∀ p o, H p = none → o.cls = .type "tuple" → o.dict = none → Q (.ref p) (upd H p (.frz o (.tup (xs ++ ys))))
theorem op_catF (h : X.K = K) : OpR X (binaryOp .Add) (rCatF K) := by
  subst h
  intro pk s σ H x y v u Q I0 rx ry hh
  obtain ⟨a, b, xs, ys, rfl, rfl, ha, hb, hx, hy, hz, q⟩ := hh
  cases rx
  cases ry
  obtain ⟨its, r1, p1, _⟩ := I0.tuple ha
  obtain ⟨its2, r2, p2, _⟩ := I0.tuple hb
  refine HT.cat_tup p1 p2 (fun z => hx (r1.nil_iff.mp z)) (fun z => absurd (r2.nil_iff.mp z) hy) (fun z => ?_) (by rw [← r1.length, ← r2.length]; exact hz)
  refine ⟨.ref s.heap.objs.size, _, I0.laid (t' := s.toks) (o := .frz { cls := .type "tuple", data := .seq (its ++ its2).toArray } (.tup (xs ++ ys))) (fun b ob q => Heap.get?_push_of_some _ q) (Nat.le_refl _) ⟨Heap.get?_push_size _ rfl, by rw [List.length_append]; exact hz, _, r1.append r2, IsTup.new _ _⟩, rfl, q _ _ (I0.hok.fresh (Nat.le_refl _)) rfl rfl⟩
def tBMT (r : V → List V → Hp → VK → Prop) (to : TE) (t : TA) : TE := fun σ H Q => to σ H fun x H1 => (∃ p, x = .ref p ∧ Dn H1 p) ∧ t σ H1 fun xs H2 => r x xs H2 Q
theorem pe_bmT {o e : Expr} {es : List Expr} {to : TE} {t : TA} {name : Str} {apos cpos : Pos} {id : String} {r : V → List V → Hp → VK → Prop} (pa : PlainAttrs "tuple") (slot : Slot "tuple" name id) (hty : typeOf (.builtin id) = pure (.type "method_descriptor")) (hm : MtR X id r) (ho : PE X o to) (ha : PA X (e :: es) t)
    (hb : attributeBase o name X.env (eval o X.env) = eval o X.env := by rfl)
    (hf : ((backTo cpos (starEach (e :: es) X.env)).all (fun x => !x.1) && (backToKw cpos (keywordEach [] X.env)).all (fun x => x.1.isSome) && decide ((e :: es).length + ([] : List Keyword).length + (if ([] : List Keyword).isEmpty then 0 else 1) < 30)) = true := by rfl)
    (hl : (apos.endLine == cpos.line) = true := by rfl) (hs : starEach (e :: es) X.env = (false, eval e X.env) :: starEach es X.env := by rfl) (hp : (backTo cpos (starEach es X.env)).any (·.1) = false := by rfl) :
    PE X (.Call (.Attribute o name apos) (e :: es) [] cpos) (tBMT r to t) := by
  refine ⟨fun pk s σ H Q I0 hh => ?_⟩
  refine wpAny_Call_method_late hb hf hl rfl (thn (ho.run pk s σ H _ I0 hh) fun v s1 ⟨x, H1, I1, r1, ⟨p, hx, hd⟩, q1⟩ => ?_)
  subst hx
  cases r1
  obtain ⟨ob, u, hd1, hd2, hd3⟩ := hd
  have hob : s1.heap.get? p = some ob := (I1.hok p _ hd1).1
  refine ⟨"tuple", id, pa, slot, hty, ⟨ob, hob, hd2⟩, (fun a e => by cases e; exact ⟨ob, hob, hd3⟩), ?_⟩
  have hA := ha.run cpos pk s1 σ H1 _ I1 q1
  rw [hs] at hA ⊢
  refine Calls.callWith_builtin (by show (false || (backTo cpos (starEach es X.env)).any (·.1)) = false; rw [hp] <;> rfl) (Calls.evalArgs_plain ?_)
  exact thn hA fun us s2 ⟨vs, H2, I2, r2, q2⟩ => hm pk s2 σ H2 (.ref p) vs _ us Q I2 rfl r2 q2
variable {H : Hp} {Q : VK} {p r : Addr} {zs : List Str} {ys : List V} {y : V}
theorem g_tupF (h : SqL K H p ys) (q : ∀ l o, H l = none → o.cls = .type "tuple" → o.dict = none → Q (.ref l) (upd H l (.frz o (.tup ys)))) : rTupF K [.ref p] H Q := ⟨p, ys, rfl, h, q⟩
theorem g_catF (h : SqT K H p (zs.map V.str)) (h' : SqT K H r [y]) (h1 : 1 ≤ zs.length) (h2 : zs.length ≤ 1000) (q : ∀ p o, H p = none → o.cls = .type "tuple" → o.dict = none → Q (.ref p) (upd H p (.frz o (.tup (zs.map V.str ++ [y]))))) : rCatF K (.ref p) (.ref r) H Q :=
  ⟨p, r, _, _, rfl, rfl, h, h', (fun e => by rw [List.map_eq_nil_iff] at e; rw [e] at h1; exact absurd h1 (by decide)), (fun z => nomatch z), fits_of (by rw [List.length_map]; show _ + 1 ≤ _; omega), q⟩
theorem g_bmT {σ : L2.St} {to : TE} {t : TA} {rm : V → List V → Hp → VK → Prop} (q : to σ H fun x H1 => (∃ p, x = .ref p ∧ Dn H1 p) ∧ t σ H1 fun xs H2 => rm x xs H2 Q) : tBMT rm to t σ H Q := q
theorem dn_new {o : Obj} {u : HO} (h1 : o.cls = .type "tuple") (h2 : o.dict = none) : Dn (upd H p (.frz o u)) p := ⟨o, u, upd_same, h1, h2⟩
theorem sq_new {o : Obj} : SqT K (upd H p (.frz o (.tup ys))) p ys := .inl (.inr ⟨o, upd_same⟩)
end
def ViewF (K : PySem.W.Frag) (H : Hp) (p : Addr) (n : Int) (zs : List Str) : Prop := ∃ q, SqT K H p [.int n, .ref q] ∧ SqT K H q (zs.map V.str) ∧ Dn H q
theorem ViewF.mono {K : PySem.W.Frag} {H H' : Hp} {p : Addr} {n : Int} {zs : List Str} (h : ViewF K H p n zs) (e : Ex H H') : ViewF K H' p n zs := by
  obtain ⟨q, h1, h2, h3⟩ := h
  exact ⟨q, ex_sqT e h1, ex_sqT e h2, ex_dn e h3⟩
def OutF (K : PySem.W.Frag) (n : Int) (Q : VK) (H : Hp) : Out → Prop
  | .two a b => ∀ p H', Ex H H' → SqT K H' p [.str a, .str b] → Q (.ref p) H'
  | .new zs => ∀ p H', Ex H H' → ViewF K H' p n zs → Q (.ref p) H'
def OutH (K : PySem.W.Frag) (Q : VK) (H : Hp) : Out → Prop
  | .two a b => ∀ p H', Ex H H' → SqT K H' p [.str a, .str b] → Q (.ref p) H'
  | .new zs => ∀ l H', Ex H H' → H' l = some (.lst (zs.map V.str)) → Q (.ref l) H'
theorem dup_not {ys : List Str} {k : Nat} {z : Str} (hk : ys[k]? = some z) (ht : z ∈ ys.take k) {m : Nat} (hm : k < m) (hn : (ys.take m).Nodup) : False := by
  obtain ⟨i, hi, e⟩ := List.mem_iff_getElem.mp ht
  rw [List.length_take] at hi
  have h1 : (ys.take m)[i]? = some z := by
    rw [List.getElem?_take, if_pos (by omega), ← e, List.getElem_take, List.getElem?_eq_getElem (by omega)]
  have h2 : (ys.take m)[k]? = some z := by rw [List.getElem?_take, if_pos hm]; exact hk
  have := nodup_ix hn h1 h2
  omega
theorem told0_ok {ys : List Str} {o : Out} (h : Told0 ys o) (ha : ∀ z ∈ ys, isName z = true) (hn : ys.Nodup) (h1 : 1 ≤ ys.length) (h2 : ys.length ≤ 8) : False := by
  rcases h with ⟨⟨z, hz1, hz2⟩, _⟩ | ⟨_, k, z, hk, hkt, _, _⟩ | ⟨_, _, hl, _⟩
  · rw [ha z hz1] at hz2; cases hz2
  · have hl := (List.getElem?_eq_some_iff.mp hk).1
    exact dup_not hk hkt hl (by rw [List.take_of_length_le (Nat.le_refl _)]; exact hn)
  · exact hl ⟨h1, h2⟩
theorem told0_name {ys : List Str} {o : Out} (h : Told0 ys o) (hb : ∃ z ∈ ys, isName z = false) : o = .two "refused" "name" := by
  obtain ⟨z, hz1, hz2⟩ := hb
  rcases h with ⟨_, e⟩ | ⟨ha, _⟩ | ⟨ha, _⟩
  · exact e
  · rw [ha z hz1] at hz2; cases hz2
  · rw [ha z hz1] at hz2; cases hz2
theorem told0_dup {ys : List Str} {o : Out} (h : Told0 ys o) (ha : ∀ z ∈ ys, isName z = true) {k : Nat} {z : Str} (hk : ys[k]? = some z) (ht : z ∈ ys.take k) (hn : (ys.take k).Nodup) : o = .two "taken" z := by
  rcases h with ⟨⟨z, hz1, hz2⟩, _⟩ | ⟨_, k2, z2, hk2, hkt2, hn2, e⟩ | ⟨_, hnd, _⟩
  · rw [ha z hz1] at hz2; cases hz2
  · rcases Nat.lt_trichotomy k k2 with hl | hl | hl
    · exact (dup_not hk ht hl hn2).elim
    · subst hl
      rw [hk] at hk2
      cases hk2
      exact e
    · exact (dup_not hk2 hkt2 hl hn).elim
  · have hl := (List.getElem?_eq_some_iff.mp hk).1
    exact (dup_not hk ht hl (by rw [List.take_of_length_le (Nat.le_refl _)]; exact hnd)).elim
theorem told0_view {ys : List Str} {o : Out} (h : Told0 ys o) (ha : ∀ z ∈ ys, isName z = true) (hn : ys.Nodup) : o = .two "refused" "view" := by
  rcases h with ⟨⟨z, hz1, hz2⟩, _⟩ | ⟨_, k, z, hk, hkt, _, _⟩ | ⟨_, _, hl, e⟩
  · rw [ha z hz1] at hz2; cases hz2
  · have hl := (List.getElem?_eq_some_iff.mp hk).1
    exact (dup_not hk hkt hl (by rw [List.take_of_length_le (Nat.le_refl _)]; exact hn)).elim
  · exact e
section
variable {zs : List Str} {z : Str}
theorem out_1a (h : z ∉ zs) : outOf 1 zs z = .two "unknown" z := by unfold outOf; rw [if_pos rfl, if_pos h]
theorem out_1b (h : z ∈ zs) (h1 : zs.length = 1) : outOf 1 zs z = .two "refused" "view" := by unfold outOf; rw [if_pos rfl, if_neg (fun x => x h), if_pos h1]
theorem out_1c (h : z ∈ zs) (h1 : zs.length ≠ 1) : outOf 1 zs z = .new (zs.filter fun y => !decide (y = z)) := by unfold outOf; rw [if_pos rfl, if_neg (fun x => x h), if_neg h1]
theorem out_2b (h : z ∈ zs) : outOf 2 zs z = .two "taken" z := by unfold outOf; rw [if_neg (by decide), if_pos h]
theorem out_2c (h : z ∉ zs) (h1 : zs.length = 8) : outOf 2 zs z = .two "refused" "view" := by unfold outOf; rw [if_neg (by decide), if_neg h, if_pos h1]
theorem out_2d (h : z ∉ zs) (h1 : zs.length ≠ 8) : outOf 2 zs z = .new (zs ++ [z]) := by unfold outOf; rw [if_neg (by decide), if_neg h, if_neg h1]
theorem outT_1 : outT 1 zs z = outOf 1 zs z := by unfold outT; rw [if_neg (fun x => absurd x.1 (by decide))]
theorem outT_2 (h : isName z = true) : outT 2 zs z = outOf 2 zs z := by unfold outT; rw [if_neg (fun x => by rw [h] at x; cases x.2)]
theorem outT_2a (h : isName z = false) : outT 2 zs z = .two "refused" "name" := by unfold outT; rw [if_pos ⟨rfl, h⟩]
theorem at_pre {j : Nat} (hj : j < zs.length) : atI (V.non :: zs.map V.str) (j : Int) = some (oS (if j = 0 then none else zs[j - 1]?)) := by
  refine atI_nat ?_
  cases j with
  | zero => rfl
  | succ j =>
    rw [if_neg (Nat.succ_ne_zero j), List.getElem?_cons_succ, List.getElem?_map, Nat.add_sub_cancel, List.getElem?_eq_getElem (show j < zs.length by omega)]
    rfl
theorem at_post {j : Nat} (hj : j < zs.length) : atI (zs.map V.str ++ [V.non]) ((j : Int) + 1) = some (oS zs[j + 1]?) := by
  rw [show ((j : Int) + 1) = ((j + 1 : Nat) : Int) by omega]
  refine atI_nat ?_
  by_cases h : j + 1 < zs.length
  · rw [List.getElem?_append_left (by rw [List.length_map]; exact h), List.getElem?_map, List.getElem?_eq_getElem h]
    rfl
  · have e : j + 1 = (zs.map V.str).length := by rw [List.length_map]; omega
    have e2 : zs[j + 1]? = none := List.getElem?_eq_none (by omega)
    rw [e2, e, List.getElem?_append_right (Nat.le_refl _), Nat.sub_self]
    rfl
theorem head_ix {j : Nat} {z0 : Str} {r : List Str} (hz : zs = z0 :: r) (hn : zs.Nodup) (hj : zs[j]? = some z) : decide (z0 = z) = decide ((j : Int) = 0) := by
  rw [Bool.eq_iff_iff, decide_eq_true_eq, decide_eq_true_eq]
  have h0 : zs[0]? = some z0 := by rw [hz]; rfl
  constructor
  · intro e
    rw [e] at h0
    have := nodup_ix hn h0 hj
    omega
  · intro e
    have : j = 0 := by omega
    rw [this, h0] at hj
    exact Option.some.inj hj
theorem last_ix {j : Nat} {y : Str} {r : List Str} (hz : zs = r ++ [y]) (hn : zs.Nodup) (hj : zs[j]? = some z) : decide (y = z) = decide ((j : Int) = (zs.length : Int) - 1) := by
  rw [Bool.eq_iff_iff, decide_eq_true_eq, decide_eq_true_eq]
  have h0 : zs[r.length]? = some y := by rw [hz, List.getElem?_append_right (Nat.le_refl _), Nat.sub_self]; rfl
  have hl : zs.length = r.length + 1 := by rw [hz, List.length_append]; rfl
  constructor
  · intro e
    rw [e] at h0
    have := nodup_ix hn h0 hj
    omega
  · intro e
    have : j = r.length := by omega
    rw [this, h0] at hj
    exact Option.some.inj hj
end
/-! names made of a base -/
def lt36 (m : Int) : Nat := (tl "abcdefghijklmnopqrstuvwxyz0123456789").getD (m % 36).toNat 0
def baseL (n : Int) : List Nat := (List.range (n % 12).toNat).map fun (i : Nat) => lt36 (n + 7 * (i : Int) * (i : Int))
def ownL (n : Int) (b : List Nat) (k : Nat) : List Nat := if (n / 144 + (k : Int)) % 3 = 0 then b.drop 1 else b
def nmL (n : Int) (pl : Nat) (b : List Nat) (k : Nat) : List Nat := (ownL n b k).take (min pl (ownL n b k).length) ++ [lt36 (n / 11 + 5 * (k : Int))] ++ (ownL n b k).drop (min pl (ownL n b k).length)
theorem lt36_in (m : Int) : inLet (lt36 m) = true := by
  have h0 := Int.emod_nonneg m (show (36 : Int) ≠ 0 by decide)
  have h1 := Int.emod_lt_of_pos m (show (0 : Int) < 36 by decide)
  have key : ∀ i < 36, inLet ((tl "abcdefghijklmnopqrstuvwxyz0123456789").getD i 0) = true := by decide +kernel
  exact key _ (by omega)
theorem lt36_inj {a b : Int} (h : lt36 a = lt36 b) : a % 36 = b % 36 := by
  have h0 := Int.emod_nonneg a (show (36 : Int) ≠ 0 by decide)
  have h1 := Int.emod_lt_of_pos a (show (0 : Int) < 36 by decide)
  have h2 := Int.emod_nonneg b (show (36 : Int) ≠ 0 by decide)
  have h3 := Int.emod_lt_of_pos b (show (0 : Int) < 36 by decide)
  have key : ∀ i < 36, ∀ j < 36, (tl "abcdefghijklmnopqrstuvwxyz0123456789").getD i 0 = (tl "abcdefghijklmnopqrstuvwxyz0123456789").getD j 0 → i = j := by decide +kernel
  have := key _ (by omega) _ (by omega) h
  omega
theorem baseL_in (n : Int) : ∀ c ∈ baseL n, inLet c = true := fun c hc => by
  obtain ⟨i, _, rfl⟩ := List.mem_map.mp hc
  exact lt36_in _
theorem ownL_or (n : Int) (b : List Nat) (k : Nat) : ownL n b k = b.drop 1 ∨ ownL n b k = b := by
  unfold ownL
  split
  · exact .inl rfl
  · exact .inr rfl
theorem nmL_len (n : Int) (pl : Nat) (b : List Nat) (k : Nat) : (nmL n pl b k).length = (ownL n b k).length + 1 := by
  unfold nmL
  simp only [List.length_append, List.length_take, List.length_drop, List.length_cons, List.length_nil]
  omega
theorem nmL_inj {n : Int} {pl : Nat} {b : List Nat} {i k : Nat} (hi : i < 10) (hk : k < 10) (h : nmL n pl b i = nmL n pl b k) : i = k := by
  have hl := congrArg List.length h
  rw [nmL_len, nmL_len] at hl
  have ho : ownL n b i = ownL n b k := by
    have key : ∀ x y : List Nat, (x = b.drop 1 ∨ x = b) → (y = b.drop 1 ∨ y = b) → x.length + 1 = y.length + 1 → x = y := by
      intro x y hx hy he
      have hd : (b.drop 1).length = b.length → b.drop 1 = b := fun e => by
        cases b with
        | nil => rfl
        | cons a r => simp at e
      rcases hx with rfl | rfl <;> rcases hy with rfl | rfl
      · rfl
      · exact hd (by omega)
      · exact (hd (by omega)).symm
      · rfl
    exact key _ _ (ownL_or n b i) (ownL_or n b k) hl
  unfold nmL at h
  rw [ho, List.append_assoc, List.append_assoc] at h
  have h2 := List.append_cancel_left h
  have h3 := lt36_inj (List.cons.inj h2).1
  omega
theorem nmL_in {n : Int} {pl : Nat} {b : List Nat} {k : Nat} (hb : ∀ c ∈ b, inLet c = true) : ∀ c ∈ nmL n pl b k, inLet c = true := fun c hc => by
  have ho : ∀ c ∈ ownL n b k, inLet c = true := fun c hc => by
    rcases ownL_or n b k with e | e
    · rw [e] at hc; exact hb c (List.mem_of_mem_drop hc)
    · rw [e] at hc; exact hb c hc
  unfold nmL at hc
  rcases List.mem_append.mp hc with hc | hc
  · rcases List.mem_append.mp hc with hc | hc
    · exact ho c (List.mem_of_mem_take hc)
    · rw [List.mem_singleton] at hc; rw [hc]; exact lt36_in _
  · exact ho c (List.mem_of_mem_drop hc)
theorem name_of {l : List Nat} (h1 : 1 ≤ l.length) (h2 : l.length ≤ 12) (h : ∀ c ∈ l, inLet c = true) : isName (stxt l) = true := by
  unfold isName
  rw [len_stxt, tl_stxt, decide_eq_true (by omega), decide_eq_true (by omega), Bool.true_and, Bool.true_and, List.all_eq_true]
  exact h
def nms (n : Int) (pl : Nat) (b : List Nat) : List Str := (List.range 10).map fun k => stxt (nmL n pl b k)
theorem nms_ok {n : Int} {pl : Nat} {b : List Nat} (hb : ∀ c ∈ b, inLet c = true) (hl : b.length ≤ 11) : (nms n pl b).length = 10 ∧ (nms n pl b).Nodup ∧ ∀ z ∈ nms n pl b, isName z = true := by
  refine ⟨by unfold nms; rw [List.length_map, List.length_range], ?_, fun z hz => ?_⟩
  · unfold nms
    rw [List.nodup_iff_pairwise_ne, List.pairwise_map]
    refine List.Pairwise.imp_of_mem ?_ (List.nodup_iff_pairwise_ne.mp List.nodup_range)
    intro i k hi hk hne e
    exact hne (nmL_inj (List.mem_range.mp hi) (List.mem_range.mp hk) (stxt_inj e))
  · obtain ⟨k, _, rfl⟩ := List.mem_map.mp hz
    refine name_of ?_ ?_ (nmL_in hb)
    · rw [nmL_len]; omega
    · rw [nmL_len]
      have : (ownL n b k).length ≤ b.length := by
        rcases ownL_or n b k with e | e
        · rw [e, List.length_drop]; omega
        · rw [e]; exact Nat.le_refl _
      omega
theorem nm_eq {o : List Nat} {m : Int} (hm : 0 ≤ m) (c : Nat) :
    cutS (stxt o) none (some (if ((stxt o).length : Int) < m then ((stxt o).length : Int) else m)) ++ (⟨#[c]⟩ : Str) ++ cutS (stxt o) (some (if ((stxt o).length : Int) < m then ((stxt o).length : Int) else m)) none = stxt (o.take (min m.toNat o.length) ++ [c] ++ o.drop (min m.toNat o.length)) := by
  have e : (if ((stxt o).length : Int) < m then ((stxt o).length : Int) else m) = ((min m.toNat o.length : Nat) : Int) := by
    rw [len_stxt]
    split <;> omega
  rw [e]
  refine ext_tl ?_
  rw [tl_append, tl_append, tl_cut_to _ (by omega), tl_cut_from _ (by omega), tl_stxt, tl_stxt, Int.toNat_natCast]
theorem cut_drop1 (b : List Nat) : cutS (stxt b) (some 1) none = stxt (b.drop 1) := ext_tl (by rw [tl_cut_from _ (by decide)]; rfl)
theorem g_ix36 {H : Hp} {Q : VK} {m : Int} (q : Q (.str ⟨#[lt36 m]⟩) H) : rIxS (.str "abcdefghijklmnopqrstuvwxyz0123456789") (.int (m % 36)) H Q := by
  have h0 := Int.emod_nonneg m (show (36 : Int) ≠ 0 by decide)
  have h1 := Int.emod_lt_of_pos m (show (0 : Int) < 36 by decide)
  exact g_ixS (fits_of (by decide)) (at_codes h0 (by show m % 36 < ((36 : Nat) : Int); exact h1)) q
theorem nm_own {n : Int} {m : Nat} {b o : List Nat} {i : Nat} (h : ownL n b i = o) : stxt (o.take (min m o.length) ++ [lt36 (n / 11 + 5 * (i : Int))] ++ o.drop (min m o.length)) = stxt (nmL n m b i) := by unfold nmL; rw [h]
theorem name_len {z : Str} (h : isName z = true) : z.length ≤ 12 := by
  unfold isName at h
  rw [Bool.and_eq_true, Bool.and_eq_true] at h
  have := of_decide_eq_true h.1.2
  omega
theorem name_str {z : Str} (h : isName z = true) : PyData.strOk z = true := part_ok (isName_part h)
theorem strs_shaped {zs : List Str} (h : ∀ z ∈ zs, PyData.strOk z = true) : PyData.canLayAll0 (zs.map PyData.str) = true ∧ PyData.depthAll (zs.map PyData.str) = 0 := by
  induction zs with
  | nil => exact ⟨rfl, rfl⟩
  | cons z r ih =>
    obtain ⟨h1, h2⟩ := ih fun y hy => h y (.tail _ hy)
    refine ⟨?_, ?_⟩
    · show (PyData.strOk z && PyData.canLayAll0 (r.map PyData.str)) = true
      rw [h z (.head _), h1]; rfl
    · show max 0 (PyData.depthAll (r.map PyData.str)) = 0
      rw [h2]; rfl
theorem strs_shapedL {zs : List Str} (h : ∀ z ∈ zs, PyData.strOk z = true) : SeqAt.shaped (.list (zs.map PyData.str)) = true := by
  obtain ⟨h1, h2⟩ := strs_shaped h
  show (PyData.canLayAll0 (zs.map PyData.str) && decide (PyData.depthAll (zs.map PyData.str) + 1 ≤ 64)) = true
  rw [h1, h2]
  rfl
theorem two_shaped {a b : Str} (ha : PyData.strOk a = true) (hb : PyData.strOk b = true) : SeqAt.shaped (.tuple [.str a, .str b]) = true := by
  show ((PyData.strOk a && (PyData.strOk b && true)) && decide _) = true
  rw [ha, hb]
  rfl
theorem view_shaped {n : Int} {zs : List Str} (h : ∀ z ∈ zs, PyData.strOk z = true) : SeqAt.shaped (.tuple [.int n, .tuple (zs.map PyData.str)]) = true := by
  obtain ⟨h1, h2⟩ := strs_shaped h
  show ((true && (PyData.canLayAll0 (zs.map PyData.str) && true)) && decide (max 0 (max (PyData.depthAll (zs.map PyData.str) + 1) 0) + 1 ≤ 64)) = true
  rw [h1, h2]
  rfl
theorem dp_strsT {K : PySem.W.Frag} {H : Hp} {l : Addr} {zs : List Str} (h : SqT K H l (zs.map V.str)) : Dp K H (.ref l) (.tuple (zs.map PyData.str)) := by
  refine .tup h ?_
  clear h
  induction zs with
  | nil => exact .nil
  | cons z r ih => exact .cons (.str z) ih
theorem dp_view {K : PySem.W.Frag} {H : Hp} {p : Addr} {n : Int} {zs : List Str} (h : ViewF K H p n zs) : Dp K H (.ref p) (.tuple [.int n, .tuple (zs.map PyData.str)]) := by
  obtain ⟨q, h1, h2, _⟩ := h
  exact .tup h1 (.cons (.int n) (.cons (dp_strsT h2) .nil))
theorem dp_two {K : PySem.W.Frag} {H : Hp} {p : Addr} {a b : Str} (h : SqT K H p [.str a, .str b]) : Dp K H (.ref p) (.tuple [.str a, .str b]) := .tup h (.cons (.str a) (.cons (.str b) .nil))
structure Houses (zs : List Str) : Prop where
  nd : zs.Nodup
  nm : ∀ z ∈ zs, isName z = true
  lo : 1 ≤ zs.length
  hi : zs.length ≤ 8
theorem Houses.so {zs : List Str} (h : Houses zs) : ∀ z ∈ zs, PyData.strOk z = true := fun z hz => name_str (h.nm z hz)
theorem Houses.len {zs : List Str} (h : Houses zs) : ∀ z ∈ zs, z.length ≤ 100 := fun z hz => Nat.le_trans (name_len (h.nm z hz)) (by decide)
def housesOf (zs : List Str) (m : Int) (N : Nat) : List Str := (List.range N).map fun (k : Nat) => zs.getD ((m + 3 * (k : Int)) % 10).toNat ""
theorem houses_ok {zs : List Str} {m : Int} {N : Nat} (h10 : zs.length = 10) (hn : zs.Nodup) (ha : ∀ z ∈ zs, isName z = true) (h1 : 1 ≤ N) (h8 : N ≤ 8) : Houses (housesOf zs m N) := by
  have hix : ∀ k : Nat, ((m + 3 * (k : Int)) % 10).toNat < zs.length := fun k => by
    have a0 := Int.emod_nonneg (m + 3 * (k : Int)) (show (10 : Int) ≠ 0 by decide)
    have a1 := Int.emod_lt_of_pos (m + 3 * (k : Int)) (show (0 : Int) < 10 by decide)
    omega
  have hget : ∀ k : Nat, zs[((m + 3 * (k : Int)) % 10).toNat]? = some (zs.getD ((m + 3 * (k : Int)) % 10).toNat "") := fun k => by
    rw [List.getD_eq_getElem?_getD, List.getElem?_eq_getElem (hix k)]; rfl
  refine ⟨?_, fun z hz => ?_, by unfold housesOf; rw [List.length_map, List.length_range]; exact h1, by unfold housesOf; rw [List.length_map, List.length_range]; exact h8⟩
  · unfold housesOf
    rw [List.nodup_iff_pairwise_ne, List.pairwise_map]
    refine List.Pairwise.imp_of_mem ?_ (List.nodup_iff_pairwise_ne.mp List.nodup_range)
    intro i k hi hk hne e
    have hi' := List.mem_range.mp hi
    have hk' := List.mem_range.mp hk
    have h2 := hget k
    rw [← e] at h2
    have := nodup_ix hn (hget i) h2
    have a0 := Int.emod_nonneg (m + 3 * (k : Int)) (show (10 : Int) ≠ 0 by decide)
    have a1 := Int.emod_nonneg (m + 3 * (i : Int)) (show (10 : Int) ≠ 0 by decide)
    apply hne
    omega
  · obtain ⟨k, _, rfl⟩ := List.mem_map.mp hz
    exact ha _ (List.mem_of_getElem? (hget k))
def OutGood : Out → Prop
  | .two a b => PyData.strOk a = true ∧ PyData.strOk b = true
  | .new ys => Houses ys
theorem out_good {wh : Int} {zs : List Str} {z : Str} (h : Houses zs) (hz : isName z = true) : OutGood (outOf wh zs z) := by
  unfold outOf
  by_cases h0 : wh = 1
  · rw [if_pos h0]
    by_cases h1 : z ∉ zs
    · rw [if_pos h1]
      exact ⟨by decide +kernel, name_str hz⟩
    · rw [if_neg h1]
      by_cases h2 : zs.length = 1
      · rw [if_pos h2]
        exact ⟨by decide +kernel, by decide +kernel⟩
      · rw [if_neg h2]
        have hzz : z ∈ zs := Decidable.byContradiction fun x => h1 x
        have hf : (zs.filter fun y => !decide (y = z)).length + 1 = zs.length := by
          have hnd := h.nd
          clear h h1 h2
          induction zs with
          | nil => cases hzz
          | cons y r ih =>
            rw [List.nodup_cons] at hnd
            by_cases e : y = z
            · subst e
              have hr : (r.filter fun x => !decide (x = y)) = r := by
                rw [List.filter_eq_self]
                intro x hx
                rw [decide_eq_false (fun e : x = y => hnd.1 (by rw [← e]; exact hx))]
                rfl
              rw [List.filter_cons_of_neg (by rw [decide_eq_true rfl]; decide), hr]
              rfl
            · rcases List.mem_cons.mp hzz with h | h
              · exact absurd h.symm e
              · rw [List.filter_cons_of_pos (by rw [decide_eq_false e]; rfl), List.length_cons, List.length_cons, ih h hnd.2]
        have hlo := h.lo
        have hhi := h.hi
        refine ⟨h.nd.filter _, fun y hy => h.nm y (List.mem_filter.mp hy).1, by omega, by omega⟩
  · rw [if_neg h0]
    by_cases h1 : z ∈ zs
    · rw [if_pos h1]
      exact ⟨by decide +kernel, name_str hz⟩
    · rw [if_neg h1]
      by_cases h2 : zs.length = 8
      · rw [if_pos h2]
        exact ⟨by decide +kernel, by decide +kernel⟩
      · rw [if_neg h2]
        have hhi := h.hi
        refine ⟨nodup_snoc h.nd h1, fun y hy => ?_, by rw [List.length_append]; show 1 ≤ _ + 1; omega, by rw [List.length_append]; show _ + 1 ≤ 8; omega⟩
        rcases List.mem_append.mp hy with hy | hy
        · exact h.nm y hy
        · rw [List.mem_singleton] at hy
          rw [hy]; exact hz
theorem outT_eq {wh : Int} {zs : List Str} {z : Str} (hz : isName z = true) : outT wh zs z = outOf wh zs z := by
  unfold outT
  rw [if_neg (fun x => by rw [hz] at x; cases x.2)]
theorem told0_nil : Told0 [] (.two "refused" "view") := .inr (.inr ⟨(fun z hz => nomatch hz), List.nodup_nil, (fun h => absurd h.1 (by decide)), rfl⟩)
theorem told0_nine {zs : List Str} (h10 : zs.length = 10) (hn : zs.Nodup) (ha : ∀ z ∈ zs, isName z = true) : Told0 (zs.take 9) (.two "refused" "view") :=
  .inr (.inr ⟨fun z hz => ha z (List.mem_of_mem_take hz), hn.sublist (List.take_sublist _ _), (fun h => by have := h.2; rw [List.length_take] at this; omega), rfl⟩)
theorem told0_twice {hs : List Str} {t : Str} (h : Houses hs) (ht : t ∈ hs) : Told0 (hs ++ [t]) (.two "taken" t) :=
  .inr (.inl ⟨fun z hz => by
    rcases List.mem_append.mp hz with hz | hz
    · exact h.nm z hz
    · rw [List.mem_singleton] at hz; rw [hz]; exact h.nm t ht, hs.length, t, by rw [List.getElem?_append_right (Nat.le_refl _), Nat.sub_self]; rfl, by rw [List.take_append_of_le_length (Nat.le_refl _), List.take_of_length_le (Nat.le_refl _)]; exact ht, by rw [List.take_append_of_le_length (Nat.le_refl _), List.take_of_length_le (Nat.le_refl _)]; exact h.nd, rfl⟩)
theorem told0_bad {ys : List Str} {b : Str} (hb : b ∈ ys) (h : isName b = false) : Told0 ys (.two "refused" "name") := .inl ⟨⟨b, hb, h⟩, rfl⟩
theorem passX {X : Cx} : Passes (L2.CX X.prog X.w) X E0 := fun _ _ _ _ _ _ _ h => by
  obtain ⟨_, _, _, _, _, _, _, _, _, _, _, _, e⟩ := h
  exact e.elim
theorem at_getD {zs : List Str} {i : Int} (h0 : 0 ≤ i) (h1 : i < (zs.length : Int)) : atI (zs.map V.str) i = some (.str (zs.getD i.toNat "")) := by
  obtain ⟨n, rfl⟩ := Int.eq_ofNat_of_zero_le h0
  refine atI_nat ?_
  have hn : n < zs.length := by omega
  rw [List.getElem?_map, List.getD_eq_getElem?_getD, Int.toNat_natCast, List.getElem?_eq_getElem hn]
  rfl
theorem getD_mem {zs : List Str} {i : Nat} (h : i < zs.length) : zs.getD i "" ∈ zs := by
  rw [List.getD_eq_getElem?_getD, List.getElem?_eq_getElem h]
  exact List.getElem_mem h
def badNames : List Str := ["", "A", "a b", "abcdefghijklm", "a-", "~"]
theorem bad_at6 {m : Int} (h0 : 0 ≤ m) (h1 : m < 6) : ∃ b, atI (badNames.map V.str) m = some (.str b) ∧ isName b = false ∧ b.length ≤ 100 := by
  refine ⟨_, at_getD h0 (by show m < ((6 : Nat) : Int); omega), ?_⟩
  have key : ∀ i < 6, isName (badNames.getD i "") = false ∧ (badNames.getD i "").length ≤ 100 := by decide +kernel
  exact key _ (by omega)
/-! ### objects with fields: steps -/
def sp_dead : Sp := fun _ _ _ _ => False
section
variable {X : Cx} {K : PySem.W.Frag}
theorem sl_tupAK (h : X.K = K) : SlR X (rSlA K) := by subst h; exact sl_tupA
theorem pe_revLK {e : Expr} {te : TE} {k : Nat} {p1 p2 p3 pos : Pos} (h : X.K = K) (he : PE X e te) : PE X (.Subscript e (.Slice none none (some (.UnaryOp .USub (.Constant (.int 1) k p1) p2)) p3) pos) (tRevL K te) := by subst h; exact pe_revL he
theorem cr_sortedIK (h : X.K = K) : CallR X (.builtin "sorted") (rSortedI K) := by subst h; exact cr_sortedI
theorem pe_fldK {e : Expr} {f : Str} {pos : Pos} {ta : TE} (h : X.K = K) (he : PE X e ta) (hb : attributeBase e f X.env (eval e X.env) = eval e X.env) : PE X (.Attribute e f pos) (tFld K ta f) := by subst h; exact pe_fld he hb
theorem ps_fldK {o value : Expr} {f : Str} {pos pos2 : Pos} {ta tv : TE} (h : X.K = K) (ha : PE X o ta) (hv : PE X value tv) (hs : swapsWith value (some (.Attribute o f pos2)) pos.line X.env = pure false) : PS X (.Assign [.Attribute o f pos2] value pos) (sFld K ta tv f) := by subst h; exact ps_fld ha hv hs
end
section
variable {K : PySem.W.Frag} {H : Hp} {Q : VK} {σ : L2.St} {te ta tv : TE} {t : TA} {f m : Str} {C p dx : Addr} {fs : List (Str × V)} {v : V} {D : Ends} {sp : Sp} {dvs : List V} {E : XK}
def rFld (K : PySem.W.Frag) (f : Str) (Q : VK) : V → Hp → Prop := fun x H1 => ∃ a C dx fs v, x = .ref a ∧ H1 a = some (.ins C dx fs) ∧ Cls K C ∧ NoAttr K C f ∧ fs.lookup f = some v ∧ Q v H1
theorem g_fld (q : te σ H fun x H1 => rFld K f Q x H1) : tFld K te f σ H Q := q
theorem g_fld1 (h : H p = some (.ins C dx fs)) (c : Cls K C) (n : NoAttr K C f) (l : fs.lookup f = some v) (q : Q v H) : rFld K f Q (.ref p) H := ⟨p, C, dx, fs, v, rfl, h, c, n, l, q⟩
def rStF (K : PySem.W.Frag) (f : Str) (y : V) (D : Ends) (σ : L2.St) : V → Hp → Prop := fun x H2 => ∃ a C dx fs, x = .ref a ∧ H2 a = some (.ins C dx fs) ∧ Cls K C ∧ NoAttr K C f ∧ fs.length < 1000 ∧ D.nx σ (upd H2 a (.ins C dx (putF f y fs)))
theorem g_stF (q : tv σ H fun y H1 => ta σ H1 fun x H2 => rStF K f y D σ x H2) : sFld K ta tv f D σ H := q
theorem g_stF1 {y : V} (h : H p = some (.ins C dx fs)) (c : Cls K C) (n : NoAttr K C f) (l : fs.length < 1000) (q : D.nx σ (upd H p (.ins C dx (putF f y fs)))) : rStF K f y D σ (.ref p) H := ⟨p, C, dx, fs, rfl, h, c, n, l, q⟩
def rMeth (C : Addr) (m : Str) (sp : Sp) (dvs : List V) (E : XK) (t : TA) (σ : L2.St) (Q : VK) : V → Hp → Prop := fun x H1 => ∃ a dx fs, x = .ref a ∧ H1 a = some (.ins C dx fs) ∧ fs.lookup m = none ∧ t σ H1 fun vs H2 => sp (x :: (vs ++ dvs)) H2 Q E
theorem g_meth (q : ta σ H fun x H1 => rMeth C m sp dvs E t σ Q x H1) : tMeth C m sp dvs E ta t σ H Q := q
theorem g_meth1 (h : H p = some (.ins C dx fs)) (l : fs.lookup m = none) (q : t σ H fun vs H2 => sp (.ref p :: (vs ++ dvs)) H2 Q E) : rMeth C m sp dvs E t σ Q (.ref p) H := ⟨p, dx, fs, rfl, h, l, q⟩
theorem g_make (q : t σ H fun vs H1 => ∀ x dx, H1 x = none → H1 dx = none → dx ≠ x → sp (.ref x :: (vs ++ dvs)) (upd (upd H1 dx (.own x)) x (.ins C dx [])) (fun v H2 => v = .non ∧ Q (.ref x) H2) E) : tMake C sp dvs E t σ H Q := q
theorem putF_hit {y w : V} {r : List (Str × V)} : putF f y ((f, w) :: r) = (f, y) :: r := by
  show (if f = f then _ else _) = _
  rw [if_pos rfl]
theorem putF_miss {g : Str} {y w : V} {r : List (Str × V)} (h : g ≠ f) : putF f y ((g, w) :: r) = (g, w) :: putF f y r := by
  show (if g = f then _ else _) = _
  rw [if_neg h]
/-- what stands, but the object at m -/
def ExP (m : Addr) (H H' : Hp) : Prop := ∀ b o, b ≠ m → H b = some o → H' b = some o
theorem ExP.of {m : Addr} {H H' : Hp} (e : Ex H H') : ExP m H H' := fun b o _ h => e b o h
theorem ExP.trans {m : Addr} {H H' H2 : Hp} (e : ExP m H H') (e2 : ExP m H' H2) : ExP m H H2 := fun b o hb h => e2 b o hb (e b o hb h)
theorem ExP.upd {m : Addr} {H H' : Hp} {o : HO} (e : ExP m H H') : ExP m H (L2.upd H' m o) := fun b o hb h => by rw [upd_ne hb]; exact e b o hb h
theorem exP_sqT {m : Addr} {H H' : Hp} {C dx : Addr} {fs : List (Str × V)} {p : Addr} {vs : List V} (hm : H m = some (.ins C dx fs)) (e : ExP m H H') (h : SqT K H p vs) : SqT K H' p vs := by
  rcases h with (h | ⟨o, h⟩) | h
  · exact .inl (.inl (e p _ (fun z => by rw [z, hm] at h; cases h) h))
  · exact .inl (.inr ⟨o, e p _ (fun z => by rw [z, hm] at h; cases h) h⟩)
  · exact .inr h
theorem exP_sqL {m : Addr} {H H' : Hp} {C dx : Addr} {fs : List (Str × V)} {p : Addr} {vs : List V} (hm : H m = some (.ins C dx fs)) (e : ExP m H H') (h : SqL K H p vs) : SqL K H' p vs := by
  rcases h with (h | ⟨o, h⟩) | h
  · exact .inl (.inl (e p _ (fun z => by rw [z, hm] at h; cases h) h))
  · exact .inl (.inr ⟨o, e p _ (fun z => by rw [z, hm] at h; cases h) h⟩)
  · exact .inr h
theorem g_slA {lo hi : Option Int} {xs : List V} (h : SqT K H p xs) (q1 : cutV xs lo hi = xs → Q (.ref p) H) (q2 : ∀ p, H p = none → Q (.ref p) (upd H p (.tup (cutV xs lo hi)))) : rSlA K (.ref p) lo hi H Q :=
  ⟨p, xs, rfl, h, fun z => q1 (by
    unfold cutV
    rw [z.1, z.2, List.drop_zero, Nat.sub_zero]
    exact List.take_of_length_le (Nat.le_refl _)), fun _ => q2⟩
theorem g_rev (q : te σ H fun x H1 => ∃ a xs, x = .ref a ∧ SqL K H1 a xs ∧ ∀ p, H1 p = none → Q (.ref p) (upd H1 p (.lst xs.reverse))) : tRevL K te σ H Q := q
end
/-! ### the gap: limits and meters -/
def LimG (K : PySem.W.Frag) (H : Hp) (p : Addr) (gs : List Str) (t : Int) : Prop := ∃ g n, SqT K H p [.str "gap1", .str "gap", .ref g, .ref n] ∧ SqT K H g (gs.map V.str) ∧ SqT K H n [.int t]
theorem LimG.mono {K : PySem.W.Frag} {H H' : Hp} {p : Addr} {gs : List Str} {t : Int} (h : LimG K H p gs t) (e : Ex H H') : LimG K H' p gs t := by
  obtain ⟨g, n, h1, h2, h3⟩ := h
  exact ⟨g, n, ex_sqT e h1, ex_sqT e h2, ex_sqT e h3⟩
theorem LimG.exP {K : PySem.W.Frag} {H H' : Hp} {p : Addr} {gs : List Str} {t : Int} {m C dx : Addr} {fs : List (Str × V)} (h : LimG K H p gs t) (hm : H m = some (.ins C dx fs)) (e : ExP m H H') : LimG K H' p gs t := by
  obtain ⟨g, n, h1, h2, h3⟩ := h
  exact ⟨g, n, exP_sqT hm e h1, exP_sqT hm e h2, exP_sqT hm e h3⟩
def seesG (gs : List Str) (g : Str) : Bool := decide (gs.length = 0) || decide (g ∈ gs)
def oN : Option Int → V
  | some i => .int i
  | none => .non
def flG (lim : Addr) (t : Int) (last : Option Int) : List (Str × V) := [("limit", .ref lim), ("_ticks", .int t), ("_last", oN last)]
theorem flG_lim (lim : Addr) (t : Int) (last : Option Int) : (flG lim t last).lookup ("limit" : Str) = some (.ref lim) := rfl
theorem flG_tk (lim : Addr) (t : Int) (last : Option Int) : (flG lim t last).lookup ("_ticks" : Str) = some (.int t) := rfl
theorem flG_la (lim : Addr) (t : Int) (last : Option Int) : (flG lim t last).lookup ("_last" : Str) = some (oN last) := rfl
theorem flG_set (lim : Addr) (t : Int) (last : Option Int) (m : Int) : putF "_last" (.int m) (flG lim t last) = flG lim t (some m) := by
  unfold flG
  rw [putF_miss (by decide +kernel), putF_miss (by decide +kernel), putF_hit]
  rfl
theorem flG_new (lim : Addr) (t : Int) : putF "_last" .non (putF "_ticks" (.int t) (putF "limit" (.ref lim) [])) = flG lim t none := by
  have e1 : putF "limit" (.ref lim) [] = [(("limit" : Str), V.ref lim)] := rfl
  rw [e1, putF_miss (by decide +kernel), putF_miss (by decide +kernel)]
  have e2 : putF "_ticks" (.int t) [] = [(("_ticks" : Str), V.int t)] := rfl
  rw [e2, putF_miss (by decide +kernel)]
  rfl
/-- the least moment with room -/
def earlG (t : Int) (last : Option Int) (m : Int) : Int := match last with
  | none => m
  | some x => if x + t > m then x + t else m
def gapOk (t : Int) : List Int → Bool
  | a :: b :: r => decide (b - a ≥ t) && gapOk t (b :: r)
  | _ => true
theorem gapOk_snoc (t : Int) : ∀ (l : List Int) (m : Int), gapOk t (l ++ [m]) = (gapOk t l && match l.getLast? with | none => true | some x => decide (m - x ≥ t))
  | [], m => rfl
  | [a], m => by show (decide (m - a ≥ t) && true) = (true && decide (m - a ≥ t)); rw [Bool.and_true, Bool.true_and]
  | a :: b :: r, m => by
    have ih := gapOk_snoc t (b :: r) m
    show (decide (b - a ≥ t) && gapOk t ((b :: r) ++ [m])) = ((decide (b - a ≥ t) && gapOk t (b :: r)) && _)
    rw [ih, Bool.and_assoc]
    rfl
section
variable {K : PySem.W.Frag} {H : Hp} {σ : L2.St} {T : Addr} {x y z u : V} {i j k l : Nat} {Qs : L2.St → Hp → Prop}
theorem g_gtup3 (h : SqT K H T [x, y, z]) (q : Qs (((σ.set i (some x)).set j (some y)).set k (some z)) H) : gTup K 3 (gCons (gName i) (gCons (gName j) (gCons (gName k) gNil))) (.ref T) σ H Qs :=
  ⟨T, [x, y, z], rfl, h, rfl, x, [y, z], rfl, y, [z], rfl, z, [], rfl, rfl, q⟩
theorem g_gtup4 (h : SqT K H T [x, y, z, u]) (q : Qs ((((σ.set i (some x)).set j (some y)).set k (some z)).set l (some u)) H) : gTup K 4 (gCons (gName i) (gCons (gName j) (gCons (gName k) (gCons (gName l) gNil)))) (.ref T) σ H Qs :=
  ⟨T, [x, y, z, u], rfl, h, rfl, x, [y, z, u], rfl, y, [z, u], rfl, z, [u], rfl, u, [], rfl, rfl, q⟩
end
theorem sees_t {gs : List Str} {g : Str} (h : ((gs.map V.str).length : Int) = 0) : seesG gs g = true := by
  rw [List.length_map] at h
  unfold seesG
  rw [decide_eq_true (by omega), Bool.true_or]
theorem sees_f {gs : List Str} {g : Str} (h : ¬ ((gs.map V.str).length : Int) = 0) : seesG gs g = decide (g ∈ gs) := by
  rw [List.length_map] at h
  unfold seesG
  rw [decide_eq_false (by omega), Bool.false_or]
theorem ix_of {α : Type} {F : α → Prop} {xs : List α} (h : ∀ x ∈ xs, F x) {m : Int} (h0 : 0 ≤ m) (h1 : m < (xs.length : Int)) : ∃ x, atI xs m = some x ∧ F x := by
  obtain ⟨n, rfl⟩ := Int.eq_ofNat_of_zero_le h0
  have hn : n < xs.length := by omega
  exact ⟨xs[n], atI_nat (List.getElem?_eq_getElem hn), h _ (List.getElem_mem hn)⟩
def IsI (F : Int → Prop) (v : V) : Prop := ∃ u, v = .int u ∧ F u
def IsZ (v : V) : Prop := ∃ z : Str, v = .str z ∧ PyData.strOk z = true ∧ z.length ≤ 12
theorem eqv_nil (gs : List Str) : PyData.eqv (.tuple (gs.map PyData.str)) (.tuple []) = decide (gs.length = 0) := by
  cases gs with
  | nil => rfl
  | cons g r => rw [decide_eq_false (by simp)]; rfl
theorem strs_shapedT {zs : List Str} (h : ∀ z ∈ zs, PyData.strOk z = true) : SeqAt.shaped (.tuple (zs.map PyData.str)) = true := by
  obtain ⟨h1, h2⟩ := strs_shaped h
  show (PyData.canLayAll0 (zs.map PyData.str) && decide (PyData.depthAll (zs.map PyData.str) + 1 ≤ 64)) = true
  rw [h1, h2]
  rfl
theorem w_ifH {p : Prop} [Decidable p] {te : TE} {n : Nat} {D : Ends} {σ : L2.St} {H : Hp} (W : V → Hp → Prop) (h1 : p → ∀ R : VK, (∀ x H', W x H' → Ex H H' → R x H') → te σ H R) (h0 : ¬ p → ∃ old, σ[n]? = some (some old) ∧ W old H)
    (hk : ∀ x H', W x H' → Ex H H' → D.nx (σ.set n (some x)) H') : if decide p = true then tAsg te (gName n) D σ H else tNext D σ H := by
  refine w_dec (fun h => h1 h _ hk) (fun h => ?_)
  obtain ⟨old, e, w⟩ := h0 h
  have e2 : σ.set n (some old) = σ := by
    apply List.ext_getElem?
    intro k
    by_cases hk : n = k
    · subst hk
      rw [List.getElem?_set_self (List.getElem?_eq_some_iff.mp e).1, e]
    · rw [List.getElem?_set_ne hk]
  have := hk old H w (Evl.Ex.refl _)
  rw [e2] at this
  exact this
theorem g_slA3 {K : PySem.W.Frag} {H : Hp} {Q : VK} {p : Addr} {a b c d : V} (h : SqT K H p [a, b, c, d]) (q : ∀ p, H p = none → Q (.ref p) (upd H p (.tup [a, b, c]))) : rSlA K (.ref p) none (some 3) H Q := by
  have e : cutV [a, b, c, d] none (some 3) = [a, b, c] := by rw [cutV_to _ (by decide)]; rfl
  exact g_slA h (fun z => by rw [e] at z; have := congrArg List.length z; exact absurd this (by simp)) (fun p hp => by rw [e]; exact q p hp)
def GrpW (K : PySem.W.Frag) (x : V) (H : Hp) : Prop := ∃ (p : Addr) (gs : List Str), x = .ref p ∧ SqT K H p (gs.map V.str) ∧ gs.length ≤ 8 ∧ ∀ g ∈ gs, PyData.strOk g = true
theorem g_slStr {K : PySem.W.Frag} {H : Hp} {Q : VK} {p : Addr} {zs : List Str} {m : Int} (h0 : 0 ≤ m) (h : SqT K H p (zs.map V.str)) (h8 : zs.length ≤ 8) (hok : ∀ g ∈ zs, PyData.strOk g = true) (q : ∀ x H', GrpW K x H' → Ex H H' → Q x H') : rSlA K (.ref p) (some m) none H Q := by
  have e : cutV (zs.map V.str) (some m) none = (zs.drop m.toNat).map V.str := by rw [cutV_from _ h0, List.map_drop]
  refine g_slA h (fun _ => q _ _ ⟨p, zs, rfl, h, h8, hok⟩ (Evl.Ex.refl _)) (fun p2 hp2 => q _ _ ⟨p2, zs.drop m.toNat, rfl, .inl (.inl (by rw [upd_same, e])), by rw [List.length_drop]; omega, fun g hg => hok g (List.mem_of_mem_drop hg)⟩ (Evl.Ex.new hp2))
def eight : List Str := ["0", "1x", "9", "a", "b", "c7", "q", "z"]
theorem eight_ok : ∀ g ∈ eight, PyData.strOk g = true := by decide +kernel
abbrev R4 : Type := Int × Str × Int × Str
def R4.vs (r : R4) : List V := [.int r.1, .str r.2.1, .int r.2.2.1, .str r.2.2.2]
def RowsG (K : PySem.W.Frag) (H : Hp) (xs : List (Addr × R4)) : Prop := ∀ x ∈ xs, SqT K H x.1 x.2.vs
theorem RowsG.mono {K : PySem.W.Frag} {H H' : Hp} {xs : List (Addr × R4)} (h : RowsG K H xs) (e : Ex H H') : RowsG K H' xs := fun x hx => ex_sqT e (h x hx)
theorem RowsG.exP {K : PySem.W.Frag} {H H' : Hp} {xs : List (Addr × R4)} {m C dx : Addr} {fs : List (Str × V)} (h : RowsG K H xs) (hm : H m = some (.ins C dx fs)) (e : ExP m H H') : RowsG K H' xs := fun x hx => exP_sqT hm e (h x hx)
def seenG (gs : List Str) (xs : List (Addr × R4)) : List (Addr × R4) := xs.filter fun x => seesG gs x.2.2.1
def moms (xs : List (Addr × R4)) : List Int := xs.map fun x => x.2.1
def momG (gs : List Str) (xs : List (Addr × R4)) : List Int := moms (seenG gs xs)
theorem gapOk_range (t : Int) : ∀ ms : List Int, gapOk t ms = (List.range (ms.length - 1)).all fun i => decide (ms.getD (i + 1) 0 - ms.getD i 0 ≥ t)
  | [] => rfl
  | [a] => rfl
  | a :: b :: r => by
    have ih := gapOk_range t (b :: r)
    show (decide (b - a ≥ t) && gapOk t (b :: r)) = _
    rw [ih]
    show _ = (List.range (r.length + 1)).all _
    rw [List.range_succ_eq_map, List.all_cons, List.all_map]
    rfl
theorem ix_rows {ys : List (Addr × R4)} {i : Nat} (h : i < ys.length) : ∃ px r, atI (ys.map fun x => V.ref x.1) (i : Int) = some (.ref px) ∧ (px, r) ∈ ys ∧ (moms ys).getD i 0 = r.1 := by
  refine ⟨ys[i].1, ys[i].2, atI_nat (by rw [List.getElem?_map, List.getElem?_eq_getElem h]; rfl), List.getElem_mem h, ?_⟩
  unfold moms
  rw [List.getD_eq_getElem?_getD, List.getElem?_map, List.getElem?_eq_getElem h]
  rfl
theorem row_getR {xs : List (Addr × R4)} {i : Nat} {y : V} (h : (xs.map fun x => V.ref x.1)[i]? = some y) : ∃ px r, xs[i]? = some (px, r) ∧ y = .ref px := by
  rw [List.getElem?_map] at h
  cases hx : xs[i]? with
  | none => rw [hx] at h; cases h
  | some x =>
    rw [hx] at h
    exact ⟨x.1, x.2, rfl, (Option.some.inj h).symm⟩
theorem gapOk_last (t : Int) (ms : List Int) (h : gapOk t ms = true) (y : Int) : gapOk t (ms ++ [y]) = match ms.getLast? with | none => true | some x => decide (y - x ≥ t) := by
  rw [gapOk_snoc, h, Bool.true_and]
theorem earl_in {t m : Int} {ms ys : List Int} (hp : ys.Perm ((m :: ms.map fun x => x + t).filter fun y => decide (y ≥ m))) : earlG t ms.getLast? m ∈ ys := by
  rw [hp.mem_iff, List.mem_filter]
  cases h : ms.getLast? with
  | none => exact ⟨.head _, decide_eq_true (Int.le_refl _)⟩
  | some x =>
    have hx := List.mem_of_getLast? h
    have e : earlG t (some x) m = if x + t > m then x + t else m := rfl
    rw [e]
    by_cases h1 : x + t > m
    · rw [if_pos h1]
      exact ⟨.tail _ (List.mem_map_of_mem (f := fun x => x + t) hx), decide_eq_true (Int.le_of_lt h1)⟩
    · rw [if_neg h1]
      exact ⟨.head _, decide_eq_true (Int.le_refl _)⟩
theorem earl_ok {t m : Int} {ms : List Int} (h : gapOk t ms = true) : gapOk t (ms ++ [earlG t ms.getLast? m]) = true := by
  rw [gapOk_last t ms h]
  cases ms.getLast? with
  | none => rfl
  | some x =>
    show decide ((if x + t > m then x + t else m) - x ≥ t) = true
    rw [decide_eq_true_eq]
    split <;> omega
theorem earl_le {t m : Int} {ms ys : List Int} (h : gapOk t ms = true) (hp : ys.Perm ((m :: ms.map fun x => x + t).filter fun y => decide (y ≥ m))) {y : Int} (hy : y ∈ ys) (ho : gapOk t (ms ++ [y]) = true) : earlG t ms.getLast? m ≤ y := by
  have h1 := (List.mem_filter.mp (hp.mem_iff.mp hy)).2
  have h2 : y ≥ m := of_decide_eq_true h1
  rw [gapOk_last t ms h] at ho
  cases hl : ms.getLast? with
  | none => exact h2
  | some x =>
    rw [hl] at ho
    have h3 : y - x ≥ t := of_decide_eq_true ho
    show (if x + t > m then x + t else m) ≤ y
    split <;> omega
theorem earl_pick {t m : Int} {ms ys : List Int} (h : gapOk t ms = true) (hp : ys.Perm ((m :: ms.map fun x => x + t).filter fun y => decide (y ≥ m))) (hs : ys.Pairwise (· ≤ ·)) {i : Nat} {y : Int} (hi : ys[i]? = some y) (hb : ∀ z ∈ ys.take i, gapOk t (ms ++ [z]) = false) (ho : gapOk t (ms ++ [y]) = true) : y = earlG t ms.getLast? m := by
  have h1 := earl_le h hp (List.mem_of_getElem? hi) ho
  obtain ⟨j, hj, e⟩ := List.mem_iff_getElem.mp (earl_in (t := t) (m := m) hp)
  have hil := (List.getElem?_eq_some_iff.mp hi).1
  have hie := (List.getElem?_eq_some_iff.mp hi).2
  by_cases hji : j < i
  · have hz : earlG t ms.getLast? m ∈ ys.take i := by
      rw [← e]
      exact List.mem_iff_getElem.mpr ⟨j, by rw [List.length_take]; omega, by rw [List.getElem_take]⟩
    have := hb _ hz
    rw [earl_ok h] at this
    cases this
  · by_cases hij : i = j
    · subst hij
      rw [← hie, e]
    · have := List.pairwise_iff_getElem.mp hs i j hil hj (by omega)
      rw [hie, e] at this
      omega
theorem earl_none {t m : Int} {ms ys : List Int} (h : gapOk t ms = true) (hp : ys.Perm ((m :: ms.map fun x => x + t).filter fun y => decide (y ≥ m))) (hb : ∀ z ∈ ys, gapOk t (ms ++ [z]) = false) : False := by
  have := hb _ (earl_in (t := t) (m := m) hp)
  rw [earl_ok h] at this
  cases this
theorem momG_snoc {gs : List Str} {xs : List (Addr × R4)} {p : Addr} {r : R4} (h : seesG gs r.2.1 = true) : momG gs (xs ++ [(p, r)]) = momG gs xs ++ [r.1] := by
  unfold momG moms seenG
  rw [List.filter_append, List.map_append, List.filter_cons_of_pos (p := fun x : Addr × R4 => seesG gs x.2.2.1) (a := (p, r)) h]
  rfl
theorem momG_skip {gs : List Str} {xs : List (Addr × R4)} {p : Addr} {r : R4} (h : seesG gs r.2.1 = false) : momG gs (xs ++ [(p, r)]) = momG gs xs := by
  unfold momG moms seenG
  rw [List.filter_append, List.filter_cons_of_neg (p := fun x : Addr × R4 => seesG gs x.2.2.1) (a := (p, r)) (by show ¬ seesG gs r.2.1 = true; rw [h]; decide)]
  simp
structure WSt (K : PySem.W.Frag) (C m dx p l : Addr) (ns : List Int) (gs : List Str) (t : Int) (pl pg : Addr) (last : Option Int) (xs : List (Addr × R4)) (H : Hp) : Prop where
  hm : H m = some (.ins C dx (flG p t last))
  hL : LimG K H p gs t
  hS : SqL K H l (ns.map V.int)
  hA : H pl = some (.lst (xs.map fun x => V.ref x.1))
  hG : H pg = some (.lst [])
  hR : RowsG K H xs
section
variable {K : PySem.W.Frag} {C m dx p l : Addr} {ns : List Int} {gs : List Str} {t : Int} {pl pg : Addr} {last last2 : Option Int} {xs : List (Addr × R4)} {H H' : Hp}
theorem WSt.mono (w : WSt K C m dx p l ns gs t pl pg last xs H) (e : Ex H H') : WSt K C m dx p l ns gs t pl pg last xs H' :=
  ⟨ex_at e w.hm, w.hL.mono e, ex_sqL e w.hS, ex_at e w.hA, ex_at e w.hG, w.hR.mono e⟩
theorem WSt.exP (w : WSt K C m dx p l ns gs t pl pg last xs H) (e : ExP m H H') (h : H' m = some (.ins C dx (flG p t last2))) : WSt K C m dx p l ns gs t pl pg last2 xs H' :=
  ⟨h, w.hL.exP w.hm e, exP_sqL w.hm e w.hS, e pl _ (fun z => by have := w.hA; rw [z, w.hm] at this; cases this) w.hA, e pg _ (fun z => by have := w.hG; rw [z, w.hm] at this; cases this) w.hG, w.hR.exP w.hm e⟩
theorem sqT_lst {q : Addr} {o : HO} {vs ys : List V} (hA : H pl = some (.lst ys)) (h : SqT K H q vs) : SqT K (upd H pl o) q vs := sqT_upd hA h
theorem WSt.app {x : Addr × R4} (w : WSt K C m dx p l ns gs t pl pg last xs H) (hne : pg ≠ pl) (hx : SqT K H x.1 x.2.vs) (hS2 : SqL K (upd H pl (.lst ((xs.map fun x => V.ref x.1) ++ [.ref x.1]))) l (ns.map V.int)) : WSt K C m dx p l ns gs t pl pg last (xs ++ [x]) (upd H pl (.lst ((xs.map fun x => V.ref x.1) ++ [.ref x.1]))) := by
  have hmp : m ≠ pl := fun z => by have := w.hA; rw [← z, w.hm] at this; cases this
  obtain ⟨g, n, h1, h2, h3⟩ := w.hL
  refine ⟨by rw [upd_ne hmp]; exact w.hm, ⟨g, n, sqT_lst w.hA h1, sqT_lst w.hA h2, sqT_lst w.hA h3⟩, hS2, by rw [upd_same, List.map_append]; rfl, by rw [upd_ne hne]; exact w.hG, fun y hy => ?_⟩
  rcases List.mem_append.mp hy with hy | hy
  · exact sqT_lst w.hA (w.hR y hy)
  · rw [List.mem_singleton] at hy
    rw [hy]
    exact sqT_lst w.hA hx
theorem ExP.mut {q : Addr} {o : HO} (e : ExP m H H') (h : H q = none) : ExP m H (L2.upd H' q o) := fun b u hb hu => by
  rw [upd_ne (fun z => by rw [z, h] at hu; cases hu)]
  exact e b u hb hu
theorem due_eq {ms : List Int} {mo : Int} (h : gapOk t ms = true) (hl : ms.getLast? = last) : decide (earlG t last mo = mo) = gapOk t (ms ++ [mo]) := by
  rw [gapOk_last t ms h, hl]
  cases last with
  | none => exact decide_eq_true rfl
  | some x =>
    show decide ((if x + t > mo then x + t else mo) = mo) = decide (mo - x ≥ t)
    rw [Bool.eq_iff_iff, decide_eq_true_eq, decide_eq_true_eq]
    constructor
    · intro h
      by_cases h1 : x + t > mo
      · rw [if_pos h1] at h; omega
      · omega
    · intro h
      rw [if_neg (by omega)]
end
theorem w_ifB {b : Bool} {te : TE} {n : Nat} {D : Ends} {σ : L2.St} {H : Hp} (W : V → Hp → Prop) (h1 : b = true → ∀ R : VK, (∀ x H', W x H' → Ex H H' → R x H') → te σ H R) (h0 : b = false → ∃ old, σ[n]? = some (some old) ∧ W old H)
    (hk : ∀ x H', W x H' → Ex H H' → D.nx (σ.set n (some x)) H') : if b = true then tAsg te (gName n) D σ H else tNext D σ H := by
  have := w_ifH (p := b = true) (te := te) (n := n) (D := D) (σ := σ) (H := H) W h1 (fun h => h0 (by simpa using h)) hk
  simpa using this
theorem due_of {gs : List Str} {t : Int} {xs : List (Addr × R4)} {last : Option Int} {q : Addr} {mo c : Int} {g z : Str} (hgo : gapOk t (momG gs xs) = true) (hla : (momG gs xs).getLast? = last) :
    decide ((if seesG gs g then earlG t last mo else mo) = mo) = gapOk t (momG gs (xs ++ [((q, (mo, g, c, z)) : Addr × R4)])) ∧ (seesG gs g = false → gapOk t (momG gs (xs ++ [((q, (mo, g, c, z)) : Addr × R4)])) = true) ∧
    (momG gs (xs ++ [((q, (mo, g, c, z)) : Addr × R4)])).getLast? = if seesG gs g then some mo else last := by
  cases hs : seesG gs g with
  | true =>
    rw [momG_snoc (r := (mo, g, c, z)) hs, if_pos rfl, if_pos rfl]
    exact ⟨due_eq hgo hla, (fun h => nomatch h), by rw [List.getLast?_append]; rfl⟩
  | false =>
    rw [momG_skip (r := (mo, g, c, z)) hs, if_neg (by decide), if_neg (by decide)]
    exact ⟨by rw [hgo]; exact decide_eq_true rfl, fun _ => hgo, hla⟩
theorem g_eqSame {K : PySem.W.Frag} {H : Hp} {Q : VK} {x y : V} (d : PyData) (h1 : Dp K H x d) (h2 : Dp K H y d) (s1 : SeqAt.shaped d = true) (q : Q (.bl true) H) : rEqD K x y H Q := ⟨d, d, h1, h2, s1, s1, by rw [SeqAt.eqv_refl _ (SeqAt.canLay_of_shaped s1)]; exact q⟩
def limD (gs : List Str) (t : Int) : PyData := .tuple [.str "gap1", .str "gap", .tuple (gs.map PyData.str), .tuple [.int t]]
theorem dp_lim {K : PySem.W.Frag} {H : Hp} {p : Addr} {gs : List Str} {t : Int} (h : LimG K H p gs t) : Dp K H (.ref p) (limD gs t) := by
  obtain ⟨g, n, h1, h2, h3⟩ := h
  exact .tup h1 (.cons (.str _) (.cons (.str _) (.cons (dp_strsT h2) (.cons (.tup h3 (.cons (.int t) .nil)) .nil))))
theorem lim_shaped {gs : List Str} {t : Int} (h : ∀ g ∈ gs, PyData.strOk g = true) : SeqAt.shaped (limD gs t) = true := by
  obtain ⟨h1, h2⟩ := strs_shaped h
  show ((PyData.strOk "gap1" && (PyData.strOk "gap" && (PyData.canLayAll0 (gs.map PyData.str) && ((true && true) && true)))) && decide (max 0 (max 0 (max (PyData.depthAll (gs.map PyData.str) + 1) (max (max 0 0 + 1) 0))) + 1 ≤ 64)) = true
  rw [h1, h2, show PyData.strOk "gap1" = true by decide +kernel, show PyData.strOk "gap" = true by decide +kernel]
  rfl
theorem ex_made {H : Hp} {m dx : Addr} {C : Addr} (hm : H m = none) (hd : H dx = none) (hne : dx ≠ m) : Ex H (upd (upd H dx (.own m)) m (.ins C dx [])) := (Evl.Ex.new hd).trans (Evl.Ex.new (by rw [upd_ne (Ne.symm hne)]; exact hm))
section
variable {X : Cx} {K : PySem.W.Frag}
def rFldA (K : PySem.W.Frag) (f : Str) (v : V) (σ : L2.St) (Q : L2.St → Hp → Prop) : V → Hp → Prop := fun x H1 => ∃ a C dx fs, x = .ref a ∧ H1 a = some (.ins C dx fs) ∧ Cls K C ∧ NoAttr K C f ∧ fs.length < 1000 ∧ Q σ (upd H1 a (.ins C dx (putF f v fs)))
theorem g_fldA1 {f : Str} {v : V} {σ : L2.St} {H : Hp} {Q : L2.St → Hp → Prop} {p C dx : Addr} {fs : List (Str × V)} (h : H p = some (.ins C dx fs)) (c : Cls K C) (n : NoAttr K C f) (l : fs.length < 1000) (q : Q σ (upd H p (.ins C dx (putF f v fs)))) : rFldA K f v σ Q (.ref p) H := ⟨p, C, dx, fs, rfl, h, c, n, l, q⟩
def gFldA (K : PySem.W.Frag) (to : TE) (f : Str) : TG := fun v σ H Q => to σ H fun x H1 => ∃ a C dx fs, x = .ref a ∧ H1 a = some (.ins C dx fs) ∧ Cls K C ∧ NoAttr K C f ∧ fs.length < 1000 ∧ Q σ (upd H1 a (.ins C dx (putF f v fs)))
theorem pg_fldK {o : Expr} {f : Str} {pos : Pos} {to : TE} (h : X.K = K) (ho : PE X o to) : PG X (.Attribute o f pos) (gFldA K to f) := by
  subst h
  refine ⟨fun pk s σ H v u Q I0 rr hh => ?_⟩
  rw [assign_Attribute]
  refine wpAny_bind (wpAny_holding (thn (ho.run pk s σ H _ I0 hh) fun ov s1 ⟨x, H1, I1, r1, a, C, dx, fs, ex, ea, c, n, l, q⟩ => ?_))
  subst ex
  cases r1
  refine wpAny_bind (wpAny_standAt (wpAny_bind (wpAny_holding (setattr_ok I1 ea c n l rr fun s2 I2 => ?_))))
  exact wpAny_release ⟨σ, _, I2, q⟩
theorem g_gtupA {H : Hp} {σ : L2.St} {T : Addr} {x y : V} {g1 g2 : TG} {Qs : L2.St → Hp → Prop} (h : SqT K H T [x, y]) (q : g1 x σ H fun σ2 H2 => g2 y σ2 H2 Qs) : gTup K 2 (gCons g1 (gCons g2 gNil)) (.ref T) σ H Qs := by
  refine ⟨T, [x, y], rfl, h, rfl, x, [y], rfl, ?_⟩
  have e : (fun σ2 H2 => g2 y σ2 H2 Qs) = fun σ' H' => gCons g2 gNil [y] σ' H' Qs := by
    funext σ2 H2
    apply propext
    constructor
    · intro h
      refine ⟨y, [], rfl, ?_⟩
      have e2 : (fun σ' H' => gNil [] σ' H' Qs) = Qs := by
        funext a b
        exact propext ⟨fun h => h.2, fun h => ⟨rfl, h⟩⟩
      rw [e2]
      exact h
    · rintro ⟨v, r, e1, h⟩
      cases e1
      have e2 : (fun σ' H' => gNil [] σ' H' Qs) = Qs := by
        funext a b
        exact propext ⟨fun h => h.2, fun h => ⟨rfl, h⟩⟩
      rw [e2] at h
      exact h
  rw [← e]
  exact q
theorem g_fldA {to : TE} {f : Str} {v : V} {σ : L2.St} {H : Hp} {Q : L2.St → Hp → Prop} (q : to σ H fun x H1 => rFldA K f v σ Q x H1) : gFldA K to f v σ H Q := q
end
/-! ### limits of two numbers (window, span, bucket) and their meters -/
def LimF (K : PySem.W.Frag) (H : Hp) (p : Addr) (w : Str) (gs : List Str) (s t : Int) : Prop := ∃ g n, SqT K H p [.str "flow1", .str w, .ref g, .ref n] ∧ SqT K H g (gs.map V.str) ∧ SqT K H n [.int s, .int t]
section
variable {K : PySem.W.Frag} {H H' : Hp} {p : Addr} {wd : Str} {gs : List Str} {s t : Int} {m C dx : Addr} {fs fs2 : List (Str × V)}
theorem LimF.mono (h : LimF K H p wd gs s t) (e : Ex H H') : LimF K H' p wd gs s t := by
  obtain ⟨g, n, h1, h2, h3⟩ := h
  exact ⟨g, n, ex_sqT e h1, ex_sqT e h2, ex_sqT e h3⟩
theorem LimF.exP (h : LimF K H p wd gs s t) (hm : H m = some (.ins C dx fs)) (e : ExP m H H') : LimF K H' p wd gs s t := by
  obtain ⟨g, n, h1, h2, h3⟩ := h
  exact ⟨g, n, exP_sqT hm e h1, exP_sqT hm e h2, exP_sqT hm e h3⟩
structure WStF (K : PySem.W.Frag) (C m dx p l : Addr) (fs : List (Str × V)) (wd : Str) (ns : List Int) (gs : List Str) (s t : Int) (pl pg : Addr) (xs : List (Addr × R4)) (H : Hp) : Prop where
  hm : H m = some (.ins C dx fs)
  hL : LimF K H p wd gs s t
  hS : SqL K H l (ns.map V.int)
  hA : H pl = some (.lst (xs.map fun x => V.ref x.1))
  hG : H pg = some (.lst [])
  hR : RowsG K H xs
variable {l pl pg : Addr} {ns : List Int} {xs : List (Addr × R4)}
theorem WStF.mono (w : WStF K C m dx p l fs wd ns gs s t pl pg xs H) (e : Ex H H') : WStF K C m dx p l fs wd ns gs s t pl pg xs H' :=
  ⟨ex_at e w.hm, w.hL.mono e, ex_sqL e w.hS, ex_at e w.hA, ex_at e w.hG, w.hR.mono e⟩
theorem WStF.exP (w : WStF K C m dx p l fs wd ns gs s t pl pg xs H) (e : ExP m H H') (h : H' m = some (.ins C dx fs2)) : WStF K C m dx p l fs2 wd ns gs s t pl pg xs H' :=
  ⟨h, w.hL.exP w.hm e, exP_sqL w.hm e w.hS, e pl _ (fun z => by have := w.hA; rw [z, w.hm] at this; cases this) w.hA, e pg _ (fun z => by have := w.hG; rw [z, w.hm] at this; cases this) w.hG, w.hR.exP w.hm e⟩
theorem WStF.app {x : Addr × R4} (w : WStF K C m dx p l fs wd ns gs s t pl pg xs H) (hne : pg ≠ pl) (hx : SqT K H x.1 x.2.vs) (hS2 : SqL K (upd H pl (.lst ((xs.map fun x => V.ref x.1) ++ [.ref x.1]))) l (ns.map V.int)) : WStF K C m dx p l fs wd ns gs s t pl pg (xs ++ [x]) (upd H pl (.lst ((xs.map fun x => V.ref x.1) ++ [.ref x.1]))) := by
  have hmp : m ≠ pl := fun z => by have := w.hA; rw [← z, w.hm] at this; cases this
  obtain ⟨g, n, h1, h2, h3⟩ := w.hL
  refine ⟨by rw [upd_ne hmp]; exact w.hm, ⟨g, n, sqT_lst w.hA h1, sqT_lst w.hA h2, sqT_lst w.hA h3⟩, hS2, by rw [upd_same, List.map_append]; rfl, by rw [upd_ne hne]; exact w.hG, fun y hy => ?_⟩
  rcases List.mem_append.mp hy with hy | hy
  · exact sqT_lst w.hA (w.hR y hy)
  · rw [List.mem_singleton] at hy
    rw [hy]
    exact sqT_lst w.hA hx
end
/-- moment and cost of a row -/
abbrev MC : Type := Int × Int
def mcs (xs : List (Addr × R4)) : List MC := xs.map fun x => (x.2.1, x.2.2.2.1)
def mcG (gs : List Str) (xs : List (Addr × R4)) : List MC := mcs (seenG gs xs)
theorem mcG_snoc {gs : List Str} {xs : List (Addr × R4)} {p : Addr} {r : R4} (h : seesG gs r.2.1 = true) : mcG gs (xs ++ [(p, r)]) = mcG gs xs ++ [(r.1, r.2.2.1)] := by
  unfold mcG mcs seenG
  rw [List.filter_append, List.map_append, List.filter_cons_of_pos (p := fun x : Addr × R4 => seesG gs x.2.2.1) (a := (p, r)) h]
  rfl
theorem mcG_skip {gs : List Str} {xs : List (Addr × R4)} {p : Addr} {r : R4} (h : seesG gs r.2.1 = false) : mcG gs (xs ++ [(p, r)]) = mcG gs xs := by
  unfold mcG mcs seenG
  rw [List.filter_append, List.filter_cons_of_neg (p := fun x : Addr × R4 => seesG gs x.2.2.1) (a := (p, r)) (by show ¬ seesG gs r.2.1 = true; rw [h]; decide)]
  simp
/-! spans -/
def atS (t k : Int) (rs : List MC) : Int := ((rs.filter fun r => decide (r.1 / t = k)).map (·.2)).sum
def okS (s t : Int) (rs : List MC) : Bool := rs.all fun r => decide (atS t (r.1 / t) rs ≤ s)
theorem in_span {t m x : Int} (ht : 1 ≤ t) : (m / t * t ≤ x ∧ x < m / t * t + t) ↔ x / t = m / t := by
  have h1 := Int.emod_add_mul_ediv x t
  have h2 := Int.emod_nonneg x (show t ≠ 0 by omega)
  have h3 := Int.emod_lt_of_pos x (show 0 < t by omega)
  constructor
  · intro ⟨a, b⟩
    have e : x = (x - m / t * t) + (m / t) * t := by omega
    rw [e, Int.add_mul_ediv_right _ _ (by omega), Int.ediv_eq_zero_of_lt (by omega) (by omega), Int.zero_add]
  · intro e
    rw [← e, Int.mul_comm]
    omega
theorem atS_snoc (t k : Int) (rs : List MC) (m c : Int) : atS t k (rs ++ [(m, c)]) = atS t k rs + if m / t = k then c else 0 := by
  unfold atS
  rw [List.filter_append, List.map_append, List.sum_append]
  by_cases h : m / t = k
  · rw [List.filter_cons_of_pos (by rw [decide_eq_true h]), if_pos h]
    simp
  · rw [List.filter_cons_of_neg (by rw [decide_eq_false h]; decide), if_neg h]
    simp
theorem atS_new {t k : Int} {rs : List MC} (h : ∀ r ∈ rs, r.1 / t < k) : atS t k rs = 0 := by
  unfold atS
  have e : (rs.filter fun r => decide (r.1 / t = k)) = [] := by
    rw [List.filter_eq_nil_iff]
    intro r hr
    have := h r hr
    rw [decide_eq_true_eq]
    omega
  rw [e]
  rfl
theorem okS_snoc {s t : Int} {rs : List MC} (h : okS s t rs = true) (m c : Int) : okS s t (rs ++ [(m, c)]) = decide (atS t (m / t) rs + c ≤ s) := by
  unfold okS at h ⊢
  rw [List.all_eq_true] at h
  rw [Bool.eq_iff_iff, List.all_eq_true, decide_eq_true_eq]
  constructor
  · intro h1
    have := of_decide_eq_true (h1 (m, c) (List.mem_append_right _ (.head _)))
    rw [atS_snoc, if_pos rfl] at this
    exact this
  · intro h1 r hr
    rw [decide_eq_true_eq, atS_snoc]
    rcases List.mem_append.mp hr with hr | hr
    · have h2 := of_decide_eq_true (h r hr)
      by_cases e : m / t = r.1 / t
      · rw [if_pos e, ← e]; exact h1
      · rw [if_neg e]; omega
    · rw [List.mem_singleton] at hr
      rw [hr, if_pos rfl]
      exact h1
/-- what the meter keeps -/
structure KeepS (t mo sp us : Int) (rs : List MC) : Prop where
  us : us = atS t sp rs
  all : ∀ r ∈ rs, r.1 / t ≤ sp
  le : sp ≤ mo / t
def usedS (t sp us m : Int) : Int := if m / t = sp then us else 0
theorem KeepS.used {t mo sp us m : Int} {rs : List MC} (k : KeepS t mo sp us rs) (ht : 1 ≤ t) (h : mo ≤ m) : usedS t sp us m = atS t (m / t) rs := by
  have h1 : mo / t ≤ m / t := Int.ediv_le_ediv (by omega) h
  have h2 := k.le
  unfold usedS
  by_cases e : m / t = sp
  · rw [if_pos e, e]; exact k.us
  · rw [if_neg e, atS_new]
    intro r hr
    have := k.all r hr
    omega
theorem KeepS.later {t mo m sp us : Int} {rs : List MC} (k : KeepS t mo sp us rs) (ht : 1 ≤ t) (h : mo ≤ m) : KeepS t m sp us rs :=
  ⟨k.us, k.all, Int.le_trans k.le (Int.ediv_le_ediv (by omega) h)⟩
theorem KeepS.snoc {t mo m c sp us : Int} {rs : List MC} (k : KeepS t mo sp us rs) (ht : 1 ≤ t) (h : mo ≤ m) : KeepS t m (m / t) (usedS t sp us m + c) (rs ++ [(m, c)]) := by
  have h1 : mo / t ≤ m / t := Int.ediv_le_ediv (by omega) h
  have h2 := k.le
  refine ⟨by rw [k.used ht h, atS_snoc, if_pos rfl], fun r hr => ?_, Int.le_refl _⟩
  rcases List.mem_append.mp hr with hr | hr
  · have := k.all r hr; omega
  · rw [List.mem_singleton] at hr
    rw [hr]
    exact Int.le_refl _
def earlS (s t u c m : Int) : Option Int := if u + c ≤ s then some m else if c > s then none else some ((m / t + 1) * t)
theorem next_span {t m : Int} (ht : 1 ≤ t) : (m / t + 1) * t / t = m / t + 1 ∧ m < (m / t + 1) * t := by
  have h1 := Int.emod_add_mul_ediv m t
  have h3 := Int.emod_lt_of_pos m (show 0 < t by omega)
  refine ⟨Int.mul_ediv_cancel _ (by omega), ?_⟩
  rw [Int.add_mul, Int.one_mul, Int.mul_comm (m / t) t]
  omega
section
variable {s t mo m c sp us : Int} {rs : List MC} {ys : List Int}
theorem earlS_pick (k : KeepS t mo sp us rs) (ht : 1 ≤ t) (hm : mo ≤ m) (h : okS s t rs = true) (hp : ys.Perm ((m :: rs.map fun _ => (m / t + 1) * t).filter fun y => decide (y ≥ m))) (hs : ys.Pairwise (· ≤ ·)) {i : Nat} {y : Int} (hi : ys[i]? = some y)
    (hb : ∀ z ∈ ys.take i, okS s t (rs ++ [(z, c)]) = false) (ho : okS s t (rs ++ [(y, c)]) = true) : some y = earlS s t (usedS t sp us m) c m := by
  obtain ⟨n1, n2⟩ := next_span (m := m) ht
  have hy := List.mem_filter.mp (hp.mem_iff.mp (List.mem_of_getElem? hi))
  unfold earlS
  rw [k.used ht hm]
  rcases List.mem_cons.mp hy.1 with e | hy2
  · rw [e] at ho ⊢
    rw [okS_snoc h, decide_eq_true_eq] at ho
    rw [if_pos ho]
  · obtain ⟨r, hr, e⟩ := List.mem_map.mp hy2
    have hn : atS t ((m / t + 1) * t / t) rs = 0 := by
      rw [n1]
      refine atS_new fun r hr => ?_
      have h1 := k.all r hr
      have h2 := k.le
      have h3 : mo / t ≤ m / t := Int.ediv_le_ediv (by omega) hm
      omega
    rw [← e, okS_snoc h, hn, decide_eq_true_eq] at ho
    have hmy : m ∈ ys := hp.mem_iff.mpr (List.mem_filter.mpr ⟨.head _, decide_eq_true (Int.le_refl _)⟩)
    obtain ⟨j, hj, ej⟩ := List.mem_iff_getElem.mp hmy
    have hil := (List.getElem?_eq_some_iff.mp hi).1
    have hie := (List.getElem?_eq_some_iff.mp hi).2
    have hji : j < i := by
      refine Nat.lt_of_not_le fun hle => ?_
      by_cases e2 : i = j
      · subst e2
        omega
      · have := List.pairwise_iff_getElem.mp hs i j hil hj (by omega)
        omega
    have hmt : m ∈ ys.take i := by
      rw [← ej]
      exact List.mem_iff_getElem.mpr ⟨j, by rw [List.length_take]; omega, by rw [List.getElem_take]⟩
    have hf := hb m hmt
    rw [okS_snoc h, decide_eq_false_iff_not] at hf
    rw [if_neg hf, if_neg (by omega), e]
theorem earlS_none (k : KeepS t mo sp us rs) (ht : 1 ≤ t) (hm : mo ≤ m) (h : okS s t rs = true) (hp : ys.Perm ((m :: rs.map fun _ => (m / t + 1) * t).filter fun y => decide (y ≥ m))) (hb : ∀ z ∈ ys, okS s t (rs ++ [(z, c)]) = false) : none = earlS s t (usedS t sp us m) c m := by
  obtain ⟨n1, n2⟩ := next_span (m := m) ht
  unfold earlS
  rw [k.used ht hm]
  have hmy : m ∈ ys := hp.mem_iff.mpr (List.mem_filter.mpr ⟨.head _, decide_eq_true (Int.le_refl _)⟩)
  have hf := hb m hmy
  rw [okS_snoc h, decide_eq_false_iff_not] at hf
  rw [if_neg hf]
  by_cases hc : c > s
  · rw [if_pos hc]
  · exfalso
    cases rs with
    | nil =>
      apply hf
      have : atS t (m / t) [] = 0 := rfl
      omega
    | cons r rr =>
      have hyy : (m / t + 1) * t ∈ ys := hp.mem_iff.mpr (List.mem_filter.mpr ⟨.tail _ (.head _), decide_eq_true (by show m ≤ _; omega)⟩)
      have hg := hb _ hyy
      have hn : atS t ((m / t + 1) * t / t) (r :: rr) = 0 := by
        rw [n1]
        refine atS_new fun r hr => ?_
        have h1 := k.all r hr
        have h2 := k.le
        have h3 : mo / t ≤ m / t := Int.ediv_le_ediv (by omega) hm
        omega
      rw [okS_snoc h, hn, decide_eq_false_iff_not] at hg
      omega
end
/-! the meter's fields -/
def flS (lim : Addr) (s t sp us : Int) : List (Str × V) := [("limit", .ref lim), ("_most", .int s), ("_length", .int t), ("_span", .int sp), ("_used", .int us)]
theorem flS_1 (lim : Addr) (s t sp us : Int) : (flS lim s t sp us).lookup ("limit" : Str) = some (.ref lim) := rfl
theorem flS_2 (lim : Addr) (s t sp us : Int) : (flS lim s t sp us).lookup ("_most" : Str) = some (.int s) := rfl
theorem flS_3 (lim : Addr) (s t sp us : Int) : (flS lim s t sp us).lookup ("_length" : Str) = some (.int t) := rfl
theorem flS_4 (lim : Addr) (s t sp us : Int) : (flS lim s t sp us).lookup ("_span" : Str) = some (.int sp) := rfl
theorem flS_5 (lim : Addr) (s t sp us : Int) : (flS lim s t sp us).lookup ("_used" : Str) = some (.int us) := rfl
theorem flS_used (lim : Addr) (s t sp us x : Int) : putF "_used" (.int x) (flS lim s t sp us) = flS lim s t sp x := by
  unfold flS
  rw [putF_miss (by decide +kernel), putF_miss (by decide +kernel), putF_miss (by decide +kernel), putF_miss (by decide +kernel), putF_hit]
theorem flS_span (lim : Addr) (s t sp us x : Int) : putF "_span" (.int x) (flS lim s t sp us) = flS lim s t x us := by
  unfold flS
  rw [putF_miss (by decide +kernel), putF_miss (by decide +kernel), putF_miss (by decide +kernel), putF_hit]
theorem flS_new (lim : Addr) (s t : Int) : putF "_used" (.int 0) (putF "_span" (.int 0) (putF "_length" (.int t) (putF "_most" (.int s) (putF "limit" (.ref lim) [])))) = flS lim s t 0 0 := by
  have a1 : putF "limit" (.ref lim) [] = [(("limit" : Str), V.ref lim)] := rfl
  have a2 : putF "_most" (.int s) [(("limit" : Str), V.ref lim)] = [(("limit" : Str), V.ref lim), ("_most", .int s)] := by
    rw [putF_miss (by decide +kernel)]; rfl
  have a3 : putF "_length" (.int t) [(("limit" : Str), V.ref lim), ("_most", .int s)] = [(("limit" : Str), V.ref lim), ("_most", .int s), ("_length", .int t)] := by
    rw [putF_miss (by decide +kernel), putF_miss (by decide +kernel)]; rfl
  have a4 : putF "_span" (.int 0) [(("limit" : Str), V.ref lim), ("_most", .int s), ("_length", .int t)] = [(("limit" : Str), V.ref lim), ("_most", .int s), ("_length", .int t), ("_span", .int 0)] := by
    rw [putF_miss (by decide +kernel), putF_miss (by decide +kernel), putF_miss (by decide +kernel)]; rfl
  rw [a1, a2, a3, a4, putF_miss (by decide +kernel), putF_miss (by decide +kernel), putF_miss (by decide +kernel), putF_miss (by decide +kernel)]
  rfl
theorem sum_span {t m : Int} (ht : 1 ≤ t) (ys : List (Addr × R4)) : ((ys.filter fun x => decide (m / t * t ≤ x.2.1) && decide (x.2.1 < m / t * t + t)).map fun x => x.2.2.2.1).sum = atS t (m / t) (mcs ys) := by
  unfold atS mcs
  rw [List.filter_map, List.map_map]
  congr 1
  have e : (fun x : Addr × R4 => decide (m / t * t ≤ x.2.1) && decide (x.2.1 < m / t * t + t)) = ((fun r : MC => decide (r.1 / t = m / t)) ∘ fun x : Addr × R4 => (x.2.1, x.2.2.2.1)) := by
    funext x
    rw [Function.comp_apply, Bool.eq_iff_iff, Bool.and_eq_true, decide_eq_true_eq, decide_eq_true_eq, decide_eq_true_eq]
    exact in_span ht
  rw [e]
  rfl
theorem mcs_get {ys : List (Addr × R4)} {i : Nat} {px : Addr} {r : R4} (h : ys[i]? = some (px, r)) : (mcs ys)[i]? = some (r.1, r.2.2.1) := by
  unfold mcs
  rw [List.getElem?_map, h]
  rfl
theorem dueS_of {gs : List Str} {s t mo mo2 c sp us : Int} {xs : List (Addr × R4)} {q : Addr} {g z : Str} (hgo : okS s t (mcG gs xs) = true) (hk : KeepS t mo sp us (mcG gs xs)) (ht : 1 ≤ t) (hle : mo ≤ mo2) :
    (!seesG gs g || decide (usedS t sp us mo2 + c ≤ s)) = okS s t (mcG gs (xs ++ [((q, (mo2, g, c, z)) : Addr × R4)])) ∧ (seesG gs g = false → okS s t (mcG gs (xs ++ [((q, (mo2, g, c, z)) : Addr × R4)])) = true) ∧
    KeepS t mo2 (if seesG gs g then mo2 / t else sp) (if seesG gs g then usedS t sp us mo2 + c else us) (mcG gs (xs ++ [((q, (mo2, g, c, z)) : Addr × R4)])) := by
  cases hs : seesG gs g with
  | true =>
    rw [mcG_snoc (r := (mo2, g, c, z)) hs, if_pos rfl, if_pos rfl, okS_snoc hgo, hk.used ht hle]
    refine ⟨rfl, (fun h => nomatch h), ?_⟩
    have := hk.snoc (c := c) ht hle
    rw [hk.used ht hle] at this
    exact this
  | false =>
    rw [mcG_skip (r := (mo2, g, c, z)) hs, if_neg (by decide), if_neg (by decide)]
    exact ⟨by rw [hgo]; rfl, fun _ => hgo, hk.later ht hle⟩
theorem flS_if (b : Bool) (lim : Addr) (s t sp us x y : Int) : (if b = true then flS lim s t x y else flS lim s t sp us) = flS lim s t (if b = true then x else sp) (if b = true then y else us) := by
  cases b <;> rfl
theorem dp_limF {K : PySem.W.Frag} {H : Hp} {p : Addr} {w : Str} {gs : List Str} {s t : Int} (h : LimF K H p w gs s t) : Dp K H (.ref p) (.tuple [.str "flow1", .str w, .tuple (gs.map PyData.str), .tuple [.int s, .int t]]) := by
  obtain ⟨g, n, h1, h2, h3⟩ := h
  exact .tup h1 (.cons (.str _) (.cons (.str _) (.cons (dp_strsT h2) (.cons (.tup h3 (.cons (.int s) (.cons (.int t) .nil))) .nil))))
theorem limF_shaped {w : Str} {gs : List Str} {s t : Int} (hw : PyData.strOk w = true) (h : ∀ g ∈ gs, PyData.strOk g = true) : SeqAt.shaped (.tuple [.str "flow1", .str w, .tuple (gs.map PyData.str), .tuple [.int s, .int t]]) = true := by
  obtain ⟨h1, h2⟩ := strs_shaped h
  show ((PyData.strOk "flow1" && (PyData.strOk w && (PyData.canLayAll0 (gs.map PyData.str) && ((true && (true && true)) && true)))) && decide (max 0 (max 0 (max (PyData.depthAll (gs.map PyData.str) + 1) (max (max 0 (max 0 0) + 1) 0))) + 1 ≤ 64)) = true
  rw [h1, h2, hw, show PyData.strOk "flow1" = true by decide +kernel]
  rfl
/-! ### windows: plain law -/
/-- the sum of the window of t moments whose first is a -/
def winW (t a : Int) (rs : List MC) : Int := ((rs.filter fun r => decide (a ≤ r.1) && decide (r.1 < a + t)).map (·.2)).sum
def okW (s t : Int) (rs : List MC) : Bool := rs.all fun r => decide (winW t (r.1 - t + 1) rs ≤ s)
/-- what still counts at m -/
def sinceW (t m : Int) (rs : List MC) : Int := ((rs.filter fun r => decide (r.1 > m - t)).map (·.2)).sum
theorem winW_snoc (t a : Int) (rs : List MC) (m c : Int) : winW t a (rs ++ [(m, c)]) = winW t a rs + if a ≤ m ∧ m < a + t then c else 0 := by
  unfold winW
  rw [List.filter_append, List.map_append, List.sum_append]
  by_cases h : a ≤ m ∧ m < a + t
  · rw [List.filter_cons_of_pos (by rw [decide_eq_true h.1, decide_eq_true h.2]; rfl), if_pos h]
    simp
  · rw [List.filter_cons_of_neg (by rw [Bool.and_eq_true, decide_eq_true_eq, decide_eq_true_eq]; exact h), if_neg h]
    simp
theorem win_since {t m : Int} {rs : List MC} (h : ∀ r ∈ rs, r.1 ≤ m) : winW t (m - t + 1) rs = sinceW t m rs := by
  unfold winW sinceW
  congr 2
  apply List.filter_congr
  intro r hr
  have := h r hr
  rw [Bool.eq_iff_iff, Bool.and_eq_true, decide_eq_true_eq, decide_eq_true_eq, decide_eq_true_eq]
  omega
/-- one row more, not before the others -/
theorem okW_snoc {s t : Int} {rs : List MC} (h : okW s t rs = true) {m c : Int} (hm : ∀ r ∈ rs, r.1 ≤ m) (ht : 1 ≤ t) : okW s t (rs ++ [(m, c)]) = decide (sinceW t m rs + c ≤ s) := by
  unfold okW at h ⊢
  rw [List.all_eq_true] at h
  rw [Bool.eq_iff_iff, List.all_eq_true, decide_eq_true_eq]
  constructor
  · intro h1
    have := of_decide_eq_true (h1 (m, c) (List.mem_append_right _ (.head _)))
    rw [winW_snoc, win_since hm, if_pos (show m - t + 1 ≤ m ∧ m < m - t + 1 + t by omega)] at this
    exact this
  · intro h1 r hr
    rw [decide_eq_true_eq, winW_snoc]
    rcases List.mem_append.mp hr with hr | hr
    · have h2 := of_decide_eq_true (h r hr)
      have h3 := hm r hr
      by_cases e : r.1 = m
      · rw [e, win_since hm, if_pos (by omega)]; exact h1
      · rw [if_neg (by omega)]; omega
    · rw [List.mem_singleton] at hr
      rw [hr, win_since hm, if_pos (show m - t + 1 ≤ m ∧ m < m - t + 1 + t by omega)]
      exact h1
theorem sinceW_snoc (t a : Int) (rs : List MC) (m c : Int) : sinceW t a (rs ++ [(m, c)]) = sinceW t a rs + if m > a - t then c else 0 := by
  unfold sinceW
  rw [List.filter_append, List.map_append, List.sum_append]
  by_cases h : m > a - t
  · rw [List.filter_cons_of_pos (by rw [decide_eq_true h]), if_pos h]
    simp
  · rw [List.filter_cons_of_neg (by rw [decide_eq_false h]; decide), if_neg h]
    simp
def live (t m : Int) (ps : List MC) : List MC := ps.filter fun r => decide (r.1 > m - t)
theorem live_since {t m m2 : Int} (h : m ≤ m2) (ps : List MC) : sinceW t m2 (live t m ps) = sinceW t m2 ps := by
  unfold sinceW live
  rw [List.filter_filter]
  congr 2
  apply List.filter_congr
  intro r _
  rw [Bool.eq_iff_iff, Bool.and_eq_true, decide_eq_true_eq, decide_eq_true_eq]
  omega
theorem since_live (t m : Int) (ps : List MC) : sinceW t m ps = ((live t m ps).map (·.2)).sum := rfl
/-- what the meter keeps behind let -/
def letW (t m c : Int) (ps : List MC) : List MC := match (live t m ps).getLast? with
  | some r => if r.1 = m then (live t m ps).dropLast ++ [(m, c + r.2)] else live t m ps ++ [(m, c)]
  | none => live t m ps ++ [(m, c)]
structure KeepW (t mo : Int) (ps rs : List MC) : Prop where
  eq : ∀ m, mo ≤ m → sinceW t m ps = sinceW t m rs
  le : ∀ r ∈ ps, r.1 ≤ mo
  lers : ∀ r ∈ rs, r.1 ≤ mo
  inc : ps.Pairwise fun a b => a.1 < b.1
  sub : ∀ r ∈ ps, ∃ q ∈ rs, q.1 = r.1
theorem KeepW.later {t mo m : Int} {ps rs : List MC} (k : KeepW t mo ps rs) (h : mo ≤ m) : KeepW t m ps rs :=
  ⟨fun x hx => k.eq x (Int.le_trans h hx), fun r hr => Int.le_trans (k.le r hr) h, fun r hr => Int.le_trans (k.lers r hr) h, k.inc, k.sub⟩
theorem letW_since {t m c : Int} (m2 : Int) (ps : List MC) : sinceW t m2 (letW t m c ps) = sinceW t m2 (live t m ps) + if m > m2 - t then c else 0 := by
  unfold letW
  cases hl : (live t m ps).getLast? with
  | none => exact sinceW_snoc t m2 _ m c
  | some r =>
    show sinceW t m2 (if r.1 = m then (live t m ps).dropLast ++ [(m, c + r.2)] else live t m ps ++ [(m, c)]) = _
    by_cases e : r.1 = m
    · rw [if_pos e]
      have hne : live t m ps ≠ [] := fun h => by rw [h] at hl; cases hl
      have hr : (live t m ps).getLast hne = r := by
        rw [List.getLast?_eq_some_getLast hne] at hl
        exact Option.some.inj hl
      have hd : live t m ps = (live t m ps).dropLast ++ [r] := by
        rw [← hr]; exact (List.dropLast_concat_getLast hne).symm
      generalize (live t m ps).dropLast = ini at hd ⊢
      rw [hd, show ([r] : List MC) = [(r.1, r.2)] from rfl, sinceW_snoc, sinceW_snoc, e]
      split <;> omega
    · rw [if_neg e]
      exact sinceW_snoc t m2 _ m c
theorem letW_mem {t m c : Int} {ps : List MC} {r : MC} (h : r ∈ letW t m c ps) : r.1 = m ∨ r ∈ ps := by
  have key : ∀ x ∈ live t m ps, x ∈ ps := fun x hx => (List.mem_filter.mp hx).1
  unfold letW at h
  split at h
  · split at h
    · rcases List.mem_append.mp h with h | h
      · exact .inr (key r (List.dropLast_subset _ h))
      · rw [List.mem_singleton] at h; rw [h]; exact .inl rfl
    · rcases List.mem_append.mp h with h | h
      · exact .inr (key r h)
      · rw [List.mem_singleton] at h; rw [h]; exact .inl rfl
  · rcases List.mem_append.mp h with h | h
    · exact .inr (key r h)
    · rw [List.mem_singleton] at h; rw [h]; exact .inl rfl
theorem live_inc {t m : Int} {ps : List MC} (h : ps.Pairwise fun a b => a.1 < b.1) : (live t m ps).Pairwise fun a b => a.1 < b.1 := h.sublist List.filter_sublist
theorem inc_snoc {l : List MC} {x : MC} (h : l.Pairwise fun a b => a.1 < b.1) (hx : ∀ r ∈ l, r.1 < x.1) : (l ++ [x]).Pairwise fun a b => a.1 < b.1 := by
  rw [List.pairwise_append]
  refine ⟨h, List.pairwise_singleton _ _, fun a ha b hb => ?_⟩
  rw [List.mem_singleton] at hb
  rw [hb]
  exact hx a ha
theorem letW_inc {t m c : Int} {ps : List MC} (h : ps.Pairwise fun a b => a.1 < b.1) (hm : ∀ r ∈ ps, r.1 ≤ m) : (letW t m c ps).Pairwise fun a b => a.1 < b.1 := by
  have hi := live_inc (t := t) (m := m) h
  have hl : ∀ r ∈ live t m ps, r.1 ≤ m := fun r hr => hm r (List.mem_filter.mp hr).1
  unfold letW
  generalize live t m ps = l at hi hl
  cases hg : l.getLast? with
  | none =>
    have : l = [] := List.getLast?_eq_none_iff.mp hg
    rw [this]
    exact List.pairwise_singleton _ _
  | some r =>
    have hne : l ≠ [] := fun h => by rw [h] at hg; cases hg
    have hr : l.getLast hne = r := by
      rw [List.getLast?_eq_some_getLast hne] at hg
      exact Option.some.inj hg
    have hd : l = l.dropLast ++ [r] := by rw [← hr]; exact (List.dropLast_concat_getLast hne).symm
    generalize l.dropLast = ini at hd
    rw [hd] at hi hl
    rw [List.pairwise_append] at hi
    show List.Pairwise _ (if r.1 = m then ini ++ [(m, c + r.2)] else l ++ [(m, c)])
    by_cases e : r.1 = m
    · rw [if_pos e]
      refine inc_snoc hi.1 fun a ha => ?_
      have := hi.2.2 a ha r (.head _)
      show a.1 < m
      omega
    · rw [if_neg e, hd]
      have hrl := hl r (List.mem_append_right _ (.head _))
      refine inc_snoc (List.pairwise_append.mpr hi) fun a ha => ?_
      show a.1 < m
      rcases List.mem_append.mp ha with ha | ha
      · have := hi.2.2 a ha r (.head _); omega
      · rw [List.mem_singleton] at ha; rw [ha]; omega
theorem KeepW.snoc {t mo m c : Int} {ps rs : List MC} (k : KeepW t mo ps rs) (h : mo ≤ m) : KeepW t m (letW t m c ps) (rs ++ [(m, c)]) := by
  refine ⟨fun x hx => ?_, fun r hr => ?_, fun r hr => ?_, letW_inc k.inc fun r hr => Int.le_trans (k.le r hr) h, fun r hr => ?_⟩
  · rw [letW_since, live_since hx, sinceW_snoc, k.eq x (by omega)]
  · rcases letW_mem hr with e | hr
    · omega
    · exact Int.le_trans (k.le r hr) h
  · rcases List.mem_append.mp hr with hr | hr
    · exact Int.le_trans (k.lers r hr) h
    · rw [List.mem_singleton] at hr; rw [hr]; exact Int.le_refl _
  · rcases letW_mem hr with e | hr
    · exact ⟨(m, c), List.mem_append_right _ (.head _), e.symm⟩
    · obtain ⟨q, hq, e⟩ := k.sub r hr
      exact ⟨q, List.mem_append_left _ hq, e⟩
def sumC (l : List MC) : Int := (l.map (·.2)).sum
/-- the moment of the last row that must be gone before there is room -/
def lastGone (s c : Int) : List MC → Int → Int
  | [], x => x
  | r :: rest, x => if sumC (r :: rest) + c ≤ s then x else lastGone s c rest r.1
def earlW (s t c m : Int) (rows : List MC) : Option Int := if sumC rows + c ≤ s then some m else if c > s then none else some (lastGone s c rows 0 + t)
theorem sumC_nn {l : List MC} (h : ∀ r ∈ l, 0 ≤ r.2) : 0 ≤ sumC l := by
  unfold sumC
  induction l with
  | nil => exact Int.le_refl _
  | cons r rr ih =>
    have h1 := h r (.head _)
    have h2 := ih fun y hy => h y (.tail _ hy)
    rw [List.map_cons, List.sum_cons]
    omega
theorem gone_spec {s c : Int} (hc : c ≤ s) : ∀ (rows : List MC) (x : Int), ¬ sumC rows + c ≤ s → ∃ pre r post, rows = pre ++ r :: post ∧ lastGone s c rows x = r.1 ∧ sumC post + c ≤ s ∧ ¬ sumC (r :: post) + c ≤ s
  | [], x, h => absurd (by show 0 + c ≤ s; omega) h
  | r :: rest, x, h => by
    have e : lastGone s c (r :: rest) x = lastGone s c rest r.1 := by
      show (if sumC (r :: rest) + c ≤ s then x else lastGone s c rest r.1) = _
      rw [if_neg h]
    by_cases hr : sumC rest + c ≤ s
    · refine ⟨[], r, rest, rfl, ?_, hr, h⟩
      rw [e]
      cases rest with
      | nil => rfl
      | cons q rr =>
        show (if sumC (q :: rr) + c ≤ s then r.1 else _) = _
        rw [if_pos hr]
    · obtain ⟨pre, q, post, e1, e2, e3, e4⟩ := gone_spec hc rest r.1 hr
      exact ⟨r :: pre, q, post, by rw [e1]; rfl, by rw [e, e2], e3, e4⟩
theorem since_app (t z : Int) (a b : List MC) : sinceW t z (a ++ b) = sinceW t z a + sinceW t z b := by
  unfold sinceW
  rw [List.filter_append, List.map_append, List.sum_append]
theorem since_all {t z : Int} {l : List MC} (h : ∀ r ∈ l, r.1 > z - t) : sinceW t z l = sumC l := by
  unfold sinceW sumC
  rw [List.filter_eq_self.mpr fun r hr => decide_eq_true (h r hr)]
theorem since_none {t z : Int} {l : List MC} (h : ∀ r ∈ l, ¬ r.1 > z - t) : sinceW t z l = 0 := by
  unfold sinceW
  rw [List.filter_eq_nil_iff.mpr fun r hr => by rw [decide_eq_true_eq]; exact h r hr]
  rfl
theorem since_nn {t z : Int} {l : List MC} (h : ∀ r ∈ l, 0 ≤ r.2) : 0 ≤ sinceW t z l := sumC_nn (l := l.filter fun r => decide (r.1 > z - t)) fun r hr => h r (List.mem_filter.mp hr).1
section
variable {s t m mo c : Int} {ps rs : List MC} {ys : List Int}
theorem vW_spec (k : KeepW t mo ps rs) (ht : 1 ≤ t) (hm : mo ≤ m) (hcp : ∀ r ∈ ps, 0 ≤ r.2) (h : okW s t rs = true) (hp : ys.Perm ((m :: rs.map fun r => r.1 + t).filter fun y => decide (y ≥ m))) (hcs : c ≤ s) (hn : ¬ sumC (live t m ps) + c ≤ s) :
    lastGone s c (live t m ps) 0 + t ∈ ys ∧ okW s t (rs ++ [(lastGone s c (live t m ps) 0 + t, c)]) = true ∧ ∀ z ∈ ys, z < lastGone s c (live t m ps) 0 + t → okW s t (rs ++ [(z, c)]) = false := by
  obtain ⟨pre, r, post, e1, e2, e3, e4⟩ := gone_spec hcs (live t m ps) 0 hn
  have hinc := live_inc (t := t) (m := m) k.inc
  have hr : r ∈ live t m ps := by rw [e1]; exact List.mem_append_right _ (.head _)
  have hrl := of_decide_eq_true (List.mem_filter.mp hr).2
  have hrp := (List.mem_filter.mp hr).1
  have lrs : ∀ z, m ≤ z → ∀ q ∈ rs, q.1 ≤ z := fun z hz q hq => by have := k.lers q hq; omega
  have toRows : ∀ z, m ≤ z → sinceW t z rs = sinceW t z pre + sinceW t z (r :: post) := fun z hz => by
    rw [← k.eq z (by omega), ← live_since hz, e1, since_app]
  rw [e1, List.pairwise_append] at hinc
  have hpost := (List.pairwise_cons.mp hinc.2.1).1
  rw [e2]
  refine ⟨?_, ?_, fun z hz hlt => ?_⟩
  · obtain ⟨q, hq, eq⟩ := k.sub r hrp
    exact hp.mem_iff.mpr (List.mem_filter.mpr ⟨.tail _ (List.mem_map.mpr ⟨q, hq, by rw [eq]⟩), decide_eq_true (by show m ≤ r.1 + t; omega)⟩)
  · rw [okW_snoc h (lrs _ (by omega)) ht, decide_eq_true_eq, toRows _ (by omega)]
    have h1 : sinceW t (r.1 + t) pre = 0 := since_none fun q hq => by
      have := hinc.2.2 q hq r (.head _)
      omega
    have h2 : sinceW t (r.1 + t) (r :: post) = sumC post := by
      rw [show r :: post = [r] ++ post from rfl, since_app, since_none (l := [r]) (fun q hq => by rw [List.mem_singleton] at hq; rw [hq]; omega), since_all (l := post) (fun q hq => by have := hpost q hq; omega)]
      omega
    rw [h1, h2]
    omega
  · have hzm : z ≥ m := of_decide_eq_true (List.mem_filter.mp (hp.mem_iff.mp hz)).2
    rw [okW_snoc h (lrs _ hzm) ht, decide_eq_false_iff_not, toRows _ hzm]
    have h1 : 0 ≤ sinceW t z pre := since_nn fun q hq => hcp q (List.mem_filter.mp (by rw [show ps.filter (fun r => decide (r.1 > m - t)) = live t m ps from rfl, e1]; exact List.mem_append_left _ hq)).1
    have h2 : sinceW t z (r :: post) = sumC (r :: post) := since_all fun q hq => by
      rcases List.mem_cons.mp hq with e | hq
      · rw [e]; omega
      · have := hpost q hq; omega
    rw [h2]
    omega
theorem earlW_pick (k : KeepW t mo ps rs) (ht : 1 ≤ t) (hm : mo ≤ m) (hcp : ∀ r ∈ ps, 0 ≤ r.2) (h : okW s t rs = true) (hp : ys.Perm ((m :: rs.map fun r => r.1 + t).filter fun y => decide (y ≥ m))) (hs : ys.Pairwise (· ≤ ·)) {i : Nat} {y : Int} (hi : ys[i]? = some y)
    (hb : ∀ z ∈ ys.take i, okW s t (rs ++ [(z, c)]) = false) (ho : okW s t (rs ++ [(y, c)]) = true) : some y = earlW s t c m (live t m ps) := by
  have hyy := List.mem_of_getElem? hi
  have hym : y ≥ m := of_decide_eq_true (List.mem_filter.mp (hp.mem_iff.mp hyy)).2
  have hil := (List.getElem?_eq_some_iff.mp hi).1
  have hie := (List.getElem?_eq_some_iff.mp hi).2
  have before : ∀ z ∈ ys, z < y → z ∈ ys.take i := fun z hz hzy => by
    obtain ⟨j, hj, ej⟩ := List.mem_iff_getElem.mp hz
    have hji : j < i := by
      refine Nat.lt_of_not_le fun hle => ?_
      by_cases e2 : i = j
      · subst e2
        omega
      · have := List.pairwise_iff_getElem.mp hs i j hil hj (by omega)
        omega
    rw [← ej]
    exact List.mem_iff_getElem.mpr ⟨j, by rw [List.length_take]; omega, by rw [List.getElem_take]⟩
  have lrs : ∀ z, m ≤ z → ∀ q ∈ rs, q.1 ≤ z := fun z hz q hq => by have := k.lers q hq; omega
  have ok_m : okW s t (rs ++ [(m, c)]) = decide (sumC (live t m ps) + c ≤ s) := by
    rw [okW_snoc h (lrs m (Int.le_refl _)) ht, ← k.eq m hm]
    rfl
  have hmm : m ∈ ys := hp.mem_iff.mpr (List.mem_filter.mpr ⟨.head _, decide_eq_true (Int.le_refl _)⟩)
  unfold earlW
  by_cases hr : sumC (live t m ps) + c ≤ s
  · rw [if_pos hr]
    by_cases hmy : m < y
    · have := hb m (before m hmm hmy)
      rw [ok_m, decide_eq_false_iff_not] at this
      exact absurd hr this
    · rw [show y = m by omega]
  · rw [if_neg hr]
    have hcs : c ≤ s := by
      rw [okW_snoc h (lrs y hym) ht, decide_eq_true_eq, ← k.eq y (by omega)] at ho
      have := since_nn (t := t) (z := y) hcp
      omega
    rw [if_neg (by omega)]
    obtain ⟨v1, v2, v3⟩ := vW_spec k ht hm hcp h hp hcs hr
    by_cases h1 : y < lastGone s c (live t m ps) 0 + t
    · rw [v3 y hyy h1] at ho; cases ho
    · by_cases h2 : lastGone s c (live t m ps) 0 + t < y
      · rw [hb _ (before _ v1 h2)] at v2; cases v2
      · rw [show y = lastGone s c (live t m ps) 0 + t by omega]
theorem earlW_none (k : KeepW t mo ps rs) (ht : 1 ≤ t) (hm : mo ≤ m) (hcp : ∀ r ∈ ps, 0 ≤ r.2) (h : okW s t rs = true) (hp : ys.Perm ((m :: rs.map fun r => r.1 + t).filter fun y => decide (y ≥ m)))
    (hb : ∀ z ∈ ys, okW s t (rs ++ [(z, c)]) = false) : none = earlW s t c m (live t m ps) := by
  have hmm : m ∈ ys := hp.mem_iff.mpr (List.mem_filter.mpr ⟨.head _, decide_eq_true (Int.le_refl _)⟩)
  have hr := hb m hmm
  rw [okW_snoc h (fun q hq => by have := k.lers q hq; omega) ht, decide_eq_false_iff_not, ← k.eq m hm] at hr
  change ¬ sumC (live t m ps) + c ≤ s at hr
  unfold earlW
  rw [if_neg hr]
  by_cases hcs : c > s
  · rw [if_pos hcs]
  · obtain ⟨v1, v2, _⟩ := vW_spec k ht hm hcp h hp (by omega) hr
    rw [hb _ v1] at v2
    cases v2
end
/-! steps -/
section
variable {X : Cx} {K : PySem.W.Frag}
theorem pe_bm0K {o : Expr} {to : TE} {name : Str} {apos cpos : Pos} {T id : String} {r : V → List V → Hp → VK → Prop} (h : X.K = K) (pa : PlainAttrs T) (slot : Slot T name id) (hty : typeOf (.builtin id) = pure (.type "method_descriptor")) (hm : MtR X id r) (ho : PE X o to)
    (hb : attributeBase o name X.env (eval o X.env) = eval o X.env := by rfl) (hl : (apos.endLine == cpos.line) = true := by rfl) : PE X (.Call (.Attribute o name apos) [] [] cpos) (tBM0 K T r to) := by subst h; exact pe_bm0 pa slot hty hm ho hb hl
def tTruK (K : PySem.W.Frag) (ta : TE) : TT := fun σ H Q => ta σ H fun x H2 => ∃ k, TruV K x H2 k ∧ Q k H2
theorem pt_truthK {e : Expr} {ta : TE} (h : X.K = K) (ha : PE X e ta) (he : ∀ whole, isTrue e X.env whole = (do let v ← whole; standAt e.pos; holding [v] (truthy v))) : PT X e (tTruK K ta) := by subst h; exact pt_truth ha he
theorem g_tru {ta : TE} {σ : L2.St} {H : Hp} {Q : Bool → Hp → Prop} (q : ta σ H fun x H2 => ∃ k, TruV K x H2 k ∧ Q k H2) : tTruK K ta σ H Q := q
theorem g_truL {H : Hp} {Q : Bool → Hp → Prop} {p : Addr} {xs : List V} (h : SqL K H p xs) (q : Q (!xs.isEmpty) H) : ∃ k, TruV K (.ref p) H k ∧ Q k H := ⟨_, .inl ⟨xs, h, rfl⟩, q⟩
theorem g_popL {H : Hp} {Q : VK} {l : Addr} {xs : List V} {y : V} (h : H l = some (.lst (xs ++ [y]))) (q : Q y (upd H l (.lst xs))) : rPop (.ref l) [] H Q :=
  ⟨l, xs ++ [y], y, rfl, rfl, h, by rw [List.length_append]; show (xs ++ [y])[xs.length + 1 - 1]? = _; rw [Nat.add_sub_cancel, List.getElem?_append_right (Nat.le_refl _), Nat.sub_self]; rfl, by rw [List.dropLast_concat]; exact q⟩
end
def flW (lim : Addr) (s t : Int) (pS : Addr) : List (Str × V) := [("limit", .ref lim), ("_most", .int s), ("_length", .int t), ("_sums", .ref pS)]
theorem flW_1 (lim : Addr) (s t : Int) (pS : Addr) : (flW lim s t pS).lookup ("limit" : Str) = some (.ref lim) := rfl
theorem flW_2 (lim : Addr) (s t : Int) (pS : Addr) : (flW lim s t pS).lookup ("_most" : Str) = some (.int s) := rfl
theorem flW_3 (lim : Addr) (s t : Int) (pS : Addr) : (flW lim s t pS).lookup ("_length" : Str) = some (.int t) := rfl
theorem flW_4 (lim : Addr) (s t : Int) (pS : Addr) : (flW lim s t pS).lookup ("_sums" : Str) = some (.ref pS) := rfl
theorem flW_set (lim : Addr) (s t : Int) (pS q : Addr) : putF "_sums" (.ref q) (flW lim s t pS) = flW lim s t q := by
  unfold flW
  rw [putF_miss (by decide +kernel), putF_miss (by decide +kernel), putF_miss (by decide +kernel), putF_hit]
theorem flW_new (lim : Addr) (s t : Int) (pS : Addr) : putF "_sums" (.ref pS) (putF "_length" (.int t) (putF "_most" (.int s) (putF "limit" (.ref lim) []))) = flW lim s t pS := by
  have a1 : putF "limit" (.ref lim) [] = [(("limit" : Str), V.ref lim)] := rfl
  have a2 : putF "_most" (.int s) [(("limit" : Str), V.ref lim)] = [(("limit" : Str), V.ref lim), ("_most", .int s)] := by
    rw [putF_miss (by decide +kernel)]; rfl
  have a3 : putF "_length" (.int t) [(("limit" : Str), V.ref lim), ("_most", .int s)] = [(("limit" : Str), V.ref lim), ("_most", .int s), ("_length", .int t)] := by
    rw [putF_miss (by decide +kernel), putF_miss (by decide +kernel)]; rfl
  rw [a1, a2, a3, putF_miss (by decide +kernel), putF_miss (by decide +kernel), putF_miss (by decide +kernel)]
  rfl
/-- the list of sums -/
def SumsAt (K : PySem.W.Frag) (H : Hp) (p : Addr) (qs : List (Addr × MC)) : Prop := H p = some (.lst (qs.map fun x => V.ref x.1)) ∧ ∀ x ∈ qs, SqT K H x.1 [.int x.2.1, .int x.2.2]
theorem SumsAt.mono {K : PySem.W.Frag} {H H' : Hp} {p : Addr} {qs : List (Addr × MC)} (h : SumsAt K H p qs) (e : Ex H H') : SumsAt K H' p qs := ⟨ex_at e h.1, fun x hx => ex_sqT e (h.2 x hx)⟩
theorem SumsAt.exP {K : PySem.W.Frag} {H H' : Hp} {p : Addr} {qs : List (Addr × MC)} {m C dx : Addr} {fs : List (Str × V)} (h : SumsAt K H p qs) (hm : H m = some (.ins C dx fs)) (e : ExP m H H') : SumsAt K H' p qs := ⟨e p _ (fun z => by have := h.1; rw [z, hm] at this; cases this) h.1, fun x hx => exP_sqT hm e (h.2 x hx)⟩
theorem SumsAt.mut {K : PySem.W.Frag} {H : Hp} {p q : Addr} {o : HO} {ys : List V} {qs : List (Addr × MC)} (h : SumsAt K H p qs) (hq : H q = some (.lst ys)) (hne : p ≠ q) : SumsAt K (upd H q o) p qs := ⟨by rw [upd_ne hne]; exact h.1, fun x hx => sqT_lst hq (h.2 x hx)⟩
/-! limits of two numbers, of any name -/
def LimN (K : PySem.W.Frag) (H : Hp) (p : Addr) (nm w : Str) (gs : List Str) (s t : Int) : Prop := ∃ g n, SqT K H p [.str nm, .str w, .ref g, .ref n] ∧ SqT K H g (gs.map V.str) ∧ SqT K H n [.int s, .int t]
theorem LimN.mono {K : PySem.W.Frag} {H H' : Hp} {p : Addr} {nm wd : Str} {gs : List Str} {s t : Int} (h : LimN K H p nm wd gs s t) (e : Ex H H') : LimN K H' p nm wd gs s t := by
  obtain ⟨g, n, h1, h2, h3⟩ := h
  exact ⟨g, n, ex_sqT e h1, ex_sqT e h2, ex_sqT e h3⟩
theorem LimN.exP {K : PySem.W.Frag} {H H' : Hp} {p : Addr} {nm wd : Str} {gs : List Str} {s t : Int} {m C dx : Addr} {fs : List (Str × V)} (h : LimN K H p nm wd gs s t) (hm : H m = some (.ins C dx fs)) (e : ExP m H H') : LimN K H' p nm wd gs s t := by
  obtain ⟨g, n, h1, h2, h3⟩ := h
  exact ⟨g, n, exP_sqT hm e h1, exP_sqT hm e h2, exP_sqT hm e h3⟩
theorem LimF.nm {K : PySem.W.Frag} {H : Hp} {p : Addr} {wd : Str} {gs : List Str} {s t : Int} (h : LimF K H p wd gs s t) : LimN K H p "flow1" wd gs s t := h
/-! the walk's state -/
structure WStW (K : PySem.W.Frag) (C m dx p l pS : Addr) (wd : Str) (ns : List Int) (gs : List Str) (s t : Int) (pl pg : Addr) (qs : List (Addr × MC)) (xs : List (Addr × R4)) (H : Hp) : Prop where
  w : WStF K C m dx p l (flW p s t pS) wd ns gs s t pl pg xs H
  u : SumsAt K H pS qs
  ne : pS ≠ pl
section
variable {K : PySem.W.Frag} {H H' : Hp} {p : Addr} {wd : Str} {gs : List Str} {s t : Int} {C m dx pS pS2 l pl pg : Addr} {ns : List Int} {qs qs2 : List (Addr × MC)} {xs : List (Addr × R4)}
theorem WStW.mono (w : WStW K C m dx p l pS wd ns gs s t pl pg qs xs H) (e : Ex H H') : WStW K C m dx p l pS wd ns gs s t pl pg qs xs H' := ⟨w.w.mono e, w.u.mono e, w.ne⟩
theorem WStW.exP (w : WStW K C m dx p l pS wd ns gs s t pl pg qs xs H) (e : ExP m H H') (h : H' m = some (.ins C dx (flW p s t pS2))) (hu : SumsAt K H' pS2 qs2) (hn : pS2 = pS ∨ H pS2 = none) : WStW K C m dx p l pS2 wd ns gs s t pl pg qs2 xs H' :=
  ⟨w.w.exP e h, hu, by
    rcases hn with e2 | hn
    · rw [e2]; exact w.ne
    · intro z
      have := w.w.hA
      rw [← z, hn] at this
      cases this⟩
theorem WStW.app {x : Addr × R4} (w : WStW K C m dx p l pS wd ns gs s t pl pg qs xs H) (hne : pg ≠ pl) (hx : SqT K H x.1 x.2.vs) (hS2 : SqL K (upd H pl (.lst ((xs.map fun x => V.ref x.1) ++ [.ref x.1]))) l (ns.map V.int)) : WStW K C m dx p l pS wd ns gs s t pl pg qs (xs ++ [x]) (upd H pl (.lst ((xs.map fun x => V.ref x.1) ++ [.ref x.1]))) :=
  ⟨w.w.app hne hx hS2, w.u.mut w.w.hA w.ne, w.ne⟩
end
theorem letW_end {K : PySem.W.Frag} {H6 : Hp} {C m dx p pS pc : Addr} {s t : Int} {rs2 : List (Addr × MC)} {D : Ends} {σ : L2.St} (hcl : Cls K C) (n4 : NoAttr K C "_sums") (hm : H6 m = some (.ins C dx (flW p s t pS))) (hA : H6 pc = some (.lst (rs2.map fun x => V.ref x.1))) (hI : ∀ x ∈ rs2, SqT K H6 x.1 [.int x.2.1, .int x.2.2])
    (q : ∀ H', ExP m H6 H' → H' m = some (.ins C dx (flW p s t pc)) → SumsAt K H' pc rs2 → D.nx σ H') : rStF K "_sums" (.ref pc) D σ (.ref m) H6 := by
  refine g_stF1 hm hcl n4 (by show 4 < 1000; decide) ?_
  rw [flW_set]
  have e : ExP m H6 (upd H6 m (.ins C dx (flW p s t pc))) := ExP.upd (ExP.of (Evl.Ex.refl _))
  exact q _ e upd_same ⟨e pc _ (fun z => by rw [z, hm] at hA; cases hA) hA, fun x hx => exP_sqT hm e (hI x hx)⟩
theorem ex_of_exP {H H1 H2 : Hp} {m : Addr} (e : Ex H H1) (hm : H m = none) (e2 : ExP m H1 H2) : Ex H H2 := fun b o h => e2 b o (fun z => by rw [z, hm] at h; cases h) (e b o h)
/-- the state of the many requests -/
structure MSt (K : PySem.W.Frag) (H : Hp) (C m dx p : Addr) (s t : Int) (pS pl : Addr) (qs xs : List (Addr × MC)) (i : Nat) (mo : Int) : Prop where
  hm : H m = some (.ins C dx (flW p s t pS))
  hL : LimN K H p "many" "window" [] s t
  hU : SumsAt K H pS qs
  hX : SumsAt K H pl xs
  ne : pS ≠ pl
  hq : qs.length ≤ i
  hx : xs.length ≤ i
  hk : KeepW t mo (qs.map (·.2)) (xs.map (·.2))
theorem MSt.mono {K : PySem.W.Frag} {H H' : Hp} {C m dx p : Addr} {s t : Int} {pS pl : Addr} {qs xs : List (Addr × MC)} {i : Nat} {mo : Int} (M : MSt K H C m dx p s t pS pl qs xs i mo) (e : Ex H H') : MSt K H' C m dx p s t pS pl qs xs i mo :=
  ⟨ex_at e M.hm, M.hL.mono e, M.hU.mono e, M.hX.mono e, M.ne, M.hq, M.hx, M.hk⟩
theorem since_map {t m : Int} (xs : List (Addr × MC)) : ((xs.filter fun x => decide (x.2.1 > m - t)).map fun x => x.2.2).sum = sinceW t m (xs.map (·.2)) := by
  unfold sinceW
  rw [List.filter_map, List.map_map]
  rfl
/-! the loop of earliest -/
theorem gone_end {s c x : Int} {rows : List MC} (h : sumC rows + c ≤ s) : lastGone s c rows x = x := by
  cases rows with
  | nil => rfl
  | cons r rr =>
    show (if sumC (r :: rr) + c ≤ s then x else _) = x
    rw [if_pos h]
theorem gone_step {s c x : Int} {rows : List MC} {n : Nat} {r : MC} (h : rows[n]? = some r) (hn : ¬ sumC (rows.drop n) + c ≤ s) : lastGone s c (rows.drop n) x = lastGone s c (rows.drop (n + 1)) r.1 ∧ sumC (rows.drop n) - r.2 = sumC (rows.drop (n + 1)) := by
  have hl := (List.getElem?_eq_some_iff.mp h).1
  have he := (List.getElem?_eq_some_iff.mp h).2
  have hd : rows.drop n = r :: rows.drop (n + 1) := by rw [List.drop_eq_getElem_cons hl, he]
  rw [hd] at hn ⊢
  constructor
  · show (if sumC (r :: rows.drop (n + 1)) + c ≤ s then x else _) = _
    rw [if_neg hn]
  · unfold sumC
    rw [List.map_cons, List.sum_cons]
    omega
theorem letW_cs {t m c : Int} {ps : List MC} (h : ∀ r ∈ ps, 0 ≤ r.2) (hc : 0 ≤ c) : ∀ r ∈ letW t m c ps, 0 ≤ r.2 := by
  have key : ∀ x ∈ live t m ps, 0 ≤ x.2 := fun x hx => h x (List.mem_filter.mp hx).1
  intro r hr
  unfold letW at hr
  generalize live t m ps = lv at key hr
  cases hg : lv.getLast? with
  | none =>
    rw [hg] at hr
    rcases List.mem_append.mp hr with hr | hr
    · exact key r hr
    · rw [List.mem_singleton] at hr; rw [hr]; exact hc
  | some q =>
    rw [hg] at hr
    have hq := key q (List.mem_of_getLast? hg)
    dsimp only at hr
    split at hr
    · rcases List.mem_append.mp hr with hr | hr
      · exact key r (List.dropLast_subset _ hr)
      · rw [List.mem_singleton] at hr; rw [hr]; show 0 ≤ c + q.2; omega
    · rcases List.mem_append.mp hr with hr | hr
      · exact key r hr
      · rw [List.mem_singleton] at hr; rw [hr]; exact hc
theorem live_map {t m : Int} (qs : List (Addr × MC)) : live t m (qs.map (·.2)) = (qs.filter fun x => decide (x.2.1 > m - t)).map (·.2) := by
  unfold live
  rw [List.filter_map]
  rfl
theorem sumC_map (qs : List (Addr × MC)) : (qs.map fun x => x.2.2).sum = sumC (qs.map (·.2)) := by
  unfold sumC
  rw [List.map_map]
  rfl
theorem dueW_of {gs : List Str} {s t mo mo2 c : Int} {ps : List MC} {xs : List (Addr × R4)} {q : Addr} {g z : Str} (hgo : okW s t (mcG gs xs) = true) (hk : KeepW t mo ps (mcG gs xs)) (ht : 1 ≤ t) (hle : mo ≤ mo2) :
    (!seesG gs g || decide (sumC (live t mo2 ps) + c ≤ s)) = okW s t (mcG gs (xs ++ [((q, (mo2, g, c, z)) : Addr × R4)])) ∧ (seesG gs g = false → okW s t (mcG gs (xs ++ [((q, (mo2, g, c, z)) : Addr × R4)])) = true) ∧
    KeepW t mo2 (if seesG gs g then letW t mo2 c ps else ps) (mcG gs (xs ++ [((q, (mo2, g, c, z)) : Addr × R4)])) := by
  have hl : ∀ r ∈ mcG gs xs, r.1 ≤ mo2 := fun r hr => Int.le_trans (hk.lers r hr) hle
  cases hs : seesG gs g with
  | true =>
    rw [mcG_snoc (r := (mo2, g, c, z)) hs, if_pos rfl, okW_snoc hgo hl ht, ← hk.eq mo2 hle]
    exact ⟨rfl, (fun h => nomatch h), hk.snoc hle⟩
  | false =>
    rw [mcG_skip (r := (mo2, g, c, z)) hs, if_neg (by decide)]
    exact ⟨by rw [hgo]; rfl, fun _ => hgo, hk.later hle⟩
theorem sum_win {t a : Int} (ys : List (Addr × R4)) : ((ys.filter fun x => decide (a ≤ x.2.1) && decide (x.2.1 < a + t)).map fun x => x.2.2.2.1).sum = winW t a (mcs ys) := by
  unfold winW mcs
  rw [List.filter_map, List.map_map]
  rfl
/-! ### values as data; sorted of any data; a dict's items and values -/
mutual
/-- the value is that data: ints, texts, tuples of these -/
inductive Dat (K : PySem.W.Frag) (H : Hp) : V → PyData → Prop
  | int (i : Int) : Dat K H (.int i) (.int i)
  | str (x : Str) : Dat K H (.str x) (.str x)
  | tup {t : Addr} {vs : List V} {ds : List PyData} : SqT K H t vs → DatL K H vs ds → Dat K H (.ref t) (.tuple ds)
inductive DatL (K : PySem.W.Frag) (H : Hp) : List V → List PyData → Prop
  | nil : DatL K H [] []
  | cons {v : V} {d : PyData} {vs : List V} {ds : List PyData} : Dat K H v d → DatL K H vs ds → DatL K H (v :: vs) (d :: ds)
end
section
variable {X : Cx} {pins : List (Addr × Obj)} {σ : L2.St} {H : Hp} {s : Shared}
mutual
theorem Dat.reads (I : Inv X pins σ H s) : ∀ {v : V} {d : PyData} {u : Value}, Dat X.K H v d → RelV v u → Reads s.heap u d []
  | _, _, _, .int i, r => by
    obtain ⟨t, rfl⟩ := r
    exact .int i t
  | _, _, _, .str x, r => by
    obtain ⟨t, rfl⟩ := r
    exact .str x t
  | _, _, _, .tup h l, r => by
    obtain ⟨its, rv, ⟨o, ho, hc, n, hd⟩, _⟩ := I.tuple h
    have ra := DatL.reads I l rv
    cases r
    exact .tuple ho hc hd (by simpa using ra)
theorem DatL.reads (I : Inv X pins σ H s) : ∀ {vs : List V} {ds : List PyData} {us : List Value}, DatL X.K H vs ds → Vals vs us → ReadsAll s.heap us ds []
  | _, _, _, .nil, r => by
    cases r
    exact .nil
  | _, _, _, .cons h l, r => by
    cases r with
    | cons r1 r2 => exact .cons (as := []) (bs := []) (Dat.reads I h r1) (DatL.reads I l r2)
end
end
abbrev EachV (us : List Value) (vs : List V) : Prop := PySem.W.EachIs (fun u v => RelV v u) us vs
theorem each_of_vals : ∀ {vs : List V} {us : List Value}, Vals vs us → EachV us vs
  | _, _, .nil => .nil
  | _, _, .cons h t => .cons h (each_of_vals t)
theorem vals_of_each : ∀ {us : List Value} {vs : List V}, EachV us vs → Vals vs us
  | _, _, .nil => .nil
  | _, _, .cons h t => .cons h (vals_of_each t)
theorem each_of_maps {β : Type} {f : β → V} : ∀ {bs : List β} {us : List Value}, Vals (bs.map f) us → PySem.W.EachIs (fun u b => RelV (f b) u) us bs
  | [], _, r => by
    cases r
    exact .nil
  | b :: bs, _, r => by
    cases r with
    | cons h t => exact .cons h (each_of_maps t)
theorem maps_of_each {β : Type} {f : β → V} : ∀ {bs : List β} {us : List Value}, PySem.W.EachIs (fun u b => RelV (f b) u) us bs → Vals (bs.map f) us
  | _, _, .nil => .nil
  | _, _, .cons h t => .cons h (maps_of_each t)
theorem each_reads {X : Cx} {pins : List (Addr × Obj)} {σ : L2.St} {H : Hp} {s : Shared} {β : Type} {f : β → V} {enc : β → PyData} (I : Inv X pins σ H s) : ∀ {bs : List β} {us : List Value}, Vals (bs.map f) us → (∀ b ∈ bs, Dat X.K H (f b) (enc b)) → PySem.W.EachIs (fun u b => ∃ as, Reads s.heap u (enc b) as) us bs
  | [], _, r, _ => by
    cases r
    exact .nil
  | b :: bs, _, r, q => by
    cases r with
    | cons h t => exact .cons ⟨[], (q b List.mem_cons_self).reads I h⟩ (each_reads I t fun v hv => q v (List.mem_cons_of_mem _ hv))
/-- sorted(xs), xs any data -/
def rSortedD (K : PySem.W.Frag) : List V → Hp → VK → Prop := fun vs H Q => ∃ (a : Addr) (β : Type) (bs : List β) (f : β → V) (enc : β → PyData), vs = [V.ref a] ∧ SqL K H a (bs.map f) ∧ (∀ b ∈ bs, Dat K H (f b) (enc b)) ∧ PySem.W.AllAlike (bs.map enc) ∧ PySem.W.Sortable (bs.map enc) ∧
  (∀ b ∈ bs, (enc b).depth ≤ 8) ∧ ∀ p, H p = none → Q (.ref p) (upd H p (.lst ((bs.mergeSort (PySem.W.dataLe false enc)).map f)))
theorem cr_sortedD {X : Cx} (hu : X.A.units + 64 < cLine) : CallR X (.builtin "sorted") (rSortedD X.K) := by
  intro pins s σ H vs us Q I r h
  obtain ⟨a, β, bs, f, enc, rfl, hs, hd, hal, hk, hdep, q⟩ := h
  obtain ⟨its, rv, hl, hz⟩ := I.list hs
  rw [Vals.ref1 r]
  refine PySem.W.sorted_data (R := fun u b => RelV (f b) u) (enc := enc) (bs := bs) hl.isList (each_of_maps rv) (each_reads I rv hd) hal hk (by rw [List.length_map] at hz; exact hz) (fun b hb => ?_) fun out ho hout => ?_
  · have := hdep b hb
    omega
  · obtain ⟨ep, he'⟩ := PyProof.Rows.sortedAll_at s.heap its out.toArray
    have hlen : ((bs.mergeSort (PySem.W.dataLe false enc)).map f).length ≤ sizeLine := by
      rw [List.length_map, List.length_mergeSort]
      rw [List.length_map] at hz
      exact hz
    exact ⟨.ref _, upd H (s.heap.objs.size + 1) (.lst ((bs.mergeSort (PySem.W.dataLe false enc)).map f)), I.laid (t' := s.toks) (fun _ _ => PyProof.Rows.sortedAll_old) (Nat.le_succ _) ⟨hlen, out, ep, maps_of_each hout, he'⟩, rfl, q _ (I.hok.fresh (Nat.le_succ _))⟩
theorem cr_sortedDK {X : Cx} {K : PySem.W.Frag} (h : X.K = K) (hu : X.A.units + 64 < cLine) : CallR X (.builtin "sorted") (rSortedD K) := by subst h; exact cr_sortedD hu

/-! the views -/
def valuesO (p d : Addr) : HO := .ext fun h => h.IsValuesView p d
theorem valuesO_ok {P : Program} {w : World} {H : Hp} {h : Heap} {p d : Addr} (e : h.get? p = some { cls := .type "dict_values", data := .fields #[.ref d] }) : ObjOk P w H h p (valuesO p d) :=
  ⟨⟨_, e, rfl, rfl⟩, ⟨_, e⟩, fun h1 h2 x k => let ⟨o, ho, r⟩ := x; ⟨o, k o ho, r⟩⟩
def rItemsK : V → List V → Hp → VK → Prop := fun x xs H Q => ∃ (a : Addr) (kvs : List (Key × V)), x = .ref a ∧ xs = [] ∧ H a = some (.dK kvs) ∧ ∀ p, H p = none → Q (.ref p) (upd H p (L2.DX.itemsO p a))
def rValuesK : V → List V → Hp → VK → Prop := fun x xs H Q => ∃ (a : Addr) (kvs : List (Key × V)), x = .ref a ∧ xs = [] ∧ H a = some (.dK kvs) ∧ ∀ p, H p = none → Q (.ref p) (upd H p (valuesO p a))
section
variable {X : Cx}
theorem mt_itemsK : MtR X "dict.items" rItemsK := by
  intro pins s σ H x xs v us Q I rx rxs h
  obtain ⟨a, kvs, rfl, rfl, ha, q⟩ := h
  cases rx
  cases rxs
  obtain ⟨_, hsys, vs, rel, dof⟩ := dk_of I.hok ha
  refine call_meetsIn F.slot_dict_items dof.typeIs F.entry_dict_items (F.args_dict_items_1 _) (meets_dict_items (mixKind X.prog X.w) a hsys) ⟨⟨vs, dof⟩, ?_⟩
  have hf : H s.heap.objs.size = none := I.hok.fresh (Nat.le_refl _)
  exact ⟨.ref s.heap.objs.size, upd H s.heap.objs.size (L2.DX.itemsO s.heap.objs.size a), I.laid (t' := s.toks) (fun b u e => Heap.get?_push_of_some _ e) (Nat.le_refl _) (L2.DX.itemsO_ok (Heap.get?_push_size _ rfl)), rfl, q _ hf⟩
theorem mt_valuesK : MtR X "dict.values" rValuesK := by
  intro pins s σ H x xs v us Q I rx rxs h
  obtain ⟨a, kvs, rfl, rfl, ha, q⟩ := h
  cases rx
  cases rxs
  obtain ⟨_, hsys, vs, rel, dof⟩ := dk_of I.hok ha
  refine call_meetsIn F.slot_dict_values dof.typeIs F.entry_dict_values (F.args_dict_values_1 _) (meets_dict_values (mixKind X.prog X.w) a hsys) ⟨⟨vs, dof⟩, ?_⟩
  have hf : H s.heap.objs.size = none := I.hok.fresh (Nat.le_refl _)
  exact ⟨.ref s.heap.objs.size, upd H s.heap.objs.size (valuesO s.heap.objs.size a), I.laid (t' := s.toks) (fun b u e => Heap.get?_push_of_some _ e) (Nat.le_refl _) (valuesO_ok (Heap.get?_push_size _ rfl)), rfl, q _ hf⟩
/-- a method of a dict, no arguments -/
def tDM0 (r : V → List V → Hp → VK → Prop) (td : TE) : TE := fun σ H Q => td σ H fun x H1 => (∃ a, x = .ref a ∧ IsD H1 a) ∧ r x [] H1 Q
theorem pe_dm0 {o : Expr} {td : TE} {name : Str} {apos cpos : Pos} {id : String} {r : V → List V → Hp → VK → Prop} (slot : Slot "dict" name id) (hty : typeOf (.builtin id) = pure (.type "method_descriptor")) (hm : MtR X id r) (ho : PE X o td)
    (hbase : attributeBase o name X.env (eval o X.env) = eval o X.env := by rfl) (hline : (apos.endLine == cpos.line) = true := by rfl) : PE X (.Call (.Attribute o name apos) [] [] cpos) (tDM0 r td) := by
  refine ⟨fun pins s σ H Q I h => ?_⟩
  refine wpAny_Call_method0_late hbase hline (thn (ho.run pins s σ H _ I h) fun v s1 ⟨x, H1, I1, r1, ⟨a, ex, d⟩, q1⟩ => ?_)
  subst ex
  obtain rfl : v = Value.ref a := r1
  obtain ⟨h1, h2, _⟩ := isD_at I1 d
  exact ⟨"dict", id, F.plainAttrs_dict, slot, hty, h1, h2, Calls.callWith_builtin rfl (PySem.evalArgs_none (hm pins s1 σ H1 (.ref a) [] (.ref a) [] Q I1 rfl .nil q1))⟩
/-- list(view of values) -/
def rListVal : List V → Hp → VK → Prop := fun vs H Q => ∃ (p a : Addr) (kvs : List (Key × V)), vs = [V.ref p] ∧ H p = some (valuesO p a) ∧ H a = some (.dK kvs) ∧ ∀ l, H l = none → Q (.ref l) (upd H l (.lst (kvs.map (·.2))))
theorem kv_vals : ∀ {kvs : List (Key × V)} {vs : List (Key × Value)}, KV kvs vs → Vals (kvs.map (·.2)) (vs.map (·.2))
  | [], _, r => by
    unfold KV at r
    cases r
    exact .nil
  | p :: kvs, _, r => by
    unfold KV at r
    cases r with
    | cons h t => exact .cons h.2 (kv_vals t)
theorem call_listVal (hc : X.calm = true) : CallR X (.type "list") rListVal := by
  intro pins s σ H xs us Q I r h
  obtain ⟨p, a, kvs, rfl, hp, ha, q⟩ := h
  obtain rfl := Vals.ref1 r
  have view : s.heap.IsValuesView p a := (show ObjOk X.prog X.w H s.heap p (valuesO p a) from I.hok p _ hp).1
  obtain ⟨hz, hd, vs, rel, dof⟩ := dk_of I.hok ha
  obtain ⟨ep, dat⟩ := dof.dictAt
  have lk : kvs.length = vs.length := KV.length rel
  refine PySem.W.kdl_call (PySem.W.kdl_values (knd := mixKind X.prog X.w) (kvs := vs) (ep := ep)) (I.ok.hd hc) ⟨view, dat⟩ (by rw [← lk]; exact hz) fun h' tk acc c hk hS hacc => ?_
  have e : acc.toList = vs.map (·.2) := by
    refine List.ext_getElem? fun j => ?_
    rw [List.getElem?_map]
    by_cases hj : j < acc.size
    · have e1 : acc.toList[j]? = some acc[j] := by rw [Array.getElem?_toList]; exact getElem?_pos acc j hj
      obtain ⟨k, hk2⟩ := hacc.2 j acc[j] (by rw [← Array.getElem?_toList]; exact e1)
      rw [e1, hk2]
      rfl
    · have e1 : acc.toList[j]? = none := by rw [List.getElem?_eq_none]; rw [Array.length_toList]; omega
      have e2 : vs[j]? = none := by rw [List.getElem?_eq_none]; rw [← hacc.1]; omega
      rw [e1, e2]
      rfl
  have rv : Vals (kvs.map (·.2)) acc.toList := by rw [e]; exact kv_vals rel
  have hf : H s.heap.objs.size = none := I.hok.fresh (Nat.le_refl _)
  exact ⟨.ref s.heap.objs.size, upd H s.heap.objs.size (.lst (kvs.map (·.2))), I.laid (t' := tk) hk (Nat.le_refl _) ⟨by rw [List.length_map]; exact hz, acc.toList, c, rv, by rw [Array.toArray_toList]; exact hS⟩, rfl, q _ hf⟩
end
/-! sorted(d.items()) -/
def keyD : Key → PyData
  | .inl i => .int i
  | .inr x => .str x
theorem dat_key {K : PySem.W.Frag} {H : Hp} : ∀ k : Key, Dat K H (kV k) (keyD k)
  | .inl i => .int i
  | .inr x => .str x
/-- what the tuple of an entry is, as data; dv: what the values are -/
def entD (dv : V → PyData) (e : Key × V) : PyData := .tuple [keyD e.1, dv e.2]
def rSortItK (K : PySem.W.Frag) : List V → Hp → VK → Prop := fun vs H Q => ∃ (p a : Addr) (kvs : List (Key × V)) (dv : V → PyData), vs = [.ref p] ∧ H p = some (L2.DX.itemsO p a) ∧ H a = some (.dK kvs) ∧ (∀ e ∈ kvs, Dat K H e.2 (dv e.2)) ∧
  PySem.W.AllAlike (kvs.map (entD dv)) ∧ (∀ e ∈ kvs, (entD dv e).depth ≤ 8) ∧
  ∀ (H' : Hp) (l : Addr) (ps : List (Addr × (Key × V))), (∀ b o, H b = some o → H' b = some o) → H l = none → ps.map (·.2) = kvs.mergeSort (PySem.W.dataLe false (entD dv)) → (∀ z ∈ ps, H z.1 = none ∧ z.1 ≠ l ∧ H' z.1 = some (.tup [kV z.2.1, z.2.2])) → H' l = some (.lst (ps.map fun z => V.ref z.1)) → Q (.ref l) H'
theorem each_zip {α β : Type} {f : α → Value} : ∀ {as : List α} {bs : List β}, as.length = bs.length → PySem.W.EachIs (fun u (z : α × β) => u = f z.1) (as.map f) (as.zip bs)
  | [], [], _ => .nil
  | a :: as, b :: bs, h => .cons rfl (each_zip (Nat.succ.inj h))
theorem each_map_eq {α : Type} {f : α → Value} : ∀ {us : List Value} {zs : List α}, PySem.W.EachIs (fun u z => u = f z) us zs → us = zs.map f
  | _, _, .nil => rfl
  | _, _, .cons h t => by rw [List.map_cons, ← h, ← each_map_eq t]
theorem cr_sortItK {X : Cx} (hc : X.calm = true) (hu : X.A.units + 64 < cLine) : CallR X (.builtin "sorted") (rSortItK X.K) := by
  intro pins s σ H xs us Q I r h
  obtain ⟨p, a, kvs, dv, rfl, hp, ha, hdat, hal, hdep, q⟩ := h
  obtain rfl := Vals.ref1 r
  have view : s.heap.IsItemsView p a := (show ObjOk X.prog X.w H s.heap p (L2.DX.itemsO p a) from I.hok p _ hp).1
  obtain ⟨hz, hsys, vs, rel, dof⟩ := dk_of I.hok ha
  obtain ⟨ep, dat⟩ := dof.dictAt
  have lk : kvs.length = vs.length := KV.length rel
  obtain ⟨ob, es, ho, hx, hdt, hko, hpr, hnd⟩ := id dat
  have hes : es.size = vs.length := by rw [← hpr.length]; simp
  have hh : X.A.handled = none := I.ok.hd hc
  refine DT.sortedI (es := es) (ep := ep) hh view ⟨ob, ho, hx, hdt⟩ (by rw [hes, ← lk]; exact hz) fun h' tk as hk hlt' hl hG => ?_
  have hlt : s.heap.objs.size ≤ h'.objs.size := Nat.le_of_lt hlt'
  have lak : as.length = kvs.length := by omega
  have nd : as.Nodup := List.Pairwise.imp (fun {a b} (h : a < b) => Nat.ne_of_lt h) hG.rise
  have hob : (h'.push { cls := .type "list", data := .seq (as.map Value.ref).toArray }).get? h'.objs.size = some (seqObj "list" (as.map Value.ref).toArray 0) := Heap.get?_push_size _ rfl
  generalize hh2 : h'.push { cls := .type "list", data := .seq (as.map Value.ref).toArray } = h2 at hob ⊢
  have ka : ∀ b o, h'.get? b = some o → h2.get? b = some o := fun b o e => by rw [← hh2]; exact Heap.get?_push_of_some _ e
  have ne0 : ∀ b o, h'.get? b = some o → b ≠ h'.objs.size := fun b o e => Nat.ne_of_lt (Heap.lt_size e)
  -- the pairs that were made
  have pr : ∀ z ∈ as.zip kvs, ∃ key x, RelV (kV z.2.1) key ∧ RelV z.2.2 x ∧ h'.get? z.1 = some { cls := .type "tuple", data := .seq #[key, x] } := by
    intro z hz
    obtain ⟨j, hj⟩ := List.mem_iff_getElem?.mp hz
    obtain ⟨j1, j2⟩ := List.getElem?_zip_eq_some.mp hj
    obtain ⟨en, f0, f3⟩ := hG.pairs j z.1 j1
    have hj : j < vs.length := by rw [← hes]; exact (Array.getElem?_eq_some_iff.mp f0).1
    obtain ⟨f4, f2⟩ := hpr.get? (i := j) (e := en) (k := (vs[j]'hj).1) (v := (vs[j]'hj).2) (by rw [Array.getElem?_toList]; exact f0) (getElem?_pos vs j hj)
    obtain ⟨x0, g1, g2⟩ := KV.at' rel (i := j) (k := (vs[j]'hj).1) (v := (vs[j]'hj).2) (getElem?_pos vs j hj)
    have ez : z.2 = ((vs[j]'hj).1, x0) := Option.some.inj (j2.symm.trans g1)
    refine ⟨en.key, en.val, ?_, ?_, f3⟩
    · rw [ez]
      exact relV_key (show keyIs _ en.key = true from f4)
    · rw [ez, f2]
      exact g2
  have er : PySem.W.EachIs (fun v (z : Addr × (Key × V)) => ∃ as', Reads h2 v (entD dv z.2) as' ∧ h'.objs.size ∉ as') (as.map Value.ref) (as.zip kvs) := by
    have e0 : PySem.W.EachIs (fun u (z : Addr × (Key × V)) => u = Value.ref z.1) (as.map Value.ref) (as.zip kvs) := each_zip lak
    refine (PySem.W.each_mem e0).mono fun v z ⟨e, hm⟩ => ?_
    obtain ⟨key, x, r1, r2, r3⟩ := pr z hm
    have kk : ∀ b o, s.heap.get? b = some o → h2.get? b = some o := fun b o e => ka _ _ (hk _ _ e)
    have hzk : z.2 ∈ kvs := (List.of_mem_zip hm).2
    have d1 : Reads h2 key (keyD z.2.1) [] := PyProof.Rows.Reads.keeps kk ((dat_key z.2.1).reads I r1)
    have d2 : Reads h2 x (dv z.2.2) [] := PyProof.Rows.Reads.keeps kk ((hdat _ hzk).reads I r2)
    refine ⟨[], ?_, by simp⟩
    rw [e]
    exact .tuple (ka _ _ r3) rfl rfl (.cons (as := []) (bs := []) d1 (.cons (as := []) (bs := []) d2 .nil))
  have em : (as.zip kvs).map (fun z => entD dv z.2) = kvs.map (entD dv) := by
    have e2 : (as.zip kvs).map (·.2) = kvs := List.map_snd_zip (by rw [lak]; exact Nat.le_refl _)
    have e3 : (as.zip kvs).map (fun z => entD dv z.2) = ((as.zip kvs).map (·.2)).map (entD dv) := by rw [List.map_map]; rfl
    rw [e3, e2]
  have hbs : (as.zip kvs).length ≤ sizeLine := by rw [List.length_zip, lak, Nat.min_self]; exact hz
  have go := PySem.W.list_sort_data (prog := X.prog) (w := X.w) (A := X.A.in1) (E := X.xe) (s := { s with heap := h2, toks := tk }) (Q := fun _ s' => EP X pins σ Q (.ref h'.objs.size) s') (R := fun u (z : Addr × (Key × V)) => u = Value.ref z.1) (enc := fun z : Addr × (Key × V) => entD dv z.2) hob (each_zip lak) er (by rw [em]; exact hal) (.inl fun d hd => by
      obtain ⟨z, _, rfl⟩ := List.mem_map.mp hd
      exact ⟨_, _, rfl⟩) hbs (fun z hm => by
      have := hdep z.2 (List.of_mem_zip hm).2
      show X.A.units + 1 + 1 + (entD dv z.2).depth < cLine
      omega) fun out ho hout => by
    generalize hM : (as.zip kvs).mergeSort (PySem.W.dataLe false fun z : Addr × (Key × V) => entD dv z.2) = M at hout
    have eo : out = M.map fun z => Value.ref z.1 := each_map_eq hout
    have pz : M.Perm (as.zip kvs) := by rw [← hM]; exact List.mergeSort_perm _ _
    have es : M.map (·.2) = kvs.mergeSort (PySem.W.dataLe false (entD dv)) := by
      have e2 : (as.zip kvs).map (·.2) = kvs := List.map_snd_zip (by rw [lak]; exact Nat.le_refl _)
      have e3 := PySem.W.sort_maps (r := PySem.W.dataLe false fun z : Addr × (Key × V) => entD dv z.2) (s := PySem.W.dataLe false (entD dv)) (fun z : Addr × (Key × V) => z.2) (l := as.zip kvs) fun a _ b _ => rfl
      rw [hM, e2] at e3
      exact e3
    have kF : ∀ b o, b ≠ h'.objs.size → h2.get? b = some o → (sortedHeap h2 h'.objs.size (as.map Value.ref) out.toArray).get? b = some o := fun b o hb e => (PyProof.Rows.sortedHeap_old hb (Heap.lt_size e)).trans e
    have kS : ∀ b o, s.heap.get? b = some o → (sortedHeap h2 h'.objs.size (as.map Value.ref) out.toArray).get? b = some o := fun b o e => kF b o (ne0 _ _ (hk b o e)) (ka _ _ (hk b o e))
    obtain ⟨eF, heF⟩ := PyProof.Rows.sortedHeap_at (vs := as.map Value.ref) (out := out.toArray) hob
    have I1 : Inv X pins σ H { s with heap := sortedHeap h2 h'.objs.size (as.map Value.ref) out.toArray, toks := tk } := I.kept (t' := tk) kS
    have hn0 : H h'.objs.size = none := I.hok.fresh hlt
    have hlen : (M.map fun z => V.ref z.1).length ≤ sizeLine := by
      rw [List.length_map, pz.length_eq]
      exact hbs
    have rv : Vals (M.map fun z => V.ref z.1) out := by
      rw [eo]
      exact vals_maps (fun z : Addr × (Key × V) => V.ref z.1) (fun z => Value.ref z.1) M fun _ _ => rfl
    have I2 : Inv X pins σ (upd H h'.objs.size (.lst (M.map fun z => V.ref z.1))) { s with heap := sortedHeap h2 h'.objs.size (as.map Value.ref) out.toArray, toks := tk } :=
      I1.take (h' := sortedHeap h2 h'.objs.size (as.map Value.ref) out.toArray) (t' := tk) (fun b ob _ e => e) (I.fpOk hlt hn0) ⟨hlen, out, eF, rv, heF⟩
    have fr : ∀ b ∈ as, s.heap.objs.size ≤ b := fun b hb => Nat.le_of_lt (hG.above b hb)
    have memz : ∀ b ∈ as, ∃ e, (b, e) ∈ as.zip kvs := fun b hb => by
      obtain ⟨j, hj⟩ := List.mem_iff_getElem?.mp hb
      have hjl : j < kvs.length := by rw [← lak]; exact (List.getElem?_eq_some_iff.mp hj).1
      exact ⟨kvs[j], List.mem_iff_getElem?.mpr ⟨j, List.getElem?_zip_eq_some.mpr ⟨hj, getElem?_pos _ _ _⟩⟩⟩
    obtain ⟨H2, I3, g, qt⟩ := L2.DX.takeT (P := fun b vs => ∃ e : Key × V, (b, e) ∈ as.zip kvs ∧ vs = [kV e.1, e.2]) I as _ I2 nd fun b hb => by
      obtain ⟨e, he⟩ := memz b hb
      obtain ⟨key, x, r1, r2, r3⟩ := pr _ he
      refine ⟨fr b hb, ?_, [kV e.1, e.2], ⟨e, he, rfl⟩, fun H3 => ⟨(by rw [sizeLine_eq]; show 2 ≤ 16777216; omega), [key, x], .cons r1 (.cons r2 .nil), ⟨_, kF _ _ (ne0 _ _ r3) (ka _ _ r3), rfl, 0, rfl⟩⟩⟩
      rw [upd_ne (ne0 _ _ r3)]
      exact I.hok.fresh (fr b hb)
    have gr : ∀ b o, H b = some o → H2 b = some o := fun b o e => g b o (by rw [upd_ne (ne_of_none e hn0)]; exact e)
    refine ⟨.ref h'.objs.size, H2, I3, rfl, q H2 h'.objs.size M gr hn0 es (fun z hz => ?_) (g _ _ upd_same)⟩
    have hzz : z ∈ as.zip kvs := pz.mem_iff.mp hz
    have hza : z.1 ∈ as := (List.of_mem_zip hzz).1
    obtain ⟨key, x, r1, r2, r3⟩ := pr _ hzz
    obtain ⟨vs2, ⟨e, he, ev⟩, hH⟩ := qt z.1 hza
    have ee : e = z.2 := by
      obtain ⟨i, hi⟩ := List.mem_iff_getElem?.mp he
      obtain ⟨j, hj⟩ := List.mem_iff_getElem?.mp hzz
      obtain ⟨i1, i2⟩ := List.getElem?_zip_eq_some.mp hi
      obtain ⟨j1, j2⟩ := List.getElem?_zip_eq_some.mp hj
      have eij : i = j := (List.getElem?_inj (List.getElem?_eq_some_iff.mp i1).1 nd).mp (i1.trans j1.symm)
      rw [eij] at i2
      exact Option.some.inj (i2.symm.trans j2)
    rw [ev, ee] at hH
    exact ⟨I.hok.fresh (fr _ hza), ne0 _ _ r3, hH⟩
  exact go
theorem cr_sortItKK {X : Cx} {K : PySem.W.Frag} (h : X.K = K) (hc : X.calm = true) (hu : X.A.units + 64 < cLine) : CallR X (.builtin "sorted") (rSortItK K) := by subst h; exact cr_sortItK hc hu
/-! steps -/
section
variable {K : PySem.W.Frag} {H : Hp} {Q : VK} {σ : L2.St} {a : Addr} {kvs : List (Key × V)} {v : V} {z : Str}
def rDM0 (r : V → List V → Hp → VK → Prop) : V → Hp → VK → Prop := fun x H1 Q => (∃ a, x = .ref a ∧ IsD H1 a) ∧ r x [] H1 Q
theorem g_dm0 {r : V → List V → Hp → VK → Prop} {td : TE} (q : td σ H fun x H1 => rDM0 r x H1 Q) : tDM0 r td σ H Q := q
theorem isD_k (h : H a = some (.dK kvs)) : IsD H a := .inl ⟨kvs, .inl h⟩
theorem g_items (h : H a = some (.dK kvs)) (q : ∀ p, H p = none → Q (.ref p) (upd H p (L2.DX.itemsO p a))) : rDM0 rItemsK (.ref a) H Q := ⟨⟨a, rfl, isD_k h⟩, a, kvs, rfl, rfl, h, q⟩
theorem g_values (h : H a = some (.dK kvs)) (q : ∀ p, H p = none → Q (.ref p) (upd H p (valuesO p a))) : rDM0 rValuesK (.ref a) H Q := ⟨⟨a, rfl, isD_k h⟩, a, kvs, rfl, rfl, h, q⟩
def rDP1k (a : Addr) : V → Hp → VK → Prop := fun y H2 Q => ∃ kvs k v, H2 a = some (.dK kvs) ∧ y = kV k ∧ valV kvs k = some v ∧ Q v (upd H2 a (.dK (dropK kvs k)))
def rDP1 (ty : TE) (σ : L2.St) : V → Hp → VK → Prop := fun x H1 Q => ∃ a, x = .ref a ∧ IsD H1 a ∧ ty σ H1 fun y H2 => rDP1k a y H2 Q
theorem g_dpop1 {td ty : TE} (q : td σ H fun x H1 => rDP1 ty σ x H1 Q) : tDPop1 td ty σ H Q := q
theorem g_dp1 {ty : TE} (h : H a = some (.dK kvs)) (q : ty σ H fun y H2 => rDP1k a y H2 Q) : rDP1 ty σ (.ref a) H Q := ⟨a, rfl, isD_k h, q⟩
theorem g_dp1k (h : H a = some (.dK kvs)) (hv : valV kvs (Sum.inr z) = some v) (q : Q v (upd H a (.dK (dropK kvs (Sum.inr z))))) : rDP1k a (.str z) H Q := ⟨kvs, Sum.inr z, v, h, rfl, hv, q⟩
def rDP2k (a : Addr) (y : V) : V → Hp → VK → Prop := fun z H3 Q => ∃ kvs k, H3 a = some (.dK kvs) ∧ y = kV k ∧ (∀ v, valV kvs k = some v → Q v (upd H3 a (.dK (dropK kvs k)))) ∧ (valV kvs k = none → Q z H3)
def rDP2 (ty tx : TE) (σ : L2.St) : V → Hp → VK → Prop := fun x H1 Q => ∃ a, x = .ref a ∧ IsD H1 a ∧ ty σ H1 fun y H2 => tx σ H2 fun z H3 => rDP2k a y z H3 Q
theorem g_dpop2 {td ty tx : TE} (q : td σ H fun x H1 => rDP2 ty tx σ x H1 Q) : tDPop2 td ty tx σ H Q := q
theorem g_dp2 {ty tx : TE} (h : H a = some (.dK kvs)) (q : ty σ H fun y H2 => tx σ H2 fun z H3 => rDP2k a y z H3 Q) : rDP2 ty tx σ (.ref a) H Q := ⟨a, rfl, isD_k h, q⟩
theorem g_dp2k {u : V} (h : H a = some (.dK kvs)) (q1 : ∀ v, valV kvs (Sum.inr z) = some v → Q v (upd H a (.dK (dropK kvs (Sum.inr z))))) (q2 : valV kvs (Sum.inr z) = none → Q u H) : rDP2k a (.str z) u H Q := ⟨kvs, Sum.inr z, h, rfl, q1, q2⟩
end
/-! ### held: entries, their dict, plain law -/
abbrev EH : Type := Str × Int
def kvsH (es : List EH) : List (Key × V) := es.map fun e => (Sum.inr e.1, V.int e.2)
def sumH (es : List EH) : Int := (es.map (·.2)).sum
def keysH (es : List EH) : List Str := es.map (·.1)
theorem sumH_snoc (es : List EH) (e : EH) : sumH (es ++ [e]) = sumH es + e.2 := by
  unfold sumH
  rw [List.map_append, List.sum_append]
  simp
theorem valH_none {k : Str} : ∀ {es : List EH}, k ∉ keysH es → valV (kvsH es) (Sum.inr k) = none
  | [], _ => rfl
  | e :: es, h => by
    have h1 : ¬ e.1 = k := fun z => h (by rw [← z]; exact List.mem_cons_self)
    have h2 : k ∉ keysH es := fun z => h (List.mem_cons_of_mem _ z)
    show valV (((Sum.inr e.1 : Key), V.int e.2) :: kvsH es) (Sum.inr k) = none
    rw [valV_neg (fun z => h1 (Sum.inr.inj z))]
    exact valH_none h2
theorem valH_some {k : Str} : ∀ {es : List EH}, k ∈ keysH es → (keysH es).Nodup → ∃ c, valV (kvsH es) (Sum.inr k) = some (.int c) ∧ sumH es = sumH (es.filter fun e => decide (e.1 ≠ k)) + c
  | [], h, _ => nomatch h
  | e :: es, h, hn => by
    have hn2 := List.nodup_cons.mp hn
    by_cases h1 : e.1 = k
    · refine ⟨e.2, ?_, ?_⟩
      · show valV (((Sum.inr e.1 : Key), V.int e.2) :: kvsH es) (Sum.inr k) = _
        rw [valV_pos (by rw [h1])]
      · rw [List.filter_cons_of_neg (by simp [h1])]
        have e2 : (es.filter fun e => decide (e.1 ≠ k)) = es := List.filter_eq_self.mpr fun x hx => decide_eq_true fun z => hn2.1 (by show e.1 ∈ keysH es; rw [h1, ← z]; exact List.mem_map_of_mem hx)
        rw [e2]
        show e.2 + sumH es = _
        omega
    · have h2 : k ∈ keysH es := by
        rcases List.mem_cons.mp h with z | z
        · exact absurd z.symm h1
        · exact z
      obtain ⟨c, c1, c2⟩ := valH_some h2 hn2.2
      refine ⟨c, ?_, ?_⟩
      · show valV (((Sum.inr e.1 : Key), V.int e.2) :: kvsH es) (Sum.inr k) = _
        rw [valV_neg (fun z => h1 (Sum.inr.inj z))]
        exact c1
      · rw [List.filter_cons_of_pos (by simp [h1])]
        show e.2 + sumH es = e.2 + sumH (es.filter fun e => decide (e.1 ≠ k)) + c
        omega
theorem valH_is (k : Str) (es : List EH) (hn : (keysH es).Nodup) : (valV (kvsH es) (Sum.inr k)).isSome = decide (k ∈ keysH es) := by
  by_cases h : k ∈ keysH es
  · obtain ⟨c, c1, _⟩ := valH_some h hn
    rw [c1, decide_eq_true h]
    rfl
  · rw [valH_none h, decide_eq_false h]
    rfl
theorem putH {k : Str} {c : Int} {es : List EH} (h : k ∉ keysH es) : putK (kvsH es) (Sum.inr k) (.int c) = kvsH (es ++ [(k, c)]) := by
  unfold putK
  rw [valV_any, valH_none h]
  show (if false = true then _ else _) = _
  rw [if_neg (by decide)]
  unfold kvsH
  rw [List.map_append]
  rfl
theorem dropH' (k : Str) (es : List EH) : dropK (kvsH es) (Sum.inr k) = kvsH (es.filter fun e => decide (e.1 ≠ k)) := by
  unfold dropK kvsH
  rw [List.filter_map]
  congr 1
  apply List.filter_congr
  intro e _
  show decide ((Sum.inr e.1 : Key) ≠ Sum.inr k) = decide (e.1 ≠ k)
  rw [Bool.eq_iff_iff, decide_eq_true_eq, decide_eq_true_eq]
  exact ⟨fun z w => z (by rw [w]), fun z w => z (Sum.inr.inj w)⟩
theorem drop_gone {k : Str} {es : List EH} (h : k ∉ keysH es) : (es.filter fun e => decide (e.1 ≠ k)) = es := List.filter_eq_self.mpr fun e he => decide_eq_true fun z => h (by rw [← z]; exact List.mem_map_of_mem he)
theorem valsH (es : List EH) : (kvsH es).map (·.2) = (es.map (·.2)).map V.int := by
  unfold kvsH
  rw [List.map_map, List.map_map]
  rfl
theorem nodupH_drop {k : Str} {es : List EH} (h : (keysH es).Nodup) : (keysH (es.filter fun e => decide (e.1 ≠ k))).Nodup := h.sublist (List.Sublist.map _ List.filter_sublist)
theorem nodupH_snoc {k : Str} {c : Int} {es : List EH} (h : (keysH es).Nodup) (hk : k ∉ keysH es) : (keysH (es ++ [(k, c)])).Nodup := by
  unfold keysH
  rw [List.map_append, List.nodup_append]
  refine ⟨h, List.nodup_cons.mpr ⟨(fun z => nomatch z), List.nodup_nil⟩, fun a ha b hb => ?_⟩
  rw [List.map_cons, List.map_nil, List.mem_singleton] at hb
  rw [hb]
  exact fun z => hk (by rw [show k = a from z.symm]; exact ha)
/-! sorted entries -/
def encH (e : EH) : PyData := .tuple [.str e.1, .int e.2]
def sortH (es : List EH) : List EH := es.mergeSort (PySem.W.dataLe false encH)
def dvI : V → PyData
  | .int i => .int i
  | _ => .none
theorem sort_kvsH (es : List EH) : (kvsH es).mergeSort (PySem.W.dataLe false (entD dvI)) = kvsH (sortH es) := by
  unfold kvsH sortH
  exact (PySem.W.sort_maps (fun e : EH => ((Sum.inr e.1 : Key), V.int e.2)) fun a _ b _ => rfl).symm
theorem alike_H (es : List EH) : PySem.W.AllAlike ((kvsH es).map (entD dvI)) := by
  have e : (kvsH es).map (entD dvI) = es.map encH := by
    unfold kvsH
    rw [List.map_map]
    rfl
  rw [e]
  exact PySem.W.AllAlike.of fun a b => rfl
theorem dat_H {K : PySem.W.Frag} {H : Hp} {es : List EH} : ∀ e ∈ kvsH es, Dat K H e.2 (dvI e.2) := fun e he => by
  obtain ⟨x, _, rfl⟩ := List.mem_map.mp he
  exact .int _
theorem depth_H {es : List EH} : ∀ e ∈ kvsH es, (entD dvI e).depth ≤ 8 := fun e he => by
  obtain ⟨x, _, rfl⟩ := List.mem_map.mp he
  show (max 0 (max 0 0)) + 1 ≤ 8
  decide
theorem sortH_mem {es : List EH} {e : EH} (h : e ∈ sortH es) : e ∈ es := (List.mergeSort_perm _ _).mem_iff.mp h
theorem sortH_len (es : List EH) : (sortH es).length = es.length := List.length_mergeSort ..
/-! ### keys that are k and a number -/
def keyN (j : Nat) : Str := ("k" : Str) ++ (toString (j : Int) : Str)
theorem keyN_inj {i j : Nat} (h : keyN i = keyN j) : i = j := by
  have h1 : tl (toString (i : Int) : Str) = tl (toString (j : Int) : Str) := by
    have := congrArg tl h
    unfold keyN at this
    rw [tl_append, tl_append] at this
    exact List.append_cancel_left this
  obtain ⟨k, hk, hk1, hk2⟩ : ∃ k, 0 < k ∧ i < 10 ^ k ∧ j < 10 ^ k := by
    refine ⟨i + j + 1, by omega, ?_, ?_⟩
    · exact Nat.lt_of_lt_of_le (Nat.lt_pow_self (by decide : 1 < 10)) (Nat.pow_le_pow_right (by decide) (by omega))
    · exact Nat.lt_of_lt_of_le (Nat.lt_pow_self (by decide : 1 < 10)) (Nat.pow_le_pow_right (by decide) (by omega))
  have a1 := num_back (i := (i : Int)) (k := k) (by omega) hk (by simpa using hk1)
  have a2 := num_back (i := (j : Int)) (k := k) (by omega) hk (by simpa using hk2)
  rw [h1, a2] at a1
  have := Option.some.inj a1
  omega
theorem keyN_new {j : Nat} : ("new" : Str) ≠ keyN j := by
  intro h
  have h1 := congrArg tl h
  unfold keyN at h1
  rw [tl_append] at h1
  have h2 : tl ("new" : Str) = [110, 101, 119] := by decide +kernel
  have h3 : tl ("k" : Str) = [107] := by decide +kernel
  rw [h2, h3] at h1
  cases h1
theorem keyN_len {j : Nat} (h : j < 1000) : (keyN j).length ≤ 4 := by
  unfold keyN
  rw [len_app]
  have h1 : ("k" : Str).length = 1 := rfl
  have h2 : (toString (j : Int) : Str).length ≤ 3 := len_num (by omega) (by decide) (by omega)
  omega
theorem keyN_ok (j : Nat) : PyData.strOk (keyN j) = true := by
  have e : keyN j = stxt (tl (keyN j)) := ext_tl rfl
  rw [e]
  refine strOk_of fun c hc => ?_
  unfold keyN at hc
  rw [tl_append, tl_num' (by omega)] at hc
  rcases List.mem_append.mp hc with h | h
  · have h3 : tl ("k" : Str) = [107] := by decide +kernel
    rw [h3, List.mem_singleton] at h
    omega
  · have := numL_digits _ _ h
    omega
def KeysLt (i : Nat) (zs : List Str) : Prop := ∀ z ∈ zs, ∃ j : Nat, j < i ∧ z = keyN j
theorem KeysLt.up {i : Nat} {zs : List Str} (h : KeysLt i zs) : KeysLt (i + 1) zs := fun z hz => by
  obtain ⟨j, hj, e⟩ := h z hz
  exact ⟨j, by omega, e⟩
theorem KeysLt.fresh {i : Nat} {zs : List Str} (h : KeysLt i zs) : keyN i ∉ zs := fun hz => by
  obtain ⟨j, hj, e⟩ := h _ hz
  have := keyN_inj e
  omega
theorem KeysLt.new {i : Nat} {zs : List Str} (h : KeysLt i zs) : ("new" : Str) ∉ zs := fun hz => by
  obtain ⟨j, _, e⟩ := h _ hz
  exact keyN_new e
theorem KeysLt.snoc {i : Nat} {zs : List Str} (h : KeysLt i zs) : KeysLt (i + 1) (zs ++ [keyN i]) := fun z hz => by
  rcases List.mem_append.mp hz with hz | hz
  · exact h.up z hz
  · rw [List.mem_singleton] at hz
    exact ⟨i, by omega, hz⟩
theorem KeysLt.sub {i : Nat} {zs ys : List Str} (h : KeysLt i zs) (hs : ∀ y ∈ ys, y ∈ zs) : KeysLt i ys := fun y hy => h y (hs y hy)
/-! ### what is held -/
def keyR (x : Addr × R4) : Str := x.2.2.2.2
def keptH (gs : List Str) (xs : List (Addr × R4)) (gone : List Str) : List (Addr × R4) := (seenG gs xs).filter fun x => decide (keyR x ∉ gone)
def heldE (gs : List Str) (xs : List (Addr × R4)) (gone : List Str) : List EH := (keptH gs xs gone).map fun x => (keyR x, x.2.2.2.1)
def okH (s : Int) (gs : List Str) (xs : List (Addr × R4)) (gone : List Str) : Bool := decide (sumH (heldE gs xs gone) ≤ s)
section
variable {gs gone : List Str} {xs : List (Addr × R4)} {s : Int}
theorem heldE_snoc {t : Addr} {mo c : Int} {g z : Str} (hs : seesG gs g = true) (hz : z ∉ gone) : heldE gs (xs ++ [(t, (mo, g, c, z))]) gone = heldE gs xs gone ++ [(z, c)] := by
  unfold heldE keptH seenG
  rw [List.filter_append, List.filter_cons_of_pos (p := fun x : Addr × R4 => seesG gs x.2.2.1) (a := (t, (mo, g, c, z))) hs, List.filter_append, List.map_append]
  congr 1
  rw [List.filter_nil, List.filter_cons_of_pos (p := fun x : Addr × R4 => decide (keyR x ∉ gone)) (a := (t, (mo, g, c, z))) (decide_eq_true hz)]
  rfl
theorem heldE_skip {t : Addr} {r : R4} (hs : seesG gs r.2.1 = false) : heldE gs (xs ++ [(t, r)]) gone = heldE gs xs gone := by
  unfold heldE keptH seenG
  rw [List.filter_append, List.filter_cons_of_neg (p := fun x : Addr × R4 => seesG gs x.2.2.1) (a := (t, r)) (by show ¬ seesG gs r.2.1 = true; rw [hs]; decide)]
  simp
theorem heldE_gone (k : Str) : heldE gs xs (gone ++ [k]) = (heldE gs xs gone).filter fun e => decide (e.1 ≠ k) := by
  unfold heldE keptH
  rw [List.filter_map, List.filter_filter]
  congr 1
  apply List.filter_congr
  intro x _
  show decide (keyR x ∉ gone ++ [k]) = (decide (keyR x ≠ k) && decide (keyR x ∉ gone))
  rw [Bool.eq_iff_iff, Bool.and_eq_true, decide_eq_true_eq, decide_eq_true_eq, decide_eq_true_eq, List.mem_append, List.mem_singleton]
  constructor
  · exact fun h => ⟨fun z => h (.inr z), fun z => h (.inl z)⟩
  · rintro ⟨h1, h2⟩ (h | h)
    · exact h2 h
    · exact h1 h
theorem held_mem (k : Str) : k ∈ keysH (heldE gs xs gone) ↔ k ∉ gone ∧ k ∈ (seenG gs xs).map keyR := by
  unfold keysH heldE keptH
  rw [List.map_map]
  constructor
  · intro h
    obtain ⟨x, hx, rfl⟩ := List.mem_map.mp h
    obtain ⟨h1, h2⟩ := List.mem_filter.mp hx
    exact ⟨of_decide_eq_true h2, List.mem_map_of_mem h1⟩
  · rintro ⟨h1, h2⟩
    obtain ⟨x, hx, rfl⟩ := List.mem_map.mp h2
    exact List.mem_map.mpr ⟨x, List.mem_filter.mpr ⟨hx, decide_eq_true h1⟩, rfl⟩
theorem held_keys {z : Str} (h : z ∈ keysH (heldE gs xs gone)) : z ∈ xs.map keyR := by
  obtain ⟨_, h2⟩ := (held_mem z).mp h
  obtain ⟨x, hx, e⟩ := List.mem_map.mp h2
  exact List.mem_map.mpr ⟨x, (List.mem_filter.mp hx).1, e⟩
theorem held_nodup (h : (xs.map keyR).Nodup) : (keysH (heldE gs xs gone)).Nodup := by
  unfold keysH heldE keptH
  rw [List.map_map]
  exact h.sublist (List.Sublist.map _ (List.filter_sublist.trans List.filter_sublist))
theorem held_len : (heldE gs xs gone).length ≤ xs.length := by
  unfold heldE keptH seenG
  rw [List.length_map]
  exact Nat.le_trans (List.length_filter_le _ _) (List.length_filter_le _ _)
/-- the room that is due -/
def roomH (s : Int) (gs : List Str) (es : List EH) (g : Str) (c : Int) : Bool := !seesG gs g || decide (sumH es + c ≤ s)
theorem okH_snoc {t : Addr} {mo c : Int} {g z : Str} (hs : seesG gs g = true) (hz : z ∉ gone) : okH s gs (xs ++ [(t, (mo, g, c, z))]) gone = decide (sumH (heldE gs xs gone) + c ≤ s) := by
  unfold okH
  rw [heldE_snoc hs hz, sumH_snoc]
theorem okH_room {t : Addr} {mo c : Int} {g z : Str} (hz : z ∉ gone) (h : seesG gs g = true) : okH s gs (xs ++ [(t, (mo, g, c, z))]) gone = roomH s gs (heldE gs xs gone) g c := by
  rw [okH_snoc h hz]
  unfold roomH
  rw [h]
  rfl
theorem room_skip {es : List EH} {g : Str} {c : Int} (h : seesG gs g = false) : roomH s gs es g c = true := by
  unfold roomH
  rw [h]
  rfl
end
/-! ### limits of one number -/
def LimH (K : PySem.W.Frag) (H : Hp) (p : Addr) (nm : Str) (gs : List Str) (s : Int) : Prop := ∃ g n, SqT K H p [.str nm, .str "held", .ref g, .ref n] ∧ SqT K H g (gs.map V.str) ∧ SqT K H n [.int s]
/-- what stands, but the objects at m and at d -/
def ExD (m d : Addr) (H H' : Hp) : Prop := ∀ b o, b ≠ m → b ≠ d → H b = some o → H' b = some o
theorem ExD.of {m d : Addr} {H H' : Hp} (e : Ex H H') : ExD m d H H' := fun b o _ _ h => e b o h
theorem ExD.trans {m d : Addr} {H H' H2 : Hp} (e : ExD m d H H') (e2 : ExD m d H' H2) : ExD m d H H2 := fun b o h1 h2 h => e2 b o h1 h2 (e b o h1 h2 h)
theorem ExD.upM {m d : Addr} {H H' : Hp} {o : HO} (e : ExD m d H H') : ExD m d H (L2.upd H' m o) := fun b o h1 h2 h => by rw [upd_ne h1]; exact e b o h1 h2 h
theorem ExD.upD {m d : Addr} {H H' : Hp} {o : HO} (e : ExD m d H H') : ExD m d H (L2.upd H' d o) := fun b o h1 h2 h => by rw [upd_ne h2]; exact e b o h1 h2 h
theorem ExD.mut {m d q : Addr} {H H' : Hp} {o : HO} (e : ExD m d H H') (h : H q = none) : ExD m d H (L2.upd H' q o) := fun b u h1 h2 hu => by
  rw [upd_ne (fun z => by rw [z, h] at hu; cases hu)]
  exact e b u h1 h2 hu
theorem ExD.free {m d q : Addr} {H H' : Hp} (e : ExD m d H H') (h1 : q ≠ m) (h2 : q ≠ d) (h : H' q = none) : H q = none := by
  cases hq : H q with
  | none => rfl
  | some o => rw [e q o h1 h2 hq] at h; cases h
theorem ex_of_exD {H H1 H2 : Hp} {m d : Addr} (e : Ex H H1) (hm : H m = none) (hd : H d = none) (e2 : ExD m d H1 H2) : Ex H H2 := fun b o h => e2 b o (fun z => by rw [z, hm] at h; cases h) (fun z => by rw [z, hd] at h; cases h) (e b o h)
def flD (lim : Addr) (s : Int) (d : Addr) (u : Int) : List (Str × V) := [("limit", .ref lim), ("_most", .int s), ("_costs", .ref d), ("_used", .int u)]
theorem flD_1 (lim : Addr) (s : Int) (d : Addr) (u : Int) : (flD lim s d u).lookup ("limit" : Str) = some (.ref lim) := rfl
theorem flD_2 (lim : Addr) (s : Int) (d : Addr) (u : Int) : (flD lim s d u).lookup ("_most" : Str) = some (.int s) := rfl
theorem flD_3 (lim : Addr) (s : Int) (d : Addr) (u : Int) : (flD lim s d u).lookup ("_costs" : Str) = some (.ref d) := rfl
theorem flD_4 (lim : Addr) (s : Int) (d : Addr) (u : Int) : (flD lim s d u).lookup ("_used" : Str) = some (.int u) := rfl
theorem flD_set (lim : Addr) (s : Int) (d : Addr) (u v : Int) : putF "_used" (.int v) (flD lim s d u) = flD lim s d v := by
  unfold flD
  rw [putF_miss (by decide +kernel), putF_miss (by decide +kernel), putF_miss (by decide +kernel), putF_hit]
theorem flD_new (lim : Addr) (s : Int) (d : Addr) (u : Int) : putF "_used" (.int u) (putF "_costs" (.ref d) (putF "_most" (.int s) (putF "limit" (.ref lim) []))) = flD lim s d u := by
  have a1 : putF "limit" (.ref lim) [] = [(("limit" : Str), V.ref lim)] := rfl
  have a2 : putF "_most" (.int s) [(("limit" : Str), V.ref lim)] = [(("limit" : Str), V.ref lim), ("_most", .int s)] := by
    rw [putF_miss (by decide +kernel)]; rfl
  have a3 : putF "_costs" (.ref d) [(("limit" : Str), V.ref lim), ("_most", .int s)] = [(("limit" : Str), V.ref lim), ("_most", .int s), ("_costs", .ref d)] := by
    rw [putF_miss (by decide +kernel), putF_miss (by decide +kernel)]; rfl
  rw [a1, a2, a3, putF_miss (by decide +kernel), putF_miss (by decide +kernel), putF_miss (by decide +kernel)]
  rfl
/-- the meter -/
structure MAt (H : Hp) (C m dx p : Addr) (s : Int) (d : Addr) (es : List EH) : Prop where
  hm : H m = some (.ins C dx (flD p s d (sumH es)))
  hd : H d = some (.dK (kvsH es))
section
variable {K : PySem.W.Frag} {H H' : Hp} {C m dx p d : Addr} {s : Int} {es : List EH} {nm : Str} {gs : List Str}
theorem MAt.mono (M : MAt H C m dx p s d es) (e : Ex H H') : MAt H' C m dx p s d es := ⟨ex_at e M.hm, ex_at e M.hd⟩
theorem MAt.ne (M : MAt H C m dx p s d es) : m ≠ d := fun z => by have := M.hm; rw [z, M.hd] at this; cases this
theorem MAt.sqT {q : Addr} {vs : List V} (M : MAt H C m dx p s d es) (e : ExD m d H H') (h : SqT K H q vs) : SqT K H' q vs := by
  rcases h with (h | ⟨o, h⟩) | h
  · exact .inl (.inl (e q _ (fun z => by rw [z, M.hm] at h; cases h) (fun z => by rw [z, M.hd] at h; cases h) h))
  · exact .inl (.inr ⟨o, e q _ (fun z => by rw [z, M.hm] at h; cases h) (fun z => by rw [z, M.hd] at h; cases h) h⟩)
  · exact .inr h
theorem MAt.sqL {q : Addr} {vs : List V} (M : MAt H C m dx p s d es) (e : ExD m d H H') (h : SqL K H q vs) : SqL K H' q vs := by
  rcases h with (h | ⟨o, h⟩) | h
  · exact .inl (.inl (e q _ (fun z => by rw [z, M.hm] at h; cases h) (fun z => by rw [z, M.hd] at h; cases h) h))
  · exact .inl (.inr ⟨o, e q _ (fun z => by rw [z, M.hm] at h; cases h) (fun z => by rw [z, M.hd] at h; cases h) h⟩)
  · exact .inr h
theorem MAt.lst {q : Addr} {vs : List V} (M : MAt H C m dx p s d es) (e : ExD m d H H') (h : H q = some (.lst vs)) : H' q = some (.lst vs) := e q _ (fun z => by rw [z, M.hm] at h; cases h) (fun z => by rw [z, M.hd] at h; cases h) h
theorem MAt.dK {q : Addr} {vs : List (Key × V)} (M : MAt H C m dx p s d es) (e : ExD m d H H') (hq : q ≠ d) (h : H q = some (.dK vs)) : H' q = some (.dK vs) := e q _ (fun z => by rw [z, M.hm] at h; cases h) hq h
theorem LimH.mono {q : Addr} (h : LimH K H q nm gs s) (e : Ex H H') : LimH K H' q nm gs s := by
  obtain ⟨g, n, h1, h2, h3⟩ := h
  exact ⟨g, n, ex_sqT e h1, ex_sqT e h2, ex_sqT e h3⟩
theorem LimH.exP {q : Addr} {fs : List (Str × V)} (h : LimH K H q nm gs s) (hm : H m = some (.ins C dx fs)) (e : ExP m H H') : LimH K H' q nm gs s := by
  obtain ⟨g, n, h1, h2, h3⟩ := h
  exact ⟨g, n, exP_sqT hm e h1, exP_sqT hm e h2, exP_sqT hm e h3⟩
theorem LimH.exD {q : Addr} {s2 : Int} (h : LimH K H q nm gs s2) (M : MAt H C m dx p s d es) (e : ExD m d H H') : LimH K H' q nm gs s2 := by
  obtain ⟨g, n, h1, h2, h3⟩ := h
  exact ⟨g, n, M.sqT e h1, M.sqT e h2, M.sqT e h3⟩
theorem LimH.lst {q pl : Addr} {ys : List V} {o : HO} (h : LimH K H q nm gs s) (hA : H pl = some (.lst ys)) : LimH K (upd H pl o) q nm gs s := by
  obtain ⟨g, n, h1, h2, h3⟩ := h
  exact ⟨g, n, sqT_lst hA h1, sqT_lst hA h2, sqT_lst hA h3⟩
end
def limHD (nm : Str) (gs : List Str) (s : Int) : PyData := .tuple [.str nm, .str "held", .tuple (gs.map PyData.str), .tuple [.int s]]
theorem dp_limH {K : PySem.W.Frag} {H : Hp} {p : Addr} {nm : Str} {gs : List Str} {s : Int} (h : LimH K H p nm gs s) : Dp K H (.ref p) (limHD nm gs s) := by
  obtain ⟨g, n, h1, h2, h3⟩ := h
  exact .tup h1 (.cons (.str _) (.cons (.str _) (.cons (dp_strsT h2) (.cons (.tup h3 (.cons (.int s) .nil)) .nil))))
theorem limH_shaped {nm : Str} {gs : List Str} {s : Int} (hn : PyData.strOk nm = true) (h : ∀ g ∈ gs, PyData.strOk g = true) : SeqAt.shaped (limHD nm gs s) = true := by
  obtain ⟨h1, h2⟩ := strs_shaped h
  show ((PyData.strOk nm && (PyData.strOk "held" && (PyData.canLayAll0 (gs.map PyData.str) && ((true && true) && true)))) && decide (max 0 (max 0 (max (PyData.depthAll (gs.map PyData.str) + 1) (max (max 0 0 + 1) 0))) + 1 ≤ 64)) = true
  rw [h1, h2, hn, show PyData.strOk "held" = true by decide +kernel]
  rfl
/-! ### tuples of entries as data -/
def rowsHD (es : List EH) : PyData := .tuple (es.map encH)
theorem dpa_H {K : PySem.W.Frag} {H : Hp} : ∀ {ps : List (Addr × (Key × V))} {es : List EH}, ps.map (·.2) = kvsH es → (∀ z ∈ ps, H z.1 = some (.tup [kV z.2.1, z.2.2])) → DpAll K H (ps.map fun z => V.ref z.1) (es.map encH)
  | [], [], _, _ => .nil
  | [], _ :: _, h, _ => nomatch h
  | _ :: _, [], h, _ => nomatch h
  | z :: ps, e :: es, h, q => by
    have h1 := (List.cons.inj h).1
    have hz := q z List.mem_cons_self
    have h1' : z.2 = (Sum.inr e.1, V.int e.2) := h1
    rw [h1'] at hz
    exact .cons (.tup (.inl (.inl hz)) (.cons (.str _) (.cons (.int _) .nil))) (dpa_H (List.cons.inj h).2 fun y hy => q y (List.mem_cons_of_mem _ hy))
theorem rowsH_shaped : ∀ {es : List EH}, (∀ e ∈ es, PyData.strOk e.1 = true) → PyData.canLayAll0 (es.map encH) = true ∧ PyData.depthAll (es.map encH) ≤ 1
  | [], _ => ⟨rfl, Nat.zero_le _⟩
  | e :: es, h => by
    obtain ⟨h1, h2⟩ := rowsH_shaped (es := es) fun x hx => h x (List.mem_cons_of_mem _ hx)
    refine ⟨?_, ?_⟩
    · show ((PyData.strOk e.1 && (true && true)) && PyData.canLayAll0 (es.map encH)) = true
      rw [h e List.mem_cons_self, h1]
      rfl
    · show max (max 0 (max 0 0) + 1) (PyData.depthAll (es.map encH)) ≤ 1
      exact Nat.max_le.mpr ⟨by decide, h2⟩
theorem rowsHD_shaped {es : List EH} (h : ∀ e ∈ es, PyData.strOk e.1 = true) : SeqAt.shaped (rowsHD es) = true := by
  obtain ⟨h1, h2⟩ := rowsH_shaped h
  show (PyData.canLayAll0 (es.map encH) && decide (PyData.depthAll (es.map encH) + 1 ≤ 64)) = true
  rw [h1, decide_eq_true (by omega)]
  rfl
/-! ### the walk's state -/
structure WStH (K : PySem.W.Frag) (C m dx p l d : Addr) (ns : List Int) (gs : List Str) (s : Int) (pl pg : Addr) (es : List EH) (xs : List (Addr × R4)) (gone : List Str) (H : Hp) : Prop where
  M : MAt H C m dx p s d es
  hL : LimH K H p "held1" gs s
  hS : SqL K H l (ns.map V.int)
  hA : H pl = some (.lst (xs.map fun x => V.ref x.1))
  hG : H pg = some (.lst (gone.map V.str))
  hR : RowsG K H xs
section
variable {K : PySem.W.Frag} {C m dx p l d : Addr} {ns : List Int} {gs : List Str} {s : Int} {pl pg : Addr} {es es2 : List EH} {xs : List (Addr × R4)} {gone : List Str} {H H' : Hp}
theorem WStH.mono (w : WStH K C m dx p l d ns gs s pl pg es xs gone H) (e : Ex H H') : WStH K C m dx p l d ns gs s pl pg es xs gone H' :=
  ⟨w.M.mono e, w.hL.mono e, ex_sqL e w.hS, ex_at e w.hA, ex_at e w.hG, w.hR.mono e⟩
theorem WStH.exD (w : WStH K C m dx p l d ns gs s pl pg es xs gone H) (e : ExD m d H H') (h : MAt H' C m dx p s d es2) : WStH K C m dx p l d ns gs s pl pg es2 xs gone H' :=
  ⟨h, w.hL.exD w.M e, w.M.sqL e w.hS, w.M.lst e w.hA, w.M.lst e w.hG, fun x hx => w.M.sqT e (w.hR x hx)⟩
theorem MAt.lstU {q : Addr} {ys : List V} {o : HO} (M : MAt H C m dx p s d es) (hA : H q = some (.lst ys)) : MAt (upd H q o) C m dx p s d es :=
  ⟨by rw [upd_ne (fun z => by have := M.hm; rw [z, hA] at this; cases this)]; exact M.hm, by rw [upd_ne (fun z => by have := M.hd; rw [z, hA] at this; cases this)]; exact M.hd⟩
theorem WStH.app {x : Addr × R4} (w : WStH K C m dx p l d ns gs s pl pg es xs gone H) (hne : pg ≠ pl) (hx : SqT K H x.1 x.2.vs) (hS2 : SqL K (upd H pl (.lst ((xs.map fun x => V.ref x.1) ++ [.ref x.1]))) l (ns.map V.int)) :
    WStH K C m dx p l d ns gs s pl pg es (xs ++ [x]) gone (upd H pl (.lst ((xs.map fun x => V.ref x.1) ++ [.ref x.1]))) := by
  refine ⟨w.M.lstU w.hA, w.hL.lst w.hA, hS2, by rw [upd_same, List.map_append]; rfl, by rw [upd_ne hne]; exact w.hG, fun y hy => ?_⟩
  rcases List.mem_append.mp hy with hy | hy
  · exact sqT_lst w.hA (w.hR y hy)
  · rw [List.mem_singleton] at hy
    rw [hy]
    exact sqT_lst w.hA hx
theorem WStH.gone' {z : Str} (w : WStH K C m dx p l d ns gs s pl pg es xs gone H) (hne : pg ≠ pl) (hS2 : SqL K (upd H pg (.lst (gone.map V.str ++ [.str z]))) l (ns.map V.int)) :
    WStH K C m dx p l d ns gs s pl pg es xs (gone ++ [z]) (upd H pg (.lst (gone.map V.str ++ [.str z]))) :=
  ⟨w.M.lstU w.hG, w.hL.lst w.hG, hS2, by rw [upd_ne (Ne.symm hne)]; exact w.hA, by rw [upd_same, List.map_append]; rfl, fun y hy => sqT_lst w.hG (w.hR y hy)⟩
end
/-- b and k: both ways to the one value k -/
theorem w_andB {te : TE} {σ : L2.St} {H : Hp} {Q : VK} {b : Bool} (k : Bool) (h1 : b = true → ∀ R : VK, (∀ H', Ex H H' → R (.bl k) H') → te σ H R) (h0 : b = false → k = false) (hk : ∀ H', Ex H H' → Q (.bl k) H') : if b = true then te σ H Q else Q (.bl false) H := by
  cases b with
  | true => rw [if_pos rfl]; exact h1 rfl Q hk
  | false =>
    rw [if_neg (by decide)]
    have := hk H (Evl.Ex.refl _)
    rw [h0 rfl] at this
    exact this
/-- the state of the many requests -/
structure MSH (K : PySem.W.Frag) (H : Hp) (C m dx p : Addr) (s : Int) (d hd : Addr) (es : List EH) : Prop where
  M : MAt H C m dx p s d es
  hL : LimH K H p "many" [] s
  hH : H hd = some (.dK (kvsH es))
  ne : hd ≠ d
section
variable {K : PySem.W.Frag} {H H' : Hp} {C m dx p d hd : Addr} {s : Int} {es es2 : List EH}
theorem MSH.mono (w : MSH K H C m dx p s d hd es) (e : Ex H H') : MSH K H' C m dx p s d hd es := ⟨w.M.mono e, w.hL.mono e, ex_at e w.hH, w.ne⟩
/-- the meter has moved on; now the other dict does -/
theorem MSH.step (w : MSH K H C m dx p s d hd es) (e : ExD m d H H') (M2 : MAt H' C m dx p s d es2) : MSH K (upd H' hd (.dK (kvsH es2))) C m dx p s d hd es2 := by
  have h2 := w.M.dK e w.ne w.hH
  refine ⟨⟨by rw [upd_ne (fun z => by have := M2.hm; rw [z, h2] at this; cases this)]; exact M2.hm, by rw [upd_ne (Ne.symm w.ne)]; exact M2.hd⟩, ?_, upd_same, w.ne⟩
  obtain ⟨g, n, h3, h4, h5⟩ := w.hL.exD w.M e
  exact ⟨g, n, sqT_updD h2 h3, sqT_updD h2 h4, sqT_updD h2 h5⟩
theorem MSH.same (w : MSH K H C m dx p s d hd es) (e : ExD m d H H') (M2 : MAt H' C m dx p s d es) : MSH K H' C m dx p s d hd es := ⟨M2, w.hL.exD w.M e, w.M.dK e w.ne w.hH, w.ne⟩
end
theorem kvsH_len {es : List EH} (h : es.length ≤ 1000) : (kvsH es).length < sizeLine := by
  unfold kvsH
  rw [List.length_map, sizeLine_eq]
  omega
/-! ### steps: a value or another one, d[k], dict comprehensions, comprehensions over items, new tuples in a comprehension -/
section
variable {X : Cx} {K : PySem.W.Frag} {H : Hp} {Q : VK} {σ : L2.St}
theorem pe_orTK {a b : Expr} {rest : List Expr} {pos : Pos} {ta tb : TE} (h : X.K = K) (ha : PE X a ta) (hb : PE X (.BoolOp .Or (b :: rest) pos) tb) : PE X (.BoolOp .Or (a :: b :: rest) pos) (tOrT K ta tb) := by subst h; exact pe_orT ha hb
theorem g_orT {ta tb : TE} (q : ta σ H fun x H1 => ∃ k, TruV K x H1 k ∧ if k = true then Q x H1 else tb σ H1 Q) : tOrT K ta tb σ H Q := q
theorem g_truT {H : Hp} {R : Bool → Prop} {p : Addr} {xs : List V} (h : SqT K H p xs) (q : R (!xs.isEmpty)) : ∃ k, TruV K (.ref p) H k ∧ R k := ⟨_, .inr (.inl ⟨xs, h, rfl⟩), q⟩
def rDGet : V → V → Hp → VK → Prop := fun x y H2 Q => ∃ a v, x = .ref a ∧ DGet H2 a y (some v) ∧ Q v H2
theorem g_dget {td ty : TE} (q : td σ H fun x H1 => ty σ H1 fun y H2 => rDGet x y H2 Q) : tDGet td ty σ H Q := q
theorem g_dgetS {a : Addr} {kvs : List (Key × V)} {z : Str} {v : V} (h : H a = some (.dK kvs)) (hv : valV kvs (Sum.inr z) = some v) (q : Q v H) : rDGet (.ref a) (.str z) H Q := ⟨a, v, rfl, by rw [← hv]; exact DGet.k (k := Sum.inr z) h, q⟩
/-- a comprehension's elements, new objects: what they are (W b), of the i-th turn b i -/
theorem lc_new {J : It} {n : Nat} {G : Hp → Prop} {Y : Nat → Hp → V → Hp → Prop} {vs : List Nat} {g : TG} {te : TE} {β : Type} (w : Walk J n G Y) (b : Nat → β) (W : β → V → Hp → Prop) (hWe : ∀ c x H H', W c x H → Ex H H' → W c x H') (hWu : ∀ c x H D acc o, W c x H → H D = some (.lst acc) → W c x (upd H D o))
    (hn : n < sizeLine) (hG : ∀ H', Ex H H' → G H') (hy : ∀ i H1 x H2, Y i H1 x H2 → Ex H1 H2)
    (hs : ∀ i x H1 H2, i < n → Ex H H1 → Y i H1 x H2 → ∀ R : VK, (∀ y H3, Ex H2 H3 → W (b i) y H3 → R y H3) → g x (wipe σ vs) H2 fun σ2 H3 => wipe σ2 vs = wipe σ vs ∧ te σ2 H3 R)
    (hq : ∀ p H' (ys : List (V × β)), H p = none → Ex H H' → H' p = some (.lst (ys.map (·.1))) → ys.map (·.2) = (List.range n).map b → (∀ z ∈ ys, W z.2 z.1 H') → Q (.ref p) H') : LcOk J g tYes te vs Q σ H := by
  intro D hD
  refine lc_it w (fun i H' => Ex H H' ∧ ∃ ys : List (V × β), H' D = some (.lst (ys.map (·.1))) ∧ ys.map (·.2) = (List.range i).map b ∧ ∀ z ∈ ys, W z.2 z.1 H') ⟨Evl.Ex.new hD, [], upd_same, rfl, (fun z hz => nomatch hz)⟩ (fun i H' _ h => hG H' h.1) (fun i x H1 H2 hi hP hY => ?_) (fun H' h => ?_)
  · obtain ⟨hE, ys, hL, hm, hW⟩ := hP
    have e2 := hy i H1 x H2 hY
    have key := hs i x H1 H2 hi hE hY (fun y H4 => ∃ acc, H4 D = some (.lst acc) ∧ acc.length < sizeLine ∧ (Ex H (upd H4 D (.lst (acc ++ [y]))) ∧ ∃ ys : List (V × β), (upd H4 D (.lst (acc ++ [y]))) D = some (.lst (ys.map (·.1))) ∧ ys.map (·.2) = (List.range (i + 1)).map b ∧ ∀ z ∈ ys, W z.2 z.1 (upd H4 D (.lst (acc ++ [y]))))) fun y H3 e3 hw => by
      have hL3 := e3 _ _ (e2 _ _ hL)
      have hlen : ys.length = i := by
        have := congrArg List.length hm
        rw [List.length_map, List.length_map, List.length_range] at this
        exact this
      refine ⟨ys.map (·.1), hL3, by rw [List.length_map, hlen]; omega, Evl.Ex.mut (hE.trans (e2.trans e3)) hD, ys ++ [(y, b i)], by rw [upd_same, List.map_append]; rfl, by rw [List.map_append, hm, List.range_succ, List.map_append]; rfl, fun z hz => ?_⟩
      rcases List.mem_append.mp hz with hz | hz
      · exact hWu _ _ _ _ _ _ (hWe _ _ _ _ (hW z hz) (e2.trans e3)) hL3
      · rw [List.mem_singleton] at hz
        rw [hz]
        exact hWu _ _ _ _ _ _ hw hL3
    exact key
  · obtain ⟨hE, ys, hL, hm, hW⟩ := h
    exact hq D H' ys hD hE hL hm hW
end
/-! ### pools: plain law -/
abbrev S3 : Type := Str × Int × Int
abbrev E3 : Type := Str × Str × Int
def kvsG {α : Type} (key : α → Str) (val : α → V) (es : List α) : List (Key × V) := es.map fun e => (Sum.inr (key e), val e)
section
variable {α : Type} {key : α → Str} {val : α → V} {k : Str} {es : List α}
theorem valG_none : ∀ {es : List α}, k ∉ es.map key → valV (kvsG key val es) (Sum.inr k) = none
  | [], _ => rfl
  | e :: es, h => by
    have h1 : ¬ key e = k := fun z => h (by rw [← z]; exact List.mem_cons_self)
    have h2 : k ∉ es.map key := fun z => h (List.mem_cons_of_mem _ z)
    show valV (((Sum.inr (key e) : Key), val e) :: kvsG key val es) (Sum.inr k) = none
    rw [valV_neg (fun z => h1 (Sum.inr.inj z))]
    exact valG_none h2
theorem valG_some : ∀ {es : List α}, k ∈ es.map key → ∃ e, e ∈ es ∧ key e = k ∧ valV (kvsG key val es) (Sum.inr k) = some (val e)
  | [], h => nomatch h
  | e :: es, h => by
    by_cases h1 : key e = k
    · refine ⟨e, List.mem_cons_self, h1, ?_⟩
      show valV (((Sum.inr (key e) : Key), val e) :: kvsG key val es) (Sum.inr k) = _
      rw [valV_pos (by rw [h1])]
    · have h2 : k ∈ es.map key := by
        rcases List.mem_cons.mp h with z | z
        · exact absurd z.symm h1
        · exact z
      obtain ⟨x, x1, x2, x3⟩ := valG_some h2
      refine ⟨x, List.mem_cons_of_mem _ x1, x2, ?_⟩
      show valV (((Sum.inr (key e) : Key), val e) :: kvsG key val es) (Sum.inr k) = _
      rw [valV_neg (fun z => h1 (Sum.inr.inj z))]
      exact x3
theorem valG_is : (valV (kvsG key val es) (Sum.inr k)).isSome = decide (k ∈ es.map key) := by
  by_cases h : k ∈ es.map key
  · obtain ⟨e, _, _, c1⟩ := valG_some (val := val) h
    rw [c1, decide_eq_true h]
    rfl
  · rw [valG_none h, decide_eq_false h]
    rfl
theorem putG {e : α} (h : key e ∉ es.map key) : putK (kvsG key val es) (Sum.inr (key e)) (val e) = kvsG key val (es ++ [e]) := by
  unfold putK
  rw [valV_any, valG_none h]
  show (if false = true then _ else _) = _
  rw [if_neg (by decide)]
  unfold kvsG
  rw [List.map_append]
  rfl
theorem dropG (k : Str) (es : List α) : dropK (kvsG key val es) (Sum.inr k) = kvsG key val (es.filter fun e => decide (key e ≠ k)) := by
  unfold dropK kvsG
  rw [List.filter_map]
  congr 1
  apply List.filter_congr
  intro e _
  show decide ((Sum.inr (key e) : Key) ≠ Sum.inr k) = decide (key e ≠ k)
  rw [Bool.eq_iff_iff, decide_eq_true_eq, decide_eq_true_eq]
  exact ⟨fun z w => z (by rw [w]), fun z w => z (Sum.inr.inj w)⟩
theorem kvsG_len (h : es.length ≤ 1000) : (kvsG key val es).length < sizeLine := by
  unfold kvsG
  rw [List.length_map, sizeLine_eq]
  omega
end
/-- what a group uses -/
def useP (es : List E3) (n : Str) : Int := ((es.filter fun e => decide (e.2.1 = n)).map (·.2.2)).sum
theorem useP_cons (e : E3) (es : List E3) (n : Str) : useP (e :: es) n = (if e.2.1 = n then e.2.2 else 0) + useP es n := by
  unfold useP
  by_cases h : e.2.1 = n
  · rw [List.filter_cons_of_pos (by simp [h]), if_pos h]
    rfl
  · rw [List.filter_cons_of_neg (by simp [h]), if_neg h, Int.zero_add]
theorem useP_snoc (es : List E3) (e : E3) (n : Str) : useP (es ++ [e]) n = useP es n + if e.2.1 = n then e.2.2 else 0 := by
  induction es with
  | nil =>
    show useP [e] n = 0 + _
    rw [useP_cons, Int.zero_add]
    show _ + 0 = _
    rw [Int.add_zero]
  | cons x es ih =>
    rw [List.cons_append, useP_cons, useP_cons, ih]
    omega
theorem useP_drop {k : Str} {e : E3} {n : Str} : ∀ {es : List E3}, e ∈ es → e.1 = k → (es.map (·.1)).Nodup → useP es n = useP (es.filter fun x => decide (x.1 ≠ k)) n + if e.2.1 = n then e.2.2 else 0
  | [], h, _, _ => nomatch h
  | x :: es, h, hk, hn => by
    have hn2 := List.nodup_cons.mp hn
    by_cases h1 : x.1 = k
    · have ex : e = x := by
        rcases List.mem_cons.mp h with z | z
        · exact z
        · exact absurd (by show x.1 ∈ es.map (·.1); rw [h1, ← hk]; exact List.mem_map_of_mem z) hn2.1
      rw [List.filter_cons_of_neg (by simp [h1])]
      have e2 : (es.filter fun y => decide (y.1 ≠ k)) = es := List.filter_eq_self.mpr fun y hy => decide_eq_true fun z => hn2.1 (by show x.1 ∈ es.map (·.1); rw [h1, ← z]; exact List.mem_map_of_mem hy)
      rw [e2, useP_cons, ex]
      omega
    · have h2 : e ∈ es := by
        rcases List.mem_cons.mp h with z | z
        · exact absurd (by rw [← z]; exact hk) h1
        · exact z
      rw [List.filter_cons_of_pos (by simp [h1]), useP_cons, useP_cons, useP_drop h2 hk hn2.2]
      omega
theorem useP_le {es : List E3} {p : E3 → Bool} {n : Str} (h : ∀ e ∈ es, 0 ≤ e.2.2) : useP (es.filter p) n ≤ useP es n := by
  induction es with
  | nil => exact Int.le_refl _
  | cons x es ih =>
    have ih2 := ih fun e he => h e (List.mem_cons_of_mem _ he)
    have hx := h x List.mem_cons_self
    rw [useP_cons]
    by_cases hp : p x = true
    · rw [List.filter_cons_of_pos hp, useP_cons]
      omega
    · rw [List.filter_cons_of_neg hp]
      split <;> omega
def usesK (sh : List S3) (es : List E3) : List (Key × V) := sh.map fun s => (Sum.inr s.1, V.int (useP es s.1))
theorem uses_val {sh : List S3} {es : List E3} {n : Str} (h : n ∈ sh.map (·.1)) : valV (usesK sh es) (Sum.inr n) = some (.int (useP es n)) := by
  obtain ⟨s, _, s2, s3⟩ := valG_some (key := fun s : S3 => s.1) (val := fun s => V.int (useP es s.1)) h
  rw [s2] at s3
  exact s3
theorem uses_put {sh : List S3} {es es2 : List E3} {g : Str} {v : Int} (hg : g ∈ sh.map (·.1)) (h : ∀ s ∈ sh, useP es2 s.1 = if s.1 = g then v else useP es s.1) : putK (usesK sh es) (Sum.inr g) (.int v) = usesK sh es2 := by
  unfold putK
  rw [valV_any, uses_val hg]
  show (if true = true then _ else _) = _
  rw [if_pos rfl]
  unfold usesK
  rw [List.map_map]
  apply List.map_congr_left
  intro s hs
  show (if (Sum.inr s.1 : Key) = Sum.inr g then ((Sum.inr s.1 : Key), V.int v) else (Sum.inr s.1, V.int (useP es s.1))) = (Sum.inr s.1, V.int (useP es2 s.1))
  rw [h s hs]
  by_cases e : s.1 = g
  · rw [if_pos (by rw [e]), if_pos e]
  · rw [if_neg (fun z => e (Sum.inr.inj z)), if_neg e]
theorem usesK_len {sh : List S3} {es : List E3} (h : sh.length ≤ 8) : (usesK sh es).length < sizeLine := by
  unfold usesK
  rw [List.length_map, sizeLine_eq]
  omega
def posI (x : Int) : Int := if x > 0 then x else 0
def ownP (sh : List S3) : Int := (sh.map (·.2.1)).sum
def borP (sh : List S3) (u : Str → Int) : Int := (sh.map fun s => posI (u s.1 - s.2.1)).sum
def seesP (sh : List S3) (g : Str) : Bool := decide (g ∈ sh.map (·.1))
def shareP (sh : List S3) (g : Str) : Int × Int := match sh.find? fun s => decide (s.1 = g) with
  | some s => s.2
  | none => (0, 0)
def roomP (most : Int) (sh : List S3) (es : List E3) (g : Str) (c : Int) : Bool := !seesP sh g || (!decide (useP es g + c > (shareP sh g).2) && decide (borP sh (fun n => if n = g then useP es n + c else useP es n) ≤ most - ownP sh))
def holdsP (most : Int) (sh : List S3) (es : List E3) : Bool := (sh.all fun s => !decide (useP es s.1 > s.2.2)) && decide (borP sh (useP es) ≤ most - ownP sh)
structure ShOk (sh : List S3) : Prop where
  nd : (sh.map (·.1)).Nodup
  pos : ∀ s ∈ sh, 0 ≤ s.2.1 ∧ s.2.1 ≤ s.2.2
  ok : ∀ s ∈ sh, PyData.strOk s.1 = true
  len : sh.length ≤ 8
def capP (sh : List S3) (es : List E3) : Prop := ∀ s ∈ sh, useP es s.1 ≤ s.2.2
theorem nd_gt {a b : Int} : (!decide (a > b)) = true ↔ a ≤ b := by
  rw [Bool.not_eq_true', decide_eq_false_iff_not]
  omega
theorem share_mem {g : Str} : ∀ {sh : List S3}, (sh.map (·.1)).Nodup → ∀ s ∈ sh, s.1 = g → shareP sh g = s.2
  | [], _, _, h, _ => nomatch h
  | x :: sh, hn, s, h, hg => by
    have hn2 := List.nodup_cons.mp hn
    unfold shareP
    by_cases h1 : x.1 = g
    · have ex : s = x := by
        rcases List.mem_cons.mp h with z | z
        · exact z
        · exact absurd (by show x.1 ∈ sh.map (·.1); rw [h1, ← hg]; exact List.mem_map_of_mem z) hn2.1
      rw [List.find?_cons_of_pos (by simp [h1]), ex]
    · rw [List.find?_cons_of_neg (by simp [h1])]
      rcases List.mem_cons.mp h with z | z
      · exact absurd (by rw [← z]; exact hg) h1
      · exact share_mem hn2.2 s z hg
theorem room_holds {most c : Int} {sh : List S3} {es : List E3} {k g : Str} (ho : ShOk sh) (hc : capP sh es) (hg : seesP sh g = true) : holdsP most sh (es ++ [(k, g, c)]) = roomP most sh es g c := by
  have hgm : g ∈ sh.map (·.1) := of_decide_eq_true hg
  have eu : ∀ n, useP (es ++ [(k, g, c)]) n = if n = g then useP es n + c else useP es n := fun n => by
    rw [useP_snoc]
    show useP es n + (if g = n then c else 0) = _
    by_cases h : n = g
    · rw [if_pos h.symm, if_pos h]
    · rw [if_neg (fun z => h z.symm), if_neg h, Int.add_zero]
  unfold holdsP roomP
  rw [hg]
  show _ = (false || _)
  rw [Bool.false_or, show useP (es ++ [(k, g, c)]) = fun n => if n = g then useP es n + c else useP es n from funext eu]
  congr 1
  obtain ⟨s, hs, es1⟩ := List.mem_map.mp hgm
  rw [share_mem ho.nd s hs es1, Bool.eq_iff_iff, List.all_eq_true]
  constructor
  · intro h
    have h1 : (if s.1 = g then useP es s.1 + c else useP es s.1) ≤ s.2.2 := nd_gt.mp (h s hs)
    rw [es1, if_pos rfl] at h1
    exact nd_gt.mpr h1
  · intro h x hx
    have h1 := nd_gt.mp h
    refine nd_gt.mpr (show (if x.1 = g then useP es x.1 + c else useP es x.1) ≤ x.2.2 from ?_)
    by_cases e : x.1 = g
    · have e2 : x.2 = s.2 := by rw [← share_mem ho.nd x hx e, ← share_mem ho.nd s hs es1]
      rw [if_pos e, e, e2]
      exact h1
    · rw [if_neg e]
      exact hc x hx
theorem holds_cap {most : Int} {sh : List S3} {es : List E3} (h : holdsP most sh es = true) : capP sh es := fun s hs => by
  unfold holdsP at h
  rw [Bool.and_eq_true, List.all_eq_true] at h
  have := h.1 s hs
  rw [Bool.not_eq_true', decide_eq_false_iff_not] at this
  omega
theorem cap_nil {sh : List S3} (ho : ShOk sh) : capP sh [] := fun s hs => by
  have := ho.pos s hs
  show (0 : Int) ≤ _
  omega
theorem cap_drop {sh : List S3} {es : List E3} {p : E3 → Bool} (h : capP sh es) (hp : ∀ e ∈ es, 0 ≤ e.2.2) : capP sh (es.filter p) := fun s hs => Int.le_trans (useP_le hp) (h s hs)
/-! what is held -/
def keyE (e : E3) : Str := e.1
def e3R (x : Addr × R4) : E3 := (keyR x, x.2.2.1, x.2.2.2.1)
def seenP (sh : List S3) (xs : List (Addr × R4)) : List (Addr × R4) := xs.filter fun x => seesP sh x.2.2.1
def heldP (sh : List S3) (xs : List (Addr × R4)) (gone : List Str) : List E3 := ((seenP sh xs).filter fun x => decide (keyR x ∉ gone)).map e3R
section
variable {sh : List S3} {gone : List Str} {xs : List (Addr × R4)}
theorem heldP_snoc {t : Addr} {mo c : Int} {g z : Str} (hs : seesP sh g = true) (hz : z ∉ gone) : heldP sh (xs ++ [(t, (mo, g, c, z))]) gone = heldP sh xs gone ++ [(z, g, c)] := by
  unfold heldP seenP
  rw [List.filter_append, List.filter_cons_of_pos (p := fun x : Addr × R4 => seesP sh x.2.2.1) (a := (t, (mo, g, c, z))) hs, List.filter_append, List.map_append]
  congr 1
  rw [List.filter_nil, List.filter_cons_of_pos (p := fun x : Addr × R4 => decide (keyR x ∉ gone)) (a := (t, (mo, g, c, z))) (decide_eq_true hz)]
  rfl
theorem heldP_skip {t : Addr} {r : R4} (hs : seesP sh r.2.1 = false) : heldP sh (xs ++ [(t, r)]) gone = heldP sh xs gone := by
  unfold heldP seenP
  rw [List.filter_append, List.filter_cons_of_neg (p := fun x : Addr × R4 => seesP sh x.2.2.1) (a := (t, r)) (by show ¬ seesP sh r.2.1 = true; rw [hs]; decide)]
  simp
theorem heldP_gone (k : Str) : heldP sh xs (gone ++ [k]) = (heldP sh xs gone).filter fun e => decide (e.1 ≠ k) := by
  unfold heldP
  rw [List.filter_map, List.filter_filter]
  congr 1
  apply List.filter_congr
  intro x _
  show decide (keyR x ∉ gone ++ [k]) = (decide (keyR x ≠ k) && decide (keyR x ∉ gone))
  rw [Bool.eq_iff_iff, Bool.and_eq_true, decide_eq_true_eq, decide_eq_true_eq, decide_eq_true_eq, List.mem_append, List.mem_singleton]
  constructor
  · exact fun h => ⟨fun z => h (.inr z), fun z => h (.inl z)⟩
  · rintro ⟨h1, h2⟩ (h | h)
    · exact h2 h
    · exact h1 h
theorem heldP_mem (k : Str) : k ∈ (heldP sh xs gone).map keyE ↔ k ∉ gone ∧ k ∈ (seenP sh xs).map keyR := by
  unfold heldP
  rw [List.map_map]
  constructor
  · intro h
    obtain ⟨x, hx, rfl⟩ := List.mem_map.mp h
    obtain ⟨h1, h2⟩ := List.mem_filter.mp hx
    exact ⟨of_decide_eq_true h2, List.mem_map_of_mem h1⟩
  · rintro ⟨h1, h2⟩
    obtain ⟨x, hx, rfl⟩ := List.mem_map.mp h2
    exact List.mem_map.mpr ⟨x, List.mem_filter.mpr ⟨hx, decide_eq_true h1⟩, rfl⟩
theorem heldP_keys {z : Str} (h : z ∈ (heldP sh xs gone).map keyE) : z ∈ xs.map keyR := by
  obtain ⟨_, h2⟩ := (heldP_mem z).mp h
  obtain ⟨x, hx, e⟩ := List.mem_map.mp h2
  exact List.mem_map.mpr ⟨x, (List.mem_filter.mp hx).1, e⟩
theorem heldP_nodup (h : (xs.map keyR).Nodup) : ((heldP sh xs gone).map keyE).Nodup := by
  unfold heldP
  rw [List.map_map]
  exact h.sublist (List.Sublist.map _ (List.filter_sublist.trans List.filter_sublist))
theorem heldP_len : (heldP sh xs gone).length ≤ xs.length := by
  unfold heldP seenP
  rw [List.length_map]
  exact Nat.le_trans (List.length_filter_le _ _) (List.length_filter_le _ _)
theorem dropE_gone {k : Str} {es : List E3} (h : k ∉ es.map keyE) : (es.filter fun e => decide (e.1 ≠ k)) = es := List.filter_eq_self.mpr fun e he => decide_eq_true fun z => h (by rw [← z]; exact List.mem_map_of_mem (f := keyE) he)
theorem roomP_skip {most : Int} {es : List E3} {g : Str} {c : Int} (h : seesP sh g = false) : roomP most sh es g c = true := by
  unfold roomP
  rw [h]
  rfl
end
/-! ### pools: limits and meters in the heap -/
def LimP (K : PySem.W.Frag) (H : Hp) (p : Addr) (nm : Str) (most : Int) (sh : List S3) : Prop := ∃ (g n t : Addr) (ads : List (Addr × S3)), SqT K H p [.str nm, .str "pool", .ref g, .ref n] ∧ SqT K H g [] ∧ SqT K H n [.int most, .ref t] ∧ SqT K H t (ads.map fun x => V.ref x.1) ∧ (∀ x ∈ ads, SqT K H x.1 [.str x.2.1, .int x.2.2.1, .int x.2.2.2]) ∧ ads.map (·.2) = sh ∧ sh.length ≤ 8
def flP (lim dC dU : Addr) : List (Str × V) := [("limit", .ref lim), ("_costs", .ref dC), ("_uses", .ref dU)]
theorem flP_1 (lim dC dU : Addr) : (flP lim dC dU).lookup ("limit" : Str) = some (.ref lim) := rfl
theorem flP_2 (lim dC dU : Addr) : (flP lim dC dU).lookup ("_costs" : Str) = some (.ref dC) := rfl
theorem flP_3 (lim dC dU : Addr) : (flP lim dC dU).lookup ("_uses" : Str) = some (.ref dU) := rfl
theorem flP_new (lim dC dU : Addr) : putF "_uses" (.ref dU) (putF "_costs" (.ref dC) (putF "limit" (.ref lim) [])) = flP lim dC dU := by
  have a1 : putF "limit" (.ref lim) [] = [(("limit" : Str), V.ref lim)] := rfl
  have a2 : putF "_costs" (.ref dC) [(("limit" : Str), V.ref lim)] = [(("limit" : Str), V.ref lim), ("_costs", .ref dC)] := by
    rw [putF_miss (by decide +kernel)]; rfl
  rw [a1, a2, putF_miss (by decide +kernel), putF_miss (by decide +kernel)]
  rfl
def costsK (es : List (Addr × E3)) : List (Key × V) := kvsG (fun x : Addr × E3 => x.2.1) (fun x => V.ref x.1) es
/-- the meter -/
structure MAtP (K : PySem.W.Frag) (H : Hp) (C m dx p dC dU : Addr) (sh : List S3) (es : List E3) : Prop where
  hm : H m = some (.ins C dx (flP p dC dU))
  hc : ∃ ads : List (Addr × E3), ads.map (·.2) = es ∧ H dC = some (.dK (costsK ads)) ∧ ∀ x ∈ ads, SqT K H x.1 [.str x.2.2.1, .int x.2.2.2]
  hu : H dU = some (.dK (usesK sh es))
  ne : dC ≠ dU
  hg : ∀ e ∈ es, e.2.1 ∈ sh.map (·.1)
section
variable {K : PySem.W.Frag} {H H' : Hp} {C m dx p dC dU : Addr} {most : Int} {sh : List S3} {es es2 : List E3} {nm : Str}
theorem MAtP.mono (M : MAtP K H C m dx p dC dU sh es) (e : Ex H H') : MAtP K H' C m dx p dC dU sh es := by
  obtain ⟨ads, h1, h2, h3⟩ := M.hc
  exact ⟨ex_at e M.hm, ⟨ads, h1, ex_at e h2, fun x hx => ex_sqT e (h3 x hx)⟩, ex_at e M.hu, M.ne, M.hg⟩
theorem MAtP.sqT {q : Addr} {vs : List V} (M : MAtP K H C m dx p dC dU sh es) (e : ExD dC dU H H') (h : SqT K H q vs) : SqT K H' q vs := by
  obtain ⟨ads, _, h2, _⟩ := M.hc
  rcases h with (h | ⟨o, h⟩) | h
  · exact .inl (.inl (e q _ (fun z => by rw [z, h2] at h; cases h) (fun z => by rw [z, M.hu] at h; cases h) h))
  · exact .inl (.inr ⟨o, e q _ (fun z => by rw [z, h2] at h; cases h) (fun z => by rw [z, M.hu] at h; cases h) h⟩)
  · exact .inr h
theorem MAtP.sqL {q : Addr} {vs : List V} (M : MAtP K H C m dx p dC dU sh es) (e : ExD dC dU H H') (h : SqL K H q vs) : SqL K H' q vs := by
  obtain ⟨ads, _, h2, _⟩ := M.hc
  rcases h with (h | ⟨o, h⟩) | h
  · exact .inl (.inl (e q _ (fun z => by rw [z, h2] at h; cases h) (fun z => by rw [z, M.hu] at h; cases h) h))
  · exact .inl (.inr ⟨o, e q _ (fun z => by rw [z, h2] at h; cases h) (fun z => by rw [z, M.hu] at h; cases h) h⟩)
  · exact .inr h
theorem MAtP.lst {q : Addr} {vs : List V} (M : MAtP K H C m dx p dC dU sh es) (e : ExD dC dU H H') (h : H q = some (.lst vs)) : H' q = some (.lst vs) := by
  obtain ⟨ads, _, h2, _⟩ := M.hc
  exact e q _ (fun z => by rw [z, h2] at h; cases h) (fun z => by rw [z, M.hu] at h; cases h) h
theorem MAtP.lstU {q : Addr} {ys : List V} {o : HO} (M : MAtP K H C m dx p dC dU sh es) (hA : H q = some (.lst ys)) : MAtP K (upd H q o) C m dx p dC dU sh es := by
  obtain ⟨ads, h1, h2, h3⟩ := M.hc
  exact ⟨by rw [upd_ne (fun z => by have := M.hm; rw [z, hA] at this; cases this)]; exact M.hm, ⟨ads, h1, by rw [upd_ne (fun z => by rw [z, hA] at h2; cases h2)]; exact h2, fun x hx => sqT_lst hA (h3 x hx)⟩, by rw [upd_ne (fun z => by have := M.hu; rw [z, hA] at this; cases this)]; exact M.hu, M.ne, M.hg⟩
theorem LimP.mono {q : Addr} (h : LimP K H q nm most sh) (e : Ex H H') : LimP K H' q nm most sh := by
  obtain ⟨g, n, t, ads, h1, h2, h3, h4, h5, h6⟩ := h
  exact ⟨g, n, t, ads, ex_sqT e h1, ex_sqT e h2, ex_sqT e h3, ex_sqT e h4, fun x hx => ex_sqT e (h5 x hx), h6⟩
theorem LimP.exP {q : Addr} {fs : List (Str × V)} (h : LimP K H q nm most sh) (hm : H m = some (.ins C dx fs)) (e : ExP m H H') : LimP K H' q nm most sh := by
  obtain ⟨g, n, t, ads, h1, h2, h3, h4, h5, h6⟩ := h
  exact ⟨g, n, t, ads, exP_sqT hm e h1, exP_sqT hm e h2, exP_sqT hm e h3, exP_sqT hm e h4, fun x hx => exP_sqT hm e (h5 x hx), h6⟩
theorem LimP.exD {q : Addr} {m2 : Int} {sh2 : List S3} (h : LimP K H q nm m2 sh2) (M : MAtP K H C m dx p dC dU sh es) (e : ExD dC dU H H') : LimP K H' q nm m2 sh2 := by
  obtain ⟨g, n, t, ads, h1, h2, h3, h4, h5, h6⟩ := h
  exact ⟨g, n, t, ads, M.sqT e h1, M.sqT e h2, M.sqT e h3, M.sqT e h4, fun x hx => M.sqT e (h5 x hx), h6⟩
theorem LimP.lst {q pl : Addr} {ys : List V} {o : HO} (h : LimP K H q nm most sh) (hA : H pl = some (.lst ys)) : LimP K (upd H pl o) q nm most sh := by
  obtain ⟨g, n, t, ads, h1, h2, h3, h4, h5, h6⟩ := h
  exact ⟨g, n, t, ads, sqT_lst hA h1, sqT_lst hA h2, sqT_lst hA h3, sqT_lst hA h4, fun x hx => sqT_lst hA (h5 x hx), h6⟩
end
def s3D (s : S3) : PyData := .tuple [.str s.1, .int s.2.1, .int s.2.2]
def limPD (nm : Str) (most : Int) (sh : List S3) : PyData := .tuple [.str nm, .str "pool", .tuple [], .tuple [.int most, .tuple (sh.map s3D)]]
theorem dpa_s3 {K : PySem.W.Frag} {H : Hp} : ∀ {ads : List (Addr × S3)}, (∀ x ∈ ads, SqT K H x.1 [.str x.2.1, .int x.2.2.1, .int x.2.2.2]) → DpAll K H (ads.map fun x => V.ref x.1) ((ads.map (·.2)).map s3D)
  | [], _ => .nil
  | x :: ads, h => .cons (.tup (h x List.mem_cons_self) (.cons (.str _) (.cons (.int _) (.cons (.int _) .nil)))) (dpa_s3 fun y hy => h y (List.mem_cons_of_mem _ hy))
theorem dp_limP {K : PySem.W.Frag} {H : Hp} {p : Addr} {nm : Str} {most : Int} {sh : List S3} (h : LimP K H p nm most sh) : Dp K H (.ref p) (limPD nm most sh) := by
  obtain ⟨g, n, t, ads, h1, h2, h3, h4, h5, rfl, _⟩ := h
  exact .tup h1 (.cons (.str _) (.cons (.str _) (.cons (.tup h2 .nil) (.cons (.tup h3 (.cons (.int most) (.cons (.tup h4 (dpa_s3 h5)) .nil))) .nil))))
theorem s3_shaped : ∀ {sh : List S3}, (∀ s ∈ sh, PyData.strOk s.1 = true) → PyData.canLayAll0 (sh.map s3D) = true ∧ PyData.depthAll (sh.map s3D) ≤ 1
  | [], _ => ⟨rfl, Nat.zero_le _⟩
  | e :: es, h => by
    obtain ⟨h1, h2⟩ := s3_shaped (sh := es) fun x hx => h x (List.mem_cons_of_mem _ hx)
    refine ⟨?_, ?_⟩
    · show ((PyData.strOk e.1 && (true && (true && true))) && PyData.canLayAll0 (es.map s3D)) = true
      rw [h e List.mem_cons_self, h1]
      rfl
    · show max (max 0 (max 0 (max 0 0)) + 1) (PyData.depthAll (es.map s3D)) ≤ 1
      exact Nat.max_le.mpr ⟨by decide, h2⟩
theorem limP_shaped {nm : Str} {most : Int} {sh : List S3} (hn : PyData.strOk nm = true) (h : ∀ s ∈ sh, PyData.strOk s.1 = true) : SeqAt.shaped (limPD nm most sh) = true := by
  obtain ⟨h1, h2⟩ := s3_shaped h
  show ((PyData.strOk nm && (PyData.strOk "pool" && (true && ((true && (PyData.canLayAll0 (sh.map s3D) && true)) && true)))) && decide (max 0 (max 0 (max (0 + 1) (max (max 0 (max (PyData.depthAll (sh.map s3D) + 1) 0) + 1) 0))) + 1 ≤ 64)) = true
  rw [h1, hn, show PyData.strOk "pool" = true by decide +kernel, decide_eq_true (by
    have e1 : max (PyData.depthAll (sh.map s3D) + 1) 0 ≤ 2 := Nat.max_le.mpr ⟨by omega, by omega⟩
    have e2 : max 0 (max (PyData.depthAll (sh.map s3D) + 1) 0) + 1 ≤ 3 := Nat.succ_le_succ (Nat.max_le.mpr ⟨by omega, e1⟩)
    have e3 : max 0 (max 0 (max (0 + 1) (max (max 0 (max (PyData.depthAll (sh.map s3D) + 1) 0) + 1) 0))) ≤ 3 := Nat.max_le.mpr ⟨by omega, Nat.max_le.mpr ⟨by omega, Nat.max_le.mpr ⟨by omega, Nat.max_le.mpr ⟨e2, by omega⟩⟩⟩⟩
    omega)]
  rfl
/-! sorted entries -/
def encE (e : E3) : PyData := .tuple [.str e.1, .str e.2.1, .int e.2.2]
def sortE (es : List E3) : List E3 := es.mergeSort (PySem.W.dataLe false encE)
def WE (K : PySem.W.Frag) (e : E3) (y : V) (H : Hp) : Prop := ∃ t, y = .ref t ∧ SqT K H t [.str e.1, .str e.2.1, .int e.2.2]
theorem WE.mono {K : PySem.W.Frag} {e : E3} {y : V} {H H' : Hp} (w : WE K e y H) (x : Ex H H') : WE K e y H' := by
  obtain ⟨t, h1, h2⟩ := w
  exact ⟨t, h1, ex_sqT x h2⟩
theorem WE.lst {K : PySem.W.Frag} {e : E3} {y : V} {H : Hp} {D : Addr} {acc : List V} {o : HO} (w : WE K e y H) (hD : H D = some (.lst acc)) : WE K e y (upd H D o) := by
  obtain ⟨t, h1, h2⟩ := w
  exact ⟨t, h1, sqT_lst hD h2⟩
theorem WE.dat {K : PySem.W.Frag} {e : E3} {y : V} {H : Hp} (w : WE K e y H) : Dat K H y (encE e) := by
  obtain ⟨t, rfl, h2⟩ := w
  exact .tup h2 (.cons (.str _) (.cons (.str _) (.cons (.int _) .nil)))
theorem alikeE {β : Type} (bs : List β) (f : β → E3) : PySem.W.AllAlike (bs.map fun b => encE (f b)) := PySem.W.AllAlike.of fun _ _ => rfl
theorem sortableE {β : Type} (bs : List β) (f : β → E3) : PySem.W.Sortable (bs.map fun b => encE (f b)) := .inl fun d hd => by
  obtain ⟨z, _, rfl⟩ := List.mem_map.mp hd
  exact ⟨_, _, rfl⟩
theorem depthE (e : E3) : (encE e).depth ≤ 8 := by
  show max 0 (max 0 (max 0 0)) + 1 ≤ 8
  decide
theorem sortE_map {β : Type} (bs : List β) (f : β → E3) : (bs.mergeSort (PySem.W.dataLe false fun b => encE (f b))).map f = sortE (bs.map f) := PySem.W.sort_maps f fun a _ b _ => rfl
def rowsED (es : List E3) : PyData := .tuple (es.map encE)
theorem dpa_E {K : PySem.W.Frag} {H : Hp} : ∀ {ys : List (V × E3)} {es : List E3}, ys.map (·.2) = es → (∀ z ∈ ys, WE K z.2 z.1 H) → DpAll K H (ys.map (·.1)) (es.map encE)
  | [], _, h, _ => by
    subst h
    exact .nil
  | z :: ys, _, h, q => by
    subst h
    obtain ⟨t, h1, h2⟩ := q z List.mem_cons_self
    refine .cons ?_ (dpa_E rfl fun y hy => q y (List.mem_cons_of_mem _ hy))
    show Dp K H z.1 _
    rw [h1]
    exact .tup h2 (.cons (.str _) (.cons (.str _) (.cons (.int _) .nil)))
theorem rowsE_shaped : ∀ {es : List E3}, (∀ e ∈ es, PyData.strOk e.1 = true ∧ PyData.strOk e.2.1 = true) → PyData.canLayAll0 (es.map encE) = true ∧ PyData.depthAll (es.map encE) ≤ 1
  | [], _ => ⟨rfl, Nat.zero_le _⟩
  | e :: es, h => by
    obtain ⟨h1, h2⟩ := rowsE_shaped (es := es) fun x hx => h x (List.mem_cons_of_mem _ hx)
    refine ⟨?_, ?_⟩
    · show ((PyData.strOk e.1 && (PyData.strOk e.2.1 && (true && true))) && PyData.canLayAll0 (es.map encE)) = true
      rw [(h e List.mem_cons_self).1, (h e List.mem_cons_self).2, h1]
      rfl
    · show max (max 0 (max 0 (max 0 0)) + 1) (PyData.depthAll (es.map encE)) ≤ 1
      exact Nat.max_le.mpr ⟨by decide, h2⟩
theorem rowsED_shaped {es : List E3} (h : ∀ e ∈ es, PyData.strOk e.1 = true ∧ PyData.strOk e.2.1 = true) : SeqAt.shaped (rowsED es) = true := by
  obtain ⟨h1, h2⟩ := rowsE_shaped h
  show (PyData.canLayAll0 (es.map encE) && decide (PyData.depthAll (es.map encE) + 1 ≤ 64)) = true
  rw [h1, decide_eq_true (by omega)]
  rfl
theorem sortE_mem {es : List E3} {e : E3} (h : e ∈ sortE es) : e ∈ es := (List.mergeSort_perm _ _).mem_iff.mp h
/-- unlocked again -/
theorem ex_unlock {H H' : Hp} {d : Addr} {u fz : HO} (hd : H d = some u) (e : Ex (upd H d fz) H') : Ex H (upd H' d u) := fun b o h => by
  by_cases hb : b = d
  · subst hb
    rw [upd_same, ← hd]
    exact h
  · rw [upd_ne hb]
    exact e b o (by rw [upd_ne hb]; exact h)
/-! ### the walk's state -/
structure WStP (K : PySem.W.Frag) (C m dx p l dC dU : Addr) (ns : List Int) (most : Int) (sh : List S3) (pl pg : Addr) (es : List E3) (xs : List (Addr × R4)) (gone : List Str) (H : Hp) : Prop where
  M : MAtP K H C m dx p dC dU sh es
  hL : LimP K H p "pool1" most sh
  hS : SqL K H l (ns.map V.int)
  hA : H pl = some (.lst (xs.map fun x => V.ref x.1))
  hG : H pg = some (.lst (gone.map V.str))
  hR : RowsG K H xs
section
variable {K : PySem.W.Frag} {C m dx p l dC dU : Addr} {ns : List Int} {most : Int} {sh : List S3} {pl pg : Addr} {es es2 : List E3} {xs : List (Addr × R4)} {gone : List Str} {H H' : Hp}
theorem WStP.mono (w : WStP K C m dx p l dC dU ns most sh pl pg es xs gone H) (e : Ex H H') : WStP K C m dx p l dC dU ns most sh pl pg es xs gone H' :=
  ⟨w.M.mono e, w.hL.mono e, ex_sqL e w.hS, ex_at e w.hA, ex_at e w.hG, w.hR.mono e⟩
theorem WStP.exD (w : WStP K C m dx p l dC dU ns most sh pl pg es xs gone H) (e : ExD dC dU H H') (h : MAtP K H' C m dx p dC dU sh es2) : WStP K C m dx p l dC dU ns most sh pl pg es2 xs gone H' :=
  ⟨h, w.hL.exD w.M e, w.M.sqL e w.hS, w.M.lst e w.hA, w.M.lst e w.hG, fun x hx => w.M.sqT e (w.hR x hx)⟩
theorem WStP.app {x : Addr × R4} (w : WStP K C m dx p l dC dU ns most sh pl pg es xs gone H) (hne : pg ≠ pl) (hx : SqT K H x.1 x.2.vs) (hS2 : SqL K (upd H pl (.lst ((xs.map fun x => V.ref x.1) ++ [.ref x.1]))) l (ns.map V.int)) :
    WStP K C m dx p l dC dU ns most sh pl pg es (xs ++ [x]) gone (upd H pl (.lst ((xs.map fun x => V.ref x.1) ++ [.ref x.1]))) := by
  refine ⟨w.M.lstU w.hA, w.hL.lst w.hA, hS2, by rw [upd_same, List.map_append]; rfl, by rw [upd_ne hne]; exact w.hG, fun y hy => ?_⟩
  rcases List.mem_append.mp hy with hy | hy
  · exact sqT_lst w.hA (w.hR y hy)
  · rw [List.mem_singleton] at hy
    rw [hy]
    exact sqT_lst w.hA hx
theorem WStP.gone' {z : Str} (w : WStP K C m dx p l dC dU ns most sh pl pg es xs gone H) (hne : pg ≠ pl) (hS2 : SqL K (upd H pg (.lst (gone.map V.str ++ [.str z]))) l (ns.map V.int)) :
    WStP K C m dx p l dC dU ns most sh pl pg es xs (gone ++ [z]) (upd H pg (.lst (gone.map V.str ++ [.str z]))) :=
  ⟨w.M.lstU w.hG, w.hL.lst w.hG, hS2, by rw [upd_ne (Ne.symm hne)]; exact w.hA, by rw [upd_same, List.map_append]; rfl, fun y hy => sqT_lst w.hG (w.hR y hy)⟩
end
/-! ### dict comprehensions, comprehensions over items -/
section
variable {X : Cx} {K : PySem.W.Frag} {H : Hp} {Q : VK} {σ : L2.St}
def DcOk (J : It) (g : TG) (tt : TT) (tk tv : TE) (vs : List Nat) (Q : VK) (σ : L2.St) (H1 : Hp) : Prop := ∀ D, H1 D = none → ∃ W : Nat → Nat → Hp → Prop, (∃ m, W 0 m (upd H1 D (.dK []))) ∧ ∀ i m H, W i m H →
  (J.stop i H ∧ Q (.ref D) H) ∨ (J.go i H ∧ ∃ Nx : Hp → Prop, (∀ H', Nx H' → ∃ m', m' < m ∧ W (i + 1) m' H') ∧ ∀ x H', J.yld i H x H' → g x (wipe σ vs) H' fun σ2 H2 => wipe σ2 vs = wipe σ vs ∧ tt σ2 H2 fun b H3 =>
    if b = true then tk σ2 H3 fun y H4 => tv σ2 H4 fun z H5 => ∃ kvs k, y = kV k ∧ H5 D = some (.dK kvs) ∧ kvs.length < sizeLine ∧ Nx (upd H5 D (.dK (putK kvs k z))) else Nx H3)
theorem g_dc {wi : TI} {g : TG} {tt : TT} {tk tv : TE} {vs : List Nat} (q : wi σ H fun J H1 => DcOk J g tt tk tv vs Q σ H1) : tDc wi g tt tk tv vs σ H Q := q
theorem dc_new {a : Addr} {α : Type} {xs : List α} {g : TG} {tk tv : TE} {vs : List Nat} (enc : α → V) (key : α → Str) (val : α → V) (hS : SqT K H a (xs.map enc)) (hnd : (xs.map key).Nodup) (hn : xs.length ≤ 1000)
    (hs : ∀ x ∈ xs, ∀ H1, Ex H H1 → ∀ R : V → V → Hp → Prop, (∀ H3, Ex H1 H3 → R (.str (key x)) (val x) H3) → g (enc x) (wipe σ vs) H1 fun σ2 H3 => wipe σ2 vs = wipe σ vs ∧ tk σ2 H3 fun y H4 => tv σ2 H4 fun z H5 => R y z H5)
    (hq : ∀ p H', H p = none → Ex H H' → H' p = some (.dK (kvsG key val xs)) → Q (.ref p) H') : DcOk (Itt K a) g tYes tk tv vs Q σ H := by
  intro D hD
  refine dc_tup (xs := xs.map enc) (fun i H' => Ex H H' ∧ H' D = some (.dK (kvsG key val (xs.take i)))) ⟨Evl.Ex.new hD, upd_same⟩ (fun i H' _ h => ex_sqT h.1 hS) (fun i x H1 hx hP => ?_) (fun H' h => ?_)
  · obtain ⟨hE, hL⟩ := hP
    rw [List.getElem?_map] at hx
    cases e : xs[i]? with
    | none => rw [e] at hx; cases hx
    | some y =>
      rw [e] at hx
      have ex : enc y = x := Option.some.inj hx
      subst ex
      have hT : xs.take (i + 1) = xs.take i ++ [y] := by rw [List.take_add_one, e]; rfl
      have key2 := hs y (List.mem_of_getElem? e) H1 hE (fun y z H5 => ∃ kvs k, y = kV k ∧ H5 D = some (.dK kvs) ∧ kvs.length < sizeLine ∧ (Ex H (upd H5 D (.dK (putK kvs k z))) ∧ (upd H5 D (.dK (putK kvs k z))) D = some (.dK (kvsG key val (xs.take (i + 1)))))) fun H3 e3 => by
        refine ⟨_, Sum.inr (key y), rfl, e3 _ _ hL, kvsG_len (by rw [List.length_take]; omega), Evl.Ex.mut (hE.trans e3) hD, ?_⟩
        have hnew : key y ∉ (xs.take i).map key := by
          have hd := hnd
          rw [← List.take_append_drop (i + 1) xs, hT, List.map_append, List.map_append, List.nodup_append, List.nodup_append] at hd
          exact fun z => hd.1.2.2 _ z _ (by show key y ∈ [key y]; exact List.mem_singleton.mpr rfl) rfl
        rw [upd_same, putG hnew, hT]
      exact key2
  · rw [List.length_map, List.take_of_length_le (Nat.le_refl _)] at h
    exact hq D H' hD h.1 h.2
def rIItems (R : It → Hp → Prop) : VK := fun x H1 => ∃ d o kvs, x = .ref d ∧ H1 d = some (.frz o (.dK kvs)) ∧ R (Iti d o kvs) H1
theorem g_iItems {td : TE} {R : It → Hp → Prop} (q : td σ H (rIItems R)) : iItems td σ H R := q
theorem g_itm {d : Addr} {o : Obj} {kvs : List (Key × V)} {R : It → Hp → Prop} (h : H d = some (.frz o (.dK kvs))) (q : R (Iti d o kvs) H) : rIItems R (.ref d) H := ⟨d, o, kvs, rfl, h, q⟩
theorem lc_itemsE {d : Addr} {o : Obj} {vs : List Nat} {g : TG} {te : TE} {ads : List (Addr × E3)} (hfz : H d = some (.frz o (.dK (costsK ads)))) (hn : ads.length ≤ 1000)
    (hs : ∀ x ∈ ads, ∀ (T : Addr) H1, Ex H H1 → SqT K H1 T [.str x.2.1, .ref x.1] → ∀ R : VK, (∀ y H3, Ex H1 H3 → WE K x.2 y H3 → R y H3) → g (.ref T) (wipe σ vs) H1 fun σ2 H3 => wipe σ2 vs = wipe σ vs ∧ te σ2 H3 R)
    (hq : ∀ p H' (ys : List (V × E3)), H p = none → Ex H H' → H' p = some (.lst (ys.map (·.1))) → ys.map (·.2) = ads.map (·.2) → (∀ z ∈ ys, WE K z.2 z.1 H') → Q (.ref p) H') : LcOk (Iti d o (costsK ads)) g tYes te vs Q σ H := by
  have hl : (costsK ads).length = ads.length := by unfold costsK kvsG; rw [List.length_map]
  refine lc_new (walk_items (d := d) (o := o) (kvs := costsK ads)) (fun i => (ads.getD i (0, ("", "", 0))).2) (WE K) (fun _ _ _ _ w e => w.mono e) (fun _ _ _ _ _ _ w h => w.lst h) (by rw [hl, sizeLine_eq]; omega) (fun H' e => ex_at e hfz) (fun i H1 x H2 hY => ?_) (fun i x H1 H2 hi hE hY R hR => ?_) (fun p H' ys hp hE hL hm hW => ?_)
  · obtain ⟨T, x1, y1, _, hT, rfl, _, _⟩ := hY
    exact Evl.Ex.new hT
  · obtain ⟨T, x1, y1, rfl, hT, rfl, h1, h2⟩ := hY
    have hi2 : i < ads.length := by rw [← hl]; exact hi
    have hk : (costsK ads)[i]? = some (Sum.inr ads[i].2.1, V.ref ads[i].1) := by
      unfold costsK kvsG
      rw [List.getElem?_map, List.getElem?_eq_getElem hi2]
      rfl
    dsimp only at h1 h2
    rw [hk] at h1 h2
    have e1 : V.str ads[i].2.1 = x1 := Option.some.inj h1
    have e2 : V.ref ads[i].1 = y1 := Option.some.inj h2
    subst e1 e2
    have e3 : ads.getD i (0, ("", "", 0)) = ads[i] := by rw [List.getD_eq_getElem?_getD, List.getElem?_eq_getElem hi2]; rfl
    refine hs ads[i] (List.getElem_mem hi2) T _ (hE.trans (Evl.Ex.new hT)) (.inl (.inl upd_same)) R fun y H3 e4 w => hR y H3 e4 ?_
    rw [e3]
    exact w
  · refine hq p H' ys hp hE hL ?_ hW
    rw [hm, hl]
    refine List.ext_getElem? fun j => ?_
    rw [List.getElem?_map, List.getElem?_map]
    by_cases hj : j < ads.length
    · rw [List.getElem?_range hj, List.getElem?_eq_getElem hj]
      show some (ads.getD j _).2 = some ads[j].2
      rw [List.getD_eq_getElem?_getD, List.getElem?_eq_getElem hj]
      rfl
    · rw [List.getElem?_eq_none (by rw [List.length_range]; omega), List.getElem?_eq_none (by omega)]
      rfl
theorem lc_listE {a : Addr} {α : Type} {vs : List Nat} {g : TG} {te : TE} {xs : List α} (enc : α → V) (b : α → E3) (d0 : α) (hS : SqL K H a (xs.map enc)) (hn : xs.length ≤ 1000)
    (hs : ∀ x ∈ xs, ∀ H1, Ex H H1 → ∀ R : VK, (∀ y H3, Ex H1 H3 → WE K (b x) y H3 → R y H3) → g (enc x) (wipe σ vs) H1 fun σ2 H3 => wipe σ2 vs = wipe σ vs ∧ te σ2 H3 R)
    (hq : ∀ p H' (ys : List (V × E3)), H p = none → Ex H H' → H' p = some (.lst (ys.map (·.1))) → ys.map (·.2) = xs.map b → (∀ z ∈ ys, WE K z.2 z.1 H') → Q (.ref p) H') : LcOk (Itl K a) g tYes te vs Q σ H := by
  refine lc_new (walk_list (xs := xs.map enc)) (fun i => b (xs.getD i d0)) (WE K) (fun _ _ _ _ w e => w.mono e) (fun _ _ _ _ _ _ w h => w.lst h) (by rw [List.length_map, sizeLine_eq]; omega) (fun H' e => ex_sqL e hS) (fun i H1 x H2 hY => ?_) (fun i x H1 H2 hi hE hY R hR => ?_) (fun p H' ys hp hE hL hm hW => ?_)
  · obtain ⟨rfl, _⟩ := hY
    exact Evl.Ex.refl _
  · obtain ⟨rfl, hx⟩ := hY
    rw [List.getElem?_map] at hx
    cases e : xs[i]? with
    | none => rw [e] at hx; cases hx
    | some y =>
      rw [e] at hx
      have ex : enc y = x := Option.some.inj hx
      subst ex
      have e2 : xs.getD i d0 = y := by rw [List.getD_eq_getElem?_getD, e]; rfl
      refine hs y (List.mem_of_getElem? e) _ hE R fun z H3 h3 w => hR z H3 h3 ?_
      rw [e2]
      exact w
  · refine hq p H' ys hp hE hL ?_ hW
    rw [hm, List.length_map]
    refine List.ext_getElem? fun j => ?_
    rw [List.getElem?_map, List.getElem?_map]
    by_cases hj : j < xs.length
    · rw [List.getElem?_range hj, List.getElem?_eq_getElem hj]
      show some (b (xs.getD j d0)) = some (b xs[j])
      rw [List.getD_eq_getElem?_getD, List.getElem?_eq_getElem hj]
      rfl
    · rw [List.getElem?_eq_none (by rw [List.length_range]; omega), List.getElem?_eq_none (by omega)]
      rfl
theorem sqT_updF {l p : Addr} {kvs : List (Key × V)} {fo : Obj} {vs : List V} {o : HO} (hl : H l = some (.frz fo (.dK kvs))) (h : SqT K H p vs) : SqT K (upd H l o) p vs := by
  rcases h with (h | ⟨o', h⟩) | h
  · exact .inl (.inl (by rw [upd_ne (fun e => by rw [e, hl] at h; cases h)]; exact h))
  · exact .inl (.inr ⟨o', by rw [upd_ne (fun e => by rw [e, hl] at h; cases h)]; exact h⟩)
  · exact .inr h
theorem WE.unlock {e : E3} {y : V} {l : Addr} {kvs : List (Key × V)} {fo : Obj} {o : HO} (w : WE K e y H) (hl : H l = some (.frz fo (.dK kvs))) : WE K e y (upd H l o) := by
  obtain ⟨t, h1, h2⟩ := w
  exact ⟨t, h1, sqT_updF hl h2⟩
end
/-! ### steps for pools -/
theorem g_gtup2t {K : PySem.W.Frag} {H : Hp} {σ : L2.St} {T T2 : Addr} {x y z : V} {i j k : Nat} {Qs : L2.St → Hp → Prop} (h : SqT K H T [x, .ref T2]) (h2 : SqT K H T2 [y, z]) (q : Qs (((σ.set i (some x)).set j (some y)).set k (some z)) H) :
    gTup K 2 (gCons (gName i) (gCons (gTup K 2 (gCons (gName j) (gCons (gName k) gNil))) gNil)) (.ref T) σ H Qs :=
  ⟨T, [x, .ref T2], rfl, h, rfl, x, [.ref T2], rfl, .ref T2, [], rfl, T2, [y, z], rfl, h2, rfl, y, [z], rfl, z, [], rfl, rfl, rfl, q⟩
theorem row_getX {β : Type} {ads : List (Addr × β)} {i : Nat} {y : V} (h : (ads.map fun x => V.ref x.1)[i]? = some y) : ∃ px r, ads[i]? = some (px, r) ∧ y = .ref px := by
  rw [List.getElem?_map] at h
  cases hx : ads[i]? with
  | none => rw [hx] at h; cases h
  | some x =>
    rw [hx] at h
    exact ⟨x.1, x.2, rfl, (Option.some.inj h).symm⟩
theorem share_at {ads : List (Addr × S3)} {i : Nat} {px : Addr} {r : S3} {g : Str} (hb : ∀ x ∈ ads.take i, x.2.1 ≠ g) (hi : ads[i]? = some (px, r)) (hr : r.1 = g) : shareP (ads.map (·.2)) g = r.2 := by
  have e : ads = ads.take i ++ (px, r) :: ads.drop (i + 1) := by
    have hl := (List.getElem?_eq_some_iff.mp hi).1
    have he := (List.getElem?_eq_some_iff.mp hi).2
    have hd : ads.drop i = (px, r) :: ads.drop (i + 1) := by rw [List.drop_eq_getElem_cons hl, he]
    rw [← hd, List.take_append_drop]
  unfold shareP
  rw [e, List.map_append, List.find?_append]
  have h1 : ((ads.take i).map (·.2)).find? (fun s => decide (s.1 = g)) = none := by
    rw [List.find?_eq_none]
    intro s hs
    obtain ⟨x, hx, rfl⟩ := List.mem_map.mp hs
    have := hb x hx
    simpa using this
  rw [h1, List.map_cons, Option.none_or, List.find?_cons_of_pos (by simpa using hr)]
theorem share_no {sh : List S3} {g : Str} (hb : ∀ s ∈ sh, s.1 ≠ g) : shareP sh g = (0, 0) := by
  unfold shareP
  have h1 : sh.find? (fun s => decide (s.1 = g)) = none := by
    rw [List.find?_eq_none]
    intro s hs
    have := hb s hs
    simpa using this
  rw [h1]
theorem w_orK {te : TE} {σ : L2.St} {H : Hp} {Q : VK} {x : V} {k : Bool} (W : V → Hp → Prop) (h1 : k = true → W x H) (h0 : k = false → ∀ R : VK, (∀ y H', W y H' → Ex H H' → R y H') → te σ H R) (hk : ∀ y H', W y H' → Ex H H' → Q y H') : if k = true then Q x H else te σ H Q := by
  cases k with
  | true => rw [if_pos rfl]; exact hk x H (h1 rfl) (Evl.Ex.refl _)
  | false => rw [if_neg (by decide)]; exact h0 rfl Q hk
def GrpP (K : PySem.W.Frag) (x : V) (H : Hp) : Prop := ∃ (p : Addr) (gs : List Str), x = .ref p ∧ SqT K H p (gs.map V.str) ∧ gs.length ≤ 8 ∧ gs.Nodup ∧ ∀ g ∈ gs, PyData.strOk g = true
theorem g_slStrN {K : PySem.W.Frag} {H : Hp} {Q : VK} {p : Addr} {zs : List Str} {m : Int} (h0 : 0 ≤ m) (h : SqT K H p (zs.map V.str)) (h8 : zs.length ≤ 8) (hnd : zs.Nodup) (hok : ∀ g ∈ zs, PyData.strOk g = true) (q : ∀ x H', GrpP K x H' → Ex H H' → Q x H') : rSlA K (.ref p) (some m) none H Q := by
  have e : cutV (zs.map V.str) (some m) none = (zs.drop m.toNat).map V.str := by rw [cutV_from _ h0, List.map_drop]
  refine g_slA h (fun _ => q _ _ ⟨p, zs, rfl, h, h8, hnd, hok⟩ (Evl.Ex.refl _)) (fun p2 hp2 => q _ _ ⟨p2, zs.drop m.toNat, rfl, .inl (.inl (by rw [upd_same, e])), by rw [List.length_drop]; omega, hnd.sublist (List.drop_sublist _ _), fun g hg => hok g (List.mem_of_mem_drop hg)⟩ (Evl.Ex.new hp2))
def eightP : List Str := ["a", "b", "c7", "d", "e9", "f", "q", "z"]
theorem eightP_ok : ∀ g ∈ eightP, PyData.strOk g = true := by decide +kernel
theorem eightP_nd : eightP.Nodup := by decide +kernel
def fourP : List Str := ["a", "b", "c7", "z"]
theorem fourP_ok : ∀ g ∈ fourP, PyData.strOk g = true := by decide +kernel
theorem fourP_nd : fourP.Nodup := by decide +kernel
theorem sub_snoc {gs : List Str} {i : Nat} {z : Str} (h : gs.Sublist (fourP.take i)) (hz : fourP[i]? = some z) : (gs ++ [z]).Sublist (fourP.take (i + 1)) := by
  rw [List.take_add_one, hz]
  exact h.append (List.Sublist.refl _)
theorem use_rows (xs : List (Addr × R4)) (n : Str) : ((xs.filter fun x => decide (x.2.2.1 = n)).map fun x => x.2.2.2.1).sum = useP (xs.map e3R) n := by
  unfold useP
  rw [List.filter_map, List.map_map]
  rfl
theorem borP_snoc (sh : List S3) (s : S3) (u : Str → Int) : borP (sh ++ [s]) u = borP sh u + posI (u s.1 - s.2.1) := by
  unfold borP
  rw [List.map_append, List.sum_append]
  simp
theorem take_snd {β : Type} {ads : List (Addr × β)} {i : Nat} {px : Addr} {r : β} (h : ads[i]? = some (px, r)) : (ads.map (·.2)).take (i + 1) = (ads.map (·.2)).take i ++ [r] := by
  rw [List.take_add_one, List.getElem?_map, h]
  rfl
section
variable {ads : List (Addr × E3)} {k : Str}
theorem costs_keys : ads.map (fun x : Addr × E3 => x.2.1) = (ads.map (·.2)).map keyE := by rw [List.map_map]; rfl
theorem costs_put {p : Addr} {g : Str} {c : Int} (h : k ∉ (ads.map (·.2)).map keyE) : putK (costsK ads) (Sum.inr k) (.ref p) = costsK (ads ++ [(p, (k, g, c))]) := by
  rw [← costs_keys] at h
  exact putG (key := fun x : Addr × E3 => x.2.1) (val := fun x => V.ref x.1) (e := (p, (k, g, c))) h
theorem costs_is : (valV (costsK ads) (Sum.inr k)).isSome = decide (k ∈ (ads.map (·.2)).map keyE) := by
  rw [← costs_keys]
  exact valG_is
theorem costs_some (h : k ∈ (ads.map (·.2)).map keyE) : ∃ x, x ∈ ads ∧ x.2.1 = k ∧ valV (costsK ads) (Sum.inr k) = some (.ref x.1) := by
  rw [← costs_keys] at h
  exact valG_some h
theorem costs_drop : dropK (costsK ads) (Sum.inr k) = costsK (ads.filter fun x => decide (x.2.1 ≠ k)) := dropG (key := fun x : Addr × E3 => x.2.1) k ads
theorem costs_filter : (ads.filter fun x => decide (x.2.1 ≠ k)).map (·.2) = (ads.map (·.2)).filter fun e => decide (e.1 ≠ k) := by
  rw [List.filter_map]
  rfl
theorem costs_len (h : (ads.map (·.2)).length ≤ 1000) : (costsK ads).length < sizeLine := kvsG_len (by rw [List.length_map] at h; exact h)
end
/-! ### many requests -/
def shM (v : Int) : List S3 := [("a", 30, 200), ("b", 0, 90 + v), ("c7", 50, 100)]
theorem shM_ok {v : Int} (h : 0 ≤ v) : ShOk (shM v) := by
  refine ⟨by show (["a", "b", "c7"] : List Str).Nodup; decide +kernel, fun s hs => ?_, fun s hs => ?_, by show 3 ≤ 8; decide⟩
  · rcases List.mem_cons.mp hs with e | hs
    · rw [e]; exact ⟨by decide, by decide⟩
    rcases List.mem_cons.mp hs with e | hs
    · rw [e]; exact ⟨Int.le_refl 0, by show 0 ≤ 90 + v; omega⟩
    rw [List.mem_singleton] at hs
    rw [hs]; exact ⟨by decide, by decide⟩
  · rcases List.mem_cons.mp hs with e | hs
    · rw [e]; decide +kernel
    rcases List.mem_cons.mp hs with e | hs
    · rw [e]; show PyData.strOk "b" = true; decide +kernel
    rw [List.mem_singleton] at hs
    rw [hs]; decide +kernel
theorem limM {K : PySem.W.Frag} {H : Hp} {p p1 p2 p3 p4 p5 p6 : Addr} {v most : Int} (h1 : SqT K H p1 [.str "a", .int 30, .int 200]) (h2 : SqT K H p2 [.str "b", .int 0, .int (90 + v)]) (h3 : SqT K H p3 [.str "c7", .int 50, .int 100]) (h4 : SqT K H p4 [.ref p1, .ref p2, .ref p3]) (h5 : SqT K H p5 []) (h6 : SqT K H p6 [.int most, .ref p4]) (h7 : SqT K H p [.str "many", .str "pool", .ref p5, .ref p6]) : LimP K H p "many" most (shM v) := by
  refine ⟨p5, p6, p4, [(p1, ("a", 30, 200)), (p2, ("b", 0, 90 + v)), (p3, ("c7", 50, 100))], h7, h5, h6, h4, fun x hx => ?_, rfl, by show 3 ≤ 8; decide⟩
  rcases List.mem_cons.mp hx with e | hx
  · rw [e]; exact h1
  rcases List.mem_cons.mp hx with e | hx
  · rw [e]; exact h2
  rw [List.mem_singleton] at hx
  rw [hx]; exact h3
theorem seesM {v : Int} {z : Str} (h : z ∈ (["a", "b", "c7"] : List Str)) : seesP (shM v) z = true := decide_eq_true h
theorem heldP_all {sh : List S3} {xs : List (Addr × R4)} (h : ∀ x ∈ xs, seesP sh x.2.2.1 = true) : heldP sh xs [] = xs.map e3R := by
  unfold heldP seenP
  rw [List.filter_eq_self.mpr h, List.filter_eq_self.mpr fun x _ => by simp]
theorem filter_e3 {y : Str} (xs : List (Addr × R4)) : ((xs.map e3R).filter fun e => decide (e.1 ≠ y)) = (xs.filter fun x => decide (keyR x ≠ y)).map e3R := by
  rw [List.filter_map]
  rfl
theorem len_gone {y : Str} (xs : List (Addr × R4)) : decide (y ∈ (xs.map e3R).map keyE) = decide ((((xs.filter fun x => decide (keyR x ≠ y)).map fun x => V.ref x.1).length : Int) < ((xs.map fun x => V.ref x.1).length : Int)) := by
  rw [Bool.eq_iff_iff, decide_eq_true_eq, decide_eq_true_eq, List.length_map, List.length_map, List.map_map]
  constructor
  · intro h
    obtain ⟨x, hx, e⟩ := List.mem_map.mp h
    have : (xs.filter fun x => decide (keyR x ≠ y)).length < xs.length := by
      rw [List.length_filter_lt_length_iff_exists]
      exact ⟨x, hx, by have : keyR x = y := e; simp [this]⟩
    omega
  · intro h
    have : (xs.filter fun x => decide (keyR x ≠ y)).length < xs.length := by omega
    rw [List.length_filter_lt_length_iff_exists] at this
    obtain ⟨x, hx, e⟩ := this
    have e2 : keyR x = y := by simpa using e
    exact List.mem_map.mpr ⟨x, hx, e2⟩
structure MSP (K : PySem.W.Frag) (H : Hp) (C m dx p dC dU : Addr) (most : Int) (sh : List S3) (ph : Addr) (xs : List (Addr × R4)) : Prop where
  M : MAtP K H C m dx p dC dU sh (xs.map e3R)
  hL : LimP K H p "many" most sh
  hA : H ph = some (.lst (xs.map fun x => V.ref x.1))
  hR : RowsG K H xs
section
variable {K : PySem.W.Frag} {H H' : Hp} {C m dx p dC dU ph : Addr} {most : Int} {sh : List S3} {xs ys : List (Addr × R4)}
theorem MSP.mono (w : MSP K H C m dx p dC dU most sh ph xs) (e : Ex H H') : MSP K H' C m dx p dC dU most sh ph xs := ⟨w.M.mono e, w.hL.mono e, ex_at e w.hA, w.hR.mono e⟩
theorem MSP.app {x : Addr × R4} (w : MSP K H C m dx p dC dU most sh ph xs) (e : ExD dC dU H H') (M2 : MAtP K H' C m dx p dC dU sh (xs.map e3R ++ [e3R x])) (hx : SqT K H' x.1 x.2.vs) : MSP K (upd H' ph (.lst ((xs.map fun x => V.ref x.1) ++ [.ref x.1]))) C m dx p dC dU most sh ph (xs ++ [x]) := by
  have hA := w.M.lst e w.hA
  refine ⟨?_, (w.hL.exD w.M e).lst hA, by rw [upd_same, List.map_append]; rfl, fun y hy => ?_⟩
  · rw [List.map_append]
    exact M2.lstU hA
  · rcases List.mem_append.mp hy with hy | hy
    · exact sqT_lst hA (w.M.sqT e (w.hR y hy))
    · rw [List.mem_singleton] at hy
      rw [hy]
      exact sqT_lst hA hx
end
/-! ### sets of texts: set(xs), len, sorted -/
def keyS (e : Int × Value) : Str := match e.2 with
  | .str x _ => x
  | _ => Str.empty
def OkS (P : Program) (w : World) (e : Int × Value) : Prop := ∃ x tk, e.2 = .str x tk ∧ e.1 = (PySem.strKind P w).hash x
/-- a set of the texts of xs, with a table that can be walked -/
def TextSet (P : Program) (w : World) (h : Heap) (a : Addr) (xs : List Str) : Prop :=
  ∃ o es ep t, h.get? a = some o ∧ o.ExactSet ∧ o.data = .set es ep t ∧ (∀ e ∈ es.toList, OkS P w e) ∧ (es.toList.map keyS).Nodup ∧ (∀ k, k ∈ es.toList.map keyS ↔ k ∈ xs) ∧ es.size ≤ xs.length ∧ t.fits es.size = true ∧ Ris t.place.toList ∧ (w.params.followText "set-order" = true ∨ t.led = true)
section
variable {P : Program} {w : World} {h h' : Heap} {a : Addr} {xs : List Str}
theorem TextSet.at (R : TextSet P w h a xs) (k : ∀ o, h.get? a = some o → h'.get? a = some o) : TextSet P w h' a xs := by
  obtain ⟨o, es, ep, t, ho, r⟩ := R
  exact ⟨o, es, ep, t, k o ho, r⟩
theorem okS_elems {l : List (Int × Value)} (g : ∀ e ∈ l, OkS P w e) : ElemsOf (PySem.strKind P w) l := fun e he => by
  obtain ⟨x, tk, h1, h2⟩ := g e he
  exact ⟨⟨x, by rw [h1]; exact strKind_is _ _ _ _, h2⟩, by rw [h1]; rfl⟩
theorem okS_is {e : Int × Value} (g : OkS P w e) (k : Str) : (PySem.strKind P w).is k e.2 = true ↔ keyS e = k := by
  obtain ⟨x, tk, h1, _⟩ := g
  have hx : (PySem.strKind P w).is x e.2 = true := by rw [h1]; exact strKind_is _ _ _ _
  have hk : keyS e = x := by unfold keyS; rw [h1]
  rw [hk]
  constructor
  · exact fun hh => (PySem.strKind P w).inj _ _ _ hx hh
  · intro hh
    rw [← hh]
    exact hx
theorem okS_mem {l : List (Int × Value)} (g : ∀ e ∈ l, OkS P w e) (k : Str) : k ∈ l.map keyS ↔ ∃ e ∈ l, (PySem.strKind P w).is k e.2 = true := by
  rw [List.mem_map]
  constructor
  · rintro ⟨e, he, q⟩
    exact ⟨e, he, (okS_is (g e he) k).2 q⟩
  · rintro ⟨e, he, q⟩
    exact ⟨e, he, (okS_is (g e he) k).1 q⟩
theorem textSet_new (ho : h.get? a = some { cls := .type "set", dict := none, data := .set #[] 0 (.fresh 0 0 (!w.params.followText "set-order")) }) : TextSet P w h a [] :=
  ⟨_, #[], 0, _, ho, ⟨rfl, rfl, rfl⟩, rfl, (fun e he => by simp at he), (by simp), (fun k => by simp), Nat.le_refl _, (by rfl), List.Pairwise.nil, by
    show _ ∨ (!w.params.followText "set-order") = true
    cases w.params.followText "set-order"
    · exact .inr rfl
    · exact .inl rfl⟩
end
section
variable {P : Program} {w : World} {A : Around} {E : Value → Shared → Prop} {s : Shared} {a : Addr} {xs : List Str}
/-- what stands behind storing a new row of entries -/
theorem textSet_store {g : Bool → Sem Unit} (hg : ∀ (b : Bool) (s₁ : Shared) (Q' : Unit → Shared → Prop), Q' () s₁ → wpAny (model P w) A (g b) Q' E s₁)
    {o : Obj} {es : Array (Int × Value)} {ep : Nat} {t : SetTable} (ho : s.heap.get? a = some o) (hex : o.ExactSet) (hd : o.data = .set es ep t)
    {es1 : Array (Int × Value)} {t2 : SetTable} {ys : List Str} (g1 : ∀ e ∈ es1.toList, OkS P w e) (nd1 : (es1.toList.map keyS).Nodup) (m1 : ∀ k, k ∈ es1.toList.map keyS ↔ k ∈ ys)
    (hle : es1.size ≤ ys.length) (hb1 : es1.size < scanBound) (hf2 : t2.fits es1.size = true) (hr : Ris t2.place.toList) (hl : w.params.followText "set-order" = true ∨ t2.led = true) {wasDummy : Bool} {R : Option Bool → Shared → Prop}
    (hR : ∀ h', Heap.SameBut a s.heap h' → TextSet P w h' a ys → R (some true) { s with heap := h' }) :
    wpAny (model P w) A (do
        storeSet a es1 t2
        if (!wasDummy && t2.tooFull) = true then do
            g (relayAll t2 es1 (SetTable.grown es1.size)).2.2
            storeSet a (relayAll t2 es1 (SetTable.grown es1.size)).1 (relayAll t2 es1 (SetTable.grown es1.size)).2.1
            pure (some true)
          else pure (some true)) R E s := by
  refine wpAny_bind (wpAny_storeSet_of ho hd ?_ (fits_of_scanBound hb1))
  have ho1 := store_at (es' := es1) (t' := t2) ho hd
  have sb1 := Heap.SameBut.update s.heap a (Obj.putSet es1 t2)
  split
  · have pm := relayAll_perm t2 es1 (SetTable.grown es1.size)
    have hf3 := relayAll_fits t2 es1 (SetTable.grown es1.size)
    have hr3 := relayAll_ris t2 es1 (SetTable.grown es1.size)
    have hl3 := relayAll_led t2 es1 (SetTable.grown es1.size)
    generalize relayAll t2 es1 (SetTable.grown es1.size) = Z at pm hf3 hr3 hl3 ⊢
    obtain ⟨es2, t3, gave⟩ := Z
    dsimp only at pm hf3 hr3 hl3 ⊢
    have hsz : es2.size = es1.size := by rw [← Array.length_toList, pm.length_eq, Array.length_toList]
    refine wpAny_bind (hg _ _ _ ?_)
    refine wpAny_bind (wpAny_storeSet_of ho1 rfl ?_ (fits_of_scanBound (by rw [hsz]; exact hb1)))
    have ho2 := store_at (es' := es2) (t' := t3) ho1 rfl
    refine wpAny_pure (hR _ (sb1.trans (Heap.SameBut.update _ a _)) ?_)
    exact ⟨_, es2, _, t3, ho2, hex, rfl, fun e he => g1 e (pm.mem_iff.mp he), (pm.map keyS).nodup_iff.mpr nd1, fun k => (pm.map keyS).mem_iff.trans (m1 k), by rw [hsz]; exact hle, hf3, hr3, hl.imp id fun z => by rw [hl3]; exact z⟩
  · exact wpAny_pure (hR _ sb1 ⟨_, es1, _, t2, ho1, hex, rfl, g1, nd1, m1, hle, hf2, hr, hl⟩)
theorem textSet_add {k : Str} {tk : Tok} {Q : Bool → Shared → Prop} (R : TextSet P w s.heap a xs) (room : xs.length + 1 < scanBound)
    (hQ : ∀ b h', Heap.SameBut a s.heap h' → TextSet P w h' a (xs ++ [k]) → Q b { s with heap := h' }) :
    wpAny (model P w) A (setAddHashed a (.str k tk) ((PySem.strKind P w).hash k)) Q E s := by
  obtain ⟨o, es, ep, t, ho, hex, hd, g, nd, hm, hn, hf, hr, hl⟩ := R
  have hb : es.size < scanBound := by omega
  have hkey : (PySem.strKind P w).is k (.str k tk) = true := strKind_is _ _ _ _
  have hsc : (Value.str k tk).scannable = true := rfl
  have hel : ElemsOf (PySem.strKind P w) es.toList := okS_elems g
  unfold setAddHashed setAddHashedIn
  refine wpAny_holding (wpAny_bind (wpAny_setState_of ho hd hf ?_))
  dsimp only
  rw [byScan_of hsc hb hel]
  simp only [↓reduceIte]
  unfold setAddByScan
  refine wpAny_bind ?_
  refine wpAny_bind (wpAny_rule ?_)
  refine wpAny_bind (wpAny_setScan_of hkey ho hd hf hel ?_)
  cases hfi : List.findIdx? (fun e => (PySem.strKind P w).is k e.2) es.toList with
  | some j =>
    dsimp only
    obtain ⟨hj, pj, _⟩ := List.findIdx?_eq_some_iff_getElem.mp hfi
    have hk : k ∈ xs := (hm k).1 ((okS_mem g k).2 ⟨es.toList[j], List.getElem_mem hj, pj⟩)
    refine wpAny_pure (wpAny_pure (hQ _ s.heap (Heap.SameBut.refl a s.heap) ⟨o, es, ep, t, ho, hex, hd, g, nd, fun i => ?_, by rw [List.length_append]; show _ ≤ _ + 1; omega, hf, hr, hl⟩))
    rw [hm i, List.mem_append, List.mem_singleton]
    exact ⟨.inl, fun z => z.elim id fun e => by rw [e]; exact hk⟩
  | none =>
    dsimp only
    have hnk : k ∉ es.toList.map keyS := fun z => by
      obtain ⟨e, he, q⟩ := (okS_mem g k).1 z
      have c := List.findIdx?_eq_none_iff.mp hfi e he
      rw [q] at c
      cases c
    have hgw : ∀ (b : Bool) {s₁ : Shared} {Q' : Unit → Shared → Prop}, Q' () s₁ → wpAny (model P w) A (match b with | true => rule "set.scan.the-table-gave-way" | false => pure ()) Q' E s₁ :=
      fun b s₁ Q' q => by cases b <;> first | exact wpAny_pure q | exact wpAny_rule q
    have pm := layNew_perm t es ((PySem.strKind P w).hash k) (.str k tk)
    have hf1 := layNew_fits t es ((PySem.strKind P w).hash k) (.str k tk)
    have hr1 := layNew_ris t es ((PySem.strKind P w).hash k) (.str k tk) hr
    have hl1 := layNew_led t es ((PySem.strKind P w).hash k) (.str k tk)
    generalize layNew t es ((PySem.strKind P w).hash k) (.str k tk) = Z at pm hf1 hr1 hl1 ⊢
    obtain ⟨es1, t1, wasDummy, gave⟩ := Z
    dsimp only at pm hf1 hr1 hl1 ⊢
    rw [Array.toList_push] at pm
    have pc : es1.toList.Perm (((PySem.strKind P w).hash k, Value.str k tk) :: es.toList) := pm.trans (List.perm_append_singleton _ _)
    have pk : (es1.toList.map keyS).Perm (k :: es.toList.map keyS) := pc.map keyS
    have g1 : ∀ e ∈ es1.toList, OkS P w e := fun e he => by
      rcases List.mem_cons.mp (pc.mem_iff.mp he) with z | z
      · rw [z]; exact ⟨k, tk, rfl, rfl⟩
      · exact g e z
    have nd1 : (es1.toList.map keyS).Nodup := pk.nodup_iff.mpr (List.nodup_cons.mpr ⟨hnk, nd⟩)
    have m1 : ∀ i, i ∈ es1.toList.map keyS ↔ i ∈ xs ++ [k] := fun i => by
      rw [pk.mem_iff, List.mem_cons, hm i, List.mem_append, List.mem_singleton]
      exact Or.comm
    have hsz : es1.size = es.size + 1 := by rw [← Array.length_toList, pc.length_eq, List.length_cons, Array.length_toList]
    have hle : es1.size ≤ (xs ++ [k]).length := by rw [hsz, List.length_append]; show _ ≤ _ + 1; omega
    have hb1 : es1.size < scanBound := by omega
    have hled : w.params.followText "set-order" = true ∨ t1.led = true := hl.imp id fun z => by rw [hl1]; exact z
    refine wpAny_bind (hgw _ ?_)
    split
    · refine wpAny_bind ?_
      rw [hashByValue_scannable 8 hsc]
      refine wpAny_pure ?_
      refine textSet_store ?_ ho hex hd g1 nd1 m1 hle hb1 ?_ ?_ ?_ ?_
      · intro b s₁ Q' q; cases b <;> first | exact wpAny_pure q | exact wpAny_rule q
      · first | (split <;> first | exact hf1 | exact SetTable.fits_plain_off hf1) | exact hf1
      · first | (split <;> exact hr1) | exact hr1
      · first | (split <;> exact hled) | exact hled
      · intro h' sb r; dsimp only; exact wpAny_pure (hQ _ h' sb r)
    · refine wpAny_bind (wpAny_pure ?_)
      simp only [↓reduceIte]
      refine textSet_store ?_ ho hex hd g1 nd1 m1 hle hb1 hf1 hr1 hled ?_
      · intro b s₁ Q' q; cases b <;> first | exact wpAny_pure q | exact wpAny_rule q
      · intro h' sb r; dsimp only; exact wpAny_pure (hQ _ h' sb r)
/-- the loop of set.update over n texts -/
theorem textSet_loop {I : Addr} {fp wr : List Addr} {G : Array GenState → Array GenState → Prop} {n : Nat} {Pv : Nat → Value → Prop} {St : Nat → Shared → Prop} {R : Result → Shared → Prop}
    (W : WalksS P w A.in1 I fp wr G n Pv St) (S : Addr) (hSf : S ∉ fp) (xs : List Str) (hn : n = xs.length) (hb : xs.length + 1 < scanBound) (hval : ∀ i v, Pv i v → ∃ t, v = .str (xs.getD i Str.empty) t) :
    ∀ (k i : Nat) (s : Shared), n - i = k → i ≤ n → St i s → TextSet P w s.heap S (xs.take i) →
      (∀ s', Moved (S :: wr) G s s' → TextSet P w s'.heap S xs → R (.ok (.ret .none)) s') →
      codeAny (model P w) A (.builtin "set.update.loop" ⟨[.ref S, .ref I], []⟩) R s := by
  have hSw : S ∉ wr := fun h => hSf (W.sub _ h)
  have hsub : ∀ b ∈ wr, b ∈ S :: wr := fun b hb => List.mem_cons_of_mem _ hb
  intro k
  induction k with
  | zero =>
    intro i s hk' hi hst hS hR
    have hin : i = n := by omega
    subst hin
    refine codeAny_builtin PyProof.Rows.F.entry_set_update_loop ?_
    rw [Around.under_plainId PyProof.Rows.F.plain_set_update_loop _]
    show wpAny _ A.in1 (pyNext (.ref I) >>= _) _ _ s
    refine wpAny_bind (W.done s _ _ hst fun s' hm => ?_)
    show wpAny _ A.in1 (ret Value.none) _ _ s'
    rw [List.take_of_length_le (by omega)] at hS
    exact wpAny_pure (hR s' (hm.mono hsub) (hS.at fun o e => hm.heap S o hSw e))
  | succ k ih =>
    intro i s hk' hi hst hS hR
    have hlt : i < n := by omega
    refine codeAny_builtin PyProof.Rows.F.entry_set_update_loop ?_
    rw [Around.under_plainId PyProof.Rows.F.plain_set_update_loop _]
    show wpAny _ A.in1 (pyNext (.ref I) >>= _) _ _ s
    refine wpAny_bind (W.item i s _ _ hlt hst fun v s' hP hst' hm => ?_)
    obtain ⟨t, rfl⟩ := hval i v hP
    have hS' : TextSet P w s'.heap S (xs.take i) := hS.at fun o e => hm.heap S o hSw e
    show wpAny _ A.in1 (holding [Value.str (xs.getD i Str.empty) t] (setAdd S (.str (xs.getD i Str.empty) t)) >>= _) _ _ s'
    refine wpAny_bind (wpAny_holding ?_)
    unfold setAdd
    refine wpAny_holding ?_
    refine wpAny_bind ((PySem.strKind P w).pyHash (k := xs.getD i Str.empty) (strKind_is _ _ _ _) ?_)
    refine textSet_add (s := { s' with toks := s'.toks + 1 }) hS' (by rw [List.length_take]; omega) fun b h' hsb hS2 => ?_
    have hS3 : TextSet P w h' S (xs.take (i + 1)) := by
      have e : xs.take (i + 1) = xs.take i ++ [xs.getD i Str.empty] := by
        rw [List.take_add_one, List.getD_eq_getElem?_getD, List.getElem?_eq_getElem (by omega)]
        rfl
      rw [e]
      exact hS2
    refine wpAny_pure ⟨plainId_quiet PyProof.Rows.F.plain_set_update_loop _, ih (i + 1) _ (by omega) hlt (W.frame _ s' _ _ hst' (Nat.le_succ _) fun b hb o e => ?_) hS3 fun s'' hm'' hS'' => ?_⟩
    · rw [hsb.2 b (fun h : b = S => hSf (by rw [← h]; exact hb))]; exact e
    · refine hR s'' (Moved.trans W.gtrans ((hm.mono hsub).then_heap (Nat.le_succ _) fun b o hb e => ?_) hm'') hS''
      rw [hsb.2 b (fun h : b = S => hb (by rw [h]; exact List.mem_cons_self))]; exact e
end
section
variable {P : Program} {w : World} {A : Around} {E : Value → Shared → Prop} {s : Shared}
/-- set(xs), xs a list of texts -/
theorem call_textSet {l : Addr} {items : Array Value} {xs : List Str} {Q : Value → Shared → Prop} (hh : A.handled = none) (hl : s.heap.IsList l items) (hit : StrsAre items.toList xs) (hb : xs.length + 1 < scanBound)
    (h : ∀ (h' : Heap) (tk : Nat), TextSet P w h' s.heap.objs.size xs → (∀ b o, s.heap.get? b = some o → h'.get? b = some o) → Q (.ref s.heap.objs.size) { s with heap := h', toks := tk }) :
    wpAny (model P w) A (call (.type "set") [.ref l]) Q E s := by
  have hsz : items.size = xs.length := by
    have q := StrsAre.len_eq hit
    rw [Array.length_toList] at q
    exact q
  obtain ⟨c, tl, hmro⟩ := PySem.F.called_set.mro
  have hmade := PySem.F.called_set.made
  have hsub := PySem.F.called_set.sub
  refine wpAny_call (codeAny_of_tree ?_)
  show wpAny _ _ (callAny (.type "set") _) _ _ _
  refine wpAny_pure ⟨Code.quiet_builtin _ (by decide +kernel), codeAny_builtin PySem.F.entry_type_call ?_⟩
  rw [Around.under_plain (weight_type_call_type "set" [.ref l] []) rfl]
  have h1 := PySem.F.called_set.notType
  have h2 := PySem.F.called_set.canCreate
  have hct := PySem.F.typeCall_set_1 (.ref l)
  repeat (any_goals (first | assumption | wp_step))
  refine codeAny_mono (code_set_led1 (.ref l) (E := E) (Q₁ := fun obj s₁ => obj = .ref s.heap.objs.size ∧ s₁ = { s with heap := s.heap.push { cls := .type "set", dict := none, data := .set #[] 0 (.fresh 0 0 (!w.params.followText "set-order")) } }) ⟨rfl, rfl⟩) fun r s₁ hr => ?_
  cases r with
  | error e => exact hr
  | ok fl =>
    cases fl with
    | ret obj =>
      obtain ⟨rfl, rfl⟩ := hr
      have hS : (s.heap.push { cls := .type "set", dict := none, data := .set #[] 0 (.fresh 0 0 (!w.params.followText "set-order")) }).get? s.heap.objs.size = some { cls := .type "set", dict := none, data := .set #[] 0 (.fresh 0 0 (!w.params.followText "set-order")) } := Heap.get?_push_size _ rfl
      have hT : Shared.TypeIs { s with heap := s.heap.push { cls := .type "set", dict := none, data := .set #[] 0 (.fresh 0 0 (!w.params.followText "set-order")) } } (.ref s.heap.objs.size) "set" := ⟨_, hS, rfl⟩
      have hli := PySem.F.called_set.init.lookup
      have hbi := PySem.F.called_set.init.bind (.ref s.heap.objs.size)
      repeat (any_goals (first | assumption | wp_step))
      refine codeAny_mono (codeAny_call_builtin (R := wants (fun r s₂ => r = .none ∧ ∃ h' tk, s₂ = { s with heap := h', toks := tk } ∧ TextSet P w h' s.heap.objs.size xs ∧ (∀ b o, s.heap.get? b = some o → h'.get? b = some o)) E)
        PySem.F.called_set.init.plain PySem.F.entry_set_init (check_set_init_1 hT ?_)) fun r₂ s₂ hr₂ => ?_
      · obtain ⟨⟨ocls, odict, odata, oslots⟩, hol, hcl, nl, hdl⟩ := hl
        simp only at hcl hdl
        subst hcl; subst hdl
        have hol' : (s.heap.push { cls := .type "set", dict := none, data := .set #[] 0 (.fresh 0 0 (!w.params.followText "set-order")) }).get? l = some { cls := .type "list", dict := odict, data := .seq items nl, slots := oslots } := Heap.get?_push_of_some _ hol
        have hsls := PySem.F.sub_list_set
        have hslf := PySem.F.sub_list_frozenset
        have hne : (Value.type "list" == Value.type "dict") = false := by decide
        have hl1 : (s.heap.push { cls := .type "set", dict := none, data := .set #[] 0 (.fresh 0 0 (!w.params.followText "set-order")) }).IsList l items := ⟨_, hol', rfl, nl, rfl⟩
        unfold Builtin.«set.__init__» noKeywords Builtin.Frozenset.updateFrom
        generalize hPI : pyIter = PI
        wp_walk
        subst hPI
        refine wpAny_pyIter_list hl1 ?_
        refine wpAny_bind (wpAny_runValue ?_)
        have hlS : l < s.heap.objs.size := Heap.lt_size hol
        have hh3 : A.in1.in1.in1.handled = none := by simp [hh]
        have hneI : l ≠ (s.heap.push { cls := .type "set", dict := none, data := .set #[] 0 (.fresh 0 0 (!w.params.followText "set-order")) }).objs.size := by
          rw [Heap.size_push]; exact Nat.ne_of_lt (Nat.lt_succ_of_lt hlS)
        have hSf : s.heap.objs.size ∉ [(s.heap.push { cls := .type "set", dict := none, data := .set #[] 0 (.fresh 0 0 (!w.params.followText "set-order")) }).objs.size, l] := by
          rw [Heap.size_push]; simp only [List.mem_cons, List.mem_singleton, List.not_mem_nil, or_false, not_or]
          exact ⟨Nat.ne_of_lt (Nat.lt_succ_self _), Nat.ne_of_gt hlS⟩
        have hval : ∀ (i : Nat) (v : Value), items[i]? = some v → ∃ t, v = .str (xs.getD i Str.empty) t := fun i v hv => SS.strs_at hit i v (by rw [Array.getElem?_toList]; exact hv)
        refine textSet_loop ((Walks.list hh3 _ l hneI items).toS) s.heap.objs.size hSf xs hsz hb hval (items.size - 0) 0 _ (by omega) (Nat.zero_le _)
          ⟨⟨_, Heap.get?_push_size _ rfl, rfl, rfl⟩, (hl1.push _)⟩ ?hS0 ?hR
        case hS0 =>
          refine textSet_new ?_
          exact Heap.get?_push_of_some _ hS
        case hR =>
          intro s' hm hS'
          obtain ⟨h', g2, d', tk', os'⟩ := s'
          have eg : g2 = s.gens := hm.gens
          have ed : d' = s.drawn := hm.drawn
          have eo : os' = s.os := hm.os
          subst eg; subst ed; subst eo
          show wpAny _ _ _ _ _ _
          refine wpAny_pure ?_
          show wpAny _ _ (ret Value.none) _ _ _
          refine wpAny_pure ⟨rfl, h', tk', rfl, hS', fun b o e => ?_⟩
          have hb0 : b < s.heap.objs.size := Heap.lt_size e
          have hb1 : b ≠ s.heap.objs.size := Nat.ne_of_lt hb0
          have hb2 : b ≠ (s.heap.push { cls := .type "set", dict := none, data := .set #[] 0 (.fresh 0 0 (!w.params.followText "set-order")) }).objs.size := by
            rw [Heap.size_push]; exact Nat.ne_of_lt (Nat.lt_succ_of_lt hb0)
          exact hm.heap b o (by simp only [List.mem_cons, List.mem_singleton, List.not_mem_nil, or_false, not_or]; exact ⟨hb1, hb2⟩) (Heap.get?_push_of_some _ (Heap.get?_push_of_some _ e))
      · cases r₂ with
        | error e => exact hr₂
        | ok fl₂ =>
          cases fl₂ with
          | ret r =>
            obtain ⟨rfl, h', tk, rfl, hS', hk'⟩ := hr₂
            repeat (any_goals (first | assumption | wp_step))
            exact h _ _ hS' hk'
          | _ => exact hr₂.elim
    | _ => exact hr.elim
end
/-! rules -/
def textsO (P : Program) (w : World) (a : Addr) (xs : List Str) : HO := .ext fun h => TextSet P w h a xs
section
variable {X : Cx}
theorem textsO_new {w : World} {P : Program} {H : Hp} {h : Heap} {a : Addr} {xs : List Str} (R : TextSet P w h a xs) : ObjOk P w H h a (textsO P w a xs) :=
  ⟨R, (by obtain ⟨o, _, _, _, ho, _⟩ := R; exact ⟨o, ho⟩), fun h1 h2 x k => x.at k⟩
def rSetT (P : Program) (w : World) (K : PySem.W.Frag) : List V → Hp → VK → Prop := fun vs H Q => ∃ (l : Addr) (xs : List Str), vs = [V.ref l] ∧ SqL K H l (xs.map V.str) ∧ xs.length ≤ 4000 ∧ ∀ p, H p = none → Q (.ref p) (upd H p (textsO P w p xs))
theorem call_setT (hc : X.calm = true) : CallR X (.type "set") (rSetT X.prog X.w X.K) := by
  intro pins s σ H vs us Q I r h
  obtain ⟨l, xs, rfl, hs, hn, q⟩ := h
  obtain rfl := Vals.ref1 r
  obtain ⟨its, rv, pl, hz⟩ := I.list hs
  have hsb : scanBound = 4096 := rfl
  refine call_textSet (I.ok.hd hc) pl.isList (by simpa using strsAre_of rv) (by omega) fun h' tk hS hk => ?_
  have hf : H s.heap.objs.size = none := I.hok.fresh (Nat.le_refl _)
  exact ⟨.ref s.heap.objs.size, upd H s.heap.objs.size (textsO X.prog X.w s.heap.objs.size xs), I.laid (t' := tk) hk (Nat.le_refl _) (textsO_new hS), rfl, q _ hf⟩
theorem call_setTK {P : Program} {w : World} {K : PySem.W.Frag} (h1 : X.prog = P) (h2 : X.w = w) (h3 : X.K = K) (hc : X.calm = true) : CallR X (.type "set") (rSetT P w K) := by subst h1 h2 h3; exact call_setT hc
/-- how many different texts -/
def diff (xs : List Str) : Nat := xs.eraseDups.length
/-- len(s) -/
def rLenT (P : Program) (w : World) : List V → Hp → VK → Prop := fun vs H Q => ∃ (a : Addr) (xs : List Str), vs = [V.ref a] ∧ H a = some (textsO P w a xs) ∧ xs.length ≤ 4000 ∧ ∀ ys : List Str, ys.Nodup → (∀ k, k ∈ ys ↔ k ∈ xs) → Q (.int ys.length) H
theorem call_lenT : CallR X (.builtin "len") (rLenT X.prog X.w) := by
  intro pins s σ H vs us Q I r h
  obtain ⟨a, xs, rfl, ha, hx, q⟩ := h
  obtain rfl := Vals.ref1 r
  obtain ⟨o, es, ep, t, ho, hex, hd, g, nd, hm, hn, hf, hr, hl⟩ := (show ObjOk X.prog X.w H s.heap a (textsO X.prog X.w a xs) from I.hok a _ ha).1
  have hlen : (es.toList.map keyS).length = es.size := by rw [List.length_map, Array.length_toList]
  refine call_len_set ho hex hd hf ?_ ⟨.int (es.toList.map keyS).length, H, I.tok _, ⟨_, by rw [hlen]⟩, q _ nd hm⟩
  omega
theorem call_lenTK {P : Program} {w : World} (h1 : X.prog = P) (h2 : X.w = w) : CallR X (.builtin "len") (rLenT P w) := by subst h1 h2; exact call_lenT
/-- sorted(s) -/
def rSortedT (P : Program) (w : World) : List V → Hp → VK → Prop := fun vs H Q => ∃ (a : Addr) (xs : List Str), vs = [V.ref a] ∧ H a = some (textsO P w a xs) ∧ xs.length ≤ 4000 ∧
  ∀ (ys : List Str) (p : Addr), ys.Nodup → (∀ k, k ∈ ys ↔ k ∈ xs) → ys.Pairwise (fun x y => x.cps.toList ≤ y.cps.toList) → H p = none → Q (.ref p) (upd H p (.lst (ys.map V.str)))
theorem vals_strs : ∀ {vs : List Value}, (∀ v ∈ vs, ∃ x tk, v = Value.str x tk) → Vals (vs.map fun v => V.str (keyS (0, v))) vs
  | [], _ => .nil
  | v :: vs, hv => by
    obtain ⟨x, tk, rfl⟩ := hv v List.mem_cons_self
    exact .cons ⟨tk, rfl⟩ (vals_strs fun u hu => hv u (List.mem_cons_of_mem _ hu))
theorem each_strs {h : Heap} {P : Program} {w : World} : ∀ {vs : List Value}, (∀ v ∈ vs, ∃ x tk, v = Value.str x tk) → PySem.W.EachIs (fun u (v : Value) => u = v) vs vs ∧ PySem.W.EachIs (fun u (v : Value) => ∃ as, Reads h u (PyData.str (keyS (0, v))) as) vs vs
  | [], _ => ⟨.nil, .nil⟩
  | v :: vs, hv => by
    obtain ⟨i1, i2⟩ := each_strs (h := h) (P := P) (w := w) fun u hu => hv u (List.mem_cons_of_mem _ hu)
    obtain ⟨x, tk, rfl⟩ := hv v List.mem_cons_self
    exact ⟨.cons rfl i1, .cons ⟨[], .str x tk⟩ i2⟩
theorem cr_sortedT (hc : X.calm = true) (hu : X.A.units + 64 < cLine) : CallR X (.builtin "sorted") (rSortedT X.prog X.w) := by
  intro pins s σ H vs us Q I r h
  obtain ⟨a, xs, rfl, ha, hx, q⟩ := h
  obtain rfl := Vals.ref1 r
  obtain ⟨o, es, ep, t, ho, hex, hd, g, nd, hm, hn, hf, hr, hl⟩ := (show ObjOk X.prog X.w H s.heap a (textsO X.prog X.w a xs) from I.hok a _ ha).1
  have hsb : scanBound = 4096 := rfl
  refine Calls.call_function_entry kind_sorted plain_sorted entry_sorted (args_sorted1 _) ?_
  unfold Builtin.«sorted»
  refine wpAny_bind (m := checkCount "sorted" 1 1 _) (wpAny_pure ?_)
  refine wpAny_bind (collect_set (A := X.A.in1) (I.ok.hd hc) ⟨o, ho, hex.1, hd⟩ hf (by omega) hr hl fun s1 us k1 hz g1 o1 pm => ?_)
  have hvl : us.length = es.size := by rw [pm.length_eq, List.length_map, Array.length_toList]
  refine wpAny_bind (wpAny_newList ?_ (by rw [hvl, sizeLine_eq]; omega))
  have hoL : (s1.heap.push (seqObj "list" us.toArray 0)).get? s1.heap.objs.size = some (seqObj "list" us.toArray 0) := Heap.get?_push_size _ rfl
  have hstr : ∀ v ∈ us, ∃ x tk, v = Value.str x tk := fun v hv => by
    obtain ⟨e, he, rfl⟩ := List.mem_map.mp (pm.mem_iff.mp hv)
    obtain ⟨x, tk, h1, _⟩ := g e he
    exact ⟨x, tk, h1⟩
  obtain ⟨e1, e2⟩ := each_strs (h := s1.heap.push (seqObj "list" us.toArray 0)) (P := X.prog) (w := X.w) hstr
  have go := PySem.W.list_sort_data (prog := X.prog) (w := X.w) (A := X.A.in1) (E := X.xe) (s := { s1 with heap := s1.heap.push (seqObj "list" us.toArray 0) }) (Q := fun _ s' => EP X pins σ Q (.ref s1.heap.objs.size) s') (R := fun u (v : Value) => u = v) (enc := fun v : Value => PyData.str (keyS (0, v))) hoL e1 (by
      refine (PySem.W.each_mem e2).mono fun u v ⟨⟨as, hr⟩, hv⟩ => ?_
      obtain ⟨x, tk, rfl⟩ := hstr v hv
      cases hr
      exact ⟨[], .str _ _, by simp⟩) (PySem.W.AllAlike.of fun _ _ => rfl) (PySem.W.Sortable.others fun v => ⟨(by intro z; cases z), fun _ z => by cases z⟩) (by rw [hvl, sizeLine_eq]; omega) (fun v hv => by
      show X.A.units + 1 + 1 + 0 < cLine
      omega) fun out ho2 hout => ?_
  · exact wpAny_bind (wpAny_holding (wpAny_mono go (fun _ s' x => wpAny_pure ⟨_, rfl, x⟩) fun _ _ e => e))
  · generalize hM : us.mergeSort (PySem.W.dataLe false fun v : Value => PyData.str (keyS (0, v))) = M at hout
    have hpw : M.Pairwise fun x y => PySem.W.dataLe false (fun v : Value => PyData.str (keyS (0, v))) x y = true := by
      rw [← hM]
      exact PySem.W.sort_pairwise (PySem.W.sortLe_total _ false _) us
    have pM : M.Perm us := by rw [← hM]; exact List.mergeSort_perm _ _
    have eo : out = M := by
      have e := each_map_eq (f := fun v : Value => v) hout
      rw [e, List.map_id']
    have hMs : ∀ v ∈ M, ∃ x tk, v = Value.str x tk := fun v hv => hstr v (pM.mem_iff.mp hv)
    have pk : (M.map fun v => keyS (0, v)).Perm (es.toList.map keyS) := by
      have q2 := (pM.trans pm).map fun v => keyS (0, v)
      rw [List.map_map] at q2
      exact q2
    have rv : Vals ((M.map fun v => keyS (0, v)).map V.str) out := by
      rw [eo, List.map_map]
      exact vals_strs hMs
    have hpw2 : (M.map fun v => keyS (0, v)).Pairwise fun x y => x.cps.toList ≤ y.cps.toList := by
      rw [List.pairwise_map]
      refine hpw.imp fun {x y} h => ?_
      rw [PySem.W.dataLe_str] at h
      exact of_decide_eq_true h
    obtain ⟨c, hc2⟩ := PyProof.Rows.sortedHeap_at (vs := us) (out := out.toArray) hoL
    have hn0 : H s1.heap.objs.size = none := I.hok.fresh hz
    have hlen : ((M.map fun v => keyS (0, v)).map V.str).length ≤ sizeLine := by
      rw [List.length_map, List.length_map, pM.length_eq, hvl, sizeLine_eq]
      omega
    have k2 : ∀ b u, s.heap.get? b = some u → (sortedHeap (s1.heap.push (seqObj "list" us.toArray 0)) s1.heap.objs.size us out.toArray).get? b = some u := fun b u e => by
      have q2 := k1 b u e
      have hlt := Heap.lt_size q2
      rw [PyProof.Rows.sortedHeap_old (Nat.ne_of_lt hlt) (by rw [size_push']; exact Nat.lt_succ_of_lt hlt)]
      exact Heap.get?_push_of_some _ q2
    generalize hS2 : sortedHeap (s1.heap.push (seqObj "list" us.toArray 0)) s1.heap.objs.size us out.toArray = hp2 at k2 hc2 ⊢
    have J : Inv X pins σ (upd H s1.heap.objs.size (.lst ((M.map fun v => keyS (0, v)).map V.str))) { s with heap := hp2, gens := s1.gens, drawn := s1.drawn, toks := s1.toks } :=
      I.call (ch := []) (Un.laid k2 hz hn0) (I.hok.laid k2 hz ⟨hlen, out, c, rv, hc2⟩) (by rw [g1]; exact I.bare) (fun _ z => nomatch z)
    have e : ({ s1 with heap := hp2 } : Shared) = { s with heap := hp2, gens := s1.gens, drawn := s1.drawn, toks := s1.toks } := by
      cases s1
      cases s
      cases o1
      rfl
    show EP X pins σ Q (.ref s1.heap.objs.size) { s1 with heap := hp2 }
    rw [e]
    exact ⟨.ref _, _, J, rfl, q _ _ (pk.nodup_iff.mpr nd) (fun k => pk.mem_iff.trans (hm k)) hpw2 hn0⟩
theorem cr_sortedTK {P : Program} {w : World} (h1 : X.prog = P) (h2 : X.w = w) (hc : X.calm = true) (hu : X.A.units + 64 < cLine) : CallR X (.builtin "sorted") (rSortedT P w) := by subst h1 h2; exact cr_sortedT hc hu
end
/-! ### sorted(xs, key=f), f a def of the text -/
section
open PySem.Calls PySem.W
variable {prog : Program} {w : World} {A : Around} {E : Value → Shared → Prop} {s : Shared} {a kS : Addr} {b : Bool} {vs : List Value} {e1 : Nat} {P : PySem.Fin → Shared → Prop} {kz : List PyData}
theorem cut (h : Heap) (c : Addr) : ∃ G : Heap, (∀ b, b ≠ c → G.get? b = h.get? b) ∧ G.get? c = none := by
  obtain ⟨G, g1, g2⟩ := L2.restrict h fun b => decide (b ≠ c)
  exact ⟨G, fun b hb => g1 b (by simpa using hb), g2 c (by simp)⟩
theorem keyJ_rest {f : Value} {J : Shared → Prop} (hJ : ∀ s' g tk, J s' → (∀ b o, b ≠ a → b ≠ kS → s'.heap.get? b = some o → g.get? b = some o) → J { s' with heap := g, toks := tk })
    (j0 : J s) (nk : s.heap.get? kS = some (seqObj "list" #[] 0)) (na : s.heap.get? a = some (seqObj "list" #[] e1)) (hka : kS ≠ a)
    (hlen : kz.length = vs.length) (hZ : vs.length ≤ sizeLine) (hal : AllAlike kz) (hsk : Sortable kz) (hu : ∀ d, d ∈ kz → A.units + d.depth < cLine)
    (turn : ∀ (i : Nat) (v : Value) (k : PyData), vs[i]? = some v → kz[i]? = some k → ∀ (s' : Shared) (kA : Array Value) (e : Nat), J s' → s'.heap.get? kS = some (seqObj "list" kA e) → s'.heap.get? a = some (seqObj "list" #[] e1) →
      wpAny (model prog w) A (call f [v]) (fun u s'' => J s'' ∧ s''.heap.get? kS = some (seqObj "list" kA e) ∧ s''.heap.get? a = some (seqObj "list" #[] e1) ∧ ∀ h, Reads h u k []) (fun _ _ => False) s')
    (h : ∀ s' out c, J s' → s'.heap.get? a = some (seqObj "list" (List.toArray out) c) → KeyedOut b kz vs out → P (.done (.ret .none)) s') :
    wpAny (model prog w) A (ksk_rest a f b vs.toArray e1 (.ref kS)) P E s := by
  unfold ksk_rest
  refine wpAny_bind (wpAny_rule ?_)
  first
    | rw [List.forIn_toArray]
    | (rw [← Array.forIn_toList]; simp only [List.toList_toArray])
    | rw [← Array.forIn_toList]
  refine wpAny_bind (ksk_fold (fun i s' => ∃ kA e, J s' ∧ s'.heap.get? kS = some (seqObj "list" kA e) ∧ s'.heap.get? a = some (seqObj "list" #[] e1) ∧ EachIs (fun v k => ∀ h, Reads h v k []) kA.toList (kz.take i)) vs 0 s
    ⟨#[], 0, j0, nk, na, by rw [List.take_zero]; exact EachIs.nil⟩ ?step ?done)
  case step =>
    rintro j x s' hx ⟨kA, e, j', nk', na', hk⟩
    simp only [Nat.zero_add] at hk ⊢
    have hj : j < vs.length := (List.getElem?_eq_some_iff.mp hx).1
    obtain ⟨k, hkj⟩ : ∃ k, kz[j]? = some k := ⟨_, List.getElem?_eq_getElem (by omega)⟩
    have hz : kA.size ≤ vs.length := by
      have h1 := hk.length
      rw [Array.length_toList, List.length_take] at h1
      omega
    refine wpAny_bind (wpAny_attempt (wpAny_mono (turn j x k hx hkj s' kA e j' nk' na') (fun v s'' he => ?_) fun _ _ hF => hF.elim))
    obtain ⟨j2, nk2, na2, hr⟩ := he
    try dsimp only
    have s1 := Heap.SameBut.update s''.heap kS (Obj.mapSeq (·.push v))
    obtain ⟨c2, hc2⟩ : ∃ c2, (s''.heap.update kS (Obj.mapSeq (·.push v))).get? kS = some (seqObj "list" (kA.push v) c2) := ⟨_, get?_update_seq nk2 (·.push v)⟩
    have ek : kz.take (j + 1) = kz.take j ++ [k] := by rw [List.take_add_one, hkj]; simp
    have ea : (kA.push v).toList = kA.toList ++ [v] := by simp
    refine wpAny_bind (listUpdate_at nk2 rfl ?_ (Nat.le_trans hz hZ) (Nat.le_trans (Nat.le_of_eq (Array.size_push ..)) (Nat.succ_le_succ (Nat.le_trans hz hZ))))
    refine wpAny_pure ⟨rfl, kA.push v, c2, ?_, hc2, (s1.2 a hka.symm).trans na2, ?_⟩
    · exact hJ s'' _ s''.toks j2 fun b o _ hb q => (s1.2 b hb).trans q
    · rw [ea, ek]
      exact each_snoc (R := fun (u : Value) (d : PyData) => ∀ h, Reads h u d []) hr hk
  case done =>
    rintro s' ⟨kA, e, j', nk', na', hk⟩
    have hk0 : EachIs (fun v k => ∃ as, Reads s'.heap v k as) kA.toList kz := by
      have e3 : kz.take (0 + vs.length) = kz := List.take_of_length_le (by omega)
      rw [e3] at hk
      exact hk.mono fun u k q => ⟨[], q _⟩
    have hsz : kA.size = vs.length := by
      have h1 := hk0.length
      rw [Array.length_toList] at h1
      omega
    try dsimp only
    obtain ⟨G, g1, g2⟩ := cut s'.heap kS
    have kp : KeepsBut a G s'.heap := fun b o hb q => by
      by_cases hbk : b = kS
      · rw [hbk, g2] at q; cases q
      · rw [← g1 b hbk]; exact q
    refine wpAny_bind (listItems_at nk' rfl ?_)
    refine keyH_end (κ := dataKind s'.heap kz) (h₁ := G) kp g2 nk' na' hka (SortsAt.data hk0 hal hsk hu) hsz hZ fun h3 tk3 c k3 n3 => h _ _ c (hJ s' h3 tk3 j' fun b o hb1 hb2 q => k3 b o hb1 (by rw [g1 b hb2]; exact q)) n3 ⟨s'.heap, kA.toList, hal, rfl, hk0⟩
theorem sorted_keyJ {β : Type} {bs : List β} {R : Value → β → Prop} {l : Addr} {fq : Addr} {Q : Value → Shared → Prop} {J : Shared → Prop} (k : β → PyData) (hl : s.heap.IsList l vs.toArray) (e : EachIs R vs bs) (hal : AllAlike (bs.map k)) (hk : Sortable (bs.map k)) (hL : bs.length ≤ sizeLine)
    (hu : ∀ x, x ∈ bs → A.units + 2 + (k x).depth < cLine)
    (hJ : ∀ a kS, s.heap.objs.size ≤ a → s.heap.objs.size ≤ kS → ∀ s' g tk, J s' → (∀ b o, b ≠ a → b ≠ kS → s'.heap.get? b = some o → g.get? b = some o) → J { s' with heap := g, toks := tk })
    (j0 : J s)
    (turn : ∀ a kS, s.heap.objs.size ≤ a → s.heap.objs.size ≤ kS → ∀ (v : Value) (x : β), R v x → x ∈ bs → ∀ (s' : Shared) (oa ok : Obj), J s' → s'.heap.get? kS = some ok → s'.heap.get? a = some oa →
      wpAny (model prog w) A.in1.in1 (call (.ref fq) [v]) (fun u s'' => J s'' ∧ s''.heap.get? kS = some ok ∧ s''.heap.get? a = some oa ∧ ∀ h, Reads h u (k x) []) (fun _ _ => False) s')
    (h : ∀ s' out c, J s' → s'.heap.get? (s.heap.objs.size + 1) = some (seqObj "list" (List.toArray out) c) → EachIs R out (bs.mergeSort (dataLe false k)) → Q (.ref (s.heap.objs.size + 1)) s') :
    wpAny (model prog w) A (call (.builtin "sorted") [.ref l] [(Str.ofString "key", .ref fq)]) Q E s := by
  refine sorted_of_sort hl (by rw [e.length]; exact hL) (ksk_s1 _ _) (fun _ => ksk_l1 _ _) fun E' => ?_
  rw [ksk_t1]
  have ho := copyHeap_at s.heap vs
  have hc : s.heap.objs.size + 1 < (copyHeap s.heap vs).objs.size := Heap.lt_size ho
  generalize hg : copyHeap s.heap vs = g0 at ho hc ⊢
  have kc : ∀ b o, s.heap.get? b = some o → g0.get? b = some o := fun b o q => by rw [← hg]; exact copyHeap_old q
  have hvl : vs.length ≤ sizeLine := by rw [e.length]; exact hL
  obtain ⟨e1, ho1⟩ : ∃ e1, (g0.update (s.heap.objs.size + 1) (Obj.mapSeq fun _ => (#[] : Array Value))).get? (s.heap.objs.size + 1) = some (seqObj "list" #[] e1) := ⟨_, get?_update_seq ho fun _ => #[]⟩
  have hkS : ((g0.update (s.heap.objs.size + 1) (Obj.mapSeq fun _ => (#[] : Array Value))).push (seqObj "tuple" vs.toArray 0)).objs.size = g0.objs.size + 1 := by rw [size_push', Heap.size_update]
  unfold ksk_tree
  refine wpAny_bind (listItems_at (s := { s with heap := g0 }) ho rfl ?_)
  refine wpAny_bind (listUpdate_at (s := { s with heap := g0 }) ho rfl ?_ (by rw [List.size_toArray]; exact hvl) (Nat.zero_le _))
  refine wpAny_bind (seqEpoch_at ho1 rfl ?_)
  refine wpAny_bind (wpAny_newTuple ?_ (by show vs.length ≤ _; exact hvl))
  refine wpAny_bind (wpAny_newList ?_ (Nat.zero_le _))
  refine wpAny_holding ?_
  have ra : s.heap.objs.size ≤ s.heap.objs.size + 1 := Nat.le_succ _
  have rk : s.heap.objs.size ≤ ((g0.update (s.heap.objs.size + 1) (Obj.mapSeq fun _ => (#[] : Array Value))).push (seqObj "tuple" vs.toArray 0)).objs.size := by rw [hkS]; omega
  have old : ∀ b o, s.heap.get? b = some o → (((g0.update (s.heap.objs.size + 1) (Obj.mapSeq fun _ => (#[] : Array Value))).push (seqObj "tuple" vs.toArray 0)).push (seqObj "list" #[] 0)).get? b = some o := fun b o q => by
    have hlt : b < s.heap.objs.size := Heap.lt_size q
    refine Heap.get?_push_of_some _ (Heap.get?_push_of_some _ ?_)
    rw [Heap.get?_update_ne _ _ _ _ (Nat.ne_of_lt (Nat.lt_succ_of_lt hlt))]
    exact kc b o q
  refine keyJ_rest (kz := bs.map k) (J := J) (kS := ((g0.update (s.heap.objs.size + 1) (Obj.mapSeq fun _ => (#[] : Array Value))).push (seqObj "tuple" vs.toArray 0)).objs.size) (hJ _ _ ra rk)
    (hJ _ _ ra rk s _ s.toks j0 fun b o _ _ q => old b o q) (Heap.get?_push_size _ rfl) (Heap.get?_push_of_some _ (Heap.get?_push_of_some _ ho1)) (fun z => by rw [hkS] at z; exact absurd z (Nat.ne_of_gt (Nat.lt_succ_of_lt hc))) (by rw [List.length_map]; exact e.length.symm) hvl hal hk (bound_map (A := A.in1.in1) hu) ?turn ?fin
  case turn =>
    intro i v d hv hd s' kA ee j nk na
    rw [List.getElem?_map] at hd
    cases q : bs[i]? with
    | none => rw [q] at hd; simp at hd
    | some x =>
      rw [q] at hd
      have hd' : some (k x) = some d := hd
      rw [← Option.some.inj hd']
      have hz : (v, x) ∈ vs.zip bs := List.mem_of_getElem? (i := i) (by rw [List.getElem?_zip_eq_some]; exact ⟨hv, q⟩)
      exact turn _ _ ra rk v x (e.zip _ hz) (List.mem_of_getElem? q) s' _ _ j nk na
  case fin =>
    intro s' out c j na ko
    exact ⟨rfl, h s' out c j na (keyedOut_each k ko e)⟩
end
section
variable {X : Cx} {CX : CXT} {k : Nat} {f : Addr} {fd : FuncData} {x : Str} {sp : Sp}
/-- sorted(xs, key=f): f gives a text of each item and changes nothing -/
def rSortedF (K : PySem.W.Frag) (f : Addr) (sp : Sp) : List V → List V → Hp → VK → Prop := fun vs zs H Q => ∃ (a : Addr) (β : Type) (bs : List β) (fv : β → V) (key : β → Str), vs = [V.ref a] ∧ zs = [V.ref f] ∧ SqL K H a (bs.map fv) ∧
  (∀ b ∈ bs, ∀ Q' : VK, Q' (.str (key b)) H → sp [fv b] H Q' (fun _ _ _ => False)) ∧ ∀ p, H p = none → Q (.ref p) (upd H p (.lst ((bs.mergeSort (PySem.W.dataLe false fun b => .str (key b))).map fv)))
theorem cr_sortedF (F : FnOk X.prog X.w X.K X.mg X.base CX k f fd [x] sp) (hr : Room (k + 2) X.A) (hb : Binds X.K fd [x] []) (hx : ∀ outer H s e s', CX outer H s (fun _ _ _ => False) e s' → False) : CallRK X (.builtin "sorted") [Str.ofString "key"] (rSortedF X.K f sp) := by
  intro pins s σ H vs zs us ws Q I r rz h
  obtain ⟨a, β, bs, fv, key, rfl, rfl, hs, hsp, q⟩ := h
  obtain rfl := Vals.ref1 r
  obtain rfl := Vals.ref1 rz
  obtain ⟨its, rv, hl, hz⟩ := I.list hs
  have hlen : bs.length ≤ sizeLine := by rw [List.length_map] at hz; exact hz
  refine sorted_keyJ (J := fun s' => Inv X pins σ H s') (R := fun u b => RelV (fv b) u) (bs := bs) (fun b => .str (key b)) hl.isList (each_of_maps rv) (PySem.W.AllAlike.of fun _ _ => rfl) (PySem.W.Sortable.others fun v => ⟨(by intro z; cases z), fun _ z => by cases z⟩) hlen (fun b hb => ?_) ?hJ I ?turn ?fin
  · have h2 : (PyData.str (key b)).depth = 0 := by simp [PyData.depth]
    have := hr.un
    omega
  case hJ =>
    intro a' kS ra rk s' g tk J keep
    refine J.turnedL (ch := [a', kS]) (fun b o hb q => keep b o (fun z => hb (by simp [z])) (fun z => hb (by simp [z])) q) fun b hb => ?_
    have hb2 : s.heap.objs.size ≤ b := by
      rcases List.mem_cons.mp hb with rfl | hb
      · exact ra
      · rw [List.mem_singleton.mp hb]; exact rk
    exact I.fpOk hb2 (I.hok.fresh hb2)
  case turn =>
    intro a' kS ra rk v b hv hbm s' oa ok J nk na
    have e0 : Env0 X.prog X.w X.K X.mg X.base X.A.in1.in1 X.stack s' H := J.env0.in1.in1
    have hr2 : Room k X.A.in1.in1 := hr.in1.in1
    have st : ∀ c, s.heap.objs.size ≤ c → c ∉ frs X.stack := fun c hc hm => by
      obtain ⟨_, h1, h2, _⟩ := I.fpOk hc (I.hok.fresh hc)
      exact (List.mem_cons.mp (I.stkSub c hm)).elim h1 h2
    refine wpAny_call (codeAny_mono (F.run X.A.in1.in1 X.stack s' H ⟨[v], []⟩ [v] [fv b] (fun u H' => u = .str (key b) ∧ H' = H) (fun _ _ _ => False) hr2 e0 (hb s' [v] J.kIn rfl) (.cons hv .nil) (hsp b hbm _ ⟨rfl, rfl⟩)) fun r s'' hq => ?_)
    cases r with
    | error e => exact hx _ _ _ _ _ hq
    | ok fl =>
      cases fl with
      | ret u =>
        have hq' := hq
        obtain ⟨v0, H', os, bare, un, hok, ru, rfl, rfl⟩ := hq'
        have J2 : EP X pins σ (fun u H'' => u = .str (key b) ∧ H'' = H') u s'' := J.after hq
        obtain ⟨v1, H1, J2, r1, e1, e2⟩ := J2
        subst e2
        obtain ⟨t, rfl⟩ := (show ∃ t, u = Value.str (key b) t from ru)
        exact ⟨J2, un.keep _ _ nk (I.hok.fresh rk) (st _ rk) (by simp), un.keep _ _ na (I.hok.fresh ra) (st _ ra) (by simp), fun h => .str _ t⟩
      | next => exact False.elim hq
      | brk => exact False.elim hq
      | cont => exact False.elim hq
  case fin =>
    intro s' out c J na ho
    have hn : H (s.heap.objs.size + 1) = none := I.hok.fresh (Nat.le_succ _)
    have hl2 : ((bs.mergeSort (PySem.W.dataLe false fun b => .str (key b))).map fv).length ≤ sizeLine := by
      rw [List.length_map, List.length_mergeSort]; exact hlen
    refine ⟨.ref _, upd H (s.heap.objs.size + 1) (.lst ((bs.mergeSort (PySem.W.dataLe false fun b => .str (key b))).map fv)), ?_, rfl, q _ hn⟩
    exact J.take (h' := s'.heap) (t' := s'.toks) (fun b ob _ e => e) (I.fpOk (Nat.le_succ _) hn) ⟨hl2, out, c, maps_of_each ho, na⟩
end
theorem cr_sortedFK {X : Cx} {CX : CXT} {k : Nat} {f : Addr} {fd : FuncData} {x : Str} {sp : Sp} {K : PySem.W.Frag} (h : X.K = K) (F : FnOk X.prog X.w X.K X.mg X.base CX k f fd [x] sp) (hr : Room (k + 2) X.A) (hb : Binds X.K fd [x] []) (hx : ∀ outer H s e s', CX outer H s (fun _ _ _ => False) e s' → False) : CallRK X (.builtin "sorted") [Str.ofString "key"] (rSortedF K f sp) := by subst h; exact cr_sortedF F hr hb hx
theorem never0 : ∀ (outer : List Env) (H : Hp) (s : Shared) (e : Value) (s' : Shared), CX0 outer H s (fun _ _ _ => False) e s' → False := fun _ _ _ _ _ h => h
theorem g_cKw {r : List V → List V → Hp → VK → Prop} {t tk : TA} {σ : L2.St} {H : Hp} {Q : VK} (q : t σ H fun vs H1 => tk σ H1 fun zs H2 => r vs zs H2 Q) : tCKw r t tk σ H Q := q
theorem g_sortF {K : PySem.W.Frag} {f : Addr} {sp : Sp} {H : Hp} {Q : VK} {a : Addr} {β : Type} {bs : List β} {fv : β → V} (key : β → Str) (hs : SqL K H a (bs.map fv)) (hk : ∀ b ∈ bs, ∀ Q' : VK, Q' (.str (key b)) H → sp [fv b] H Q' (fun _ _ _ => False))
    (q : ∀ p, H p = none → Q (.ref p) (upd H p (.lst ((bs.mergeSort (PySem.W.dataLe false fun b => .str (key b))).map fv)))) : rSortedF K f sp [.ref a] [.ref f] H Q := ⟨a, β, bs, fv, key, rfl, rfl, hs, hk, q⟩

/-! ### comparisons of four -/
def tChain3 (r1 r2 r3 : R2) (ta tb tc td : TE) : TE := fun σ H Q => ta σ H fun x H1 => tb σ H1 fun y H2 => r1 x y H2 fun z H3 => ∃ k, z = .bl k ∧
  (if k = true then tc σ H3 fun u H4 => r2 y u H4 fun z' H5 => ∃ k', z' = .bl k' ∧ (if k' = true then td σ H5 fun w' H6 => r3 u w' H6 Q else Q (.bl false) H5) else Q (.bl false) H3)
section
variable {X : Cx} {a b c d : Expr} {ta tb tc td : TE} {pos : Pos}
theorem pt_chain3 {op1 op2 op3 : CmpOp} {r1 r2 r3 : R2} (h1 : OpR X (compareOp op1) r1) (h2 : OpR X (compareOp op2) r2) (h3 : OpR X (compareOp op3) r3) (ha : PE X a ta) (hb : PE X b tb) (hc : PE X c tc) (hd : PE X d td)
    (hm : lastMarks [op1, op2, op3] [b, c, d] = false := by with_unfolding_all rfl) : PT X (.Compare a [op1, op2, op3] [b, c, d] pos) (tTest (tChain3 r1 r2 r3 ta tb tc td)) := by
  refine ⟨fun pins s σ H Q I h => ?_⟩
  refine isTrue_chain (thn (ha.run pins s σ H _ I h) fun v s1 ⟨x, H1, I1, e1, q1⟩ => test_link (thn (hb.run pins s1 σ H1 _ I1 q1) fun u s2 ⟨y, H2, I2, e2, q2⟩ =>
    thn (h1 pins s2 σ H2 x y v u _ I2 e1 e2 q2) fun d0 s3 ⟨z, H3, I3, e3, k, e, q3⟩ => ?_)) hm
  subst e
  cases e3
  refine wpAny_truthy_bool ?_
  cases k with
  | false =>
    obtain ⟨k', e', q'⟩ := q3
    cases e'
    exact ite_ff ⟨H3, I3, q'⟩
  | true =>
    refine ite_tt (test_link (thn (hc.run pins s3 σ H3 _ I3 q3) fun w' s4 ⟨z', H4, I4, e4, q4⟩ => thn (h2 pins s4 σ H4 y z' u w' _ I4 e2 e4 q4) fun d' s5 ⟨z2, H5, I5, e5, k2, e6, q5⟩ => ?_))
    subst e6
    cases e5
    refine wpAny_truthy_bool ?_
    cases k2 with
    | false =>
      obtain ⟨k', e', q'⟩ := q5
      cases e'
      exact ite_ff ⟨H5, I5, q'⟩
    | true =>
      refine ite_tt (test_last (thn (hd.run pins s5 σ H5 _ I5 q5) fun w6 s6 ⟨z6, H6, I6, e6, q6⟩ => thn (h3 pins s6 σ H6 z' z6 w' w6 _ I6 e4 e6 q6) fun d' s7 ⟨z7, H7, I7, e7, k7, e8, q7⟩ => ?_))
      subst e8
      cases e7
      exact wpAny_truthy_bool ⟨H7, I7, q7⟩
end
theorem g_chain3 {r1 r2 r3 : R2} {ta tb tc td : TE} {σ : L2.St} {H : Hp} {Q : VK} (q : ta σ H fun x H1 => tb σ H1 fun y H2 => r1 x y H2 fun z H3 => ∃ k, z = .bl k ∧
  (if k = true then tc σ H3 fun u H4 => r2 y u H4 fun z' H5 => ∃ k', z' = .bl k' ∧ (if k' = true then td σ H5 fun w' H6 => r3 u w' H6 Q else Q (.bl false) H5) else Q (.bl false) H3)) : tChain3 r1 r2 r3 ta tb tc td σ H Q := q

/-! ### a dict of the module -/
def WDct (K : PySem.W.Frag) (w : World) (p : Addr) (kvs : List (Str × V)) : Prop := ∃ es n, K.lookup p = some ⟨.type "dict", none, .dict es n, #[]⟩ ∧ PySem.W.KeysLit w.params es.toList ∧ (p == sysModules) = false ∧ ∀ q ∈ kvs, ∃ u, PySem.W.nsIn K p q.1 = some (some u) ∧ RelV q.2 u
def rInW (K : PySem.W.Frag) (w : World) (neg : Bool) : R2 := fun x y H Q => ∃ p z kvs v, x = .str z ∧ y = .ref p ∧ WDct K w p kvs ∧ (z, v) ∈ kvs ∧ Q (.bl (!neg)) H
section
variable {X : Cx}
theorem op_inW : OpR X (compareOp .In) (rInW X.K X.w false) := by
  intro pins s σ H x y v u Q I rx ry h
  obtain ⟨p, z, kvs, v0, rfl, rfl, ⟨es, n, hl, hk, low, hv⟩, hm, q⟩ := h
  obtain ⟨t, rfl⟩ := (show ∃ t, v = Value.str z t from rx)
  obtain rfl : u = Value.ref p := ry
  obtain ⟨u0, e, _⟩ := hv _ hm
  refine wpAny_in_of (strKind_is X.prog X.w z t) low (PySem.W.mapOf_K (prog := X.prog) (w := X.w) I.kIn hl hk) ?_
  rw [PySem.W.find_K hl e]
  exact ⟨.bl true, H, I.tok _, rfl, q⟩
theorem op_ninW : OpR X (compareOp .NotIn) (rInW X.K X.w true) := by
  intro pins s σ H x y v u Q I rx ry h
  obtain ⟨p, z, kvs, v0, rfl, rfl, ⟨es, n, hl, hk, low, hv⟩, hm, q⟩ := h
  obtain ⟨t, rfl⟩ := (show ∃ t, v = Value.str z t from rx)
  obtain rfl : u = Value.ref p := ry
  obtain ⟨u0, e, _⟩ := hv _ hm
  refine wpAny_notIn_of (strKind_is X.prog X.w z t) low (PySem.W.mapOf_K (prog := X.prog) (w := X.w) I.kIn hl hk) ?_
  rw [PySem.W.find_K hl e]
  exact ⟨.bl false, H, I.tok _, rfl, q⟩
theorem op_inWK {K : PySem.W.Frag} {w : World} (h1 : X.K = K) (h2 : X.w = w) : OpR X (compareOp .In) (rInW K w false) := by subst h1 h2; exact op_inW
theorem op_ninWK {K : PySem.W.Frag} {w : World} (h1 : X.K = K) (h2 : X.w = w) : OpR X (compareOp .NotIn) (rInW K w true) := by subst h1 h2; exact op_ninW
theorem ix_kdictK {K : PySem.W.Frag} {w : World} (h1 : X.K = K) (h2 : X.w = w) : IxR X (rIxD K w) := by subst h1 h2; exact ix_kdict
end
section
variable {K : PySem.W.Frag} {w : World} {H : Hp} {Q : VK} {p : Addr} {z : Str} {kvs : List (Str × V)} {v : V}
theorem g_inW {neg : Bool} (h : WDct K w p kvs) (hm : (z, v) ∈ kvs) (q : Q (.bl (!neg)) H) : rInW K w neg (.str z) (.ref p) H Q := ⟨p, z, kvs, v, rfl, rfl, h, hm, q⟩
theorem g_ixW (h : WDct K w p kvs) (hm : (z, v) ∈ kvs) (q : Q v H) : rIxD K w (.ref p) (.str z) H Q := by
  obtain ⟨es, n, hl, hk, low, hv⟩ := h
  obtain ⟨u0, e, r⟩ := hv _ hm
  exact ⟨p, z, v, rfl, rfl, ⟨es, n, u0, hl, hk, e, r⟩, q⟩
end

/-! ### a dict display -/
def rDisp (p : Addr) (ps : List (V × V)) : Hp → VK → Prop := fun H2 Q => H2 p = some (.dK []) ∧ ∃ kvs : List (Key × V), ps = kvs.map (fun kv => (kV kv.1, kv.2)) ∧ kvs.length ≤ 15 ∧ Q (.ref p) (upd H2 p (.dK (mergeK [] kvs)))
section
variable {σ : L2.St} {H : Hp} {Q : VK} {p : Addr}
theorem g_disp {trs : List (TE × TE)} (q : ∀ p, H p = none → tPairs trs σ (upd H p (.dK [])) fun ps H2 => rDisp p ps H2 Q) : tDisp trs σ H Q := q
theorem g_pcons {tk tv : TE} {r : List (TE × TE)} {R : List (V × V) → Hp → Prop} (q : tk σ H fun x H1 => tv σ H1 fun y H2 => tPairs r σ H2 fun ps H3 => R ((x, y) :: ps) H3) : tPairs ((tk, tv) :: r) σ H R := q
theorem g_pnil {R : List (V × V) → Hp → Prop} (q : R [] H) : tPairs [] σ H R := q
theorem g_dispE {ps : List (V × V)} (kvs : List (Key × V)) (he : H p = some (.dK [])) (hp : ps = kvs.map (fun kv => (kV kv.1, kv.2))) (hl : kvs.length ≤ 15) (q : Q (.ref p) (upd H p (.dK (mergeK [] kvs)))) : rDisp p ps H Q := ⟨he, kvs, hp, hl, q⟩
end

/-! ### zip of tuples -/
theorem pi_zipAK {X : Cx} {K : PySem.W.Frag} {e e2 : Expr} {ta : TA} {p pos tpos : Pos} {elts : List Expr} {kk : Nat} (h : X.K = K) (hg : Gl X "zip") (hm : X.mg "zip" = none) (ha : PA X [e, e2] ta)
    (hs : starEach [e, e2] X.env = (false, eval e X.env) :: starEach [e2] X.env := by rfl) (hpl : (backTo pos (starEach [e2] X.env)).any (·.1) = false := by rfl) :
    PI X (.Tuple elts kk tpos) (.Call (.Name "zip" p) [e, e2] [] pos) (RZ.iZipA K ta) := by subst h; exact RZ.pi_zipA hg hm ha hs hpl
theorem g_zip {K : PySem.W.Frag} {ta : TA} {σ : L2.St} {H : Hp} {R : It → Hp → Prop} (q : ta σ H fun vs H1 => ∃ a b xs ys, vs = [.ref a, .ref b] ∧ ((SqL K H1 a xs ∧ SqL K H1 b ys ∧ R (Itz K a b) H1) ∨ (SqT K H1 a xs ∧ SqT K H1 b ys ∧ R (RZ.ItzT K a b) H1))) : RZ.iZipA K ta σ H R := q
theorem l_zipT {K : PySem.W.Frag} {a b : Addr} {xs ys : List V} {g : TG} {tb : TS} {D : Ends} {σ : L2.St} {H : Hp} (hl : xs.length = ys.length) (Pv : Nat → L2.St → Hp → Prop) (h0 : Pv 0 σ H) (hq : ∀ i σ H, Pv i σ H → SqT K H a xs ∧ SqT K H b ys)
    (hs : ∀ (i : Nat) (x y : V) (T : Addr) (σ : L2.St) (H : Hp), xs[i]? = some x → ys[i]? = some y → Pv i σ H → H T = none → g (.ref T) σ (upd H T (.tup [x, y])) fun σ2 H2 => tb { D with nx := Pv (i + 1), ct := Pv (i + 1), bk := D.nx } σ2 H2) (hd : ∀ σ H, Pv xs.length σ H → D.nx σ H) :
    LoopOk (RZ.ItzT K a b) g tb D σ H := RZ.for_zipT hl Pv h0 hq hs hd
/-! ### limits of the six words -/
abbrev Shr : Type := Str × Int × Int
inductive Nu where
  | flat (ns : List Int)
  | pool (m : Int) (sh : List Shr)
structure Lm where
  nm : Str
  wd : Str
  gs : List Str
  nu : Nu
def million : Int := 1000000
def strLt (x y : Str) : Prop := x.cps.toList < y.cps.toList
def Asc (xs : List Str) : Prop := xs.Pairwise strLt
def sizesL : List (Str × V) := [("window", .int 2), ("span", .int 2), ("bucket", .int 2), ("gap", .int 1), ("held", .int 1), ("pool", .int 2)]
/-- the numbers of a word other than pool -/
def FlatOk (wd : Str) (ns : List Int) : Prop := ((wd = "window" ∨ wd = "span" ∨ wd = "bucket") ∧ ∃ a b, ns = [a, b] ∧ 0 ≤ a ∧ a ≤ million ∧ 1 ≤ b ∧ b ≤ million) ∨
  (wd = "gap" ∧ ∃ b, ns = [b] ∧ 1 ≤ b ∧ b ≤ million) ∨ (wd = "held" ∧ ∃ a, ns = [a] ∧ 0 ≤ a ∧ a ≤ million)
def Nu.Ok (wd : Str) (gs : List Str) : Nu → Prop
  | .flat ns => FlatOk wd ns ∧ gs.length ≤ 8 ∧ Asc gs
  | .pool m sh => wd = "pool" ∧ gs = [] ∧ 1 ≤ sh.length ∧ sh.length ≤ 8 ∧ Asc (sh.map (·.1)) ∧ (∀ s ∈ sh, isName s.1 = true ∧ 0 ≤ s.2.1 ∧ s.2.1 ≤ s.2.2 ∧ s.2.2 ≤ million) ∧ 0 ≤ m ∧ m ≤ million ∧ (sh.map (·.2.1)).sum ≤ m
def Lm.Ok (l : Lm) : Prop := isName l.nm = true ∧ (∀ g ∈ l.gs, isName g = true) ∧ l.nu.Ok l.wd l.gs
/-- how it stands in the heap -/
def NuAt (K : PySem.W.Frag) (H : Hp) (p : Addr) : Nu → Prop
  | .flat ns => SqT K H p (ns.map V.int)
  | .pool m sh => ∃ (q : Addr) (xs : List (Addr × Shr)), SqT K H p [.int m, .ref q] ∧ SqT K H q (xs.map fun x => V.ref x.1) ∧ xs.map (·.2) = sh ∧ ∀ x ∈ xs, SqT K H x.1 [.str x.2.1, .int x.2.2.1, .int x.2.2.2]
def LmAt (K : PySem.W.Frag) (H : Hp) (p : Addr) (l : Lm) : Prop := ∃ g n : Addr, SqT K H p [.str l.nm, .str l.wd, .ref g, .ref n] ∧ SqT K H g (l.gs.map V.str) ∧ NuAt K H n l.nu
section
variable {K : PySem.W.Frag} {H H' : Hp} {p : Addr} {l : Lm}
theorem NuAt.mono {n : Nu} (h : NuAt K H p n) (e : Ex H H') : NuAt K H' p n := by
  cases n with
  | flat ns => exact ex_sqT e h
  | pool m sh =>
    obtain ⟨q, xs, h1, h2, h3, h4⟩ := h
    exact ⟨q, xs, ex_sqT e h1, ex_sqT e h2, h3, fun x hx => ex_sqT e (h4 x hx)⟩
theorem LmAt.mono (h : LmAt K H p l) (e : Ex H H') : LmAt K H' p l := by
  obtain ⟨g, n, h1, h2, h3⟩ := h
  exact ⟨g, n, ex_sqT e h1, ex_sqT e h2, h3.mono e⟩
end
/-- the limit looks at the group -/
def seesL (l : Lm) (g : Str) : Bool := match l.nu with
  | .flat _ => decide (l.gs.length = 0) || decide (g ∈ l.gs)
  | .pool _ sh => decide (g ∈ sh.map (·.1))
/-- as data -/
def shrD (s : Shr) : PyData := .tuple [.str s.1, .int s.2.1, .int s.2.2]
def Nu.data : Nu → PyData
  | .flat ns => .tuple (ns.map PyData.int)
  | .pool m sh => .tuple [.int m, .tuple (sh.map shrD)]
def Lm.data (l : Lm) : PyData := .tuple [.str l.nm, .str l.wd, .tuple (l.gs.map PyData.str), l.nu.data]
section
variable {K : PySem.W.Frag} {H H' : Hp} {p : Addr} {l : Lm}
theorem dpAll_map {α : Type} {f : α → V} {d : α → PyData} : ∀ {xs : List α}, (∀ x ∈ xs, Dp K H (f x) (d x)) → DpAll K H (xs.map f) (xs.map d)
  | [], _ => .nil
  | x :: xs, h => .cons (h x List.mem_cons_self) (dpAll_map fun y hy => h y (List.mem_cons_of_mem _ hy))
theorem NuAt.dp {n : Nu} (h : NuAt K H p n) : Dp K H (.ref p) n.data := by
  cases n with
  | flat ns => exact .tup h (dpAll_map fun x _ => .int x)
  | pool m sh =>
    obtain ⟨q, xs, h1, h2, h3, h4⟩ := h
    refine .tup h1 (.cons (.int m) (.cons ?_ .nil))
    have e : sh.map shrD = xs.map fun x => shrD x.2 := by rw [← h3, List.map_map]; rfl
    rw [e]
    exact .tup h2 (dpAll_map fun x hx => .tup (h4 x hx) (.cons (.str _) (.cons (.int _) (.cons (.int _) .nil))))
theorem LmAt.dp (h : LmAt K H p l) : Dp K H (.ref p) l.data := by
  obtain ⟨g, n, h1, h2, h3⟩ := h
  exact .tup h1 (.cons (.str _) (.cons (.str _) (.cons (.tup h2 (dpAll_map fun x _ => .str x)) (.cons h3.dp .nil))))
end
/-- limits in a list -/
def LmsAt (K : PySem.W.Frag) (H : Hp) (xs : List (Addr × Lm)) : Prop := ∀ x ∈ xs, LmAt K H x.1 x.2
theorem LmsAt.mono {K : PySem.W.Frag} {H H' : Hp} {xs : List (Addr × Lm)} (h : LmsAt K H xs) (e : Ex H H') : LmsAt K H' xs := fun x hx => (h x hx).mono e
abbrev lV (x : Addr × Lm) : V := .ref x.1
abbrev lN (x : Addr × Lm) : Str := x.2.nm
/-- the limits in the order of their names -/
def sortN (xs : List (Addr × Lm)) : List (Addr × Lm) := xs.mergeSort (PySem.W.dataLe false fun x => .str x.2.nm)
theorem sortN_perm (xs : List (Addr × Lm)) : (sortN xs).Perm xs := List.mergeSort_perm _ _
theorem sortN_sorted (xs : List (Addr × Lm)) : (sortN xs).Pairwise fun x y => x.2.nm.cps.toList ≤ y.2.nm.cps.toList := by
  have h := PySem.W.sort_pairwise (le := PySem.W.dataLe false fun x : Addr × Lm => .str x.2.nm) (PySem.W.sortLe_total _ false _) xs
  refine h.imp fun {x y} h => ?_
  rw [PySem.W.dataLe_str] at h
  exact of_decide_eq_true h
/-- texts in order -/
def sortS (xs : List Str) : List Str := xs.mergeSort (PySem.W.dataLe false fun x => .str x)
theorem sortS_perm (xs : List Str) : (sortS xs).Perm xs := List.mergeSort_perm _ _
theorem sortS_sorted (xs : List Str) : (sortS xs).Pairwise fun x y => x.cps.toList ≤ y.cps.toList := by
  have h := PySem.W.sort_pairwise (le := PySem.W.dataLe false fun x : Str => .str x) (PySem.W.sortLe_total _ false _) xs
  refine h.imp fun {x y} h => ?_
  rw [PySem.W.dataLe_str] at h
  exact of_decide_eq_true h
theorem str_ext {x y : Str} (h : x.cps.toList = y.cps.toList) : x = y := by
  cases x
  cases y
  simp only [Str.mk.injEq]
  exact Array.toList_inj.mp h
theorem sorted_eq : ∀ {xs ys : List Str}, xs.Perm ys → xs.Pairwise (fun x y => x.cps.toList ≤ y.cps.toList) → ys.Pairwise (fun x y => x.cps.toList ≤ y.cps.toList) → xs = ys := by
  intro xs ys hp h1 h2
  exact hp.eq_of_pairwise (le := fun x y : Str => x.cps.toList ≤ y.cps.toList) (fun a b _ _ h h' => str_ext (List.le_antisymm h h')) h1 h2
theorem asc_of {ys : List Str} (hn : ys.Nodup) (h : ys.Pairwise fun x y => x.cps.toList ≤ y.cps.toList) : Asc ys := by
  have h2 := List.Pairwise.and hn h
  refine h2.imp fun {x y} ⟨h1, h3⟩ => ?_
  unfold strLt
  exact Std.lt_of_le_of_ne h3 fun e => h1 (str_ext e)
/-! rules -/
def iSeq (K : PySem.W.Frag) (te : TE) : TI := fun σ H R => te σ H fun x H1 => rIL K R x H1 ∨ rIT K R x H1
def rIxQ (K : PySem.W.Frag) : R2 := fun x y H Q => rIxL K x y H Q ∨ rIxT K x y H Q
section
variable {X : Cx} {K : PySem.W.Frag}
theorem pi_seqK {tg l : Expr} {tl : TE} (h : X.K = K) (hl : PE X l tl) : PI X tg l (iSeq K tl) := by
  subst h
  refine ⟨fun pins s σ H R I q => ?_⟩
  refine thn (hl.run pins s σ H _ I q) fun v s1 ⟨x, H1, I1, r, q1⟩ => ?_
  rcases q1 with ⟨a, e, ⟨xs, hq⟩, q⟩ | ⟨a, e, ⟨xs, hq⟩, q⟩
  · subst e
    cases r
    obtain ⟨its, rv, p, hz⟩ := I1.list hq
    refine wpAny_pyIter_list p.isList ?_
    refine ⟨s1.heap.objs.size, [s1.heap.objs.size], _, _, H1, rfl, I1.kept (t' := s1.toks) fun b o e => Heap.get?_push_of_some _ e, turn_list a _, ⟨_, Heap.get?_push_size _ rfl, rfl, rfl⟩, fun b hb => ?_, q⟩
    have e : b = s1.heap.objs.size := by simpa using hb
    subst e
    exact I1.fpOk (Nat.le_refl _) (I1.hok.fresh (Nat.le_refl _))
  · subst e
    cases r
    obtain ⟨its, rv, p, hz⟩ := I1.tuple hq
    refine wpAny_pyIter_tuple (show s1.heap.IsTuple a its.toArray from p) ?_
    refine ⟨s1.heap.objs.size, [s1.heap.objs.size], _, _, H1, rfl, I1.kept (t' := s1.toks) fun b o e => Heap.get?_push_of_some _ e, turn_tuple a _, ⟨_, Heap.get?_push_size _ rfl, rfl, rfl⟩, fun b hb => ?_, q⟩
    have e : b = s1.heap.objs.size := by simpa using hb
    subst e
    exact I1.fpOk (Nat.le_refl _) (I1.hok.fresh (Nat.le_refl _))
theorem ix_seqK (h : X.K = K) : IxR X (rIxQ K) := by
  subst h
  intro value slice pins s σ H x y v u Q I rx ry q hs
  rcases q with q | q
  · exact ix_list value slice pins s σ H x y v u Q I rx ry q hs
  · exact ix_tup value slice pins s σ H x y v u Q I rx ry q hs
theorem op_inDK (h : X.K = K) (hu : X.A.units + 65 < cLine) : OpR X (compareOp .In) (rInD K) := by subst h; exact op_inD hu
theorem op_notInDK (h : X.K = K) (hu : X.A.units + 65 < cLine) : OpR X (compareOp .NotIn) (rNotInD K) := by subst h; exact op_notInD hu
end
section
variable {K : PySem.W.Frag} {H : Hp} {Q : VK} {σ : L2.St} {p : Addr}
/-- a list or a tuple -/
def SqQ (K : PySem.W.Frag) (H : Hp) (p : Addr) (xs : List V) : Prop := SqL K H p xs ∨ SqT K H p xs
theorem SqQ.mono {H' : Hp} {xs : List V} (h : SqQ K H p xs) (e : Ex H H') : SqQ K H' p xs := h.imp (fun z => ex_sqL e z) fun z => ex_sqT e z
theorem g_lenQ {xs : List V} (h : SqQ K H p xs) (q : Q (.int xs.length) H) : rLen K [.ref p] H Q := ⟨p, xs, rfl, h, q⟩
theorem g_ixQ {xs : List V} {i : Int} {v : V} (h : SqQ K H p xs) (ha : atI xs i = some v) (q : Q v H) : rIxQ K (.ref p) (.int i) H Q := h.imp (fun z => g_ixL z ha q) fun z => g_ixT z ha q
theorem g_iSeq {te : TE} {R : It → Hp → Prop} (q : te σ H fun x H1 => rIL K R x H1 ∨ rIT K R x H1) : iSeq K te σ H R := q
theorem g_atQ {R : It → Hp → Prop} {xs : List V} (h : SqQ K H p xs) (q : SqL K H p xs → R (Itl K p) H) (q2 : SqT K H p xs → R (Itt K p) H) : rIL K R (.ref p) H ∨ rIT K R (.ref p) H := h.imp (fun z => g_atL z (q z)) fun z => g_atT z (q2 z)
theorem at_strs2 {zs : List Str} {i : Nat} (h : i < zs.length) : atI (zs.map V.str) (i : Int) = some (.str (zs.getD i Str.empty)) := by
  refine atI_nat ?_
  rw [List.getElem?_map, List.getElem?_eq_getElem h, List.getD_eq_getElem?_getD, List.getElem?_eq_getElem h]
  rfl
end
def ascB (zs : List Str) : Bool := (List.range (zs.length - 1)).all fun i => decide ((zs.getD i Str.empty).cps.toList < (zs.getD (i + 1) Str.empty).cps.toList)
theorem ascB_of {zs : List Str} (h : Asc zs) : ascB zs = true := by
  unfold ascB
  rw [List.all_eq_true]
  intro i hi
  have hi2 : i + 1 < zs.length := by have := List.mem_range.mp hi; omega
  refine decide_eq_true ?_
  rw [List.getD_eq_getElem?_getD, List.getD_eq_getElem?_getD, List.getElem?_eq_getElem hi2, List.getElem?_eq_getElem (show i < zs.length by omega)]
  exact List.pairwise_iff_getElem.mp h i (i + 1) (by omega) hi2 (by omega)
theorem isName_len {z : Str} (h : isName z = true) : z.length ≤ 12 := by
  unfold isName at h
  simp only [Bool.and_eq_true, decide_eq_true_eq] at h
  omega
theorem isName_ok {z : Str} (h : isName z = true) : PyData.strOk z = true := part_ok (isName_part h)
/-! comprehensions of new things -/
theorem NuAt.tr {K : PySem.W.Frag} {H H' : Hp} {p : Addr} {n : Nu} (h : NuAt K H p n) (t : ∀ q vs, SqT K H q vs → SqT K H' q vs) : NuAt K H' p n := by
  cases n with
  | flat ns => exact t _ _ h
  | pool m sh =>
    obtain ⟨q, xs, h1, h2, h3, h4⟩ := h
    exact ⟨q, xs, t _ _ h1, t _ _ h2, h3, fun x hx => t _ _ (h4 x hx)⟩
theorem LmAt.tr {K : PySem.W.Frag} {H H' : Hp} {p : Addr} {l : Lm} (h : LmAt K H p l) (t : ∀ q vs, SqT K H q vs → SqT K H' q vs) : LmAt K H' p l := by
  obtain ⟨g, n, h1, h2, h3⟩ := h
  exact ⟨g, n, t _ _ h1, t _ _ h2, h3.tr t⟩
def LmW (K : PySem.W.Frag) (nm : Str) (y : V) (H : Hp) : Prop := ∃ p l, y = .ref p ∧ LmAt K H p l ∧ l.Ok ∧ l.nm = nm
section
variable {K : PySem.W.Frag} {H : Hp} {Q : VK} {σ : L2.St} {g : TG} {te : TE} {vs : List Nat} {n : Nat}
theorem lc_rngW {β : Type} (b : Nat → β) (W : β → V → Hp → Prop) (hWe : ∀ c x H H', W c x H → Ex H H' → W c x H') (hWu : ∀ c x H D acc o, W c x H → H D = some (.lst acc) → W c x (upd H D o)) (hn : n ≤ 1000000)
    (hs : ∀ i, i < n → ∀ H1, Ex H H1 → ∀ R : VK, (∀ y H3, Ex H1 H3 → W (b i) y H3 → R y H3) → g (.int (i : Nat)) (wipe σ vs) H1 fun σ2 H3 => wipe σ2 vs = wipe σ vs ∧ te σ2 H3 R)
    (hq : ∀ p H' (ys : List (V × β)), H p = none → Ex H H' → H' p = some (.lst (ys.map (·.1))) → ys.map (·.2) = (List.range n).map b → (∀ z ∈ ys, W z.2 z.1 H') → Q (.ref p) H') : LcOk (Itr 0 n) g tYes te vs Q σ H := by
  refine lc_new walk_range b W hWe hWu (fits_lt hn) (fun _ _ => trivial) (fun i H1 x H2 hY => ?_) (fun i x H1 H2 hi hE hY R hR => ?_) hq
  · obtain ⟨rfl, _⟩ := hY
    exact Evl.Ex.refl _
  · obtain ⟨rfl, rfl⟩ := hY
    have e : (0 : Int) + (i : Nat) = ((i : Nat) : Int) := Int.zero_add _
    show g (.int ((0 : Int) + (i : Nat))) _ _ _
    rw [e]
    exact hs i hi H2 hE R hR
theorem strs_ys {P : Str → Prop} : ∀ {ys : List (V × Unit)}, (∀ z ∈ ys, ∃ x, z.1 = .str x ∧ P x) → ∃ zs : List Str, ys.map (·.1) = zs.map V.str ∧ zs.length = ys.length ∧ ∀ z ∈ zs, P z
  | [], _ => ⟨[], rfl, rfl, fun z hz => nomatch hz⟩
  | y :: ys, h => by
    obtain ⟨x, e, p⟩ := h y List.mem_cons_self
    obtain ⟨zs, h1, h2, h3⟩ := strs_ys (P := P) (ys := ys) fun z hz => h z (List.mem_cons_of_mem _ hz)
    refine ⟨x :: zs, by rw [List.map_cons, List.map_cons, h1, e], by rw [List.length_cons, List.length_cons, h2], fun z hz => ?_⟩
    rcases List.mem_cons.mp hz with rfl | hz
    · exact p
    · exact h3 z hz
theorem lc_rngS {P : Str → Prop} (hn : n ≤ 1000000)
    (hs : ∀ i, i < n → ∀ H1, Ex H H1 → ∀ R : VK, (∀ x H3, Ex H1 H3 → P x → R (.str x) H3) → g (.int (i : Nat)) (wipe σ vs) H1 fun σ2 H3 => wipe σ2 vs = wipe σ vs ∧ te σ2 H3 R)
    (hq : ∀ p H' (zs : List Str), H p = none → Ex H H' → H' p = some (.lst (zs.map V.str)) → zs.length = n → (∀ z ∈ zs, P z) → Q (.ref p) H') : LcOk (Itr 0 n) g tYes te vs Q σ H := by
  refine lc_rngW (fun _ => ()) (fun _ y _ => ∃ x, y = .str x ∧ P x) (fun _ _ _ _ w _ => w) (fun _ _ _ _ _ _ w _ => w) hn (fun i hi H1 hE R hR => hs i hi H1 hE R fun x H3 h3 px => hR _ H3 h3 ⟨x, rfl, px⟩) fun p H' ys hp hE hL hm hW => ?_
  obtain ⟨zs, h1, h2, h3⟩ := strs_ys hW
  refine hq p H' zs hp hE (by rw [← h1]; exact hL) ?_ h3
  rw [h2]
  have := congrArg List.length hm
  simpa using this
theorem lms_ys : ∀ {ys : List (V × Str)}, (∀ z ∈ ys, LmW K z.2 z.1 H) → ∃ xs : List (Addr × Lm), ys.map (·.1) = xs.map lV ∧ xs.map lN = ys.map (·.2) ∧ LmsAt K H xs ∧ ∀ x ∈ xs, x.2.Ok
  | [], _ => ⟨[], rfl, rfl, (fun z hz => nomatch hz), fun z hz => nomatch hz⟩
  | y :: ys, h => by
    obtain ⟨p, l, e, hl, ho, hn⟩ := h y List.mem_cons_self
    obtain ⟨xs, h1, h2, h3, h4⟩ := lms_ys (ys := ys) fun z hz => h z (List.mem_cons_of_mem _ hz)
    refine ⟨(p, l) :: xs, by rw [List.map_cons, List.map_cons, h1, e], by rw [List.map_cons, List.map_cons, h2]; show l.nm :: _ = _; rw [hn], fun z hz => ?_, fun z hz => ?_⟩
    · rcases List.mem_cons.mp hz with rfl | hz
      · exact hl
      · exact h3 z hz
    · rcases List.mem_cons.mp hz with rfl | hz
      · exact ho
      · exact h4 z hz
theorem lc_rngL (nm : Nat → Str) (hn : n ≤ 1000000)
    (hs : ∀ i, i < n → ∀ H1, Ex H H1 → ∀ R : VK, (∀ p l H3, Ex H1 H3 → LmAt K H3 p l → l.Ok → l.nm = nm i → R (.ref p) H3) → g (.int (i : Nat)) (wipe σ vs) H1 fun σ2 H3 => wipe σ2 vs = wipe σ vs ∧ te σ2 H3 R)
    (hq : ∀ p H' (xs : List (Addr × Lm)), H p = none → Ex H H' → H' p = some (.lst (xs.map lV)) → xs.map lN = (List.range n).map nm → LmsAt K H' xs → (∀ x ∈ xs, x.2.Ok) → Q (.ref p) H') : LcOk (Itr 0 n) g tYes te vs Q σ H := by
  refine lc_rngW nm (LmW K) (fun _ _ _ _ ⟨p, l, h1, h2, h3⟩ e => ⟨p, l, h1, h2.mono e, h3⟩) (fun _ _ _ _ _ _ ⟨p, l, h1, h2, h3⟩ hD => ⟨p, l, h1, h2.tr fun q vs z => sqT_upd hD z, h3⟩) hn (fun i hi H1 hE R hR => hs i hi H1 hE R fun p l H3 h3 a b c => hR _ H3 h3 ⟨p, l, rfl, a, b, c⟩) fun p H' ys hp hE hL hm hW => ?_
  obtain ⟨xs, h1, h2, h3, h4⟩ := lms_ys hW
  exact hq p H' xs hp hE (by rw [← h1]; exact hL) (by rw [h2, hm]) h3 h4
end
theorem lc_tupA {K : PySem.W.Frag} {H : Hp} {Q : VK} {σ : L2.St} {g : TG} {te : TE} {vs : List Nat} {α : Type} {a : Addr} {xs : List α} (enc : α → V) (f : α → V) (d : α) (hS : SqT K H a (xs.map enc)) (hn : xs.length ≤ 1000000)
    (hs : ∀ x ∈ xs, ∀ H1, Ex H H1 → ∀ R : VK, (∀ H3, Ex H1 H3 → R (f x) H3) → g (enc x) (wipe σ vs) H1 fun σ2 H3 => wipe σ2 vs = wipe σ vs ∧ te σ2 H3 R)
    (hq : ∀ p H', H p = none → Ex H H' → H' p = some (.lst (xs.map f)) → Q (.ref p) H') : LcOk (Itt K a) g tYes te vs Q σ H := by
  refine lc_pure (walk_tup (xs := xs.map enc)) (fun i => f (xs.getD i d)) (fits_lt (by rw [List.length_map]; exact hn)) (fun H' e => ex_sqT e hS) (fun i x H1 H2 hi hE hY R hR => ?_) (fun i H1 x H2 hY => ?_) (fun p H' hp hE hL => ?_)
  · obtain ⟨rfl, hx⟩ := hY
    rw [List.getElem?_map] at hx
    cases e : xs[i]? with
    | none => rw [e] at hx; cases hx
    | some y =>
      rw [e] at hx
      have ex : enc y = x := Option.some.inj hx
      subst ex
      have e2 : xs.getD i d = y := by rw [List.getD_eq_getElem?_getD, e]; rfl
      exact hs y (List.mem_of_getElem? e) H2 hE R fun H3 h3 => by
        have := hR H3 h3
        rw [e2] at this
        exact this
  · obtain ⟨rfl, _⟩ := hY
    exact Evl.Ex.refl _
  · refine hq p H' hp hE ?_
    rw [hL, List.length_map]
    congr 2
    refine List.ext_getElem? fun j => ?_
    rw [List.getElem?_map, List.getElem?_map]
    by_cases hj : j < xs.length
    · rw [List.getElem?_range hj, List.getElem?_eq_getElem hj]
      show some (f (xs.getD j d)) = some (f xs[j])
      rw [List.getD_eq_getElem?_getD, List.getElem?_eq_getElem hj]
      rfl
    · rw [List.getElem?_eq_none (by rw [List.length_range]; omega), List.getElem?_eq_none (by omega)]
      rfl
theorem g_catTE {K : PySem.W.Frag} {H : Hp} {Q : VK} {p r : Addr} {x : V} {xs ys : List V} (h : SqT K H p (x :: xs)) (h' : SqT K H r ys) (hz : (x :: xs).length + ys.length ≤ sizeLine) (q : ∀ p' H', Ex H H' → SqT K H' p' ((x :: xs) ++ ys) → Q (.ref p') H') : rCatT K (.ref p) (.ref r) H Q :=
  ⟨p, r, _, _, rfl, rfl, h, h', (fun z => nomatch z), hz, (fun z => q _ _ (Evl.Ex.refl _) (by rw [z, List.append_nil]; exact h)), fun _ p hp => q _ _ (Evl.Ex.new hp) (.inl (.inl upd_same))⟩
theorem nodup_le : ∀ {ys zs : List Str}, ys.Nodup → (∀ y ∈ ys, y ∈ zs) → ys.length ≤ zs.length
  | [], _, _, _ => Nat.zero_le _
  | y :: ys, zs, hn, h => by
    obtain ⟨h1, h2⟩ := List.nodup_cons.mp hn
    have hy : y ∈ zs := h y List.mem_cons_self
    have := nodup_le (ys := ys) (zs := zs.erase y) h2 fun x hx => (List.mem_erase_of_ne (fun e => h1 (by rw [← e]; exact hx))).mpr (h x (List.mem_cons_of_mem _ hx))
    rw [List.length_erase_of_mem hy] at this
    have hz : 0 < zs.length := List.length_pos_of_mem hy
    rw [List.length_cons]
    omega
theorem shr_own (own : Int) : own = own := rfl
/-- the names of drawn limits -/
def limNames : List Str := ["lm", "lmm", "lmmm", "ln", "lnn", "lnnn", "lo", "loo", "looo", "lp", "lpp", "lppp", "lq", "lqq", "lqqq"]
def nmT (i r : Nat) : Str := limNames.getD (3 * i + r) Str.empty
theorem nmT_ok : ∀ i < 5, ∀ r < 3, isName (nmT i r) = true := by decide +kernel
theorem nmT_mem : ∀ i < 5, ∀ r < 3, nmT i r ∈ limNames := by decide +kernel
theorem nmT_at : ∀ i < 5, ∀ r < 3, (nmT i r).cps.toList.getD 1 0 = 109 + i := by decide +kernel
theorem nmT_nodup {n : Nat} (hn : n ≤ 5) (f : Nat → Nat) (hf : ∀ i, f i < 3) : ((List.range n).map fun i => nmT i (f i)).Nodup := by
  rw [List.nodup_iff_pairwise_ne, List.pairwise_map, List.pairwise_iff_getElem]
  intro i j hi hj hij e
  rw [List.length_range] at hi hj
  rw [List.getElem_range, List.getElem_range] at e
  have h1 := nmT_at i (by omega) (f i) (hf i)
  have h2 := nmT_at j (by omega) (f j) (hf j)
  rw [e] at h1
  omega
theorem nm_char {i : Nat} (hi : i < 5) : ∃ c, atI ("mnopq" : Str).cps.toList (i : Int) = some c ∧ ∀ r : Int, 0 ≤ r → r < 3 → ("l" : Str) ++ repS (1 + r).toNat ⟨#[c]⟩ = nmT i r.toNat ∧ (repS (1 + r).toNat ⟨#[c]⟩).length ≤ 3 := by
  have c3 : ∀ r : Int, 0 ≤ r → r < 3 → r = 0 ∨ r = 1 ∨ r = 2 := fun r h1 h2 => by omega
  have c5 : i = 0 ∨ i = 1 ∨ i = 2 ∨ i = 3 ∨ i = 4 := by omega
  rcases c5 with rfl | rfl | rfl | rfl | rfl
  · exact ⟨109, rfl, fun r h1 h2 => by rcases c3 r h1 h2 with rfl | rfl | rfl <;> exact ⟨by decide +kernel, by decide +kernel⟩⟩
  · exact ⟨110, rfl, fun r h1 h2 => by rcases c3 r h1 h2 with rfl | rfl | rfl <;> exact ⟨by decide +kernel, by decide +kernel⟩⟩
  · exact ⟨111, rfl, fun r h1 h2 => by rcases c3 r h1 h2 with rfl | rfl | rfl <;> exact ⟨by decide +kernel, by decide +kernel⟩⟩
  · exact ⟨112, rfl, fun r h1 h2 => by rcases c3 r h1 h2 with rfl | rfl | rfl <;> exact ⟨by decide +kernel, by decide +kernel⟩⟩
  · exact ⟨113, rfl, fun r h1 h2 => by rcases c3 r h1 h2 with rfl | rfl | rfl <;> exact ⟨by decide +kernel, by decide +kernel⟩⟩
theorem units65 {k : Nat} {A : Around} (r : Room k A) : A.units + 65 < cLine := by have := r.un; omega
def rIsBl (neg : Bool) : R2 := fun x y H Q => ∃ b c : Bool, x = .bl b ∧ y = .bl c ∧ Q (.bl (if neg then !decide (b = c) else decide (b = c))) H
theorem bool_beq (a b : Bool) : (Value.bool a == Value.bool b) = decide (a = b) := by
  by_cases e : a = b
  · subst e
    exact (beq_self_eq_true (Value.bool a)).trans (decide_eq_true (p := a = a) rfl).symm
  · exact (beq_eq_false_iff_ne.mpr fun z => e (Value.bool.inj z)).trans (decide_eq_false e).symm
theorem op_isB {X : Cx} : OpR X (compareOp .Is) (rIsBl false) := by
  intro pins s σ H x y v u Q I rx ry h
  obtain ⟨a, b, rfl, rfl, q⟩ := h
  cases (show v = Value.bool a from rx)
  cases (show u = Value.bool b from ry)
  exact wpAny_is_plain rfl (fin_bl I q (bool_beq a b).symm)
theorem op_isnotB {X : Cx} : OpR X (compareOp .IsNot) (rIsBl true) := by
  intro pins s σ H x y v u Q I rx ry h
  obtain ⟨a, b, rfl, rfl, q⟩ := h
  cases (show v = Value.bool a from rx)
  cases (show u = Value.bool b from ry)
  exact wpAny_isNot_plain rfl (fin_bl I q (by rw [bool_beq]; rfl))
theorem g_isBl {H : Hp} {Q : VK} {b c neg : Bool} (q : Q (.bl (if neg then !decide (b = c) else decide (b = c))) H) : rIsBl neg (.bl b) (.bl c) H Q := ⟨b, c, rfl, rfl, q⟩
/-! data that can be compared -/
def LayD (n : Nat) (d : PyData) : Prop := d.canLay0 = true ∧ d.depth ≤ n
theorem layAll {n : Nat} : ∀ {ds : List PyData}, (∀ d ∈ ds, LayD n d) → PyData.canLayAll0 ds = true ∧ PyData.depthAll ds ≤ n
  | [], _ => ⟨by simp [PyData.canLayAll0], by simp [PyData.depthAll]⟩
  | d :: ds, h => by
    obtain ⟨h1, h2⟩ := h d List.mem_cons_self
    obtain ⟨h3, h4⟩ := layAll (n := n) (ds := ds) fun x hx => h x (List.mem_cons_of_mem _ hx)
    refine ⟨by simp [PyData.canLayAll0, h1, h3], ?_⟩
    show max d.depth (PyData.depthAll ds) ≤ n
    omega
theorem lay_tuple {n : Nat} {ds : List PyData} (h : ∀ d ∈ ds, LayD n d) : LayD (n + 1) (.tuple ds) := by
  obtain ⟨h1, h2⟩ := layAll h
  exact ⟨by simp [PyData.canLay0, h1], by show PyData.depthAll ds + 1 ≤ _; omega⟩
theorem lay_list {n : Nat} {ds : List PyData} (h : ∀ d ∈ ds, LayD n d) : LayD (n + 1) (.list ds) := by
  obtain ⟨h1, h2⟩ := layAll h
  exact ⟨by simp [PyData.canLay0, h1], by show PyData.depthAll ds + 1 ≤ _; omega⟩
theorem lay_int {n : Nat} (i : Int) : LayD n (.int i) := ⟨rfl, Nat.zero_le _⟩
theorem lay_str {n : Nat} {z : Str} (h : PyData.strOk z = true) : LayD n (.str z) := ⟨h, Nat.zero_le _⟩
theorem LayD.shaped {n : Nat} {d : PyData} (h : LayD n d) (hn : n ≤ 64) : SeqAt.shaped d = true := by
  unfold SeqAt.shaped
  rw [h.1, decide_eq_true (show d.depth ≤ 64 by have := h.2; omega)]
  rfl
theorem LayD.le {n m : Nat} {d : PyData} (h : LayD n d) (hn : n ≤ m) : LayD m d := ⟨h.1, Nat.le_trans h.2 hn⟩
theorem word_ok {l : Lm} (h : l.Ok) : PyData.strOk l.wd = true := by
  have key : ∀ w ∈ (["window", "span", "bucket", "gap", "held", "pool"] : List Str), PyData.strOk w = true := by decide +kernel
  obtain ⟨_, _, h3⟩ := h
  refine key l.wd ?_
  cases hn : l.nu with
  | flat ns =>
    rw [hn] at h3
    rcases h3.1 with ⟨h1, _⟩ | ⟨h1, _⟩ | ⟨h1, _⟩
    · rcases h1 with h1 | h1 | h1 <;> (rw [h1]; simp)
    · rw [h1]; simp
    · rw [h1]; simp
  | pool m sh => rw [hn] at h3; rw [h3.1]; simp
theorem lm_lay {l : Lm} (h : l.Ok) : LayD 4 l.data := by
  have hw := word_ok h
  obtain ⟨h1, h2, h3⟩ := h
  refine lay_tuple fun d hd => ?_
  simp only [List.mem_cons, List.not_mem_nil, or_false] at hd
  rcases hd with rfl | rfl | rfl | rfl
  · exact lay_str (isName_ok h1)
  · exact lay_str hw
  · exact (lay_tuple (n := 0) fun d hd => by
      obtain ⟨g, hg, rfl⟩ := List.mem_map.mp hd
      exact lay_str (isName_ok (h2 g hg))).le (by decide)
  · cases hn : l.nu with
    | flat ns => exact (lay_tuple (n := 0) fun d hd => by
      obtain ⟨g, hg, rfl⟩ := List.mem_map.mp hd
      exact lay_int g).le (by decide)
    | pool m sh =>
      rw [hn] at h3
      obtain ⟨_, _, _, _, _, h4, _⟩ := h3
      refine lay_tuple (n := 2) fun d hd => ?_
      simp only [List.mem_cons, List.not_mem_nil, or_false] at hd
      rcases hd with rfl | rfl
      · exact lay_int m
      · refine lay_tuple (n := 1) fun d hd => ?_
        obtain ⟨s, hs, rfl⟩ := List.mem_map.mp hd
        refine lay_tuple (n := 0) fun d hd => ?_
        simp only [List.mem_cons, List.not_mem_nil, or_false] at hd
        rcases hd with rfl | rfl | rfl
        · exact lay_str (isName_ok (h4 s hs).1)
        · exact lay_int _
        · exact lay_int _
theorem lms_shaped {xs : List (Addr × Lm)} (h : ∀ x ∈ xs, x.2.Ok) : SeqAt.shaped (.list (xs.map fun x => x.2.data)) = true :=
  (lay_list (n := 4) fun d hd => by
    obtain ⟨x, hx, rfl⟩ := List.mem_map.mp hd
    exact lm_lay (h x hx)).shaped (by decide)
theorem lms_dp {K : PySem.W.Frag} {H : Hp} {p : Addr} {xs : List (Addr × Lm)} (h : SqL K H p (xs.map lV)) (hL : LmsAt K H xs) : Dp K H (.ref p) (.list (xs.map fun x => x.2.data)) :=
  .lst h (dpAll_map fun x hx => (hL x hx).dp)
theorem lm_shaped {l : Lm} (h : l.Ok) : SeqAt.shaped l.data = true := (lm_lay h).shaped (by decide)
theorem eqv_self {l : Lm} (h : l.Ok) : PyData.eqv l.data l.data = true := SeqAt.eqv_refl _ (SeqAt.canLay_of_shaped (lm_shaped h))
theorem in_data {xs : List (Addr × Lm)} {x : Addr × Lm} (h : x.2.Ok) (hx : x ∈ xs) : ((xs.map fun x => x.2.data).any fun z => PyData.eqv z x.2.data) = true :=
  List.any_eq_true.mpr ⟨_, List.mem_map.mpr ⟨x, hx, rfl⟩, eqv_self h⟩
theorem names_eq {rs ls : List (Addr × Lm)} (p : Addr × Lm → Bool) (h : rs.Perm ls) : ((sortN rs).filter p).map lN = sortS ((ls.filter p).map lN) := by
  refine sorted_eq ((((sortN_perm rs).trans h).filter p).map lN |>.trans (sortS_perm _).symm) ?_ (sortS_sorted _)
  rw [List.pairwise_map]
  exact (sortN_sorted rs).filter p
theorem ExP.toEx {m : Addr} {H H' H2 : Hp} (e : ExP m H' H2) (x : Ex H H') (hm : H m = none) : Ex H H2 := fun b o h => e b o (fun z => by rw [z, hm] at h; cases h) (x b o h)
theorem cut_turn {xs : List V} {t : Int} (h0 : 0 ≤ t) : cutV xs (some t) none = xs.drop t.toNat ∧ cutV xs none (some t) = xs.take t.toNat := ⟨cutV_from xs h0, cutV_to xs h0⟩
theorem turn_perm {α : Type} (xs : List α) (k : Nat) : ((xs.drop k).reverse ++ xs.take k).Perm xs :=
  (List.perm_append_comm.trans ((List.reverse_perm _).append_left _)).trans (by rw [List.take_append_drop])
/-! ### sorted of pairs (text, any object), the texts different -/
def IsSp (h : Heap) (v : Value) (x : Str) : Prop := ∃ a o t c n, v = .ref a ∧ h.get? a = some o ∧ o.cls = .type "tuple" ∧ o.data = .seq #[.str x t, .ref c] n
theorem IsSp.keeps {h h' : Heap} {v : Value} {x : Str} (p : IsSp h v x) (k : ∀ b o, h.get? b = some o → o.cls = .type "tuple" → h'.get? b = some o) : IsSp h' v x := by
  obtain ⟨a, o, t, u, n, e, ho, hc, hd⟩ := p
  exact ⟨a, o, t, u, n, e, k _ _ ho hc, hc, hd⟩
def ltN (k : Value → Str) (v u : Value) : Bool := decide ((k v).cps.toList < (k u).cps.toList)
theorem swo_name (k : Value → Str) : SrtO.Swo (ltN k) := by
  refine ⟨fun x y h => ?_, fun x y z h1 h2 => ?_⟩
  · have a := of_decide_eq_true h
    exact decide_eq_false fun b => List.lt_irrefl _ (List.lt_trans a b)
  · have a := of_decide_eq_false h1
    have b := of_decide_eq_false h2
    refine decide_eq_false fun c => ?_
    have a' := List.not_lt.mp a
    have b' := List.not_lt.mp b
    exact List.not_lt.mpr (List.le_trans a' b') c
section
variable {prog : Program} {w : World} {A : Around} {E : Value → Shared → Prop} {s : Shared}
theorem sp_firsts {h : Heap} : ∀ {vs : List Value}, (∀ v ∈ vs, ∃ x, IsSp h v x) → ∃ fs : List Value, PySem.W.KatTups h vs fs ∧ fs.length = vs.length ∧ ∀ f ∈ fs, ∃ x t, f = Value.str x t
  | [], _ => ⟨[], PySem.W.KatTups.nil, rfl, fun _ hm => by simp at hm⟩
  | v :: vs, hp => by
    obtain ⟨fs, h1, h2, h3⟩ := sp_firsts (vs := vs) fun v' hm => hp v' (List.mem_cons_of_mem _ hm)
    obtain ⟨x, a, o, t, u, n, e, ho, hc, hd⟩ := hp v List.mem_cons_self
    subst e
    refine ⟨.str x t :: fs, PySem.W.KatTups.cons ho hc hd rfl h1, by rw [List.length_cons, List.length_cons, h2], fun f hm => ?_⟩
    rcases List.mem_cons.mp hm with rfl | hm
    · exact ⟨x, t, rfl⟩
    · exact h3 f hm
theorem str_beq_cps (x y : Str) : (x == y) = decide (x = y) := by
  by_cases e : x = y
  · rw [decide_eq_true e, e]; exact beq_self_eq_true y
  · rw [decide_eq_false e]; exact beq_eq_false_iff_ne.mpr e
theorem sp_cmp {vs : List Value} {k : Value → Str} (hp : ∀ v ∈ vs, IsSp s.heap v (k v)) (hi : ∀ v ∈ vs, ∀ v' ∈ vs, k v = k v' → v = v') : SrtO.Cmp prog w A s (tuples' true) (fun p => p.1 ∈ vs) (SrtO.lt2 (ltN k)) := by
  intro p q hm hm'
  have h1 := hp _ hm
  have h2 := hp _ hm'
  show wpAny (model prog w) A (keyLt' (tuples' true) p.1 q.1) (fun r s' => s' = s ∧ r = ltN k p.1 q.1) (fun _ _ => False) s
  by_cases e : k p.1 = k q.1
  · have ev := hi _ hm _ hm' e
    rw [← ev]
    obtain ⟨a, o, t, c, n, e1, ho, hc, hd⟩ := h1
    have hlt : ltN k p.1 p.1 = false := decide_eq_false (List.lt_irrefl _)
    rw [e1] at hlt ⊢
    refine PySem.W.kat_lt ho hd ho hd ?_
    show PySem.W.KatLex prog w A true (decide (2 < 2)) _ [(.str (k p.1) t, .str (k p.1) t), (.ref c, .ref c)] 0 s
    refine PySem.W.kat_cons (SeqAt.EqAt.same _ prog w _ _ ?_)
    refine PySem.W.kat_yes (PySem.W.kat_cons (SeqAt.EqAt.same _ prog w _ _ ?_))
    exact PySem.W.kat_yes (PySem.W.kat_nil ⟨rfl, hlt.symm⟩)
  · unfold ltN
    generalize k p.1 = x at h1 e ⊢
    generalize k q.1 = x' at h2 e ⊢
    obtain ⟨a, o, t, c, n, e1, ho, hc, hd⟩ := h1
    obtain ⟨a', o', t', c', n', e', ho', hc', hd'⟩ := h2
    rw [e1, e']
    refine PySem.W.kat_lt ho hd ho' hd' ?_
    show PySem.W.KatLex prog w A true (decide (2 < 2)) _ [(.str x t, .str x' t'), (.ref c, .ref c')] 0 s
    refine PySem.W.kat_cons (SeqAt.EqAt.str_str x t x' t' prog w _ _ ?_)
    have ef : (x == x') = false := beq_eq_false_iff_ne.mpr e
    rw [ef]
    exact PySem.W.kat_no (oneLt_str ⟨rfl, rfl⟩)
theorem sp_sortable {a : Addr} {vs : List Value} {k : Value → Str} (h0 : 0 < vs.length) (hp : ∀ v ∈ vs, IsSp s.heap v (k v)) (hi : ∀ v ∈ vs, ∀ v' ∈ vs, k v = k v' → v = v') (ha : ∀ o, s.heap.get? a = some o → o.cls ≠ .type "tuple") : SrtO.SortableO prog w A s a vs (ltN k) := by
  intro h' keep
  have hp' : ∀ v ∈ vs, IsSp h' v (k v) := fun v hm => (hp v hm).keeps fun b o e c => keep b o (fun z => by subst z; exact ha o e c) e
  obtain ⟨fs, h1, h2, h3⟩ := sp_firsts fun v hm => ⟨_, hp' v hm⟩
  refine ⟨tuples' true, fun Q E hq => ?_, sp_cmp hp' hi⟩
  refine PySem.W.kat_kind (T := .type "str") h1 (by omega) (fun f hm => ?_) (by rfl) ?_
  · obtain ⟨x, t, rfl⟩ := h3 f hm
    exact PySem.W.Looks.now
  · have e : (Value.type "str" != Value.type "tuple") = true := by first | decide +kernel | rfl | decide
    rw [e]
    exact hq
theorem sorted_sp {l : Addr} {vs : List Value} {k : Value → Str} {Q : Value → Shared → Prop} (hl : s.heap.IsList l vs.toArray) (hz : vs.length ≤ sizeLine) (hp : ∀ v ∈ vs, IsSp s.heap v (k v)) (hi : ∀ v ∈ vs, ∀ v' ∈ vs, k v = k v' → v = v')
    (h : ∀ (h' : Heap) (d : Addr) (out : List Value), SrtO.Srtd (ltN k) out → SrtO.Stb (ltN k) out vs → (∀ b o, s.heap.get? b = some o → h'.get? b = some o) → s.heap.objs.size ≤ d → (∃ n, h'.get? d = some (seqObj "list" out.toArray n)) → Q (.ref d) { s with heap := h' }) :
    wpAny (model prog w) A (call (.builtin "sorted") [.ref l]) Q E s := by
  refine SrtO.sorted_ord (swo_name k) hl hz (fun h2 h₁ a ha kk => ?_) fun out hs hb => ?_
  · refine sp_sortable (s := { s with heap := h₁ }) (by omega) (fun v hm => (hp v hm).keeps fun b o e _ => (kk b o e).2) hi fun o e => ?_
    have e' : some o = some (seqObj "list" vs.toArray 0) := e.symm.trans ha
    cases e'
    intro c
    exact absurd (Value.type.inj c) (by decide)
  · exact h _ _ out hs hb (fun b o e => sortedAll_old e) (Nat.le_succ _) (sortedAll_at s.heap vs out.toArray)
end
theorem perm_lift {α β : Type} {f : β → α} {ys xs : List α} (h : ys.Perm xs) : ∀ {bs : List β}, xs = bs.map f → ∃ bs' : List β, bs'.Perm bs ∧ ys = bs'.map f := by
  induction h with
  | nil => intro bs e; cases bs with
    | nil => exact ⟨[], List.Perm.refl _, rfl⟩
    | cons b bs => cases e
  | cons x _ ih => intro bs e; cases bs with
    | nil => cases e
    | cons b bs =>
      rw [List.map_cons] at e
      injection e with e1 e2
      obtain ⟨bs', h1, h2⟩ := ih e2
      exact ⟨b :: bs', h1.cons b, by rw [List.map_cons, ← h2, ← e1]⟩
  | swap x y l => intro bs e; match bs, e with
    | b :: c :: bs, e =>
      simp only [List.map_cons] at e
      injection e with e1 e2
      injection e2 with e2 e3
      exact ⟨c :: b :: bs, List.Perm.swap _ _ _, by rw [List.map_cons, List.map_cons, e1, e2, e3]⟩
  | trans _ _ ih1 ih2 => intro bs e
                         obtain ⟨b1, h1, h2⟩ := ih2 e
                         obtain ⟨b2, h3, h4⟩ := ih1 h2
                         exact ⟨b2, h3.trans h1, h4⟩
/-- sorted(xs), xs pairs of a text and another object, the texts different -/
def rSortedN (K : PySem.W.Frag) : List V → Hp → VK → Prop := fun vs H Q => ∃ (a : Addr) (β : Type) (bs : List β) (T c : β → Addr) (nm : β → Str), vs = [V.ref a] ∧ SqL K H a (bs.map fun b => V.ref (T b)) ∧ (∀ b ∈ bs, SqT K H (T b) [.str (nm b), .ref (c b)]) ∧ (bs.map nm).Nodup ∧
  ∀ (ys : List β) p, ys.Perm bs → ys.Pairwise (fun x y => (nm x).cps.toList ≤ (nm y).cps.toList) → H p = none → Q (.ref p) (upd H p (.lst (ys.map fun b => V.ref (T b))))
theorem inj_of_nodup {β : Type} {nm : β → Str} : ∀ {bs : List β}, (bs.map nm).Nodup → ∀ b ∈ bs, ∀ b' ∈ bs, nm b = nm b' → b = b'
  | [], _, b, hb, _, _, _ => by cases hb
  | x :: bs, h, b, hb, b', hb', e => by
    rw [List.map_cons, List.nodup_cons] at h
    rcases List.mem_cons.mp hb with rfl | hb2
    · rcases List.mem_cons.mp hb' with rfl | hb2'
      · rfl
      · exact absurd (show nm b ∈ bs.map nm from List.mem_map.mpr ⟨b', hb2', e.symm⟩) h.1
    · rcases List.mem_cons.mp hb' with rfl | hb2'
      · exact absurd (show nm b' ∈ bs.map nm from List.mem_map.mpr ⟨b, hb2, e⟩) h.1
      · exact inj_of_nodup h.2 b hb2 b' hb2' e
section
variable {X : Cx}
theorem cr_sortedN : CallR X (.builtin "sorted") (rSortedN X.K) := by
  intro pins s σ H vs us Q I r h
  obtain ⟨a, β, bs, T, c, nm, rfl, hs, hx, hnd, q⟩ := h
  obtain ⟨its, rv, hl, hz⟩ := I.list hs
  obtain ⟨u, rfl, ru⟩ := vals1 r
  obtain rfl : u = Value.ref a := ru
  have hz2 : bs.length ≤ sizeLine := by rw [List.length_map] at hz; exact hz
  have eits : its = bs.map fun b => Value.ref (T b) := by
    have e := each_of_maps (f := fun b => V.ref (T b)) rv
    have e2 : PySem.W.EachIs (fun u b => u = Value.ref (T b)) its bs := e.mono fun u b h => h
    exact each_map_eq e2
  have hob : ∀ b ∈ bs, IsSp s.heap (.ref (T b)) (nm b) := fun b hb => by
    obtain ⟨its2, r2, ⟨o, ho, hc, n, hd⟩, _⟩ := I.tuple (hx b hb)
    obtain ⟨u1, u2, rfl, ri, rj⟩ := vals2 r2
    obtain ⟨t1, rfl⟩ := ri
    obtain rfl : u2 = Value.ref (c b) := rj
    exact ⟨T b, o, t1, c b, n, rfl, ho, hc, hd⟩
  -- the name of a value
  have hnm : ∃ k : Value → Str, ∀ b ∈ bs, k (.ref (T b)) = nm b := by
    refine ⟨fun v => match bs.find? (fun b => decide (Value.ref (T b) = v)) with | some b => nm b | none => Str.empty, fun b hb => ?_⟩
    have hf : (bs.find? fun b' => decide (Value.ref (T b') = Value.ref (T b))).isSome = true := List.find?_isSome.mpr ⟨b, hb, decide_eq_true rfl⟩
    obtain ⟨b', hb'⟩ := Option.isSome_iff_exists.mp hf
    have e0 := List.find?_some hb'
    have e1 : Value.ref (T b') = Value.ref (T b) := of_decide_eq_true e0
    have hm : b' ∈ bs := List.mem_of_find?_eq_some hb'
    show (match bs.find? (fun b' => decide (Value.ref (T b') = Value.ref (T b))) with | some b => nm b | none => Str.empty) = nm b
    rw [hb']
    show nm b' = nm b
    have s1 := hob b' hm
    have s2 := hob b hb
    rw [e1] at s1
    obtain ⟨a1, o1, t1, c1, n1, f1, g1, _, d1⟩ := s1
    obtain ⟨a2, o2, t2, c2, n2, f2, g2, _, d2⟩ := s2
    have ea : a1 = a2 := Value.ref.inj (f1.symm.trans f2)
    rw [ea, g2] at g1
    obtain rfl := Option.some.inj g1
    rw [d2] at d1
    injection d1 with d1 _
    have d3 : Value.str (nm b) t2 = Value.str (nm b') t1 := by
      have := congrArg (fun a : Array Value => a[0]?) d1
      simpa using this
    injection d3 with d3 _
    exact d3.symm
  obtain ⟨k, hk⟩ := hnm
  have hmem : ∀ v ∈ its, ∃ b ∈ bs, v = .ref (T b) := fun v hv => by
    rw [eits] at hv
    obtain ⟨b, hb, rfl⟩ := List.mem_map.mp hv
    exact ⟨b, hb, rfl⟩
  refine sorted_sp (k := k) hl.isList (by rw [eits, List.length_map]; exact hz2) (fun v hv => ?_) (fun v hv v' hv' e => ?_) fun h' d out h1 h2 kp hd hn => ?_
  · obtain ⟨b, hb, rfl⟩ := hmem v hv
    rw [hk b hb]
    exact hob b hb
  · obtain ⟨b, hb, rfl⟩ := hmem v hv
    obtain ⟨b', hb', rfl⟩ := hmem v' hv'
    rw [hk b hb, hk b' hb'] at e
    rw [inj_of_nodup hnd b hb b' hb' e]
  · obtain ⟨n, hn⟩ := hn
    obtain ⟨ys, hy1, hy2⟩ := perm_lift (f := fun b => Value.ref (T b)) h2.perm eits
    have hyl : (ys.map fun b => V.ref (T b)).length ≤ sizeLine := by rw [List.length_map, hy1.length_eq]; exact hz2
    refine ⟨.ref d, upd H d (.lst (ys.map fun b => V.ref (T b))), I.laid (t' := s.toks) kp hd ⟨hyl, out, n, ?_, hn⟩, rfl, q ys d hy1 ?_ (I.hok.fresh hd)⟩
    · rw [hy2]
      exact vals_maps (fun b : β => V.ref (T b)) (fun b => Value.ref (T b)) ys fun _ _ => rfl
    · rw [hy2] at h1
      have h3 := List.pairwise_map.mp h1
      refine h3.imp_of_mem fun {x y} hx1 hy3 hxy => ?_
      have e := of_decide_eq_false hxy
      rw [hk y (hy1.mem_iff.mp hy3), hk x (hy1.mem_iff.mp hx1)] at e
      exact List.not_lt.mp e
theorem cr_sortedNK {K : PySem.W.Frag} (h : X.K = K) : CallR X (.builtin "sorted") (rSortedN K) := by subst h; exact cr_sortedN
end
/-! ### written limits -/
def numS (i : Int) : Str := toString i
def shrW (s : Shr) : List Str := [s.1, numS s.2.1, numS s.2.2]
def shrS (s : Shr) : Str := Txt.join ":" (shrW s)
def forW (gs : List Str) : List Str := if gs.length = 0 then [] else "for" :: gs
def wordsL (l : Lm) : List Str := match l.nu with
  | .flat ns => l.nm :: l.wd :: (ns.map numS ++ forW l.gs)
  | .pool m sh => l.nm :: l.wd :: numS m :: sh.map shrS
def bkLine (l : Lm) : Str := Txt.join " " (wordsL l)
def InM (i : Int) : Prop := 0 ≤ i ∧ i ≤ million
theorem num_len {i : Int} (h : InM i) : (numS i).length ≤ 7 := len_num h.1 (by decide) (by have := h.2; show i.toNat < 10000000; unfold million at this; omega)
theorem num_read {i : Int} (h : InM i) : numOf 7 (tl (numS i)) = some i := num_back (k := 7) h.1 (by decide) (by have := h.2; show i.toNat < 10000000; unfold million at this; omega)
theorem num_digit {i : Int} (h : InM i) {c : Nat} (hc : c ∈ tl (numS i)) : 48 ≤ c ∧ c ≤ 57 := by
  unfold numS at hc
  rw [tl_num' h.1] at hc
  exact numL_digits _ c hc
theorem name_plain {z : Str} (h : isName z = true) {c : Nat} (hc : c ∈ tl z) : (48 ≤ c ∧ c ≤ 57) ∨ (97 ≤ c ∧ c ≤ 122) := by
  unfold isName at h
  simp only [Bool.and_eq_true] at h
  have h1 := List.all_eq_true.mp h.2 c hc
  have h2 : ∀ c ∈ ("abcdefghijklmnopqrstuvwxyz0123456789" : Str).cps.toList, (48 ≤ c ∧ c ≤ 57) ∨ (97 ≤ c ∧ c ≤ 122) := by decide +kernel
  exact h2 c (of_decide_eq_true h1)
/-- the parts of a share: no colon, no space, no end of a line -/
theorem shrW_plain {s : Shr} (h : isName s.1 = true) (h1 : InM s.2.1) (h2 : InM s.2.2) {z : Str} (hz : z ∈ shrW s) {c : Nat} (hc : c ∈ tl z) : (48 ≤ c ∧ c ≤ 57) ∨ (97 ≤ c ∧ c ≤ 122) := by
  unfold shrW at hz
  simp only [List.mem_cons, List.not_mem_nil, or_false] at hz
  rcases hz with rfl | rfl | rfl
  · exact name_plain h hc
  · exact .inl (num_digit h1 hc)
  · exact .inl (num_digit h2 hc)
theorem split_shr {s : Shr} (h : isName s.1 = true) (h1 : InM s.2.1) (h2 : InM s.2.2) : Txt.split (shrS s) ":" = shrW s := by
  unfold shrS
  refine split_join (s := 58) (S := []) rfl (by decide +kernel) (fun z => nomatch z) (fun p hp hc => ?_)
  have := shrW_plain h h1 h2 hp hc
  omega
theorem shrS_plain {s : Shr} (h : isName s.1 = true) (h1 : InM s.2.1) (h2 : InM s.2.2) {c : Nat} (hc : c ∈ tl (shrS s)) : (48 ≤ c ∧ c ≤ 58) ∨ (97 ≤ c ∧ c ≤ 122) := by
  unfold shrS at hc
  rw [join_eq, tl_join] at hc
  rcases joinL_mem hc with hc | ⟨p, hp, hc⟩
  · have : c ∈ [58] := hc
    have := List.mem_singleton.mp this
    omega
  · obtain ⟨z, hz, rfl⟩ := List.mem_map.mp hp
    have := shrW_plain h h1 h2 hz hc
    omega
/-- the words of a limit's line -/
theorem words_plain {l : Lm} (h : l.Ok) {z : Str} (hz : z ∈ wordsL l) {c : Nat} (hc : c ∈ tl z) : (48 ≤ c ∧ c ≤ 58) ∨ (97 ≤ c ∧ c ≤ 122) := by
  have hword : ∀ w ∈ (["window", "span", "bucket", "gap", "held", "pool", "for"] : List Str), ∀ c ∈ tl w, 97 ≤ c ∧ c ≤ 122 := by decide +kernel
  obtain ⟨o1, o2, o3⟩ := h
  unfold wordsL at hz
  cases hn : l.nu with
  | flat ns =>
    rw [hn] at hz o3
    dsimp only at hz
    obtain ⟨hf, _, _⟩ := o3
    have hM : million = 1000000 := rfl
    have hns : ∀ n ∈ ns, InM n := by
      rcases hf with ⟨_, a, b, rfl, g1, g2, g3, g4⟩ | ⟨_, b, rfl, g1, g2⟩ | ⟨_, b, rfl, g1, g2⟩
      · intro n hn
        simp only [List.mem_cons, List.not_mem_nil, or_false] at hn
        rcases hn with rfl | rfl
        · exact ⟨g1, g2⟩
        · exact ⟨by omega, g4⟩
      · intro n hn
        rw [List.mem_singleton.mp hn]
        exact ⟨by omega, g2⟩
      · intro n hn
        rw [List.mem_singleton.mp hn]
        exact ⟨g1, g2⟩
    have hwd : l.wd ∈ (["window", "span", "bucket", "gap", "held", "pool", "for"] : List Str) := by
      rcases hf with ⟨h1, _⟩ | ⟨h1, _⟩ | ⟨h1, _⟩
      · rcases h1 with h1 | h1 | h1 <;> (rw [h1]; simp)
      · rw [h1]; simp
      · rw [h1]; simp
    rcases List.mem_cons.mp hz with rfl | hz
    · have := name_plain o1 hc; omega
    rcases List.mem_cons.mp hz with rfl | hz
    · exact .inr (hword _ hwd c hc)
    rcases List.mem_append.mp hz with hz | hz
    · obtain ⟨n, hn, rfl⟩ := List.mem_map.mp hz
      have := num_digit (hns n hn) hc; omega
    · unfold forW at hz
      split at hz
      · cases hz
      · rcases List.mem_cons.mp hz with rfl | hz
        · exact .inr (hword _ (by simp) c hc)
        · have := name_plain (o2 z hz) hc; omega
  | pool m sh =>
    rw [hn] at hz o3
    dsimp only at hz
    obtain ⟨hwd, _, _, _, _, h4, g1, g2, _⟩ := o3
    rcases List.mem_cons.mp hz with rfl | hz
    · have := name_plain o1 hc; omega
    rcases List.mem_cons.mp hz with rfl | hz
    · rw [hwd] at hc
      exact .inr (hword "pool" (by simp) c hc)
    rcases List.mem_cons.mp hz with rfl | hz
    · have := num_digit (i := m) ⟨g1, g2⟩ hc; omega
    · obtain ⟨s, hs, rfl⟩ := List.mem_map.mp hz
      obtain ⟨k1, k2, k3, k4⟩ := h4 s hs
      exact shrS_plain k1 ⟨k2, by omega⟩ ⟨by omega, k4⟩ hc
theorem wordsL_ne (l : Lm) : wordsL l ≠ [] := by
  unfold wordsL
  split <;> exact fun z => nomatch z
theorem split_bkLine {l : Lm} (h : l.Ok) : Txt.split (bkLine l) " " = wordsL l := by
  unfold bkLine
  refine split_join (s := 32) (S := []) rfl (by decide +kernel) (wordsL_ne l) (fun p hp hc => ?_)
  have := words_plain h hp hc
  omega
theorem bkLine_plain {l : Lm} (h : l.Ok) {c : Nat} (hc : c ∈ tl (bkLine l)) : c ≠ 10 ∧ c ≤ 122 := by
  unfold bkLine at hc
  rw [join_eq, tl_join] at hc
  rcases joinL_mem hc with hc | ⟨p, hp, hc⟩
  · have : c ∈ [32] := hc
    have := List.mem_singleton.mp this
    omega
  · obtain ⟨z, hz, rfl⟩ := List.mem_map.mp hp
    have := words_plain h hz hc
    omega
def textL (ls : List Lm) : Str := Txt.join "\n" (ls.map bkLine)
theorem split_textL {ls : List Lm} (h : ∀ l ∈ ls, l.Ok) (hn : ls ≠ []) : Txt.split (textL ls) "\n" = ls.map bkLine := by
  unfold textL
  refine split_join (s := 10) (S := []) rfl (by decide +kernel) (fun z => hn (List.map_eq_nil_iff.mp z)) (fun p hp hc => ?_)
  obtain ⟨l, hl, rfl⟩ := List.mem_map.mp hp
  exact (bkLine_plain (h l hl) hc).1 rfl
theorem for_digit {i : Int} (h : InM i) : numS i ≠ "for" := fun e => by
  have : (102 : Nat) ∈ tl (numS i) := by rw [e]; decide +kernel
  have := num_digit h this
  omega
/-! rules -/
def rInDT (K : PySem.W.Frag) : R2 := fun x y H Q => ∃ d ds, Dp K H x d ∧ Dp K H y (.tuple ds) ∧ SeqAt.shaped d = true ∧ SeqAt.shaped (.tuple ds) = true ∧ Q (.bl (ds.any fun z => PyData.eqv z d)) H
theorem op_inDT {X : Cx} {K : PySem.W.Frag} (h : X.K = K) (hu : X.A.units + 65 < cLine) : OpR X (compareOp .In) (rInDT K) := by
  subst h
  intro pins s σ H x y v u Q I rx ry h
  obtain ⟨d, ds, hd, he, sd, se, q⟩ := h
  obtain ⟨as, r1⟩ := Dp.reads I d x v hd rx
  obtain ⟨bs, r2⟩ := Dp.reads I (.tuple ds) y u he ry
  exact SeqAt.in_tuple_reads r2 r1 (SeqAt.canLay_of_shaped se) (SeqAt.canLay_of_shaped sd) (room_in_shaped sd hu) ⟨.bl _, H, I, rfl, q⟩
section
variable {K : PySem.W.Frag} {H : Hp} {Q : VK} {σ : L2.St} {p : Addr}
theorem flat_ints {ns : List Int} : (ns.map V.int).all flatV = true := by
  rw [List.all_eq_true]
  intro x hx
  obtain ⟨y, _, rfl⟩ := List.mem_map.mp hx
  rfl
theorem inV_noneI {ns : List Int} : inV .non (ns.map V.int) = false := by
  unfold inV
  rw [List.any_eq_false]
  intro x hx
  obtain ⟨y, _, rfl⟩ := List.mem_map.mp hx
  simp [eqV]
theorem g_inNoneT {ns : List Int} (h : SqT K H p (ns.map V.int)) (q : Q (.bl false) H) : rIn K false .non (.ref p) H Q := ⟨p, _, rfl, .inr h, rfl, flat_ints, by rw [inV_noneI]; exact q⟩
def rProp (C : Addr) (sp : Sp) (dvs : List V) (E : XK) (Q : VK) : VK := fun x H1 => ∃ a dx fs, x = .ref a ∧ H1 a = some (.ins C dx fs) ∧ sp (.ref a :: dvs) H1 Q E
theorem g_prop {C : Addr} {sp : Sp} {dvs : List V} {E : XK} {ta : TE} (q : ta σ H (rProp C sp dvs E Q)) : tProp C sp dvs E ta σ H Q := q
theorem g_prop1 {C : Addr} {sp : Sp} {dvs : List V} {E : XK} {dx : Addr} {fs : List (Str × V)} (h : H p = some (.ins C dx fs)) (q : sp (.ref p :: dvs) H Q E) : rProp C sp dvs E Q (.ref p) H := ⟨p, dx, fs, rfl, h, q⟩
theorem g_inShr {xs : List (Addr × Shr)} (h : SqT K H p (xs.map fun x => V.ref x.1)) (hx : ∀ x ∈ xs, SqT K H x.1 [.str x.2.1, .int x.2.2.1, .int x.2.2.2]) (hok : ∀ x ∈ xs, isName x.2.1 = true) (q : Q (.bl false) H) : rInDT K .non (.ref p) H Q := by
  refine ⟨.none, xs.map fun x => shrD x.2, .non, .tup h (dpAll_map fun x hx1 => .tup (hx x hx1) (.cons (.str _) (.cons (.int _) (.cons (.int _) .nil)))), by decide, ?_, ?_⟩
  · refine (lay_tuple (n := 1) fun d hd => ?_).shaped (by decide)
    obtain ⟨x, hx1, rfl⟩ := List.mem_map.mp hd
    refine lay_tuple (n := 0) fun d hd => ?_
    simp only [List.mem_cons, List.not_mem_nil, or_false] at hd
    rcases hd with rfl | rfl | rfl
    · exact lay_str (isName_ok (hok x hx1))
    · exact lay_int _
    · exact lay_int _
  · have e : ((xs.map fun x => shrD x.2).any fun z => PyData.eqv z .none) = false := by
      rw [List.any_eq_false]
      intro z hz
      obtain ⟨x, _, rfl⟩ := List.mem_map.mp hz
      simp [shrD, PyData.eqv]
    rw [e]
    exact q
end
theorem shrS_len {s : Shr} (h : isName s.1 = true) (h1 : InM s.2.1) (h2 : InM s.2.2) : (shrS s).length ≤ 39 := by
  have e1 : (":" : Str).length = 1 := by decide +kernel
  unfold shrS
  refine Nat.le_trans (join_len (y := ":") (b := 12) fun z hz => ?_) (by rw [e1]; exact Nat.le_refl _)
  unfold shrW at hz
  simp only [List.mem_cons, List.not_mem_nil, or_false] at hz
  rcases hz with rfl | rfl | rfl
  · exact isName_len h
  · exact Nat.le_trans (num_len h1) (by decide)
  · exact Nat.le_trans (num_len h2) (by decide)
theorem shrS_app (s : Shr) : shrS s = s.1 ++ ":" ++ numS s.2.1 ++ ":" ++ numS s.2.2 := by
  apply str_ext
  show tl _ = tl _
  unfold shrS shrW
  rw [join_eq, tl_join]
  simp only [List.map_cons, List.map_nil, joinL_cons, joinL, tl_append, List.append_assoc]
theorem flat_inM {wd : Str} {ns : List Int} (hf : FlatOk wd ns) : (∀ n ∈ ns, InM n) ∧ 1 ≤ ns.length ∧ ns.length ≤ 2 := by
  have hM : million = 1000000 := rfl
  rcases hf with ⟨_, a, b, rfl, g1, g2, g3, g4⟩ | ⟨_, b, rfl, g1, g2⟩ | ⟨_, b, rfl, g1, g2⟩
  · refine ⟨fun n hn => ?_, by show 1 ≤ 2; omega, by show 2 ≤ 2; omega⟩
    simp only [List.mem_cons, List.not_mem_nil, or_false] at hn
    rcases hn with rfl | rfl
    · exact ⟨g1, g2⟩
    · exact ⟨by omega, g4⟩
  · refine ⟨fun n hn => ?_, by show 1 ≤ 1; omega, by show 1 ≤ 2; omega⟩
    rw [List.mem_singleton.mp hn]
    exact ⟨by omega, g2⟩
  · refine ⟨fun n hn => ?_, by show 1 ≤ 1; omega, by show 1 ≤ 2; omega⟩
    rw [List.mem_singleton.mp hn]
    exact ⟨g1, g2⟩
theorem words_len {l : Lm} (h : l.Ok) : ∀ z ∈ wordsL l, z.length ≤ 40 := by
  have hword : ∀ w ∈ (["window", "span", "bucket", "gap", "held", "pool", "for"] : List Str), w.length ≤ 6 := by decide +kernel
  have hM : million = 1000000 := rfl
  intro z hz
  obtain ⟨o1, o2, o3⟩ := h
  have e1 := isName_len o1
  unfold wordsL at hz
  cases hn : l.nu with
  | flat ns =>
    rw [hn] at hz o3
    dsimp only at hz
    obtain ⟨hf, _, _⟩ := o3
    have hns := (flat_inM hf).1
    have hwd : l.wd ∈ (["window", "span", "bucket", "gap", "held", "pool", "for"] : List Str) := by
      rcases hf with ⟨h1, _⟩ | ⟨h1, _⟩ | ⟨h1, _⟩
      · rcases h1 with h1 | h1 | h1 <;> (rw [h1]; simp)
      · rw [h1]; simp
      · rw [h1]; simp
    rcases List.mem_cons.mp hz with rfl | hz
    · omega
    rcases List.mem_cons.mp hz with rfl | hz
    · have := hword _ hwd; omega
    rcases List.mem_append.mp hz with hz | hz
    · obtain ⟨n, hn, rfl⟩ := List.mem_map.mp hz
      have := num_len (hns n hn); omega
    · unfold forW at hz
      split at hz
      · cases hz
      · rcases List.mem_cons.mp hz with rfl | hz
        · have := hword "for" (by simp); omega
        · have := isName_len (o2 z hz); omega
  | pool m sh =>
    rw [hn] at hz o3
    dsimp only at hz
    obtain ⟨hwd, _, _, _, _, h4, g1, g2, _⟩ := o3
    rcases List.mem_cons.mp hz with rfl | hz
    · omega
    rcases List.mem_cons.mp hz with rfl | hz
    · rw [hwd]; have := hword "pool" (by simp); omega
    rcases List.mem_cons.mp hz with rfl | hz
    · have := num_len (i := m) ⟨g1, g2⟩; omega
    · obtain ⟨s, hs, rfl⟩ := List.mem_map.mp hz
      obtain ⟨k1, k2, k3, k4⟩ := h4 s hs
      exact Nat.le_trans (shrS_len k1 ⟨k2, by omega⟩ ⟨by omega, k4⟩) (by decide)
theorem words_num {l : Lm} (h : l.Ok) : 3 ≤ (wordsL l).length ∧ (wordsL l).length ≤ 13 := by
  obtain ⟨o1, o2, o3⟩ := h
  unfold wordsL
  cases hn : l.nu with
  | flat ns =>
    rw [hn] at o3
    obtain ⟨hf, hg, _⟩ := o3
    have := (flat_inM hf).2
    have hfl : (forW l.gs).length ≤ 9 := by
      unfold forW
      split
      · exact Nat.zero_le _
      · rw [List.length_cons]; omega
    simp only [List.length_cons, List.length_append, List.length_map]
    omega
  | pool m sh =>
    rw [hn] at o3
    obtain ⟨_, _, h1, h8, _⟩ := o3
    simp only [List.length_cons, List.length_map]
    omega
theorem bkLine_len {l : Lm} (h : l.Ok) : (bkLine l).length ≤ 533 := by
  have e1 : (" " : Str).length = 1 := by decide +kernel
  unfold bkLine
  refine Nat.le_trans (join_len (y := " ") (b := 40) (words_len h)) ?_
  rw [e1]
  have := (words_num h).2
  omega
theorem cutV_mid (ys : List V) {i j : Nat} (h : i ≤ j) (hj : j ≤ ys.length) : cutV ys (some (i : Int)) (some (j : Int)) = (ys.drop i).take (j - i) := by
  unfold cutV
  rw [HT.sIx_nat, HT.sIx_nat, Nat.min_eq_left hj, Nat.min_eq_left (Nat.le_trans h hj)]
theorem lc_lstW {K : PySem.W.Frag} {H : Hp} {Q : VK} {σ : L2.St} {a : Addr} {α β : Type} {vs : List Nat} {g : TG} {te : TE} {xs : List α} (enc : α → V) (b : α → β) (W : β → V → Hp → Prop) (hWe : ∀ c x H H', W c x H → Ex H H' → W c x H') (hWu : ∀ c x H D acc o, W c x H → H D = some (.lst acc) → W c x (upd H D o))
    (d0 : α) (hS : SqL K H a (xs.map enc)) (hn : xs.length ≤ 1000)
    (hs : ∀ x ∈ xs, ∀ H1, Ex H H1 → ∀ R : VK, (∀ y H3, Ex H1 H3 → W (b x) y H3 → R y H3) → g (enc x) (wipe σ vs) H1 fun σ2 H3 => wipe σ2 vs = wipe σ vs ∧ te σ2 H3 R)
    (hq : ∀ p H' (ys : List (V × β)), H p = none → Ex H H' → H' p = some (.lst (ys.map (·.1))) → ys.map (·.2) = xs.map b → (∀ z ∈ ys, W z.2 z.1 H') → Q (.ref p) H') : LcOk (Itl K a) g tYes te vs Q σ H := by
  refine lc_new (walk_list (xs := xs.map enc)) (fun i => b (xs.getD i d0)) W hWe hWu (by rw [List.length_map, sizeLine_eq]; omega) (fun H' e => ex_sqL e hS) (fun i H1 x H2 hY => ?_) (fun i x H1 H2 hi hE hY R hR => ?_) (fun p H' ys hp hE hL hm hW => ?_)
  · obtain ⟨rfl, _⟩ := hY
    exact Evl.Ex.refl _
  · obtain ⟨rfl, hx⟩ := hY
    rw [List.getElem?_map] at hx
    cases e : xs[i]? with
    | none => rw [e] at hx; cases hx
    | some y =>
      rw [e] at hx
      have ex : enc y = x := Option.some.inj hx
      subst ex
      have e2 : xs.getD i d0 = y := by rw [List.getD_eq_getElem?_getD, e]; rfl
      refine hs y (List.mem_of_getElem? e) _ hE R fun z H3 h3 w => hR z H3 h3 ?_
      rw [e2]
      exact w
  · refine hq p H' ys hp hE hL ?_ hW
    rw [hm, List.length_map]
    refine List.ext_getElem? fun j => ?_
    rw [List.getElem?_map, List.getElem?_map]
    by_cases hj : j < xs.length
    · rw [List.getElem?_range hj, List.getElem?_eq_getElem hj]
      show some (b (xs.getD j d0)) = some (b xs[j])
      rw [List.getD_eq_getElem?_getD, List.getElem?_eq_getElem hj]
      rfl
    · rw [List.getElem?_eq_none (by rw [List.length_range]; omega), List.getElem?_eq_none (by omega)]
      rfl
def ShW (K : PySem.W.Frag) (s : Shr) (y : V) (H : Hp) : Prop := ∃ t, y = .ref t ∧ SqT K H t [.str s.1, .int s.2.1, .int s.2.2]
theorem shr_ys {K : PySem.W.Frag} {H : Hp} : ∀ {ys : List (V × Shr)}, (∀ z ∈ ys, ShW K z.2 z.1 H) → ∃ xs : List (Addr × Shr), ys.map (·.1) = xs.map (fun x => V.ref x.1) ∧ xs.map (·.2) = ys.map (·.2) ∧ ∀ x ∈ xs, SqT K H x.1 [.str x.2.1, .int x.2.2.1, .int x.2.2.2]
  | [], _ => ⟨[], rfl, rfl, fun z hz => nomatch hz⟩
  | y :: ys, h => by
    obtain ⟨t, e, ht⟩ := h y List.mem_cons_self
    obtain ⟨xs, h1, h2, h3⟩ := shr_ys (ys := ys) fun z hz => h z (List.mem_cons_of_mem _ hz)
    refine ⟨(t, y.2) :: xs, by rw [List.map_cons, List.map_cons, h1, e], by rw [List.map_cons, List.map_cons, h2], fun z hz => ?_⟩
    rcases List.mem_cons.mp hz with rfl | hz
    · exact ht
    · exact h3 z hz
theorem textL_len {ls : List Lm} (h : ∀ l ∈ ls, l.Ok) (h8 : ls.length ≤ 8) : (textL ls).length ≤ 5000 := by
  have e1 : ("\n" : Str).length = 1 := by decide +kernel
  unfold textL
  refine Nat.le_trans (join_len (y := "\n") (b := 533) fun z hz => ?_) ?_
  · obtain ⟨l, hl, rfl⟩ := List.mem_map.mp hz
    exact bkLine_len (h l hl)
  · rw [e1, List.length_map]
    omega
/-- the order of the names is the only one -/
theorem lms_sorted_eq {xs ys : List Lm} (hp : xs.Perm ys) (hn : (ys.map (·.nm)).Nodup) (h1 : xs.Pairwise fun x y => x.nm.cps.toList ≤ y.nm.cps.toList) (h2 : ys.Pairwise fun x y => x.nm.cps.toList ≤ y.nm.cps.toList) : xs = ys :=
  hp.eq_of_pairwise (le := fun x y : Lm => x.nm.cps.toList ≤ y.nm.cps.toList) (fun a b ha hb h h' => inj_of_nodup (nm := fun l : Lm => l.nm) hn a (by first | exact hp.mem_iff.mp ha | exact ha) b hb (str_ext (List.le_antisymm h h'))) h1 h2
theorem sortN_lms {xs ys : List (Addr × Lm)} (hp : (xs.map (·.2)).Perm (ys.map (·.2))) (hn : (ys.map lN).Nodup) : (sortN xs).map (·.2) = (sortN ys).map (·.2) := by
  refine lms_sorted_eq ((((sortN_perm xs).map _).trans hp).trans ((sortN_perm ys).map _).symm) ?_ ?_ ?_
  · rw [List.map_map]
    exact (((sortN_perm ys).map lN).nodup_iff).mpr hn
  · rw [List.pairwise_map]; exact sortN_sorted xs
  · rw [List.pairwise_map]; exact sortN_sorted ys
def PrW (K : PySem.W.Frag) (x : Addr × Lm) (y : V) (H : Hp) : Prop := ∃ t, y = .ref t ∧ SqT K H t [.str (lN x), lV x]
theorem pr_ys {K : PySem.W.Frag} {H : Hp} : ∀ {ys : List (V × (Addr × Lm))}, (∀ z ∈ ys, PrW K z.2 z.1 H) → ∃ ts : List (Addr × (Addr × Lm)), ys.map (·.1) = ts.map (fun z => V.ref z.1) ∧ ts.map (·.2) = ys.map (·.2) ∧ ∀ z ∈ ts, SqT K H z.1 [.str (lN z.2), lV z.2]
  | [], _ => ⟨[], rfl, rfl, fun z hz => nomatch hz⟩
  | y :: ys, h => by
    obtain ⟨t, e, ht⟩ := h y List.mem_cons_self
    obtain ⟨ts, h1, h2, h3⟩ := pr_ys (ys := ys) fun z hz => h z (List.mem_cons_of_mem _ hz)
    refine ⟨(t, y.2) :: ts, by rw [List.map_cons, List.map_cons, h1, e], by rw [List.map_cons, List.map_cons, h2], fun z hz => ?_⟩
    rcases List.mem_cons.mp hz with rfl | hz
    · exact ht
    · exact h3 z hz
theorem sorted_pairs {ts us : List (Addr × (Addr × Lm))} {ls : List (Addr × Lm)} (h1 : us.Perm ts) (h2 : ts.map (·.2) = ls) (hn : (ls.map lN).Nodup) (hs : us.Pairwise fun x y => (lN x.2).cps.toList ≤ (lN y.2).cps.toList) : us.map (fun z => z.2.2) = (sortN ls).map (·.2) := by
  refine lms_sorted_eq ?_ ?_ ?_ ?_
  · have e : us.map (fun z => z.2.2) = (us.map (·.2)).map (·.2) := by rw [List.map_map]; rfl
    rw [e]
    have e2 : (us.map (·.2)).Perm ls := by rw [← h2]; exact h1.map (·.2)
    exact (e2.trans (sortN_perm ls).symm).map _
  · rw [List.map_map]
    exact (((sortN_perm ls).map lN).nodup_iff).mpr hn
  · rw [List.pairwise_map]; exact hs
  · rw [List.pairwise_map]; exact sortN_sorted ls
/-- drawn limits in a list -/
def LimsV (K : PySem.W.Frag) (x : V) (H : Hp) : Prop := ∃ (p : Addr) (ls : List (Addr × Lm)), x = .ref p ∧ H p = some (.lst (ls.map lV)) ∧ LmsAt K H ls ∧ (∀ y ∈ ls, y.2.Ok) ∧ 1 ≤ ls.length ∧ ls.length ≤ 5 ∧ (ls.map lN).Nodup
def bigL : Lm := ⟨"big", "bucket", ["for"], .flat [1000000, 1000000]⟩
theorem bigL_ok : bigL.Ok := by
  refine ⟨by decide +kernel, fun g hg => ?_, .inl ⟨.inr (.inr rfl), 1000000, 1000000, rfl, by decide, by decide, by decide, by decide⟩, by decide, List.pairwise_singleton _ _⟩
  have e : g = "for" := List.mem_singleton.mp hg
  rw [e]
  decide +kernel
/-! ### classes that are made, and methods, that may raise, within a try -/
def tMakeS (C : Addr) (sp : Sp) (E : L2.St → XK) (t : TA) : TE := fun σ H Q => t σ H fun vs H1 => ∀ x dx, H1 x = none → H1 dx = none → dx ≠ x → sp (.ref x :: vs) (upd (upd H1 dx (.own x)) x (.ins C dx [])) (fun v H2 => v = .non ∧ Q (.ref x) H2) (E σ)
def tMethS (C : Addr) (m : Str) (sp : Sp) (E : L2.St → XK) (ta : TE) (t : TA) : TE := fun σ H Q => ta σ H fun x H1 => ∃ a dx fs, x = .ref a ∧ H1 a = some (.ins C dx fs) ∧ fs.lookup m = none ∧ t σ H1 fun vs H2 => sp (x :: vs) H2 Q (E σ)
section
variable {X : Cx} {CX : CXT} {k : Nat} {f C : Addr} {fd : FuncData} {ps : List Str} {sp : Sp} {E : L2.St → XK} {x m : Str} {p pos apos : Pos} {e o : Expr} {es : List Expr} {ta : TE} {t : TA}
theorem pe_makeS (M : Mk X.K C f) (F : FnOk X.prog X.w X.K X.mg X.base CX k f fd ps sp) (hr : Room (k + 1) X.A) (hg : Gl X x) (hm : X.mg x = some (.ref C)) (hb : Binds X.K fd ps []) (hx : ∀ σ, PassesAt CX X σ (E σ))
    (ha : PA X (e :: es) t) (hdb : (x == ("__debug__" : Str)) = false := by decide) (he : starEach (e :: es) X.env = (false, eval e X.env) :: starEach es X.env := by rfl) (hpl : (backTo pos (starEach es X.env)).any (·.1) = false := by rfl) :
    PE X (.Call (.Name x p) (e :: es) [] pos) (tMakeS C sp E t) := by
  refine ⟨fun pins s σ H Q I h => ?_⟩
  refine wpAny_Call_Name_kw (ld_glob I hg hm ?_ hdb)
  refine PySem.W.callWith_K (h₀ := X.base) I.ok.mod.kin M.kp (thn (ha.run pos pins s σ H _ I h) fun us s1 ⟨vs, H1, I1, r, q⟩ => ⟨I1.kIn, ?_⟩) he hpl
  have hq := q (s1.heap.objs.size + 1) s1.heap.objs.size (I1.hok.fresh (Nat.le_succ _)) (I1.hok.fresh (Nat.le_refl _)) (Nat.ne_of_lt (Nat.lt_succ_self _))
  have I2 := Inv.made (C := C) I1
  have r2 : Vals (V.ref (s1.heap.objs.size + 1) :: vs) (Value.ref (s1.heap.objs.size + 1) :: us) := .cons rfl r
  have hl : (Value.ref (s1.heap.objs.size + 1) :: us).length = ps.length := by
    have e := r2.length
    rw [F.len _ _ _ _ hq] at e
    exact e.symm
  have b := hb _ (Value.ref (s1.heap.objs.size + 1) :: us) I2.kIn (by rw [List.append_nil]; exact hl)
  rw [List.append_nil] at b
  refine wpAny_call (make_map (f := f) I1.kIn M.makes M.init (beq_iff_eq.mp M.fn) (codeAny_mono (F.run _ X.stack _ _ ⟨Value.ref (s1.heap.objs.size + 1) :: us, []⟩ (Value.ref (s1.heap.objs.size + 1) :: us) _ _ (E σ) (hr.make C us [])
    (I2.env0.make C us []) b r2 hq) fun r s' hq' => ?_))
  cases r with
  | error e => exact hx σ pins _ _ e s' I2 hq'
  | ok fl =>
    cases fl with
    | ret u =>
      obtain ⟨v, H', I3, rv, ev, q3⟩ := I2.after hq'
      subst ev
      exact ⟨rv, ⟨V.ref (s1.heap.objs.size + 1), H', I3, rfl, q3⟩⟩
    | next => exact False.elim hq'
    | brk => exact False.elim hq'
    | cont => exact False.elim hq'
theorem pe_methT {pl : Sem Bool} (he : PE X o ta) (c : Cls X.K C) (hm : Meth X.K C m f) (F : FnOk X.prog X.w X.K X.mg X.base CX k f fd ps sp) (hr : Room k X.A) (hb : Binds X.K fd ps []) (hx : ∀ σ, PassesAt CX X σ (E σ)) (ha : PA X (e :: es) t)
    (hst : starEach (e :: es) X.env = (false, eval e X.env) :: starEach es X.env := by rfl) (hpl : (backTo pos (starEach es X.env)).any (·.1) = false := by rfl)
    (ht : eval (.Call (.Attribute o m apos) (e :: es) [] pos) X.env = (do
      let ov ← eval o X.env
      standAt apos.atName
      let (f, first) ← holding [ov] (getMethod ov m pl)
      callWith pos f first (backTo pos (starEach (e :: es) X.env)) (backToKw pos (keywordEach [] X.env))) := by rfl) :
    PE X (.Call (.Attribute o m apos) (e :: es) [] pos) (tMethS C m sp E ta t) := by
  refine ⟨fun pins s σ H Q I h => ?_⟩
  refine PySem.W.methodCall_KW (pl := pl) (thn (he.run pins s σ H _ I h) fun u s1 ⟨x, H1, I1, rx, a, dx, fs, ex, ea, l, q⟩ => ?_) ht
  subst ex
  obtain rfl : u = Value.ref a := rx
  refine getmeth_ok I1 ea c hm l ?_
  refine PySem.W.callWith_K (first := [.ref a]) (h₀ := X.base) I.ok.mod.kin hm.kp (thn (ha.run pos pins s1 σ H1 _ I1 q) fun us s2 ⟨vs, H2, I2, r, q2⟩ => ⟨I2.kIn, ?_⟩) hst hpl
  exact run_fnS (us := .ref a :: us) (vs := .ref a :: vs) F hr hb (hx σ) I2 (.cons rfl r) q2
end
section
variable {σ : L2.St} {H : Hp} {Q : VK} {p : Addr}
theorem g_makeS {C : Addr} {sp : Sp} {E : L2.St → XK} {t : TA} (q : t σ H fun vs H1 => ∀ x dx, H1 x = none → H1 dx = none → dx ≠ x → sp (.ref x :: vs) (upd (upd H1 dx (.own x)) x (.ins C dx [])) (fun v H2 => v = .non ∧ Q (.ref x) H2) (E σ)) : tMakeS C sp E t σ H Q := q
def rMethS (C : Addr) (m : Str) (sp : Sp) (E : L2.St → XK) (t : TA) (σ : L2.St) (Q : VK) : VK := fun x H1 => ∃ a dx fs, x = .ref a ∧ H1 a = some (.ins C dx fs) ∧ fs.lookup m = none ∧ t σ H1 fun vs H2 => sp (x :: vs) H2 Q (E σ)
theorem g_methS {C : Addr} {m : Str} {sp : Sp} {E : L2.St → XK} {ta : TE} {t : TA} (q : ta σ H (rMethS C m sp E t σ Q)) : tMethS C m sp E ta t σ H Q := q
theorem g_methS1 {C : Addr} {m : Str} {sp : Sp} {E : L2.St → XK} {t : TA} {dx : Addr} {fs : List (Str × V)} (h : H p = some (.ins C dx fs)) (l : fs.lookup m = none) (q : t σ H fun vs H2 => sp (.ref p :: vs) H2 Q (E σ)) : rMethS C m sp E t σ Q (.ref p) H := ⟨p, dx, fs, rfl, h, l, q⟩
end
/-! ### data that are equal -/
mutual
def simB : PyData → Bool
  | .int _ => true
  | .str _ => true
  | .tuple ds => simAll ds
  | .list ds => simAll ds
  | _ => false
def simAll : List PyData → Bool
  | [] => true
  | d :: ds => simB d && simAll ds
end
mutual
theorem eqv_sim : ∀ (d e : PyData), simB d = true → simB e = true → PyData.eqv d e = true → d = e
  | .int i, e, _, he, h => by
    cases e <;> simp_all [PyData.eqv, simB]
  | .str x, e, _, he, h => by
    cases e <;> simp_all [PyData.eqv, simB]
  | .tuple ds, e, hd, he, h => by
    cases e with
    | tuple es =>
      have := eqvAll_sim ds es (by simpa [simB] using hd) (by simpa [simB] using he) (by simpa [PyData.eqv] using h)
      rw [this]
    | _ => simp_all [PyData.eqv, simB]
  | .list ds, e, hd, he, h => by
    cases e with
    | list es =>
      have := eqvAll_sim ds es (by simpa [simB] using hd) (by simpa [simB] using he) (by simpa [PyData.eqv] using h)
      rw [this]
    | _ => simp_all [PyData.eqv, simB]
  | .none, _, hd, _, _ => by simp [simB] at hd
  | .bool _, _, hd, _, _ => by simp [simB] at hd
theorem eqvAll_sim : ∀ (ds es : List PyData), simAll ds = true → simAll es = true → PyData.eqvAll ds es = true → ds = es
  | [], [], _, _, _ => rfl
  | [], _ :: _, _, _, h => by simp [PyData.eqvAll] at h
  | _ :: _, [], _, _, h => by simp [PyData.eqvAll] at h
  | d :: ds, e :: es, hd, he, h => by
    simp only [simAll, Bool.and_eq_true] at hd he
    simp only [PyData.eqvAll, Bool.and_eq_true] at h
    rw [eqv_sim d e hd.1 he.1 h.1, eqvAll_sim ds es hd.2 he.2 h.2]
end
theorem simAll_of {ds : List PyData} (h : ∀ d ∈ ds, simB d = true) : simAll ds = true := by
  induction ds with
  | nil => rfl
  | cons d ds ih =>
    show (simB d && simAll ds) = true
    rw [h d List.mem_cons_self, ih fun x hx => h x (List.mem_cons_of_mem _ hx)]
    rfl
theorem lm_sim (l : Lm) : simB l.data = true := by
  refine simAll_of fun d hd => ?_
  simp only [List.mem_cons, List.not_mem_nil, or_false] at hd
  rcases hd with rfl | rfl | rfl | rfl
  · rfl
  · rfl
  · refine simAll_of fun d hd => ?_
    obtain ⟨g, _, rfl⟩ := List.mem_map.mp hd
    rfl
  · cases l.nu with
    | flat ns =>
      refine simAll_of fun d hd => ?_
      obtain ⟨g, _, rfl⟩ := List.mem_map.mp hd
      rfl
    | pool m sh =>
      refine simAll_of fun d hd => ?_
      simp only [List.mem_cons, List.not_mem_nil, or_false] at hd
      rcases hd with rfl | rfl
      · rfl
      · refine simAll_of fun d hd => ?_
        obtain ⟨s, _, rfl⟩ := List.mem_map.mp hd
        rfl
theorem map_inj {α β : Type} {f : α → β} (hf : ∀ a b, f a = f b → a = b) : ∀ {xs ys : List α}, xs.map f = ys.map f → xs = ys
  | [], [], _ => rfl
  | [], _ :: _, h => by cases h
  | _ :: _, [], h => by cases h
  | x :: xs, y :: ys, h => by
    rw [List.map_cons, List.map_cons] at h
    injection h with h1 h2
    rw [hf x y h1, map_inj hf h2]
theorem shrD_inj (a b : Shr) (h : shrD a = shrD b) : a = b := by
  unfold shrD at h
  simp only [PyData.tuple.injEq, List.cons.injEq, PyData.str.injEq, PyData.int.injEq, and_true] at h
  obtain ⟨h1, h2, h3⟩ := h
  obtain ⟨a1, a2, a3⟩ := a
  obtain ⟨b1, b2, b3⟩ := b
  simp only at h1 h2 h3
  rw [h1, h2, h3]
theorem nu_inj {a b : Nu} (h : a.data = b.data) : a = b := by
  cases a with
  | flat ns =>
    cases b with
    | flat ms =>
      have h' : ns.map PyData.int = ms.map PyData.int := by injection h
      rw [map_inj (fun a b e => by injection e) h']
    | pool m sh =>
      have h' : ns.map PyData.int = [.int m, .tuple (sh.map shrD)] := by injection h
      match ns, h' with
      | [_, _], h' => simp at h'
  | pool m sh =>
    cases b with
    | flat ns =>
      have h' : [PyData.int m, .tuple (sh.map shrD)] = ns.map PyData.int := by injection h
      match ns, h' with
      | [_, _], h' => simp at h'
    | pool m2 sh2 =>
      have h' : [PyData.int m, .tuple (sh.map shrD)] = [.int m2, .tuple (sh2.map shrD)] := by injection h
      simp only [List.cons.injEq, PyData.int.injEq, PyData.tuple.injEq, and_true] at h'
      rw [h'.1, map_inj shrD_inj h'.2]
theorem data_inj (a b : Lm) (h : a.data = b.data) : a = b := by
  unfold Lm.data at h
  simp only [PyData.tuple.injEq, List.cons.injEq, PyData.str.injEq, and_true] at h
  obtain ⟨h1, h2, h3, h4⟩ := h
  obtain ⟨a1, a2, a3, a4⟩ := a
  obtain ⟨b1, b2, b3, b4⟩ := b
  simp only at h1 h2 h3 h4
  rw [h1, h2, map_inj (fun a b e => by injection e) h3, nu_inj h4]
open Classical in
theorem lm_eqv {a b : Lm} (ha : a.Ok) : PyData.eqv a.data b.data = decide (a = b) := by
  by_cases e : a = b
  · rw [decide_eq_true e, ← e]
    exact eqv_self ha
  · rw [decide_eq_false e]
    cases h : PyData.eqv a.data b.data with
    | false => rfl
    | true => exact absurd (data_inj a b (eqv_sim _ _ (lm_sim a) (lm_sim b) h)) e
open Classical in
theorem lms_eqv {xs ys : List Lm} (hx : ∀ l ∈ xs, l.Ok) : PyData.eqv (.list (xs.map Lm.data)) (.list (ys.map Lm.data)) = decide (xs = ys) := by
  by_cases e : xs = ys
  · rw [decide_eq_true e, ← e]
    refine SeqAt.eqv_refl _ (SeqAt.canLay_of_shaped ((lay_list (n := 4) fun d hd => ?_).shaped (by decide)))
    obtain ⟨l, hl, rfl⟩ := List.mem_map.mp hd
    exact lm_lay (hx l hl)
  · rw [decide_eq_false e]
    cases h : PyData.eqv (.list (xs.map Lm.data)) (.list (ys.map Lm.data)) with
    | false => rfl
    | true =>
      have sim : ∀ zs : List Lm, simB (.list (zs.map Lm.data)) = true := fun zs => simAll_of fun d hd => by
        obtain ⟨l, _, rfl⟩ := List.mem_map.mp hd
        exact lm_sim l
      have h2 := eqv_sim _ _ (sim xs) (sim ys) h
      have h3 : xs.map Lm.data = ys.map Lm.data := by injection h2
      exact absurd (map_inj data_inj h3) e
/-- not all different: there are fewer different ones -/
theorem fewer {ys : List Str} : ∀ {zs : List Str}, ys.Nodup → (∀ k, k ∈ ys ↔ k ∈ zs) → ¬ zs.Nodup → ys.length < zs.length := by
  intro zs hy hm hn
  have key : ∀ zs : List Str, ¬ zs.Nodup → ∃ ws : List Str, ws.length < zs.length ∧ ∀ k, k ∈ zs → k ∈ ws := by
    intro zs
    induction zs with
    | nil => intro h; exact absurd List.nodup_nil h
    | cons z zs ih =>
      intro h
      by_cases hz : z ∈ zs
      · exact ⟨zs, Nat.lt_succ_self _, fun k hk => by
          rcases List.mem_cons.mp hk with rfl | hk
          · exact hz
          · exact hk⟩
      · have h2 : ¬ zs.Nodup := fun hn => h (List.nodup_cons.mpr ⟨hz, hn⟩)
        obtain ⟨ws, w1, w2⟩ := ih h2
        refine ⟨z :: ws, Nat.succ_lt_succ w1, fun k hk => ?_⟩
        rcases List.mem_cons.mp hk with rfl | hk
        · exact List.mem_cons_self
        · exact List.mem_cons_of_mem _ (w2 k hk)
  obtain ⟨ws, w1, w2⟩ := key zs hn
  exact Nat.lt_of_le_of_lt (nodup_le hy fun y h => w2 y ((hm y).mp h)) w1
/-- limits that are none -/
def BadN (l : Lm) : Prop := isName l.nm = false ∧ l.nm.length ≤ 100 ∧ l.gs = []
def BadL (l : Lm) : Prop := isName l.nm = true ∧ l.gs = [] ∧ ((l.wd = "heap" ∧ l.nu = .flat [1]) ∨ (l.wd = "held" ∧ l.nu = .flat [-1]))
/-- a word that a dict of the module lacks -/
def WMis (K : PySem.W.Frag) (w : World) (p : Addr) (x : Str) : Prop := ∃ es n, K.lookup p = some ⟨.type "dict", none, .dict es n, #[]⟩ ∧ PySem.W.KeysLit w.params es.toList ∧ (p == sysModules) = false ∧ PySem.W.nsIn K p x = some none
def rNinM (K : PySem.W.Frag) (w : World) : R2 := fun x y H Q => ∃ p z, x = .str z ∧ y = .ref p ∧ WMis K w p z ∧ Q (.bl true) H
theorem op_ninM {X : Cx} : OpR X (compareOp .NotIn) (rNinM X.K X.w) := by
  intro pins s σ H x y v u Q I rx ry h
  obtain ⟨p, z, rfl, rfl, ⟨es, n, hl, hk, low, hv⟩, q⟩ := h
  obtain ⟨t, rfl⟩ := (show ∃ t, v = Value.str z t from rx)
  obtain rfl : u = Value.ref p := ry
  refine wpAny_notIn_of (strKind_is X.prog X.w z t) low (PySem.W.mapOf_K (prog := X.prog) (w := X.w) I.kIn hl hk) ?_
  rw [PySem.W.find_K hl hv]
  exact ⟨.bl true, H, I.tok _, rfl, q⟩
def rNinO (K : PySem.W.Frag) (w : World) : R2 := fun x y H Q => rInW K w true x y H Q ∨ rNinM K w x y H Q
theorem op_ninOK {X : Cx} {K : PySem.W.Frag} {w : World} (h1 : X.K = K) (h2 : X.w = w) : OpR X (compareOp .NotIn) (rNinO K w) := by subst h1 h2; exact op_ninW.or op_ninM
theorem g_ninH {K : PySem.W.Frag} {w : World} {H : Hp} {Q : VK} {p : Addr} {z : Str} {kvs : List (Str × V)} {v : V} (h : WDct K w p kvs) (hm : (z, v) ∈ kvs) (q : Q (.bl false) H) : rNinO K w (.str z) (.ref p) H Q := .inl ⟨p, z, kvs, v, rfl, rfl, h, hm, q⟩
theorem g_ninMi {K : PySem.W.Frag} {w : World} {H : Hp} {Q : VK} {p : Addr} {z : Str} (h : WMis K w p z) (q : Q (.bl true) H) : rNinO K w (.str z) (.ref p) H Q := .inr ⟨p, z, rfl, rfl, h, q⟩
theorem badL_no {l : Lm} (h : BadL l) : ¬ l.Ok := fun ho => by
  obtain ⟨_, hg, hb⟩ := h
  obtain ⟨_, _, o3⟩ := ho
  rcases hb with ⟨hw, hn⟩ | ⟨hw, hn⟩
  · rw [hn] at o3
    rcases o3.1 with ⟨h1, _⟩ | ⟨h1, _⟩ | ⟨h1, _⟩
    · rcases h1 with h1 | h1 | h1 <;> (rw [hw] at h1; exact absurd h1 (by decide +kernel))
    · rw [hw] at h1; exact absurd h1 (by decide +kernel)
    · rw [hw] at h1; exact absurd h1 (by decide +kernel)
  · rw [hn] at o3
    rcases o3.1 with ⟨h1, _⟩ | ⟨h1, _⟩ | ⟨_, b, e, g1, _⟩
    · rcases h1 with h1 | h1 | h1 <;> (rw [hw] at h1; exact absurd h1 (by decide +kernel))
    · rw [hw] at h1; exact absurd h1 (by decide +kernel)
    · have e2 : (-1 : Int) = b := by injection e
      omega
theorem badN_no {l : Lm} (h : BadN l) : ¬ l.Ok := fun ho => by
  have h1 := h.1
  rw [ho.1] at h1
  cases h1
theorem perm_replace {p : Addr} {l : Lm} : ∀ {ls : List (Addr × Lm)}, (ls.map lN).Nodup → l ∈ ls.map (·.2) → (((ls.filter fun x => decide (lN x ≠ l.nm)) ++ [(p, l)]).map (·.2)).Perm (ls.map (·.2))
  | [], _, h => by cases h
  | x :: xs, hn, h => by
    rw [List.map_cons, List.nodup_cons] at hn
    rw [List.map_cons] at h
    by_cases e : x.2 = l
    · have e1 : lN x = l.nm := by show x.2.nm = _; rw [e]
      have hk : xs.filter (fun y => decide (lN y ≠ l.nm)) = xs := List.filter_eq_self.mpr fun y hy => decide_eq_true fun e2 => hn.1 (List.mem_map.mpr ⟨y, hy, e2.trans e1.symm⟩)
      rw [List.filter_cons_of_neg (by simp [e1]), hk, List.map_append]
      show (xs.map (·.2) ++ [l]).Perm (x.2 :: xs.map (·.2))
      rw [e]
      exact List.perm_append_comm
    · have hm : l ∈ xs.map (·.2) := by
        rcases List.mem_cons.mp h with h | h
        · exact absurd h.symm e
        · exact h
      have hne : lN x ≠ l.nm := fun e2 => by
        obtain ⟨y, hy, hy2⟩ := List.mem_map.mp hm
        exact hn.1 (List.mem_map.mpr ⟨y, hy, by show y.2.nm = _; rw [hy2]; exact e2.symm⟩)
      rw [List.filter_cons_of_pos (by simp [hne])]
      exact (perm_replace hn.2 hm).cons x.2
theorem nodup_with {p : Addr} {l : Lm} {ls : List (Addr × Lm)} (hn : (ls.map lN).Nodup) : (((ls.filter fun x => decide (lN x ≠ l.nm)) ++ [(p, l)]).map lN).Nodup := by
  rw [List.map_append, List.nodup_append]
  refine ⟨(List.filter_sublist.map lN).nodup hn, List.pairwise_singleton _ _, fun x hx y hy e => ?_⟩
  obtain ⟨z, hz, rfl⟩ := List.mem_map.mp hx
  have e2 : y = l.nm := List.mem_singleton.mp hy
  exact (of_decide_eq_true (List.mem_filter.mp hz).2) (e.trans e2)
open Classical in
theorem any_lm {xs : List (Addr × Lm)} {l : Lm} (hx : ∀ x ∈ xs, x.2.Ok) : ((xs.map fun x => x.2.data).any fun z => PyData.eqv z l.data) = decide (l ∈ xs.map (·.2)) := by
  rw [Bool.eq_iff_iff, List.any_eq_true, decide_eq_true_eq]
  constructor
  · rintro ⟨d, hd, he⟩
    obtain ⟨x, hx1, rfl⟩ := List.mem_map.mp hd
    rw [lm_eqv (hx x hx1)] at he
    exact List.mem_map.mpr ⟨x, hx1, of_decide_eq_true he⟩
  · intro h
    obtain ⟨x, hx1, rfl⟩ := List.mem_map.mp h
    exact ⟨_, List.mem_map.mpr ⟨x, hx1, rfl⟩, eqv_self (hx x hx1)⟩
/-! ### limits of any parts -/
theorem w_andT {T : TT} {σ : L2.St} {H : Hp} {Q : Bool → Hp → Prop} {k : Bool} (h1 : k = true → ∀ R : Bool → Hp → Prop, (∀ H', Ex H H' → R false H') → T σ H R) (hk : ∀ H', Ex H H' → Q false H') : if k = true then T σ H Q else Q false H := by
  cases k with
  | true => rw [if_pos rfl]; exact h1 rfl Q hk
  | false => rw [if_neg Bool.false_ne_true]; exact hk _ (Evl.Ex.refl _)
theorem dec_t {p : Prop} {i : Decidable p} (h : @decide p i = true) : p := of_decide_eq_true h
theorem dec_f {p : Prop} {i : Decidable p} (h : (!@decide p i) = true) : ¬ p := fun hp => by rw [decide_eq_true hp] at h; cases h
abbrev Rsh := Str × List Int
/-- a part of the numbers: an integer, or a tuple of tuples -/
inductive Ri where
  | i (n : Int)
  | t (ss : List Rsh)
structure Raw where
  nm : Str
  wd : Str
  gs : List Str
  ns : List Ri
def rshV (s : Rsh) : List V := V.str s.1 :: s.2.map V.int
def RiAt (K : PySem.W.Frag) (H : Hp) (x : V) : Ri → Prop
  | .i n => x = .int n
  | .t ss => ∃ (q : Addr) (xs : List (Addr × Rsh)), x = .ref q ∧ SqT K H q (xs.map fun y => V.ref y.1) ∧ xs.map (·.2) = ss ∧ ∀ y ∈ xs, SqT K H y.1 (rshV y.2)
def RisAt (K : PySem.W.Frag) (H : Hp) (xs : List (V × Ri)) : Prop := ∀ x ∈ xs, RiAt K H x.1 x.2
def RawAt (K : PySem.W.Frag) (H : Hp) (p : Addr) (r : Raw) : Prop := ∃ (g n : Addr) (xs : List (V × Ri)), SqT K H p [.str r.nm, .str r.wd, .ref g, .ref n] ∧ SqT K H g (r.gs.map V.str) ∧ SqT K H n (xs.map (·.1)) ∧ xs.map (·.2) = r.ns ∧ RisAt K H xs
section
variable {K : PySem.W.Frag} {H H' : Hp} {p : Addr}
theorem RiAt.mono {x : V} {r : Ri} (h : RiAt K H x r) (e : Ex H H') : RiAt K H' x r := by
  cases r with
  | i n => exact h
  | t ss =>
    obtain ⟨q, xs, h1, h2, h3, h4⟩ := h
    exact ⟨q, xs, h1, ex_sqT e h2, h3, fun y hy => ex_sqT e (h4 y hy)⟩
theorem RisAt.mono {xs : List (V × Ri)} (h : RisAt K H xs) (e : Ex H H') : RisAt K H' xs := fun x hx => (h x hx).mono e
theorem RawAt.mono {r : Raw} (h : RawAt K H p r) (e : Ex H H') : RawAt K H' p r := by
  obtain ⟨g, n, xs, h1, h2, h3, h4, h5⟩ := h
  exact ⟨g, n, xs, ex_sqT e h1, ex_sqT e h2, ex_sqT e h3, h4, h5.mono e⟩
theorem RiAt.tr {x : V} {r : Ri} (h : RiAt K H x r) (e : ∀ q vs, SqT K H q vs → SqT K H' q vs) : RiAt K H' x r := by
  cases r with
  | i n => exact h
  | t ss =>
    obtain ⟨q, xs, h1, h2, h3, h4⟩ := h
    exact ⟨q, xs, h1, e _ _ h2, h3, fun y hy => e _ _ (h4 y hy)⟩
theorem RawAt.tr {r : Raw} (h : RawAt K H p r) (e : ∀ q vs, SqT K H q vs → SqT K H' q vs) : RawAt K H' p r := by
  obtain ⟨g, n, xs, h1, h2, h3, h4, h5⟩ := h
  exact ⟨g, n, xs, e _ _ h1, e _ _ h2, e _ _ h3, h4, fun x hx => (h5 x hx).tr e⟩
end
/-! what is asked of them -/
def sizeOfW (wd : Str) : Option Nat := if wd = "window" ∨ wd = "span" ∨ wd = "bucket" ∨ wd = "pool" then some 2 else if wd = "gap" ∨ wd = "held" then some 1 else none
def isIR : Ri → Bool
  | .i _ => true
  | .t _ => false
def sharesR : Ri → Bool
  | .i _ => false
  | .t ss => ss.all fun s => decide (s.2.length = 2)
def shr3 (s : Rsh) : Shr := (s.1, s.2.getD 0 0, s.2.getD 1 0)
def formR (wd : Str) (ns : List Ri) : Bool := match sizeOfW wd with
  | none => false
  | some k => decide (ns.length = k) && (if wd = "pool" then isIR (ns.getD 0 (.i 0)) && sharesR (ns.getD 1 (.i 0)) else ns.all isIR)
def numR : Ri → Int
  | .i n => n
  | .t _ => 0
def shsR : Ri → List Shr
  | .i _ => []
  | .t ss => ss.map shr3
def inMB (lo i : Int) : Bool := decide (lo ≤ i) && decide (i ≤ 1000000)
def lowsW (wd : Str) : List Int := if wd = "window" ∨ wd = "span" ∨ wd = "bucket" then [0, 1] else if wd = "gap" then [1] else [0]
def flatB (wd : Str) (ns : List Int) : Bool := ((ns.zip (lowsW wd)).all fun x => inMB x.2 x.1)
def shareB (s : Shr) : Bool := decide (0 ≤ s.2.1) && decide (s.2.1 ≤ s.2.2) && decide (s.2.2 ≤ 1000000)
def poolB (gs : List Str) (m : Int) (sh : List Shr) : Bool := decide (gs.length = 0) && (decide (1 ≤ sh.length) && decide (sh.length ≤ 8)) && ascB (sh.map (·.1)) && inMB 0 m && sh.all shareB && decide ((sh.map (·.2.1)).sum ≤ m)
/-- 0: a limit; 1: InvalidName; 2: InvalidLimit -/
def Raw.verd (r : Raw) : Nat :=
  if (r.nm :: r.gs).all isName = false then 1
  else if formR r.wd r.ns = false then 2
  else if r.wd = "pool" then (if ((shsR (r.ns.getD 1 (.i 0))).map (·.1)).all isName = false then 1 else if poolB r.gs (numR (r.ns.getD 0 (.i 0))) (shsR (r.ns.getD 1 (.i 0))) then 0 else 2)
  else if (decide (r.gs.length ≤ 8) && ascB r.gs && flatB r.wd (r.ns.map numR)) then 0 else 2
/-- small enough -/
def Ri.Small : Ri → Prop
  | .i _ => True
  | .t ss => ss.length ≤ 100 ∧ ∀ s ∈ ss, s.1.length ≤ 1000 ∧ s.2.length ≤ 100
def Raw.Small (r : Raw) : Prop := (∀ z ∈ r.nm :: r.gs, z.length ≤ 1000) ∧ r.gs.length ≤ 100 ∧ r.ns.length ≤ 100 ∧ (∀ x ∈ r.ns, x.Small) ∧ r.wd.length ≤ 1000
/-- all other keys are not in the dict of the module -/
def keysE (es : List DictEntry) : List Str := es.filterMap fun e => match e.key with
  | .str x _ => some x
  | _ => none
theorem ns_miss {K : PySem.W.Frag} {w : World} {p : Addr} {es : Array DictEntry} {n : Nat} {names : List Str} (hl : K.lookup p = some ⟨.type "dict", none, .dict es n, #[]⟩) (hk : PySem.W.KeysLit w.params es.toList) (hn : keysE es.toList = names) {z : Str} (hz : z ∉ names) : PySem.W.nsIn K p z = some none := by
  have key : ∀ l : List DictEntry, PySem.W.KeysLit w.params l → z ∉ keysE l → l.find? (·.key.isStr z) = none ∧ l.any (·.refKey) = false := by
    intro l
    induction l with
    | nil => intro _ _; exact ⟨rfl, rfl⟩
    | cons e l ih =>
      intro h hz
      obtain ⟨⟨x, t, h1, h2⟩, hr⟩ := h
      have hx : keysE (e :: l) = x :: keysE l := by
        unfold keysE
        rw [List.filterMap_cons, h1]
      rw [hx] at hz
      obtain ⟨i1, i2⟩ := ih hr fun h => hz (List.mem_cons_of_mem _ h)
      have hne : e.key.isStr z = false := by
        rw [h1]
        cases hb : (Value.str x t).isStr z with
        | false => rfl
        | true => exact absurd (by
            have : x = z := by first | exact eq_of_beq hb | simpa [Value.isStr] using hb
            rw [this]; exact List.mem_cons_self) hz
      refine ⟨by rw [List.find?_cons, hne]; exact i1, ?_⟩
      rw [List.any_cons, i2, Bool.or_false]
      unfold DictEntry.refKey
      rw [h1]
  obtain ⟨k1, k2⟩ := key es.toList hk (by rw [hn]; exact hz)
  unfold PySem.W.nsIn
  rw [hl]
  show (match es.toList.find? (·.key.isStr z) with
    | some e => some (some e.val)
    | none => if es.toList.any (·.refKey) then none else some none) = _
  rw [k1, k2]
  rfl
def sizeNames : List Str := ["window", "span", "bucket", "gap", "held", "pool"]
theorem size_none {wd : Str} (h : sizeOfW wd = none) : wd ∉ sizeNames := by
  intro hm
  simp only [sizeNames, List.mem_cons, List.not_mem_nil, or_false] at hm
  unfold sizeOfW at h
  rcases hm with rfl | rfl | rfl | rfl | rfl | rfl <;> revert h <;> decide +kernel
theorem size_some {wd : Str} {k : Nat} (h : sizeOfW wd = some k) : (wd, V.int k) ∈ sizesL ∧ k ≤ 2 := by
  unfold sizeOfW at h
  split at h
  · rename_i h1
    cases h
    rcases h1 with rfl | rfl | rfl | rfl <;> exact ⟨by simp [sizesL], by decide⟩
  · split at h
    · rename_i h1
      cases h
      rcases h1 with rfl | rfl <;> exact ⟨by simp [sizesL], by decide⟩
    · cases h
/-! plain limits -/
def rshOf (s : Shr) : Rsh := (s.1, [s.2.1, s.2.2])
def rawNs : Nu → List Ri
  | .flat ns => ns.map Ri.i
  | .pool m sh => [.i m, .t (sh.map rshOf)]
def rawL (l : Lm) : Raw := ⟨l.nm, l.wd, l.gs, rawNs l.nu⟩
theorem LmAt.raw {K : PySem.W.Frag} {H : Hp} {p : Addr} {l : Lm} (h : LmAt K H p l) : RawAt K H p (rawL l) := by
  obtain ⟨g, n, h1, h2, h3⟩ := h
  cases hn : l.nu with
  | flat ns =>
    rw [hn] at h3
    refine ⟨g, n, ns.map fun i => (V.int i, Ri.i i), h1, h2, ?_, ?_, fun x hx => ?_⟩
    · rw [List.map_map]; exact h3
    · show _ = rawNs l.nu
      rw [hn, List.map_map]; rfl
    · obtain ⟨i, _, rfl⟩ := List.mem_map.mp hx
      rfl
  | pool m sh =>
    rw [hn] at h3
    obtain ⟨q, xs, k1, k2, k3, k4⟩ := h3
    refine ⟨g, n, [(.int m, .i m), (.ref q, .t (sh.map rshOf))], h1, h2, k1, ?_, fun x hx => ?_⟩
    · show _ = rawNs l.nu
      rw [hn]; rfl
    · simp only [List.mem_cons, List.not_mem_nil, or_false] at hx
      rcases hx with rfl | rfl
      · rfl
      · refine ⟨q, xs.map fun y => (y.1, rshOf y.2), rfl, by rw [List.map_map]; exact k2, ?_, fun y hy => ?_⟩
        · rw [← k3, List.map_map, List.map_map]; rfl
        · obtain ⟨z, hz, rfl⟩ := List.mem_map.mp hy
          exact k4 z hz
theorem ascB_to {zs : List Str} (h : ascB zs = true) : Asc zs := by
  unfold ascB at h
  rw [List.all_eq_true] at h
  unfold Asc
  have tr : ∀ {a b c : List Nat}, a < b → b < c → a < c := fun h1 h2 => List.lt_trans h1 h2
  have step : ∀ i (hi : i + 1 < zs.length), (zs[i]'(by omega)).cps.toList < (zs[i + 1]).cps.toList := fun i hi => by
    have h1 := of_decide_eq_true (h i (List.mem_range.mpr (by omega)))
    rw [List.getD_eq_getElem?_getD, List.getD_eq_getElem?_getD, List.getElem?_eq_getElem (by omega), List.getElem?_eq_getElem hi] at h1
    exact h1
  have far : ∀ (d i : Nat) (hi : i + d + 1 < zs.length), (zs[i]'(by omega)).cps.toList < (zs[i + d + 1]).cps.toList := by
    intro d
    induction d with
    | zero => intro i hi; exact step i hi
    | succ d ih => intro i hi; exact tr (ih i (by omega)) (step (i + d + 1) hi)
  rw [List.pairwise_iff_getElem]
  intro i j hi hj hij
  have := far (j - i - 1) i (by omega)
  have e : i + (j - i - 1) + 1 = j := by omega
  simp only [e] at this
  exact this
theorem shr3_of (s : Shr) : shr3 (rshOf s) = s := rfl
theorem map_shr3 (sh : List Shr) : (sh.map rshOf).map shr3 = sh := by
  rw [List.map_map]
  exact (List.map_congr_left fun s _ => shr3_of s).trans (List.map_id _)
theorem flatB_of {wd : Str} {ns : List Int} (h : FlatOk wd ns) : flatB wd ns = true ∧ formR wd (ns.map Ri.i) = true ∧ wd ≠ "pool" := by
  have hM : million = 1000000 := rfl
  have hi : ∀ a b : Int, (([Ri.i a, Ri.i b]).all isIR) = true := fun _ _ => rfl
  rcases h with ⟨h1, a, b, rfl, g1, g2, g3, g4⟩ | ⟨rfl, b, rfl, g1, g2⟩ | ⟨rfl, b, rfl, g1, g2⟩
  · have key : lowsW wd = [0, 1] ∧ sizeOfW wd = some 2 ∧ wd ≠ "pool" := by
      rcases h1 with rfl | rfl | rfl <;> exact ⟨by decide +kernel, by decide +kernel, by decide +kernel⟩
    obtain ⟨k1, k2, k3⟩ := key
    refine ⟨?_, ?_, k3⟩
    · unfold flatB
      rw [k1]
      show (inMB 0 a && (inMB 1 b && true)) = true
      unfold inMB
      rw [decide_eq_true g1, decide_eq_true (show a ≤ 1000000 by omega), decide_eq_true g3, decide_eq_true (show b ≤ 1000000 by omega)]
      rfl
    · unfold formR
      rw [k2]
      show (decide (2 = 2) && (if wd = "pool" then _ else true)) = true
      rw [if_neg k3]
      rfl
  · refine ⟨?_, by rw [show formR "gap" ([b].map Ri.i) = formR "gap" [.i b] from rfl]; rfl, by decide +kernel⟩
    show (inMB 1 b && true) = true
    unfold inMB
    rw [decide_eq_true g1, decide_eq_true (show b ≤ 1000000 by omega)]
    rfl
  · refine ⟨?_, by rw [show formR "held" ([b].map Ri.i) = formR "held" [.i b] from rfl]; rfl, by decide +kernel⟩
    show (inMB 0 b && true) = true
    unfold inMB
    rw [decide_eq_true g1, decide_eq_true (show b ≤ 1000000 by omega)]
    rfl
theorem flat_of {wd : Str} {ns : List Int} (h : flatB wd ns = true) (hf : formR wd (ns.map Ri.i) = true) (hp : wd ≠ "pool") : FlatOk wd ns := by
  have hM : million = 1000000 := rfl
  unfold formR at hf
  cases hs : sizeOfW wd with
  | none => rw [hs] at hf; cases hf
  | some k =>
    rw [hs] at hf
    have hl : ns.length = k := by
      have := (Bool.and_eq_true _ _ ▸ hf).1
      have := of_decide_eq_true this
      rw [List.length_map] at this
      exact this
    unfold sizeOfW at hs
    have inm : ∀ {lo i : Int}, inMB lo i = true → lo ≤ i ∧ i ≤ 1000000 := fun {lo i} h => by
      unfold inMB at h
      rw [Bool.and_eq_true] at h
      exact ⟨of_decide_eq_true h.1, of_decide_eq_true h.2⟩
    split at hs
    · rename_i h1
      cases hs
      have h1 : wd = "window" ∨ wd = "span" ∨ wd = "bucket" := by
        rcases h1 with h1 | h1 | h1 | h1
        · exact .inl h1
        · exact .inr (.inl h1)
        · exact .inr (.inr h1)
        · exact absurd h1 hp
      match ns, hl with
      | [a, b], _ =>
        have key : lowsW wd = [0, 1] := by rcases h1 with rfl | rfl | rfl <;> decide +kernel
        unfold flatB at h
        rw [key] at h
        have h : (inMB 0 a && (inMB 1 b && true)) = true := h
        rw [Bool.and_true, Bool.and_eq_true] at h
        obtain ⟨x1, x2⟩ := inm h.1
        obtain ⟨x3, x4⟩ := inm h.2
        exact .inl ⟨h1, a, b, rfl, x1, by omega, x3, by omega⟩
    · split at hs
      · rename_i h1
        cases hs
        match ns, hl with
        | [a], _ =>
          rcases h1 with rfl | rfl
          · have h : (inMB 1 a && true) = true := h
            rw [Bool.and_true] at h
            obtain ⟨x1, x2⟩ := inm h
            exact .inr (.inl ⟨rfl, a, rfl, x1, by omega⟩)
          · have h : (inMB 0 a && true) = true := h
            rw [Bool.and_true] at h
            obtain ⟨x1, x2⟩ := inm h
            exact .inr (.inr ⟨rfl, a, rfl, x1, by omega⟩)
      · cases hs
theorem shareB_iff {s : Shr} : shareB s = true ↔ 0 ≤ s.2.1 ∧ s.2.1 ≤ s.2.2 ∧ s.2.2 ≤ 1000000 := by
  unfold shareB
  rw [Bool.and_eq_true, Bool.and_eq_true]
  exact ⟨fun ⟨⟨a, b⟩, c⟩ => ⟨of_decide_eq_true a, of_decide_eq_true b, of_decide_eq_true c⟩, fun ⟨a, b, c⟩ => ⟨⟨decide_eq_true a, decide_eq_true b⟩, decide_eq_true c⟩⟩
theorem poolB_iff {gs : List Str} {m : Int} {sh : List Shr} : poolB gs m sh = true ↔ gs = [] ∧ 1 ≤ sh.length ∧ sh.length ≤ 8 ∧ ascB (sh.map (·.1)) = true ∧ 0 ≤ m ∧ m ≤ 1000000 ∧ (∀ s ∈ sh, 0 ≤ s.2.1 ∧ s.2.1 ≤ s.2.2 ∧ s.2.2 ≤ 1000000) ∧ (sh.map (·.2.1)).sum ≤ m := by
  unfold poolB inMB
  simp only [Bool.and_eq_true, decide_eq_true_eq, List.all_eq_true, List.length_eq_zero_iff]
  constructor
  · rintro ⟨⟨⟨⟨⟨a, b, c⟩, d⟩, e, f⟩, g⟩, h⟩
    exact ⟨a, b, c, d, e, f, fun s hs => shareB_iff.mp (g s hs), h⟩
  · rintro ⟨a, b, c, d, e, f, g, h⟩
    exact ⟨⟨⟨⟨⟨a, b, c⟩, d⟩, e, f⟩, fun s hs => shareB_iff.mpr (g s hs)⟩, h⟩
theorem form_pool (m : Int) (sh : List Shr) : formR "pool" [.i m, .t (sh.map rshOf)] = true := by
  show (decide (2 = 2) && (if ("pool" : Str) = "pool" then isIR (.i m) && sharesR (.t (sh.map rshOf)) else [Ri.i m, .t (sh.map rshOf)].all isIR)) = true
  rw [if_pos rfl]
  have : sharesR (.t (sh.map rshOf)) = true := by
    show ((sh.map rshOf).all fun s => decide (s.2.length = 2)) = true
    rw [List.all_eq_true]
    intro s hs
    obtain ⟨x, _, rfl⟩ := List.mem_map.mp hs
    rfl
  rw [this]
  rfl
theorem verd_ok {l : Lm} (h : l.Ok) : (rawL l).verd = 0 := by
  obtain ⟨o1, o2, o3⟩ := h
  have ha : (l.nm :: l.gs).all isName = true := by
    rw [List.all_eq_true]
    intro z hz
    rcases List.mem_cons.mp hz with rfl | hz
    · exact o1
    · exact o2 z hz
  unfold Raw.verd
  show (if (l.nm :: l.gs).all isName = false then 1 else if formR l.wd (rawNs l.nu) = false then 2 else _) = 0
  rw [if_neg (by rw [ha]; decide)]
  cases hn : l.nu with
  | flat ns =>
    rw [hn] at o3
    obtain ⟨hf, g8, hasc⟩ := o3
    obtain ⟨f1, f2, f3⟩ := flatB_of hf
    show (if formR l.wd (ns.map Ri.i) = false then 2 else _) = 0
    rw [if_neg (by rw [f2]; decide)]
    show (if l.wd = "pool" then _ else if (decide (l.gs.length ≤ 8) && ascB l.gs && flatB l.wd ((rawNs l.nu).map numR)) = true then 0 else 2) = 0
    have e : (rawNs l.nu).map numR = ns := by rw [hn]; show (ns.map Ri.i).map numR = ns; rw [List.map_map]; exact List.map_id _
    rw [if_neg f3, e, f1, ascB_of hasc, decide_eq_true g8]
    rfl
  | pool m sh =>
    rw [hn] at o3
    obtain ⟨hw, hg, h1, h8, hasc, hs, m0, m1, hsum⟩ := o3
    show (if formR l.wd [.i m, .t (sh.map rshOf)] = false then 2 else _) = 0
    rw [hw, if_neg (by rw [form_pool]; decide)]
    show (if l.wd = "pool" then (if ((shsR ((rawNs l.nu).getD 1 (.i 0))).map (·.1)).all isName = false then 1 else if poolB l.gs (numR ((rawNs l.nu).getD 0 (.i 0))) (shsR ((rawNs l.nu).getD 1 (.i 0))) = true then 0 else 2) else _) = 0
    have e1 : shsR ((rawNs l.nu).getD 1 (.i 0)) = sh := by rw [hn]; exact map_shr3 sh
    have e0 : numR ((rawNs l.nu).getD 0 (.i 0)) = m := by rw [hn]; rfl
    rw [if_pos hw, e1, e0, if_neg, if_pos]
    · exact poolB_iff.mpr ⟨hg, h1, h8, ascB_of hasc, m0, m1, fun s hx => (hs s hx).2, hsum⟩
    · have : (sh.map (·.1)).all isName = true := by
        rw [List.all_eq_true]
        intro z hz
        obtain ⟨s, hx, rfl⟩ := List.mem_map.mp hz
        exact (hs s hx).1
      rw [this]
      decide
theorem ok_verd {l : Lm} (hp : l.wd = "pool" ↔ ∃ m sh, l.nu = .pool m sh) (h : (rawL l).verd = 0) : l.Ok := by
  unfold Raw.verd at h
  have h : (if (l.nm :: l.gs).all isName = false then 1 else if formR l.wd (rawNs l.nu) = false then 2 else if l.wd = "pool" then (if ((shsR ((rawNs l.nu).getD 1 (.i 0))).map (·.1)).all isName = false then 1 else if poolB l.gs (numR ((rawNs l.nu).getD 0 (.i 0))) (shsR ((rawNs l.nu).getD 1 (.i 0))) = true then 0 else 2)
    else if (decide (l.gs.length ≤ 8) && ascB l.gs && flatB l.wd ((rawNs l.nu).map numR)) = true then 0 else 2) = 0 := h
  split at h
  · cases h
  rename_i ha
  have ha : (l.nm :: l.gs).all isName = true := by simpa using ha
  rw [List.all_eq_true] at ha
  refine ⟨ha _ List.mem_cons_self, fun g hg => ha g (List.mem_cons_of_mem _ hg), ?_⟩
  split at h
  · cases h
  rename_i hf
  have hf : formR l.wd (rawNs l.nu) = true := by simpa using hf
  split at h
  · rename_i hw
    obtain ⟨m, sh, hn⟩ := hp.mp hw
    have e1 : shsR ((rawNs l.nu).getD 1 (.i 0)) = sh := by rw [hn]; exact map_shr3 sh
    have e0 : numR ((rawNs l.nu).getD 0 (.i 0)) = m := by rw [hn]; rfl
    rw [e1, e0] at h
    split at h
    · cases h
    rename_i hb
    split at h
    · rename_i hP
      obtain ⟨hg, h1, h8, hasc, m0, m1, hs, hsum⟩ := poolB_iff.mp hP
      have hb : (sh.map (·.1)).all isName = true := by simpa using hb
      rw [List.all_eq_true] at hb
      rw [hn]
      exact ⟨hw, hg, h1, h8, ascB_to hasc, fun s hx => ⟨hb _ (List.mem_map.mpr ⟨s, hx, rfl⟩), hs s hx⟩, m0, m1, hsum⟩
    · cases h
  · rename_i hw
    split at h
    · rename_i hB
      rw [Bool.and_eq_true, Bool.and_eq_true] at hB
      obtain ⟨⟨g8, hasc⟩, hfl⟩ := hB
      cases hn : l.nu with
      | flat ns =>
        have e : (rawNs l.nu).map numR = ns := by rw [hn]; show (ns.map Ri.i).map numR = ns; rw [List.map_map]; exact List.map_id _
        rw [e] at hfl
        rw [hn] at hf
        exact ⟨flat_of hfl hf hw, of_decide_eq_true g8, ascB_to hasc⟩
      | pool m sh => exact absurd (hp.mpr ⟨m, sh, hn⟩) hw
    · cases h
theorem verd_le (r : Raw) : r.verd = 0 ∨ r.verd = 1 ∨ r.verd = 2 := by
  unfold Raw.verd
  repeat' split
  all_goals simp
theorem form_flat {wd : Str} {ns : List Int} (hf : formR wd (ns.map Ri.i) = true) (hp : wd ≠ "pool") : ((wd = "window" ∨ wd = "span" ∨ wd = "bucket") ∧ ns.length = 2) ∨ (wd = "gap" ∧ ns.length = 1) ∨ (wd = "held" ∧ ns.length = 1) := by
  unfold formR at hf
  cases hs : sizeOfW wd with
  | none => rw [hs] at hf; cases hf
  | some k =>
    rw [hs] at hf
    have hl : ns.length = k := by
      have := of_decide_eq_true (Bool.and_eq_true _ _ ▸ hf).1
      rw [List.length_map] at this
      exact this
    unfold sizeOfW at hs
    split at hs
    · rename_i h1
      cases hs
      refine .inl ⟨?_, hl⟩
      rcases h1 with h1 | h1 | h1 | h1
      · exact .inl h1
      · exact .inr (.inl h1)
      · exact .inr (.inr h1)
      · exact absurd h1 hp
    · split at hs
      · rename_i h1
        cases hs
        rcases h1 with h1 | h1
        · exact .inr (.inl ⟨h1, hl⟩)
        · exact .inr (.inr ⟨h1, hl⟩)
      · cases hs
theorem flatB_iff {wd : Str} {ns : List Int} (hl : ns.length = (lowsW wd).length) : flatB wd ns = true ↔ ∀ (i : Nat) (x y : Int), ns[i]? = some x → (lowsW wd)[i]? = some y → y ≤ x ∧ x ≤ 1000000 := by
  unfold flatB
  rw [List.all_eq_true]
  constructor
  · intro h i x y hx hy
    have hm : (x, y) ∈ ns.zip (lowsW wd) := by
      refine List.mem_of_getElem? (i := i) ?_
      rw [List.getElem?_zip_eq_some]
      exact ⟨hx, hy⟩
    have := h _ hm
    unfold inMB at this
    rw [Bool.and_eq_true] at this
    exact ⟨of_decide_eq_true this.1, of_decide_eq_true this.2⟩
  · rintro h ⟨x, y⟩ hm
    obtain ⟨i, hi⟩ := List.getElem?_of_mem hm
    rw [List.getElem?_zip_eq_some] at hi
    obtain ⟨h1, h2⟩ := h i x y hi.1 hi.2
    unfold inMB
    rw [decide_eq_true h1, decide_eq_true h2]
    rfl
/-! ### isinstance of a caught error without a dict, of any class -/
def rIsEP (K : PySem.W.Frag) (D a : Addr) (cls : Value) (d : Option Addr) : List V → Hp → VK → Prop := fun xs H Q => ∃ (c : V) (cv : Value) (b : Bool), xs = [.ref a, c] ∧ cls = .ref D ∧ d = none ∧ (∀ u, RelV c u → u = cv) ∧ PySem.W.kitOne K (.ref D) cv = some b ∧ Q (.bl b) H
theorem call_isEP {X : Cx} {K : PySem.W.Frag} {a D : Addr} {oe : Obj} {cls : Value} {d : Option Addr} {pn : List (Addr × Obj)} (hK : X.K = K) (C : ExcC K D) (hz : Zc cls d oe) (hf : ∃ vs, oe.data = .fields vs) : CallR (X.suite a ((a, oe) :: pn)) (.builtin "isinstance") (rIsEP K D a cls d) := by
  intro pins s σ H xs us Q I r h
  obtain ⟨c, cv, b, rfl, rfl, rfl, hcv, e, q⟩ := h
  exact call_isE (by rw [hK]; exact C) hz hf pins s σ H _ us Q I r ⟨c, cv, b, rfl, hcv, by rw [hK]; exact e, q⟩
theorem g_isEP {K : PySem.W.Frag} {C C2 a : Addr} {b : Bool} {H : Hp} {Q : VK} (hk : PySem.W.kitOne K (.ref C) (.ref C2) = some b) (q : Q (.bl b) H) : rIsEP K C a (.ref C) none [.ref a, .ref C2] H Q := ⟨.ref C2, .ref C2, b, rfl, rfl, rfl, fun u h => h, hk, q⟩
theorem g_isEPt {K : PySem.W.Frag} {C a : Addr} {n : String} {b : Bool} {H : Hp} {Q : VK} (hk : PySem.W.kitOne K (.ref C) (.type n) = some b) (q : Q (.bl b) H) : rIsEP K C a (.ref C) none [.ref a, .ty n] H Q := ⟨.ty n, .type n, b, rfl, rfl, rfl, fun u h => h, hk, q⟩
/-! ### tuples put together, cut -/
theorem op_catAK {X : Cx} {K : PySem.W.Frag} (h : X.K = K) : OpR X (binaryOp .Add) (rCatA K) := by subst h; exact op_catA
theorem g_catA {K : PySem.W.Frag} {H : Hp} {Q : VK} {p r : Addr} {xs ys : List V} (h : SqT K H p xs) (h' : SqT K H r ys) (hz : xs.length + ys.length ≤ 100000) (q : ∀ p' H', Ex H H' → SqT K H' p' (xs ++ ys) → Q (.ref p') H') : rCatA K (.ref p) (.ref r) H Q :=
  ⟨p, r, _, _, rfl, rfl, h, h', Nat.le_trans hz (by rw [sizeLine_eq]; decide), (fun z => q _ _ (Evl.Ex.refl _) (by rw [z]; exact h')), (fun _ z => q _ _ (Evl.Ex.refl _) (by rw [z, List.append_nil]; exact h)), fun _ _ p hp => q _ _ (Evl.Ex.new hp) (.inl (.inl upd_same))⟩
theorem g_slAE {K : PySem.W.Frag} {H : Hp} {Q : VK} {p : Addr} {xs : List V} {lo hi : Option Int} (h : SqT K H p xs) (q : ∀ p' H', Ex H H' → SqT K H' p' (cutV xs lo hi) → Q (.ref p') H') : rSlA K (.ref p) lo hi H Q :=
  g_slA h (fun e => q _ _ (Evl.Ex.refl _) (by rw [e]; exact h)) fun p' hp => q _ _ (Evl.Ex.new hp) (.inl (.inl upd_same))
/-- list + list, where the walk is to stop -/
def rCatH : R2 := rCat
theorem op_catH {X : Cx} : OpR X (binaryOp .Add) rCatH := op_cat
theorem g_catH {H : Hp} {Q : VK} {x y : V} (q : rCat x y H Q) : rCatH x y H Q := q
/-! ### errors as values -/
/-- at a: an error of the class at C that was never raised, with the attributes fs (none, or one) -/
def ErrV (K : PySem.W.Frag) (H : Hp) (a C : Addr) (fs : List (Str × V)) : Prop := ExcC K C ∧
  ((fs = [] ∧ H a = some (ExO (.ref C) a)) ∨ ∃ (d : Addr) (f : Str) (v : V), fs = [(f, v)] ∧ H a = some (exo a C (some d)) ∧ H d = some (.xd fs) ∧ PySem.W.findIn K (.ref C) f = some none)
theorem ErrV.ex {K : PySem.W.Frag} {H H' : Hp} {a C : Addr} {fs : List (Str × V)} (h : ErrV K H a C fs) (e : Ex H H') : ErrV K H' a C fs := by
  obtain ⟨c, h⟩ := h
  rcases h with ⟨h1, h2⟩ | ⟨d, f, v, h1, h2, h3, h4⟩
  · exact ⟨c, .inl ⟨h1, e _ _ h2⟩⟩
  · exact ⟨c, .inr ⟨d, f, v, h1, e _ _ h2, e _ _ h3, h4⟩⟩
/-- X(e), X a class without an __init__ of its own -/
def rErr0 (K : PySem.W.Frag) (C : Addr) (Q : VK) (H1 : Hp) : Prop := ∀ a H', Ex H1 H' → ErrV K H' a C [] → Q (.ref a) H'
def tErr0 (K : PySem.W.Frag) (C : Addr) (ta : TE) : TE := fun σ H Q => ta σ H fun _ H1 => rErr0 K C Q H1
/-- X(e), X a class with one field -/
def rErr1 (K : PySem.W.Frag) (C : Addr) (f : Str) (Q : VK) (vs : List V) (H1 : Hp) : Prop := ∃ v, vs = [v] ∧ ∀ a H', Ex H1 H' → ErrV K H' a C [(f, v)] → Q (.ref a) H'
def tErr1 (K : PySem.W.Frag) (C : Addr) (f : Str) (ta : TA) : TE := fun σ H Q => ta σ H (rErr1 K C f Q)
section
variable {X : Cx} {K : PySem.W.Frag} {nm f : Str} {C fI : Addr}
theorem pe_err0 {e : Expr} {ta : TE} {p pos : Pos} (hK : X.K = K) (T : PlainTxt K X.mg nm C) (hx : ExcC K C) (hg : Gl X nm) (he : PE X e ta) (hs : starEach [e] X.env = (false, eval e X.env) :: starEach [] X.env := by rfl) (hdb : (nm == ("__debug__" : Str)) = false := by decide) :
    PE X (.Call (.Name nm p) [e] [] pos) (tErr0 K C ta) := by
  subst hK
  refine ⟨fun pins s σ H Q I h => ?_⟩
  refine wpAny_Call_Name_kw (ld_glob I hg T.gC ?_ hdb)
  refine PySem.W.callWith_K (h₀ := X.base) I.ok.mod.kin T.kC ?_ hs (by rfl)
  rw [hs]
  show wpAny _ _ (spliced ((false, eval e X.env) :: backTo pos (starEach [] X.env))) _ _ s
  refine Calls.spliced_cons (thn (he.run pins s σ H _ I h) fun u s1 ⟨v, H1, I1, r1, q1⟩ => ?_)
  refine Calls.spliced_nil ⟨I1.kIn, ?_⟩
  show wpAny _ _ (call (.ref C) [u]) _ _ _
  obtain ⟨bm, N, nm, qn, bs, hdct, sn, sub, ab, col, dd, k0, k1, k2, k3, k5, mN, hC, hN, hni, F⟩ := exc_obj I1.kIn T.xC
  refine wpAny_call_exc_subT PySem.F.excBase_ValueError F hC hN hni (fun h' a hm => ?_) (by show 1 ≤ sizeLine; rw [sizeLine_eq]; omega)
  have hn : H1 a = none := I1.hok.gone hm.new
  obtain ⟨t, ht, _, _⟩ := hm.there
  exact ⟨.ref a, upd H1 a (ExO (.ref C) a), I1.laidN hm.keeps hm.new hn (exO_ok ht ⟨rfl, rfl⟩ rfl rfl rfl (show 4 < 6 by decide)), rfl, q1 a _ (Evl.Ex.new hn) ⟨hx, .inl ⟨rfl, upd_same⟩⟩⟩
theorem pe_err1 {e : Expr} {ta : TA} {p pos : Pos} (hK : X.K = K) (T : PySem.LwX.ErrTxt X.prog.main.file K X.mg nm f C fI) (hx : ExcC K C) (htop : (X.prog.main.scope.names.lookup ("super" : Str)).isSome = false) (hroom : X.A.depth + 3 < recursionLimit) (hg : Gl X nm) (ha : PA X [e] ta)
    (hnd : (nm == ("__debug__" : Str)) = false := by decide) (he : starEach (e :: []) X.env = (false, eval e X.env) :: starEach [] X.env := by rfl) (hpl : (backTo pos (starEach [] X.env)).any (·.1) = false := by rfl) :
    PE X (.Call (.Name nm p) [e] [] pos) (tErr1 K C f ta) := by
  subst hK
  refine ⟨fun pins s σ H Q I h => ?_⟩
  refine wpAny_Call_Name_kw (ld_glob I hg T.gC ?_ hnd)
  refine PySem.W.callWith_K (h₀ := X.base) I.ok.mod.kin T.kC (thn (ha.run pos pins s σ H _ I h) fun us s1 hh => ?_) he hpl
  obtain ⟨vs, H1, I1, r1, v, ev, q1⟩ := hh
  subst ev
  refine ⟨I1.kIn, ?_⟩
  cases r1 with
  | cons rv rn =>
    rename_i v' us'
    cases rn
    show wpAny _ _ (call (.ref C) [v']) _ _ _
    have hlim := I1.nolimit
    obtain ⟨mb, hbl, hbx⟩ := I1.ok.mod.blt
    have hgl1 := I1.mod.glob.keeps I1.bk
    have hbl1 := hbl.keeps I1.bk
    have hbs : mb "super" = some (.type "super") := (hbx "super" (by decide +kernel)).trans (by first | rfl | kernel_rfl | decide +kernel)
    obtain ⟨hp, g, dr, tk, os⟩ := s1
    refine wpAny_call (PySem.LwX.xi_made T I1.kIn hlim hgl1 hbl1 hbs htop (by omega) fun h' tk' e d M => ?_)
    obtain ⟨t1, hoe⟩ := M.obj
    have hns := M.ns
    obtain ⟨G', g1, g2⟩ := restrict h' fun b => decide (b ≠ e)
    have gk : ∀ b, b ≠ e → G'.get? b = h'.get? b := fun b hb => g1 b (decide_eq_true hb)
    have ge : G'.get? e = none := g2 e (by simp)
    have old : ∀ b o, hp.get? b = some o → G'.get? b = some o := fun b o q => (gk b (Nat.ne_of_lt (Nat.lt_of_lt_of_le (Heap.lt_size q) M.new))).trans (M.keep b o q)
    have ob : ObjOk X.prog X.w (upd H1 d (.xd [(f, v)])) G' d (.xd [(f, v)]) :=
      ⟨_, hns.at (fun o q => (gk d M.dne).trans q), fun g => relO_one rv f g⟩
    have J : Inv X pins σ (upd H1 d (.xd [(f, v)])) ⟨G', g, dr, tk', os⟩ := I1.laid (t' := tk') old M.dbig ob
    have hde : H1 d = none := I1.hok.fresh M.dbig
    have hee : upd H1 d (.xd [(f, v)]) e = none := by
      rw [upd_ne (Ne.symm M.dne)]
      exact I1.hok.fresh M.new
    have J2 : Inv X pins σ (upd (upd H1 d (.xd [(f, v)])) e (exo e C (some d))) ⟨h', g, dr, tk', os⟩ :=
      J.laidN (h' := h') (t' := tk') (fun b u q => (gk b (fun z => by rw [z, ge] at q; cases q)).symm.trans q) ge hee (exo_ok hoe)
    refine ⟨.ref e, _, J2, rfl, q1 e _ ((Evl.Ex.new hde).trans (Evl.Ex.new hee)) ⟨hx, .inr ⟨d, f, v, rfl, upd_same, ?_, T.noN⟩⟩⟩
    rw [upd_ne M.dne]
    exact upd_same
/-- e.f of an error -/
def rErrF (K : PySem.W.Frag) (n : Str) (Q : VK) (x : V) (H1 : Hp) : Prop := ∃ (a C : Addr) (fs : List (Str × V)) (v : V), x = .ref a ∧ ErrV K H1 a C fs ∧ fs = [(n, v)] ∧ Q v H1
def tErrF (K : PySem.W.Frag) (n : Str) (te : TE) : TE := fun σ H Q => te σ H (rErrF K n Q)
theorem pe_errF {e : Expr} {te : TE} {pos : Pos} {n : Str} (hK : X.K = K) (he : PE X e te) (hb : attributeBase e n X.env (eval e X.env) = eval e X.env := by rfl) : PE X (.Attribute e n pos) (tErrF K n te) := by
  subst hK
  refine ⟨fun pins s σ H Q I h => ?_⟩
  refine attr_of hb (thn (he.run pins s σ H _ I h) fun u s1 hh => ?_)
  obtain ⟨x, H1, I1, rx, a, C, fs, v, ex, ⟨hc, hv⟩, efs, q⟩ := hh
  subst ex
  obtain rfl : u = Value.ref a := rx
  rcases hv with ⟨h1, _⟩ | ⟨d, f', v', h1, h2, h3, h4⟩
  · rw [h1] at efs; cases efs
  · rw [efs] at h1
    cases h1
    obtain ⟨t1, hoe⟩ := exo_at I1.hok h2
    have hx : ObjOk X.prog X.w H1 s1.heap d (.xd fs) := I1.hok d _ h3
    obtain ⟨mA, hns, hr⟩ := hx
    obtain ⟨od, ho, hl⟩ := lookIn_ns hns
    obtain ⟨u, hu, ru⟩ := RelO.some_of (v := v) (o := mA n) (by have q := hr n; rw [efs] at q; simpa [List.lookup] using q)
    have J : PySem.W.InstAt s1.heap a _ C (some od) := ⟨hoe, rfl, rfl, ho⟩
    exact HandSPX.exc_get I1.kIn J hc.hg hc.hk hc.hs (PySem.W.findObj_own hc.hd h4 rfl (by rw [hl, hu])) (handed_of ru) ⟨v, H1, I1.tok _, ru, q⟩
/-- isinstance of an error -/
def rIsV (K : PySem.W.Frag) : List V → Hp → VK → Prop := fun xs H Q => ∃ (a C : Addr) (fs : List (Str × V)) (c : V) (cv : Value) (b : Bool), xs = [.ref a, c] ∧ ErrV K H a C fs ∧ (∀ u, RelV c u → u = cv) ∧ PySem.W.kitOne K (.ref C) cv = some b ∧ Q (.bl b) H
theorem call_isV (hK : X.K = K) : CallR X (.builtin "isinstance") (rIsV K) := by
  subst hK
  intro pins s σ H xs us Q I r h
  obtain ⟨a, C, fs, c, cv, b, rfl, ⟨hc, hv⟩, hcv, e, q⟩ := h
  cases r with
  | cons rx rr =>
    cases rr with
    | cons rt rr =>
      cases rr
      cases rx
      have ec := hcv _ rt
      subst ec
      rcases hv with ⟨h1, h2⟩ | ⟨d, f', v', h1, h2, h3, h4⟩
      · have hx : ObjOk X.prog X.w H s.heap a (ExO (.ref C) a) := I.hok a _ h2
        obtain ⟨⟨oe, vs, hget, hz, hd, _⟩, _⟩ := hx
        have J : PySem.W.InstAt s.heap a oe C none := by
          obtain ⟨oc, od, oda, osl⟩ := oe
          obtain ⟨z1, z2⟩ := hz
          dsimp only at z1 z2 hd
          subst z1 z2 hd
          exact ⟨hget, rfl, rfl, trivial⟩
        exact PySem.W.kia_one (PySem.W.handS_kitx_exc hc.hg hc.hk hc.hs hc.hd hc.ha hc.hn hc.ht hc.hm) I.kIn J e (fun z => nomatch z) fun tk => ⟨.bl b, H, I.kept (t' := tk) fun _ _ z => z, rfl, q⟩
      · obtain ⟨t1, hoe⟩ := exo_at I.hok h2
        have hx : ObjOk X.prog X.w H s.heap d (.xd fs) := I.hok d _ h3
        obtain ⟨mA, hns, hr⟩ := hx
        obtain ⟨od, ho, hl⟩ := lookIn_ns hns
        have J : PySem.W.InstAt s.heap a _ C (some od) := ⟨hoe, rfl, rfl, ho⟩
        obtain ⟨cd, hcl, _⟩ := PySem.W.any_some hc.hd
        exact PySem.W.kia_one (PySem.W.kitx_exc (by rw [hcl]; rfl) hc.hg hc.hk hc.hs hc.ha hc.hn hc.ht hc.hm) I.kIn J e (fun z => nomatch z) fun tk => ⟨.bl b, H, I.kept (t' := tk) fun _ _ z => z, rfl, q⟩
end
section
variable {K : PySem.W.Frag} {σ : L2.St} {H : Hp} {Q : VK} {C D a : Addr} {f : Str} {v : V} {fs : List (Str × V)} {b : Bool}
theorem g_err0 {ta : TE} (q : ta σ H fun _ H1 => rErr0 K C Q H1) : tErr0 K C ta σ H Q := q
theorem g_err0i (q : ∀ a H', Ex H H' → ErrV K H' a C [] → Q (.ref a) H') : rErr0 K C Q H := q
theorem g_err1 {ta : TA} (q : ta σ H (rErr1 K C f Q)) : tErr1 K C f ta σ H Q := q
theorem g_err1i (q : ∀ a H', Ex H H' → ErrV K H' a C [(f, v)] → Q (.ref a) H') : rErr1 K C f Q [v] H := ⟨v, rfl, q⟩
theorem g_errF {te : TE} (q : te σ H (rErrF K f Q)) : tErrF K f te σ H Q := q
theorem g_errF1 (h : ErrV K H a C [(f, v)]) (q : Q v H) : rErrF K f Q (.ref a) H := ⟨a, C, _, v, rfl, h, rfl, q⟩
theorem g_isV (h : ErrV K H a C fs) (hk : PySem.W.kitOne K (.ref C) (.ref D) = some b) (q : Q (.bl b) H) : rIsV K [.ref a, .ref D] H Q := ⟨a, C, fs, .ref D, .ref D, b, rfl, h, (fun u r => r), hk, q⟩
theorem g_isVt {n : String} (h : ErrV K H a C fs) (hk : PySem.W.kitOne K (.ref C) (.type n) = some b) (q : Q (.bl b) H) : rIsV K [.ref a, .ty n] H Q := ⟨a, C, fs, .ty n, .type n, b, rfl, h, (fun u r => r), hk, q⟩
end
/-! ### classes that stand apart -/
def kitRow (K : PySem.W.Frag) (C : Addr) (i : Nat) : Nat → List Addr → Bool
  | _, [] => true
  | j, D :: r => (PySem.W.kitOne K (.ref C) (.ref D) == some (i == j)) && kitRow K C i (j + 1) r
def kitRows (K : PySem.W.Frag) (cs : List Addr) : Nat → List Addr → Bool
  | _, [] => true
  | i, C :: r => kitRow K C i 0 cs && kitRows K cs (i + 1) r
def kitTab (K : PySem.W.Frag) (cs : List Addr) : Bool := kitRows K cs 0 cs
theorem kitRow_at {K : PySem.W.Frag} {C D : Addr} {i : Nat} : ∀ {r : List Addr} {j m : Nat}, kitRow K C i j r = true → r[m]? = some D → PySem.W.kitOne K (.ref C) (.ref D) = some (i == j + m)
  | [], _, _, _, h => by cases h
  | E :: r, j, 0, h, e => by
    cases e
    exact beq_iff_eq.mp (Bool.and_eq_true_iff.mp h).1
  | E :: r, j, m + 1, h, e => by
    have q := kitRow_at (j := j + 1) (m := m) (Bool.and_eq_true_iff.mp h).2 e
    rw [q, Nat.add_assoc, Nat.add_comm 1 m]
theorem kitRows_at {K : PySem.W.Frag} {cs : List Addr} {C D : Addr} {m : Nat} (hD : cs[m]? = some D) : ∀ {r : List Addr} {j k : Nat}, kitRows K cs j r = true → r[k]? = some C → PySem.W.kitOne K (.ref C) (.ref D) = some (j + k == m)
  | [], _, _, _, h => by cases h
  | E :: r, j, 0, h, e => by
    cases e
    have q := kitRow_at (Bool.and_eq_true_iff.mp h).1 hD
    rw [q, Nat.zero_add, Nat.add_zero]
  | E :: r, j, k + 1, h, e => by
    have q := kitRows_at hD (j := j + 1) (k := k) (Bool.and_eq_true_iff.mp h).2 e
    rw [q, Nat.add_assoc, Nat.add_comm 1 k]
theorem kitTab_at {K : PySem.W.Frag} {cs : List Addr} {C D : Addr} {k m : Nat} (T : kitTab K cs = true) (hC : cs[k]? = some C) (hD : cs[m]? = some D) : PySem.W.kitOne K (.ref C) (.ref D) = some (k == m) := by
  have q := kitRows_at hD T hC
  rw [q, Nat.zero_add]
/-! ### further steps -/
section
variable {K : PySem.W.Frag} {σ : L2.St} {H : Hp} {Q : VK} {te : TE} {g : TG} {vs : List Nat}
/-- a comprehension over a text with a test -/
theorem lc_filtC {z : Str} {tt : TT} (p : Nat → Bool) (f : Nat → V) (hn : z.length ≤ 1000000)
    (hs : ∀ c ∈ tl z, ∀ H1, Ex H H1 → ∀ (R : VK) (N : Hp → Prop), (p c = true → ∀ H3, Ex H1 H3 → R (f c) H3) → (p c = false → ∀ H3, Ex H1 H3 → N H3) → g (.str ⟨#[c]⟩) (wipe σ vs) H1 fun σ2 H3 => wipe σ2 vs = wipe σ vs ∧ tt σ2 H3 fun b H4 => if b = true then te σ2 H4 R else N H4)
    (hq : ∀ p' H', H p' = none → Ex H H' → H' p' = some (.lst (((tl z).filter p).map f)) → Q (.ref p') H') : LcOk (Its z) g tt te vs Q σ H := by
  have hl : z.cps.size = (tl z).length := by simp [tl]
  intro D hD
  refine lc_it walk_str (fun i H' => Ex H H' ∧ H' D = some (.lst ((((tl z).take i).filter p).map f))) ⟨Evl.Ex.new hD, upd_same⟩ (fun i H' _ h => trivial) (fun i x H1 H2 hi hP hY => ?_) (fun H' h => ?_)
  · obtain ⟨hE, hL⟩ := hP
    obtain ⟨rfl, c, hc, rfl⟩ := hY
    have e : (tl z)[i]? = some c := by simpa [tl] using hc
    have hT : (tl z).take (i + 1) = (tl z).take i ++ [c] := by rw [List.take_add_one, e]; rfl
    refine hs c (List.mem_of_getElem? e) _ hE _ _ (fun hp H3 e3 => ?_) (fun hp H3 e3 => ?_)
    · refine ⟨_, e3 _ _ hL, ?_, Evl.Ex.mut (hE.trans e3) hD, ?_⟩
      · refine fits_lt ?_
        rw [List.length_map]
        have := List.length_filter_le p ((tl z).take i)
        rw [List.length_take] at this
        rw [len_tl] at hn
        omega
      · rw [upd_same, hT, List.filter_append, List.map_append]
        simp [hp]
    · refine ⟨hE.trans e3, ?_⟩
      rw [e3 _ _ hL, hT, List.filter_append]
      simp [hp]
  · exact hq D H' hD h.1 (by rw [h.2, hl, List.take_of_length_le (Nat.le_refl _)])
theorem g_rep {l : Addr} {k : Int} {xs : List V} (h : H l = some (.lst xs)) (h0 : 0 ≤ k) (h1 : k ≤ 100) (hz : xs.length * k.toNat ≤ 1000) (q : ∀ p, H p = none → Q (.ref p) (upd H p (.lst (List.replicate k.toNat xs).flatten))) : rRep (.ref l) (.int k) H Q :=
  ⟨l, k, xs, rfl, rfl, h, by omega, by omega, fits_of (by omega), q⟩
theorem filter_len0 {α : Type} (p : α → Bool) : ∀ l : List α, decide ((((l.filter p).length : Nat) : Int) = 0) = l.all fun c => !p c
  | [] => rfl
  | c :: r => by
    have ih := filter_len0 p r
    by_cases h : p c = true
    · have e : (c :: r).filter p = c :: r.filter p := List.filter_cons_of_pos h
      rw [e, List.all_cons, h]
      have : ¬ ((((c :: r.filter p).length : Nat) : Int) = 0) := by rw [List.length_cons]; omega
      rw [decide_eq_false this]
      rfl
    · have e : (c :: r).filter p = r.filter p := List.filter_cons_of_neg h
      have h2 : p c = false := by simpa using h
      rw [e, List.all_cons, h2, ih]
      rfl
end
open TL NumText
local macro_rules | `(tactic| walk_at "ki") => `(tactic| first
  | exact kit_str_str
  | exact kit_str_int
  | exact kit_str_bool
  | exact kit_str_tuple
  | exact kit_str_list
  | exact kit_str_dict
  | exact kit_int_str
  | exact kit_int_int
  | exact kit_int_bool
  | exact kit_int_tuple
  | exact kit_int_list
  | exact kit_int_dict
  | exact kit_bool_str
  | exact kit_bool_int
  | exact kit_bool_bool
  | exact kit_bool_tuple
  | exact kit_bool_list
  | exact kit_bool_dict
  | exact kit_NoneType_str
  | exact kit_NoneType_int
  | exact kit_NoneType_bool
  | exact kit_NoneType_tuple
  | exact kit_NoneType_list
  | exact kit_NoneType_dict
  | exact kit_tuple_str
  | exact kit_tuple_int
  | exact kit_tuple_bool
  | exact kit_tuple_tuple
  | exact kit_tuple_list
  | exact kit_tuple_dict
  | exact kit_list_str
  | exact kit_list_int
  | exact kit_list_bool
  | exact kit_list_tuple
  | exact kit_list_list
  | exact kit_list_dict)
local macro_rules | `(tactic| walk_at "ex") => `(tactic| first
  | assumption
  | exact Evl.Ex.refl _
  | exact Evl.Ex.new (by assumption)
  | (refine Evl.Ex.trans ?_ (Evl.Ex.new (by assumption)); walk_at "ex")
  | (refine Evl.Ex.trans ?_ (by assumption); walk_at "ex"))
local macro_rules | `(tactic| walk_at "sq") => `(tactic| first
  | assumption
  | exact .inl (.inl (by assumption))
  | exact .inl (.inl upd_same)
  | (apply ex_sqL (Evl.Ex.new (by assumption)); walk_at "sq")
  | (apply ex_sqT (Evl.Ex.new (by assumption)); walk_at "sq")
  | (apply ex_sqL (by assumption); walk_at "sq")
  | (apply ex_sqT (by assumption); walk_at "sq"))
local macro_rules | `(tactic| walk_at "dp") => `(tactic| first
  | exact Dp.int _
  | exact Dp.str _
  | exact Dp.bl _
  | exact Dp.non
  | (refine Dp.tup (by walk_at "sq") ?_; walk_at "dpa")
  | (refine Dp.lst (by walk_at "sq") ?_; walk_at "dpa"))
local macro_rules | `(tactic| walk_at "dpa") => `(tactic| first
  | exact DpAll.nil
  | (refine DpAll.cons (by walk_at "dp") ?_; walk_at "dpa"))
local macro_rules | `(tactic| walk_at "at") => `(tactic| first
  | assumption
  | exact upd_same
  | (apply ex_at (Evl.Ex.new (by assumption)); walk_at "at")
  | (apply ex_at (by assumption); walk_at "at"))
local macro_rules | `(tactic| walk_at "sd") => `(tactic| first
  | decide
  | omega
  | (unfold CDiv; omega)
  | (unfold CMul; omega)
  | (unfold CPow; omega)
  | (simp only [CDiv, CMul, CPow]; omega)
  | (refine fits_of ?_; simp only [List.length_append, List.length_cons, List.length_nil, List.length_map]; omega)
  | exact fits_of (by first | decide | omega | (simp only [List.length_cons, List.length_nil]; omega))
  | exact fits_lt (by first | decide | omega | (simp only [List.length_map]; omega))
  | exact fits_lt (by simp only [List.length_append, List.length_cons, List.length_nil, List.length_map] <;> omega)
  | exact fits_of (by simp only [List.length_append, List.length_cons, List.length_nil, List.length_map] <;> omega)
  | exact log_small (by omega)
  | exact fits_of (of_decide_eq_true rfl)
  | exact fits_of (by simp only [len_app, len_stxt, len_sing]; omega))
local macro_rules | `(tactic| walk_at "g1") => `(tactic| first
  | with_reducible refine g_seq ?_
  | with_reducible refine g_next ?_
  | with_reducible refine g_asg ?_
  | with_reducible refine g_name ?_
  | with_reducible refine g_drop ?_
  | with_reducible refine g_ret ?_
  | with_reducible refine g_ifS ?_
  | with_reducible refine g_c ?_
  | ((with_reducible show tVar _ _ _ _); refine g_var rfl ?_)
  | with_reducible refine g_op ?_
  | with_reducible refine g_un ?_
  | with_reducible refine g_chain ?_
  | with_reducible refine g_rI0 ?_
  | with_reducible refine g_rU ?_
  | ((with_reducible refine g_rI ?h ?_); (case h => walk_at "sd"))
  | with_reducible refine g_eqI ?_
  | with_reducible refine g_neI ?_
  | with_reducible refine g_eqS ?_
  | with_reducible refine g_neS ?_
  | with_reducible refine g_test ?_
  | with_reducible refine g_tB ?_
  | with_reducible refine g_bl ?_
  | with_reducible refine g_not ?_
  | with_reducible refine g_and ?_
  | with_reducible refine g_or ?_
  | with_reducible refine g_andV ?_
  | with_reducible refine g_orV ?_
  | with_reducible refine g_notV ?_
  | with_reducible refine g_if ?_
  | with_reducible refine g_tup ?_
  | with_reducible refine g_lst ?_
  | with_reducible refine g_nil ?_
  | with_reducible refine g_cons ?_
  | with_reducible refine g_call ?_
  | with_reducible refine g_cb ?_
  | with_reducible refine g_bm ?_
  | with_reducible refine g_bm0 ?_
  | with_reducible refine g_m1 ?_
  | with_reducible refine g_m0 ?_
  | with_reducible refine g_sl ?_
  | with_reducible refine g_nop ?_
  | with_reducible refine g_part ?_
  | with_reducible refine g_isI ?_
  | with_reducible refine g_isS ?_
  | with_reducible refine g_intI ?_
  | with_reducible refine g_intB ?_
  | with_reducible refine g_abs ?_
  | with_reducible refine g_max2 ?_
  | with_reducible refine g_tyS ?_
  | with_reducible refine g_ordS ?_
  | with_reducible refine g_cmpS ?_
  | with_reducible refine g_ninS ?_
  | with_reducible refine g_isNi ?_
  | with_reducible refine g_isNn ?_
  | with_reducible refine g_isNr ?_
  | with_reducible refine g_isNs ?_
  | with_reducible refine g_ntNi ?_
  | with_reducible refine g_ntNn ?_
  | with_reducible refine g_ntNr ?_
  | with_reducible refine g_ntNs ?_
  | with_reducible refine g_isN ?_
  | with_reducible refine g_notN ?_
  | with_reducible refine g_min2 ?_
  | with_reducible refine g_inS ?_
  | with_reducible refine g_for ?_
  | with_reducible refine g_iList ?_
  | with_reducible refine g_iTup ?_
  | with_reducible refine g_iStr ?_
  | with_reducible refine g_iRng1 ?_
  | with_reducible refine g_lc ?_
  | with_reducible refine g_atS ?_
  | with_reducible refine g_iEnum ?_
  | ((with_reducible show rIEn _ _ _ _); refine g_enL (by walk_at "sq") ?_)
  | ((with_reducible refine g_rng ?h ?_); (case h => walk_at "sd"))
  | ((with_reducible refine g_new ?h ?_); (case h => walk_at "sd"); intro _ _)
  | ((with_reducible show rLen _ _ _ _); refine g_lenL (by walk_at "sq") ?_)
  | ((with_reducible show rLen _ _ _ _); refine g_lenT (by walk_at "sq") ?_)
  | ((with_reducible refine g_lenS ?h ?_); (case h => walk_at "sd"))
  | ((with_reducible refine g_strI ?h ?_); (case h => walk_at "sd"))
  | ((with_reducible refine g_addS ?h ?_); (case h => walk_at "sd"))
  | ((with_reducible show tyV _ "list" _ _ ∧ _); refine g_tyL (by walk_at "sq") ?_)
  | ((with_reducible show rIL _ _ _ _); refine g_atL (by walk_at "sq") ?_)
  | ((with_reducible show rIT _ _ _ _); refine g_atT (by walk_at "sq") ?_)
  | ((with_reducible show rSlL _ _ _ _ _ _); refine g_slL (by walk_at "sq") ?_; intro _ _)
  | ((with_reducible refine g_slS ?h ?_); (case h => walk_at "sd"))
  | ((with_reducible show tAug _ _ _ _ _ _); refine g_aug rfl ?_)
  | with_reducible refine g_ipI ?_
  | ((with_reducible show rAppend _ _ _ _); refine g_app (by walk_at "at") (by walk_at "sd") ?_)
  | with_reducible refine g_fmt ?_
  | with_reducible refine g_jsN ?_
  | with_reducible refine g_jsC ?_
  | ((with_reducible refine g_jsS ?h ?_); (case h => walk_at "sd"))
  | ((with_reducible refine g_fmtI ?h ?_); (case h => walk_at "sd"))
  | ((with_reducible refine g_fmtS ?h ?_); (case h => walk_at "sd"))
  | ((with_reducible show rAll _ _ _ _); refine g_allF (by walk_at "sq") ?_)
  | ((with_reducible show gTup _ _ _ _ _ _ _); refine g_gtup2 (by walk_at "sq") ?_)
  | ((with_reducible show rRjust _ _ _ _); refine g_rjust (by first | rfl | decide) (by first | rfl | decide) ?_)
  | ((with_reducible show rSplitMax _ _ _ _); refine g_splitMax (by first | rfl | decide) (by first | decide | omega) (by walk_at "sd") ?_; intro _ _)
  | ((with_reducible show rSplit _ _ _ _); refine g_split (by first | rfl | decide) (by walk_at "sd") ?_; intro _ _)
  | ((with_reducible show wipe _ _ = wipe _ _ ∧ _); refine ⟨rfl, ?_⟩)
  | ((with_reducible show _ ≤ sizeLine ∧ _); refine ⟨by walk_at "sd", ?_⟩)
  | ((with_reducible show rIxL _ _ _ _ _); refine g_ixL (by walk_at "sq") (by first | exact atI_nat (j := 0) rfl | exact atI_nat (j := 1) rfl | exact atI_nat (j := 2) rfl | exact atI_nat (j := 3) rfl | exact atI_nat (j := 4) rfl | exact at_ints (by omega) (by omega)) ?_)
  | ((with_reducible show rIxT _ _ _ _ _); refine g_ixT (by walk_at "sq") (by first | exact atI_nat (j := 0) rfl | exact atI_nat (j := 1) rfl | exact atI_nat (j := 2) rfl | exact atI_nat (j := 3) rfl | exact atI_nat (j := 4) rfl | exact rfl) ?_)
  | ((with_reducible show rIxS _ _ _ _); refine g_ixS (by walk_at "sd") (by exact at_codes (by omega) (by first | omega | (rw [← len_tl]; omega))) ?_)
  | ((with_reducible show rMulS _ _ _ _); refine g_mulS (by first | decide | omega) (by decide +kernel) ?_)
  | ((with_reducible show rListOf _ _ _ _); refine g_listL (by walk_at "sq") ?_; intro _ _)
  | ((with_reducible show rListOf _ _ _ _); refine g_listT (by walk_at "sq") ?_; intro _ _)
  | ((with_reducible show tDNewK _ _ _); refine g_dnew ?_; intro _ _)
  | with_reducible refine g_raise ?_
  | with_reducible refine g_callS ?_
  | ((with_reducible show rRaise _ _ _ _ _ _); refine g_raise1 ?_; intro _ _)
  | with_reducible refine g_xf ?_
  | ((with_reducible show rXf _ _ _ _ _ _ _ _); refine g_xf1 (by walk_at "at") (by rfl) ?_)
  | ((with_reducible show rIsED _ _ _ _ _ _ _ _); refine g_isED (by assumption) (by walk_at "at") ?_)
  | ((with_reducible show rCat _ _ _ _); refine g_cat (by walk_at "at") (by walk_at "at") (by first | omega | (refine fits_of ?_; simp only [List.length_append, List.length_cons, List.length_nil, List.length_map, List.length_take, List.length_drop]; omega)) ?_; intro _ _)
  | with_reducible refine g_repl1 ?_
  | with_reducible refine g_din ?_
  | with_reducible refine g_dnin ?_
  | with_reducible refine g_dput ?_
  | ((with_reducible show rDIn _ _ _ _); refine g_dinS (by walk_at "at") ?_)
  | ((with_reducible show rDNin _ _ _ _); refine g_dninS (by walk_at "at") ?_)
  | ((with_reducible show rDPut _ _ _ _ _ _); refine g_dputS (by walk_at "at") (by walk_at "sd") ?_)
  | with_reducible refine g_eqB ?_
  | with_reducible refine g_neB ?_
  | ((with_reducible show rInst _ _ _ _); refine g_instS (by walk_at "ki") ?_)
  | ((with_reducible show rInst _ _ _ _); refine g_instI (by walk_at "ki") ?_)
  | ((with_reducible show rInst _ _ _ _); refine g_instB (by walk_at "ki") ?_)
  | ((with_reducible show rInst _ _ _ _); refine g_instN (by walk_at "ki") ?_)
  | ((with_reducible show rInst _ _ _ _); refine g_instT (by walk_at "sq") (by walk_at "ki") ?_)
  | ((with_reducible show rInst _ _ _ _); refine g_instL (by walk_at "sq") (by walk_at "ki") ?_)
  | ((with_reducible show rSlT _ _ none (some 1) _ _); refine g_slT1 (by walk_at "sq") ?_; intro _ _)
  | ((with_reducible show rSlT _ _ (some 1) none _ _); refine g_slTt (by walk_at "sq") ?_; intro _ _)
  | with_reducible refine w_t ?_
  | with_reducible refine w_f ?_
  | ((with_reducible show if (!true) = true then _ else _); refine w_no rfl ?_)
  | ((with_reducible show if (!false) = true then _ else _); refine w_yes rfl ?_))
local macro_rules | `(tactic| walk_at "go") => `(tactic| repeat walk_at "g1")

local macro_rules | `(tactic| walk_at "ev") => `(tactic| first
  | assumption
  | (apply ErrV.ex ?_ (Evl.Ex.new (by assumption)); walk_at "ev")
  | (apply ErrV.ex ?_ (by assumption); walk_at "ev"))
local macro_rules | `(tactic| walk_at "g1") => `(tactic| first
  | with_reducible refine g_err0 ?_
  | ((with_reducible show rErr0 _ _ _ _); refine g_err0i ?_; intro _ _ _ _)
  | with_reducible refine g_err1 ?_
  | ((with_reducible show rErr1 _ _ _ _ _ _); refine g_err1i ?_; intro _ _ _ _)
  | with_reducible refine g_errF ?_
  | ((with_reducible show rIsV _ _ _ _); refine g_isV (by walk_at "ev") (by assumption) ?_)
  | ((with_reducible show rIsV _ _ _ _); refine g_isVt (by walk_at "ev") (by assumption) ?_)
  | ((with_reducible show rIxL _ _ _ _ _); refine g_ixL (by walk_at "sq") (by first | exact atI_nat (j := 3) rfl | exact atI_nat (j := 4) rfl | exact atI_nat (j := 5) rfl | exact atI_nat (j := 6) rfl | exact atI_nat (j := 7) rfl | exact atI_nat (j := 8) rfl | exact atI_nat (j := 9) rfl) ?_)
  | with_reducible refine g_ifE ?_
  | with_reducible refine g_chain3 ?_)
def topS (i : Nat) : Stmt := PySem.Challenge.pw_limitweave_k00_errors_names_and_moments.main.body.getD i (.Pass ⟨0, 0, 0, 0⟩)
abbrev s_is_name : Stmt := topS 25
abbrev s_is_key : Stmt := topS 26
abbrev s_check_request : Stmt := topS 27
abbrev s_check_moment : Stmt := topS 28
abbrev s__law_row : Stmt := topS 30
abbrev s__law_numbers : Stmt := topS 31
abbrev s__law_text : Stmt := topS 32
abbrev s__law_is : Stmt := topS 33
abbrev s__law_says : Stmt := topS 34
abbrev s__law_refuses : Stmt := topS 35
abbrev s__law_kinds : Stmt := topS 36
abbrev s__law_classes : Stmt := topS 37
abbrev s_law : Stmt := topS 38
theorem sc_is_name : FnScope ["text", "letter"] ["text"] (defScope s_is_name) := ⟨rfl, rfl, rfl, by decide +kernel, rfl, by decide +kernel, by decide +kernel⟩
theorem sc_is_key : FnScope ["text", "letter"] ["text"] (defScope s_is_key) := ⟨rfl, rfl, rfl, by decide +kernel, rfl, by decide +kernel, by decide +kernel⟩
theorem sc_check_request : FnScope ["key", "group", "cost"] ["key", "group", "cost"] (defScope s_check_request) := ⟨rfl, rfl, rfl, by decide +kernel, rfl, by decide +kernel, by decide +kernel⟩
theorem sc_check_moment : FnScope ["moment"] ["moment"] (defScope s_check_moment) := ⟨rfl, rfl, rfl, by decide +kernel, rfl, by decide +kernel, by decide +kernel⟩
theorem sc__law_row : FnScope ["_law_cell", "_law_many", "_law_row_here", "_law_rest", "_law_state", "_law_k"] ["_law_cell", "_law_many"] (defScope s__law_row) := ⟨rfl, rfl, rfl, by decide +kernel, rfl, by decide +kernel, by decide +kernel⟩
theorem sc__law_numbers : FnScope ["_law_script", "_law_many", "_law_cells", "_law_each", "_law_numbers_here", "_law_cell", "_law_number"] ["_law_script", "_law_many"] (defScope s__law_numbers) := ⟨rfl, rfl, rfl, by decide +kernel, rfl, by decide +kernel, by decide +kernel⟩
theorem sc__law_text : FnScope ["_law_numbers_here", "_law_at", "_law_letters", "_law_text_here", "_law_k", "_law_place"] ["_law_numbers_here", "_law_at"] (defScope s__law_text) := ⟨rfl, rfl, rfl, by decide +kernel, rfl, by decide +kernel, by decide +kernel⟩
theorem sc__law_is : FnScope ["_law_text_here", "_law_signs", "_law_most", "_law_sign"] ["_law_text_here", "_law_signs", "_law_most"] (defScope s__law_is) := ⟨rfl, rfl, rfl, by decide +kernel, rfl, by decide +kernel, by decide +kernel⟩
theorem sc__law_says : FnScope ["_law_actual", "_law_due"] ["_law_actual", "_law_due"] (defScope s__law_says) := ⟨rfl, rfl, rfl, by decide +kernel, rfl, by decide +kernel, by decide +kernel⟩
theorem sc__law_refuses : FnScope ["_law_kind", "_law_key", "_law_group", "_law_number"] ["_law_kind", "_law_key", "_law_group", "_law_number"] (defScope s__law_refuses) := ⟨rfl, rfl, rfl, by decide +kernel, rfl, by decide +kernel, by decide +kernel⟩
theorem sc__law_kinds : FnScope ["_law_error", "_law_many"] ["_law_error"] (defScope s__law_kinds) := ⟨rfl, rfl, rfl, by decide +kernel, rfl, by decide +kernel, by decide +kernel⟩
theorem sc__law_classes : FnScope ["_law_text_here", "_law_number", "_law_plain", "_law_told", "_law_kept", "_law_error"] ["_law_text_here", "_law_number"] (defScope s__law_classes) := ⟨rfl, rfl, rfl, by decide +kernel, rfl, by decide +kernel, by decide +kernel⟩
theorem sc_law : FnScope ["_law_script", "_law_numbers_here", "_law_letters", "_law_texts", "_law_text_here", "_law_costs", "_law_cost", "_law_key", "_law_group", "_law_due", "_law_moment"] ["_law_script"] (defScope s_law) := ⟨rfl, rfl, rfl, by decide +kernel, rfl, by decide +kernel, by decide +kernel⟩
structure Ads where
  (f_is_name f_is_key f_check_request f_check_moment f__law_row f__law_numbers f__law_text f__law_is f__law_says f__law_refuses f__law_kinds f__law_classes f_law f_UnknownName i_UnknownName f_NameTaken i_NameTaken f_KeyKnown i_KeyKnown f_UnknownKey i_UnknownKey f_EarlierMoment i_EarlierMoment f_InvalidNotation i_InvalidNotation f_InvalidEntry i_InvalidEntry f_UnknownLetter i_UnknownLetter f_HouseFallen i_HouseFallen f_UnknownHouse i_UnknownHouse f_LimitError f_InvalidName f_InvalidRequest f_InvalidLimit f_InvalidBook f_NoView f_InvalidPaper f_InvalidJournal f_TooLarge f_NothingToUndo f_NothingToRedo : Addr)
  (d_is_name d_is_key d_check_request d_check_moment d__law_row d__law_numbers d__law_text d__law_is d__law_says d__law_refuses d__law_kinds d__law_classes d_law : FuncData)
structure Txt (P : Program) (K : PySem.W.Frag) (mg : Str → Option Value) (a : Ads) : Prop where
  F_is_name : Fun K "is_name" "is_name" s_is_name a.f_is_name a.d_is_name
  g_is_name : mg "is_name" = some (.ref a.f_is_name)
  b_is_name : Binds K a.d_is_name ["text"] []
  F_is_key : Fun K "is_key" "is_key" s_is_key a.f_is_key a.d_is_key
  g_is_key : mg "is_key" = some (.ref a.f_is_key)
  b_is_key : Binds K a.d_is_key ["text"] []
  F_check_request : Fun K "check_request" "check_request" s_check_request a.f_check_request a.d_check_request
  g_check_request : mg "check_request" = some (.ref a.f_check_request)
  b_check_request : Binds K a.d_check_request ["key", "group", "cost"] []
  F_check_moment : Fun K "check_moment" "check_moment" s_check_moment a.f_check_moment a.d_check_moment
  g_check_moment : mg "check_moment" = some (.ref a.f_check_moment)
  b_check_moment : Binds K a.d_check_moment ["moment"] []
  F__law_row : Fun K "_law_row" "_law_row" s__law_row a.f__law_row a.d__law_row
  g__law_row : mg "_law_row" = some (.ref a.f__law_row)
  b__law_row : Binds K a.d__law_row ["_law_cell", "_law_many"] []
  F__law_numbers : Fun K "_law_numbers" "_law_numbers" s__law_numbers a.f__law_numbers a.d__law_numbers
  g__law_numbers : mg "_law_numbers" = some (.ref a.f__law_numbers)
  b__law_numbers : Binds K a.d__law_numbers ["_law_script", "_law_many"] []
  F__law_text : Fun K "_law_text" "_law_text" s__law_text a.f__law_text a.d__law_text
  g__law_text : mg "_law_text" = some (.ref a.f__law_text)
  b__law_text : Binds K a.d__law_text ["_law_numbers_here", "_law_at"] []
  F__law_is : Fun K "_law_is" "_law_is" s__law_is a.f__law_is a.d__law_is
  g__law_is : mg "_law_is" = some (.ref a.f__law_is)
  b__law_is : Binds K a.d__law_is ["_law_text_here", "_law_signs", "_law_most"] []
  F__law_says : Fun K "_law_says" "_law_says" s__law_says a.f__law_says a.d__law_says
  g__law_says : mg "_law_says" = some (.ref a.f__law_says)
  b__law_says : Binds K a.d__law_says ["_law_actual", "_law_due"] []
  F__law_refuses : Fun K "_law_refuses" "_law_refuses" s__law_refuses a.f__law_refuses a.d__law_refuses
  g__law_refuses : mg "_law_refuses" = some (.ref a.f__law_refuses)
  b__law_refuses : Binds K a.d__law_refuses ["_law_kind", "_law_key", "_law_group", "_law_number"] []
  F__law_kinds : Fun K "_law_kinds" "_law_kinds" s__law_kinds a.f__law_kinds a.d__law_kinds
  g__law_kinds : mg "_law_kinds" = some (.ref a.f__law_kinds)
  b__law_kinds : Binds K a.d__law_kinds ["_law_error"] []
  F__law_classes : Fun K "_law_classes" "_law_classes" s__law_classes a.f__law_classes a.d__law_classes
  g__law_classes : mg "_law_classes" = some (.ref a.f__law_classes)
  b__law_classes : Binds K a.d__law_classes ["_law_text_here", "_law_number"] []
  F_law : Fun K "law" "law" s_law a.f_law a.d_law
  g_law : mg "law" = some (.ref a.f_law)
  b_law : Binds K a.d_law ["_law_script"] []
  z_ValueError : mg "ValueError" = none
  z_abs : mg "abs" = none
  z_all : mg "all" = none
  z_int : mg "int" = none
  z_isinstance : mg "isinstance" = none
  z_len : mg "len" = none
  z_max : mg "max" = none
  z_range : mg "range" = none
  c_LETTERS : ∃ u, mg "LETTERS" = some u ∧ RelV (.str "abcdefghijklmnopqrstuvwxyz0123456789") u
  c_MOST_MOMENT : ∃ u, mg "MOST_MOMENT" = some u ∧ RelV (.int 1000000000) u
  e_UnknownName : PySem.LwX.ErrTxt P.main.file K mg "UnknownName" "name" a.f_UnknownName a.i_UnknownName
  x_UnknownName : ExcC K a.f_UnknownName
  e_NameTaken : PySem.LwX.ErrTxt P.main.file K mg "NameTaken" "name" a.f_NameTaken a.i_NameTaken
  x_NameTaken : ExcC K a.f_NameTaken
  e_KeyKnown : PySem.LwX.ErrTxt P.main.file K mg "KeyKnown" "key" a.f_KeyKnown a.i_KeyKnown
  x_KeyKnown : ExcC K a.f_KeyKnown
  e_UnknownKey : PySem.LwX.ErrTxt P.main.file K mg "UnknownKey" "key" a.f_UnknownKey a.i_UnknownKey
  x_UnknownKey : ExcC K a.f_UnknownKey
  e_EarlierMoment : PySem.LwX.ErrTxt P.main.file K mg "EarlierMoment" "moment" a.f_EarlierMoment a.i_EarlierMoment
  x_EarlierMoment : ExcC K a.f_EarlierMoment
  e_InvalidNotation : PySem.LwX.ErrTxt P.main.file K mg "InvalidNotation" "line" a.f_InvalidNotation a.i_InvalidNotation
  x_InvalidNotation : ExcC K a.f_InvalidNotation
  e_InvalidEntry : PySem.LwX.ErrTxt P.main.file K mg "InvalidEntry" "number" a.f_InvalidEntry a.i_InvalidEntry
  x_InvalidEntry : ExcC K a.f_InvalidEntry
  e_UnknownLetter : PySem.LwX.ErrTxt P.main.file K mg "UnknownLetter" "number" a.f_UnknownLetter a.i_UnknownLetter
  x_UnknownLetter : ExcC K a.f_UnknownLetter
  e_HouseFallen : PySem.LwX.ErrTxt P.main.file K mg "HouseFallen" "house" a.f_HouseFallen a.i_HouseFallen
  x_HouseFallen : ExcC K a.f_HouseFallen
  e_UnknownHouse : PySem.LwX.ErrTxt P.main.file K mg "UnknownHouse" "house" a.f_UnknownHouse a.i_UnknownHouse
  x_UnknownHouse : ExcC K a.f_UnknownHouse
  e_LimitError : PlainTxt K mg "LimitError" a.f_LimitError
  e_InvalidName : PlainTxt K mg "InvalidName" a.f_InvalidName
  e_InvalidRequest : PlainTxt K mg "InvalidRequest" a.f_InvalidRequest
  e_InvalidLimit : PlainTxt K mg "InvalidLimit" a.f_InvalidLimit
  e_InvalidBook : PlainTxt K mg "InvalidBook" a.f_InvalidBook
  e_NoView : PlainTxt K mg "NoView" a.f_NoView
  e_InvalidPaper : PlainTxt K mg "InvalidPaper" a.f_InvalidPaper
  e_InvalidJournal : PlainTxt K mg "InvalidJournal" a.f_InvalidJournal
  e_TooLarge : PlainTxt K mg "TooLarge" a.f_TooLarge
  e_NothingToUndo : PlainTxt K mg "NothingToUndo" a.f_NothingToUndo
  e_NothingToRedo : PlainTxt K mg "NothingToRedo" a.f_NothingToRedo
  x_InvalidName : ExcC K a.f_InvalidName
  x_InvalidRequest : ExcC K a.f_InvalidRequest
  x_InvalidLimit : ExcC K a.f_InvalidLimit
  x_InvalidBook : ExcC K a.f_InvalidBook
  x_NoView : ExcC K a.f_NoView
  x_InvalidPaper : ExcC K a.f_InvalidPaper
  x_InvalidJournal : ExcC K a.f_InvalidJournal
  x_TooLarge : ExcC K a.f_TooLarge
  x_NothingToUndo : ExcC K a.f_NothingToUndo
  x_NothingToRedo : ExcC K a.f_NothingToRedo
  n_InvalidName_LimitError : PySem.W.kitOne K (.ref a.f_InvalidName) (.ref a.f_LimitError) = some true
  n_InvalidName_ValueError : PySem.W.kitOne K (.ref a.f_InvalidName) (.type "ValueError") = some true
  n_InvalidRequest_LimitError : PySem.W.kitOne K (.ref a.f_InvalidRequest) (.ref a.f_LimitError) = some true
  n_InvalidRequest_ValueError : PySem.W.kitOne K (.ref a.f_InvalidRequest) (.type "ValueError") = some true
  n_InvalidLimit_LimitError : PySem.W.kitOne K (.ref a.f_InvalidLimit) (.ref a.f_LimitError) = some true
  n_InvalidLimit_ValueError : PySem.W.kitOne K (.ref a.f_InvalidLimit) (.type "ValueError") = some true
  n_InvalidBook_LimitError : PySem.W.kitOne K (.ref a.f_InvalidBook) (.ref a.f_LimitError) = some true
  n_InvalidBook_ValueError : PySem.W.kitOne K (.ref a.f_InvalidBook) (.type "ValueError") = some true
  n_NoView_LimitError : PySem.W.kitOne K (.ref a.f_NoView) (.ref a.f_LimitError) = some true
  n_NoView_ValueError : PySem.W.kitOne K (.ref a.f_NoView) (.type "ValueError") = some true
  n_InvalidPaper_LimitError : PySem.W.kitOne K (.ref a.f_InvalidPaper) (.ref a.f_LimitError) = some true
  n_InvalidPaper_ValueError : PySem.W.kitOne K (.ref a.f_InvalidPaper) (.type "ValueError") = some true
  n_InvalidJournal_LimitError : PySem.W.kitOne K (.ref a.f_InvalidJournal) (.ref a.f_LimitError) = some true
  n_InvalidJournal_ValueError : PySem.W.kitOne K (.ref a.f_InvalidJournal) (.type "ValueError") = some true
  n_TooLarge_LimitError : PySem.W.kitOne K (.ref a.f_TooLarge) (.ref a.f_LimitError) = some true
  n_TooLarge_ValueError : PySem.W.kitOne K (.ref a.f_TooLarge) (.type "ValueError") = some true
  n_NothingToUndo_LimitError : PySem.W.kitOne K (.ref a.f_NothingToUndo) (.ref a.f_LimitError) = some true
  n_NothingToUndo_ValueError : PySem.W.kitOne K (.ref a.f_NothingToUndo) (.type "ValueError") = some true
  n_NothingToRedo_LimitError : PySem.W.kitOne K (.ref a.f_NothingToRedo) (.ref a.f_LimitError) = some true
  n_NothingToRedo_ValueError : PySem.W.kitOne K (.ref a.f_NothingToRedo) (.type "ValueError") = some true
  n_UnknownName_LimitError : PySem.W.kitOne K (.ref a.f_UnknownName) (.ref a.f_LimitError) = some true
  n_UnknownName_ValueError : PySem.W.kitOne K (.ref a.f_UnknownName) (.type "ValueError") = some true
  n_NameTaken_LimitError : PySem.W.kitOne K (.ref a.f_NameTaken) (.ref a.f_LimitError) = some true
  n_NameTaken_ValueError : PySem.W.kitOne K (.ref a.f_NameTaken) (.type "ValueError") = some true
  n_KeyKnown_LimitError : PySem.W.kitOne K (.ref a.f_KeyKnown) (.ref a.f_LimitError) = some true
  n_KeyKnown_ValueError : PySem.W.kitOne K (.ref a.f_KeyKnown) (.type "ValueError") = some true
  n_UnknownKey_LimitError : PySem.W.kitOne K (.ref a.f_UnknownKey) (.ref a.f_LimitError) = some true
  n_UnknownKey_ValueError : PySem.W.kitOne K (.ref a.f_UnknownKey) (.type "ValueError") = some true
  n_EarlierMoment_LimitError : PySem.W.kitOne K (.ref a.f_EarlierMoment) (.ref a.f_LimitError) = some true
  n_EarlierMoment_ValueError : PySem.W.kitOne K (.ref a.f_EarlierMoment) (.type "ValueError") = some true
  n_InvalidNotation_LimitError : PySem.W.kitOne K (.ref a.f_InvalidNotation) (.ref a.f_LimitError) = some true
  n_InvalidNotation_ValueError : PySem.W.kitOne K (.ref a.f_InvalidNotation) (.type "ValueError") = some true
  n_InvalidEntry_LimitError : PySem.W.kitOne K (.ref a.f_InvalidEntry) (.ref a.f_LimitError) = some true
  n_InvalidEntry_ValueError : PySem.W.kitOne K (.ref a.f_InvalidEntry) (.type "ValueError") = some true
  n_UnknownLetter_LimitError : PySem.W.kitOne K (.ref a.f_UnknownLetter) (.ref a.f_LimitError) = some true
  n_UnknownLetter_ValueError : PySem.W.kitOne K (.ref a.f_UnknownLetter) (.type "ValueError") = some true
  n_HouseFallen_LimitError : PySem.W.kitOne K (.ref a.f_HouseFallen) (.ref a.f_LimitError) = some true
  n_HouseFallen_ValueError : PySem.W.kitOne K (.ref a.f_HouseFallen) (.type "ValueError") = some true
  n_UnknownHouse_LimitError : PySem.W.kitOne K (.ref a.f_UnknownHouse) (.ref a.f_LimitError) = some true
  n_UnknownHouse_ValueError : PySem.W.kitOne K (.ref a.f_UnknownHouse) (.type "ValueError") = some true
  top : (P.main.scope.names.lookup ("super" : Str)).isSome = false
  tab : kitTab K [a.f_InvalidName, a.f_InvalidRequest, a.f_InvalidLimit, a.f_InvalidBook, a.f_NoView, a.f_InvalidPaper, a.f_InvalidJournal, a.f_TooLarge, a.f_NothingToUndo, a.f_NothingToRedo, a.f_UnknownName, a.f_NameTaken, a.f_KeyKnown, a.f_UnknownKey, a.f_EarlierMoment, a.f_InvalidNotation, a.f_InvalidEntry, a.f_UnknownLetter, a.f_HouseFallen, a.f_UnknownHouse] = true
abbrev csA (a : Ads) : List Addr := [a.f_InvalidName, a.f_InvalidRequest, a.f_InvalidLimit, a.f_InvalidBook, a.f_NoView, a.f_InvalidPaper, a.f_InvalidJournal, a.f_TooLarge, a.f_NothingToUndo, a.f_NothingToRedo, a.f_UnknownName, a.f_NameTaken, a.f_KeyKnown, a.f_UnknownKey, a.f_EarlierMoment, a.f_InvalidNotation, a.f_InvalidEntry, a.f_UnknownLetter, a.f_HouseFallen, a.f_UnknownHouse]
def In9 (ns : List Int) : Prop := ∀ n ∈ ns, 0 ≤ n ∧ n < 1009
theorem In9.nil : In9 [] := fun _ h => nomatch h
theorem In9.snoc {ns : List Int} {n : Int} (h : In9 ns) (h0 : 0 ≤ n) (h1 : n < 1009) : In9 (ns ++ [n]) := fun m hm => by
  rcases List.mem_append.mp hm with z | z
  · exact h m z
  · rw [List.mem_singleton.mp z]; exact ⟨h0, h1⟩
theorem In9.at {ns : List Int} (h : In9 ns) (i : Nat) (hi : i < ns.length) : 0 ≤ ns.getD i 0 ∧ ns.getD i 0 < 1009 := by
  have e : ns.getD i 0 = ns[i] := by rw [List.getD_eq_getElem?_getD, List.getElem?_eq_getElem hi]; rfl
  rw [e]
  exact h _ (List.getElem_mem hi)
theorem map_snoc {ns : List Int} {n : Int} : ns.map V.int ++ [V.int n] = (ns ++ [n]).map V.int := by rw [List.map_append]; rfl
def sp__law_row (K : PySem.W.Frag) : Sp := fun vs H Q _ => ∃ (c m : Int), vs = [.int c, .int m] ∧ 0 ≤ m ∧ m ≤ 10000 ∧
  ∀ p H' ns, H p = none → Ex H H' → H' p = some (.lst (ns.map V.int)) → (ns.length : Int) = m → In9 ns → Q (.ref p) H'
def sp__law_numbers (K : PySem.W.Frag) : Sp := fun vs H Q _ => ∃ (l : Addr) (xs : List Int) (m : Int), vs = [.ref l, .int m] ∧ SqL K H l (xs.map V.int) ∧ xs.length ≤ 63 ∧ 0 ≤ m ∧ m ≤ 9000 ∧
  ∀ p H' ns, H p = none → Ex H H' → H' p = some (.lst (ns.map V.int)) → (ns.length : Int) = m → In9 ns → Q (.ref p) H'

def sp_is_name (K : PySem.W.Frag) : Sp := fun vs H Q _ => ∃ z : Str, vs = [.str z] ∧ z.length ≤ 100000 ∧ ∀ H', Ex H H' → Q (.bl (isName z)) H'
def sp_is_key (K : PySem.W.Frag) : Sp := fun vs H Q _ => ∃ z : Str, vs = [.str z] ∧ z.length ≤ 100000 ∧ ∀ H', Ex H H' → Q (.bl (isKey z)) H'
def reqB (k g : Str) (c : Int) : Bool := isKey k && isName g && (decide (1 ≤ c) && decide (c ≤ 1000))
def momB (m : Int) : Bool := decide (0 ≤ m) && decide (m ≤ 1000000000)
def sp_check_request (K : PySem.W.Frag) (a : Ads) : Sp := fun vs H Q E => ∃ (k g : Str) (c : Int), vs = [.str k, .str g, .int c] ∧ k.length ≤ 100000 ∧ g.length ≤ 100000 ∧
  (reqB k g c = true → ∀ H', Ex H H' → Q .non H') ∧ (reqB k g c = false → ∀ H', Ex H H' → E (.ref a.f_InvalidRequest) none H')
def sp_check_moment (K : PySem.W.Frag) (a : Ads) : Sp := fun vs H Q E => ∃ m : Int, vs = [.int m] ∧ (momB m = true → ∀ H', Ex H H' → Q .non H') ∧ (momB m = false → ∀ H', Ex H H' → E (.ref a.f_InvalidRequest) none H')
def TxtOk (z : Str) : Prop := z.length ≤ 100 ∧ ∀ c ∈ tl z, c ≤ 1000000
theorem TxtOk.so {z : Str} (h : TxtOk z) : PyData.strOk z = true := by
  have e : z = stxt (tl z) := (stxt_tl _).symm
  rw [e]
  exact strOk_of fun c hc => h.2 c hc
def sp__law_text (K : PySem.W.Frag) : Sp := fun vs H Q _ => ∃ (l : Addr) (ns : List Int) (at_ : Int), vs = [.ref l, .int at_] ∧ SqL K H l (ns.map V.int) ∧ 0 ≤ at_ ∧ at_ + 12 < ns.length ∧ In9 ns ∧ ∀ z H', Ex H H' → TxtOk z → Q (.str z) H'
def isB (z s : Str) (m : Int) : Bool := decide (1 ≤ (z.length : Int)) && decide ((z.length : Int) ≤ m) && (tl z).all fun c => decide (c ∈ s.cps.toList)
def sp__law_is (K : PySem.W.Frag) : Sp := fun vs H Q _ => ∃ (z s : Str) (m : Int), vs = [.str z, .str s, .int m] ∧ z.length ≤ 100000 ∧ ∀ H', Ex H H' → Q (.bl (isB z s m)) H'
def sp__law_says (K : PySem.W.Frag) : Sp := fun vs H Q _ => ∃ x y : Bool, vs = [.bl x, .bl y] ∧ Q (.bl (decide (x = y))) H
def sp__law_refuses (K : PySem.W.Frag) : Sp := fun vs H Q _ => ∃ (n : Int) (k g : Str) (c : Int), vs = [.int n, .str k, .str g, .int c] ∧ k.length ≤ 100000 ∧ g.length ≤ 100000 ∧
  ((n = 0 ∧ ∀ H', Ex H H' → Q (.bl (!reqB k g c)) H') ∨ (n = 1 ∧ ∀ H', Ex H H' → Q (.bl (!momB c)) H'))
def sp__law_kinds (K : PySem.W.Frag) (a : Ads) : Sp := fun vs H Q _ => ∃ (x C : Addr) (fs : List (Str × V)) (i : Nat), vs = [.ref x] ∧ ErrV K H x C fs ∧ (csA a)[i]? = some C ∧ ∀ H', Ex H H' → Q (.int 1) H'
def sp__law_classes (K : PySem.W.Frag) : Sp := fun vs H Q _ => ∃ (z : Str) (n : Int), vs = [.str z, .int n] ∧ TxtOk z ∧ ∀ H', Ex H H' → Q (.bl true) H'
def sp_law (K : PySem.W.Frag) : Sp := fun vs H Q _ => ∃ (l : Addr) (xs : List Int), vs = [.ref l] ∧ SqL K H l (xs.map V.int) ∧ xs.length ≤ 63 ∧ ∀ H', Q (.bl true) H'

def sumI (i : Nat) : Int := (((((((((((((((((((((0 : Int) + (if (i == 0) = true then 1 else 0)) + (if (i == 1) = true then 1 else 0)) + (if (i == 2) = true then 1 else 0)) + (if (i == 3) = true then 1 else 0)) + (if (i == 4) = true then 1 else 0)) + (if (i == 5) = true then 1 else 0)) + (if (i == 6) = true then 1 else 0)) + (if (i == 7) = true then 1 else 0)) + (if (i == 8) = true then 1 else 0)) + (if (i == 9) = true then 1 else 0)) + (if (i == 10) = true then 1 else 0)) + (if (i == 11) = true then 1 else 0)) + (if (i == 12) = true then 1 else 0)) + (if (i == 13) = true then 1 else 0)) + (if (i == 14) = true then 1 else 0)) + (if (i == 15) = true then 1 else 0)) + (if (i == 16) = true then 1 else 0)) + (if (i == 17) = true then 1 else 0)) + (if (i == 18) = true then 1 else 0)) + (if (i == 19) = true then 1 else 0))
theorem sumI_one : ∀ i, i < 20 → sumI i = 1 := by decide
theorem intv_get {zs : List Int} {i : Nat} {y : V} (h : (zs.map V.int)[i]? = some y) : ∃ z, zs[i]? = some z ∧ y = .int z := by
  rw [List.getElem?_map] at h
  cases e : zs[i]? with
  | none => rw [e] at h; cases h
  | some z => rw [e] at h; exact ⟨z, rfl, (Option.some.inj h).symm⟩
theorem ne_self (b : Bool) : decide ((!b) = b) = false := by cases b <;> rfl
theorem with_heap {P : Hp → Prop} {H : Hp} (F : Hp → Prop) (hF : F H) (h : ∀ H', F H' → P H') : P H := h H hF
inductive ErrsAt (K : PySem.W.Frag) (G : Hp) (L : Addr) : List V → List Addr → Prop where
  | nil : ErrsAt K G L [] []
  | cons {x C : Addr} {fs : List (Str × V)} {vs : List V} {cs : List Addr} (h : ErrV K G x C fs) (hl : PySem.W.kitOne K (.ref C) (.ref L) = some true) (hv : PySem.W.kitOne K (.ref C) (.type "ValueError") = some true) (t : ErrsAt K G L vs cs) : ErrsAt K G L (.ref x :: vs) (C :: cs)
theorem ErrsAt.get {K : PySem.W.Frag} {G : Hp} {L : Addr} : ∀ {vs : List V} {cs : List Addr} {i : Nat} {v : V}, ErrsAt K G L vs cs → vs[i]? = some v →
    ∃ (x C : Addr) (fs : List (Str × V)), v = .ref x ∧ ErrV K G x C fs ∧ cs[i]? = some C ∧ PySem.W.kitOne K (.ref C) (.ref L) = some true ∧ PySem.W.kitOne K (.ref C) (.type "ValueError") = some true
  | _, _, _, _, .nil, h => by cases h
  | _, _, 0, _, .cons h hl hv t, e => by cases e; exact ⟨_, _, _, rfl, h, rfl, hl, hv⟩
  | _, _, i + 1, _, .cons h hl hv t, e => ErrsAt.get (i := i) t e
theorem errs_len {K : PySem.W.Frag} {G : Hp} {L : Addr} : ∀ {vs : List V} {cs : List Addr}, ErrsAt K G L vs cs → vs.length = cs.length
  | _, _, .nil => rfl
  | _, _, .cons _ _ _ t => congrArg (· + 1) (errs_len t)
theorem isB_name (z : Str) : isB z "abcdefghijklmnopqrstuvwxyz0123456789" 12 = isName z := rfl
theorem dash_all : ∀ c : Nat, decide (c ∈ (("abcdefghijklmnopqrstuvwxyz0123456789" : Str) ++ ("-" : Str)).cps.toList) = (decide (c ∈ ("abcdefghijklmnopqrstuvwxyz0123456789" : Str).cps.toList) || decide (c = 45)) := fun c => by
  have e : (("abcdefghijklmnopqrstuvwxyz0123456789" : Str) ++ ("-" : Str)).cps.toList = ("abcdefghijklmnopqrstuvwxyz0123456789" : Str).cps.toList ++ [45] := by decide +kernel
  rw [e, Bool.eq_iff_iff, decide_eq_true_eq, Bool.or_eq_true, decide_eq_true_eq, decide_eq_true_eq, List.mem_append, List.mem_singleton]
theorem isB_key (z : Str) : isB z (("abcdefghijklmnopqrstuvwxyz0123456789" : Str) ++ ("-" : Str)) 20 = isKey z := by
  unfold isB isKey
  congr 1
  congr 1
  funext c
  exact dash_all c
section
variable {P : Program} {w : World} {K : PySem.W.Frag} {mg : Str → Option Value} {base : Heap} {a : Ads}
theorem ok__law_row (T : Txt P K mg a) : FnOk P w K mg base CX0 1 a.f__law_row a.d__law_row ["_law_cell", "_law_many"] (sp__law_row K) := by
  refine T.F__law_row.ok sc__law_row (fun vs H Q E h => ?len) (fun cdv A outer s H vs Q E hr h => ?body)
  case len => obtain ⟨c, m, rfl, _⟩ := h; rfl
  case body =>
    obtain ⟨c, m, rfl, hm0, hm1, q⟩ := h
    refine ⟨_, (pss_cons (ps_set (i := 2) sc__law_row.nd rfl (Or.inl rfl) (pe_lst pa_nil))
  (pss_cons (ps_set (i := 3) sc__law_row.nd rfl (Or.inl rfl) pe_int)
  (pss_cons (ps_if (pt_cmpR op_ge (pe_callB call_absN (by rfl) T.z_abs (by decide +kernel) (pa_cons (pv 0) pa_nil)) (pe_op op_pow pe_int pe_int) (nomark _))
   (pss_one (ps_set (i := 3) sc__law_row.nd rfl (Or.inl rfl) (pe_callB call_absN (by rfl) T.z_abs (by decide +kernel) (pa_cons (pv 0) pa_nil))))
   pss_nil)
  (pss_cons (ps_set (i := 4) sc__law_row.nd rfl (Or.inl rfl) (pe_op op_mod (pe_callTy call_intI (by rfl) T.z_int (by decide +kernel) (pa_cons (pe_callB call_absN (by rfl) T.z_abs (by decide +kernel) (pa_cons (pv 0) pa_nil)) pa_nil)) pe_int))
  (pss_cons (ps_for PassesOwn.never rfl (pi_range1 (by rfl) T.z_range (pa_cons (pv 1) pa_nil)) (pg_name (i := 5) sc__law_row.nd rfl (Or.inl rfl))
   (pss_cons (ps_set (i := 4) sc__law_row.nd rfl (Or.inl rfl) (pe_op op_mod (pe_callTy call_intI (by rfl) T.z_int (by decide +kernel) (pa_cons (pe_op op_add (pe_op op_mul (pe_op op_add (pv 4) pe_int) pe_int) (pe_op op_mul pe_int (pv 5))) pa_nil)) pe_int))
  (pss_one (ps_if (pt_cmpR op_gt (pv 3) pe_int (nomark _))
   (pss_cons (ps_expr (pe_bmK (K := K) rfl PySem.F.plainAttrs_list PySem.F.slot_list_append PySem.F.type_list_append mt_append (pv 2) (pa_cons (pe_op op_mod (pe_callTy call_intI (by rfl) T.z_int (by decide +kernel) (pa_cons (pv 3) pa_nil)) pe_int) pa_nil)))
  (pss_one (ps_set (i := 3) sc__law_row.nd rfl (Or.inl rfl) (pe_op op_fdiv (pv 3) pe_int))))
   (pss_one (ps_expr (pe_bmK (K := K) rfl PySem.F.plainAttrs_list PySem.F.slot_list_append PySem.F.type_list_append mt_append (pv 2) (pa_cons (pe_op op_mod (pe_callTy call_intI (by rfl) T.z_int (by decide +kernel) (pa_cons (pe_op op_fdiv (pv 4) pe_int) pa_nil)) pe_int) pa_nil))))))))
  (pss_one (ps_ret (pv 2)))))))), ?_⟩
    try dsimp only [cxOf, Cx.nox]
    walk_at "go"
    rename_i p hp
    refine w_ifset (fun x => ∃ r : Int, x = .int r ∧ 0 ≤ r) (fun _ R hR => ?_) (fun _ => ⟨_, rfl, 0, rfl, by omega⟩) ?_
    · walk_at "go"
      exact hR _ _ ⟨_, rfl, by split <;> omega⟩ (Evl.Ex.refl _)
    · rintro _ H0 ⟨r, rfl, hr0⟩ e0
      walk_at "go"
      refine l_it walk_range (fun i σ' H' => ∃ (r st : Int) (v5 : Option V) (ns : List Int), σ' = [some (.int c), some (.int m), some (.ref p), some (.int r), some (.int st), v5] ∧ 0 ≤ r ∧ 0 ≤ st ∧ st < 2147483647 ∧ Ex H H' ∧ H' p = some (.lst (ns.map V.int)) ∧ ns.length = i ∧ In9 ns)
        ⟨r, _, none, [], rfl, hr0, by omega, by omega, by walk_at "ex", e0 _ _ upd_same, rfl, In9.nil⟩ (fun _ _ _ _ _ => trivial) ?_ ?_
      · rintro i x σ' H1 H2 hi ⟨r, st, v5, ns, rfl, hr0, hst0, hst1, hE, hL, hlen, h9⟩ ⟨rfl, rfl⟩
        walk_at "go"
        have e0 : 0 ≤ (st + 1) * 48271 + 69621 * (0 + (i : Int)) := by omega
        refine w_dec (fun h => ?_) (fun h => ?_)
        · walk_at "go"
          exact ⟨_, _, _, ns ++ [r % 1009], rfl, by omega, Int.emod_nonneg _ (by decide), Int.emod_lt_of_pos _ (by decide), Evl.Ex.mut hE hp, by rw [upd_same, map_snoc], by simp [hlen], h9.snoc (Int.emod_nonneg _ (by decide)) (Int.emod_lt_of_pos _ (by decide))⟩
        · walk_at "go"
          exact ⟨_, _, _, ns ++ [_], rfl, hr0, Int.emod_nonneg _ (by decide), Int.emod_lt_of_pos _ (by decide), Evl.Ex.mut hE hp, by rw [upd_same, map_snoc], by simp [hlen], h9.snoc (Int.emod_nonneg _ (by decide)) (Int.emod_lt_of_pos _ (by decide))⟩
      · rintro σ' H1 ⟨r, st, v5, ns, rfl, hr0, hst0, hst1, hE, hL, hlen, h9⟩
        walk_at "go"
        exact q p H1 ns hp hE hL (by omega) h9
theorem ok__law_numbers (T : Txt P K mg a) : FnOk P w K mg base CX0 2 a.f__law_numbers a.d__law_numbers ["_law_script", "_law_many"] (sp__law_numbers K) := by
  refine T.F__law_numbers.ok sc__law_numbers (fun vs H Q E h => ?len) (fun cdv A outer s H vs Q E hr h => ?body)
  case len => obtain ⟨l, xs, m, rfl, _⟩ := h; rfl
  case body =>
    obtain ⟨l, xs, m, rfl, hS, hx, hm0, hm1, q⟩ := h
    refine ⟨_, (pss_cons (ps_set (i := 2) sc__law_numbers.nd rfl (Or.inl rfl) (pe_slice (sl_listK (K := K) rfl) (pv 0) po_none (po_some pe_int)))
  (pss_cons (ps_set (i := 3) sc__law_numbers.nd rfl (Or.inl rfl) (pe_op op_add pe_int (pe_op op_fdiv (pv 1) (pe_callB (call_max2N rfl) (by rfl) T.z_max (by decide +kernel) (pa_cons pe_int (pa_cons (pe_callB (call_lenK (K := K) rfl) (by rfl) T.z_len (by decide +kernel) (pa_cons (pv 2) pa_nil)) pa_nil))))))
  (pss_cons (ps_set (i := 4) sc__law_numbers.nd rfl (Or.inl rfl) (pe_lst pa_nil))
  (pss_cons (ps_for PassesOwn.never rfl (pi_listK (K := K) rfl (pv 2)) (pg_name (i := 5) sc__law_numbers.nd rfl (Or.inl rfl))
   (pss_one (ps_for PassesOwn.never rfl (pi_listK (K := K) rfl (pe_call (ok__law_row T) (hr.mono (by decide)) (by rfl) T.g__law_row T.F__law_row.kp T.b__law_row .nil pass0 (pa_cons (pv 5) (pa_cons (pv 3) pa_nil)))) (pg_name (i := 6) sc__law_numbers.nd rfl (Or.inl rfl))
   (pss_one (ps_expr (pe_bmK (K := K) rfl PySem.F.plainAttrs_list PySem.F.slot_list_append PySem.F.type_list_append mt_append (pv 4) (pa_cons (pv 6) pa_nil)))))))
  (pss_cons (ps_while PassesOwn.never (pt_cmpR op_lt (pe_callB (call_lenK (K := K) rfl) (by rfl) T.z_len (by decide +kernel) (pa_cons (pv 4) pa_nil)) (pv 1) (nomark _))
   (pss_one (ps_expr (pe_bmK (K := K) rfl PySem.F.plainAttrs_list PySem.F.slot_list_append PySem.F.type_list_append mt_append (pv 4) (pa_cons pe_int pa_nil)))))
  (pss_one (ps_ret (pe_slice (sl_listK (K := K) rfl) (pv 4) po_none (po_some (pv 1)))))))))), ?_⟩
    try dsimp only [cxOf, Cx.nox]
    walk_at "go"
    rename_i p hp
    have e1 : cutV (xs.map V.int) none (some 63) = xs.map V.int := by
      rw [cutV_to _ (by decide)]
      exact List.take_of_length_le (by rw [List.length_map]; exact hx)
    simp only [e1, List.length_map]
    have hd : 1 ≤ (if (xs.length : Int) > 1 then (xs.length : Int) else 1) ∧ (if (xs.length : Int) > 1 then (xs.length : Int) else 1) ≤ 63 := by split <;> omega
    generalize (if (xs.length : Int) > 1 then (xs.length : Int) else 1) = d at hd ⊢
    have hq0 : 0 ≤ m / d := Int.ediv_nonneg hm0 (by omega)
    have hq1 : m / d ≤ m := Int.ediv_le_self d hm0
    walk_at "go"
    rename_i pn hpn
    have npp : p ≠ pn := fun e => by rw [← e, upd_same] at hpn; cases hpn
    have hpn0 : H pn = none := by rw [upd_ne (Ne.symm npp)] at hpn; exact hpn
    refine l_it (walk_list (xs := xs.map V.int)) (fun i σ' H' => ∃ (v5 v6 : Option V) (ns : List Int), σ' = [some (.ref l), some (.int m), some (.ref p), some (.int (1 + m / d)), some (.ref pn), v5, v6] ∧ Ex H H' ∧ H' p = some (.lst (xs.map V.int)) ∧ H' pn = some (.lst (ns.map V.int)) ∧ ns.length ≤ 9001 * i ∧ In9 ns)
      ⟨none, none, [], rfl, by walk_at "ex", by rw [upd_ne npp, upd_same], upd_same, by simp, In9.nil⟩ (fun i σ' H' _ ⟨_, _, _, _, _, h, _⟩ => .inl (.inl h)) ?_ ?_
    · rintro i x σ' H1 H2 hi ⟨v5, v6, ns, rfl, hE, hP, hN, hlen, h9⟩ ⟨rfl, hxi⟩
      rw [List.length_map] at hi
      obtain ⟨c, rfl⟩ : ∃ c, x = V.int c := by
        rw [List.getElem?_map] at hxi
        cases e : xs[i]? with
        | none => rw [e] at hxi; cases hxi
        | some z => rw [e] at hxi; exact ⟨z, (Option.some.inj hxi).symm⟩
      walk_at "go"
      refine ⟨c, 1 + m / d, rfl, by omega, by omega, fun p' H3 ns' hp' hE' hL' hlen' h9' => ?_⟩
      walk_at "go"
      have np : p ≠ p' := ne_of_none hP hp'
      have nn : pn ≠ p' := ne_of_none hN hp'
      refine l_it (walk_list (xs := ns'.map V.int)) (fun j σ' H' => ∃ (v6 : Option V) (ns2 : List Int), σ' = [some (.ref l), some (.int m), some (.ref p), some (.int (1 + m / d)), some (.ref pn), some (.int c), v6] ∧ Ex H H' ∧ H' p = some (.lst (xs.map V.int)) ∧ H' p' = some (.lst (ns'.map V.int)) ∧ H' pn = some (.lst (ns2.map V.int)) ∧ ns2.length = ns.length + j ∧ In9 ns2)
        ⟨v6, ns, rfl, by walk_at "ex", by walk_at "at", by walk_at "at", by walk_at "at", rfl, h9⟩ (fun i σ' H' _ ⟨_, _, _, _, _, h, _⟩ => .inl (.inl h)) ?_ ?_
      · rintro j x σ' H4 H5 hj ⟨v6, ns2, rfl, hE, hP, hP', hN, hlen2, h92⟩ ⟨rfl, hxj⟩
        rw [List.length_map] at hj
        obtain ⟨y, hy, rfl⟩ : ∃ y, y ∈ ns' ∧ x = V.int y := by
          rw [List.getElem?_map] at hxj
          cases e : ns'[j]? with
          | none => rw [e] at hxj; cases hxj
          | some z => rw [e] at hxj; exact ⟨z, List.mem_of_getElem? e, (Option.some.inj hxj).symm⟩
        walk_at "go"
        exact ⟨_, ns2 ++ [y], rfl, Evl.Ex.mut hE hpn0, by rw [upd_ne npp]; exact hP, by rw [upd_ne (Ne.symm nn)]; exact hP', by rw [upd_same, map_snoc], by simp [hlen2]; omega, h92.snoc (h9' y hy).1 (h9' y hy).2⟩
      · rintro σ' H4 ⟨v6, ns2, rfl, hE, hP, hP', hN, hlen2, h92⟩
        rw [List.length_map] at hlen2
        exact ⟨_, v6, ns2, rfl, hE, hP, hN, by omega, h92⟩
    · rintro σ' H1 ⟨v5, v6, ns, rfl, hE, hP, hN, hlen, h9⟩
      rw [List.length_map] at hlen
      walk_at "go"
      refine l_while (fun k σ' H' => ∃ ns2 : List Int, σ' = [some (.ref l), some (.int m), some (.ref p), some (.int (1 + m / d)), some (.ref pn), v5, v6] ∧ Ex H H' ∧ H' pn = some (.lst (ns2.map V.int)) ∧ ns2.length ≤ 9001 * 63 + 9000 ∧ In9 ns2 ∧ k = 9000 - ns2.length) _ ⟨ns, rfl, hE, hN, by omega, h9, rfl⟩ ?_
      rintro k σ' H2 ⟨ns2, rfl, hE, hN, hlen2, h92, rfl⟩
      refine ⟨decide ((ns2.length : Int) < m), fun QB hQ => ?_, fun hb => ?_, fun hb => ?_⟩
      · walk_at "go"
        rw [List.length_map]
        exact hQ
      · have hb' := of_decide_eq_true hb
        walk_at "go"
        exact ⟨_, by rw [List.length_append, List.length_singleton]; omega, ns2 ++ [0], rfl, Evl.Ex.mut hE hpn0, by rw [upd_same, map_snoc], by rw [List.length_append, List.length_singleton]; omega, h92.snoc (by decide) (by decide), rfl⟩
      · have hb' := of_decide_eq_false hb
        walk_at "go"
        rename_i pr hpr
        refine q pr _ (ns2.take m.toNat) (ex_free hE hpr) (by walk_at "ex") (by rw [upd_same, cutV_to _ hm0, List.map_take]) (by rw [List.length_take]; omega) (fun n hn => h92 n (List.mem_of_mem_take hn))

theorem ok_is_name (T : Txt P K mg a) : FnOk P w K mg base CX0 1 a.f_is_name a.d_is_name ["text"] (sp_is_name K) := by
  refine T.F_is_name.ok sc_is_name (fun vs H Q E h => ?len) (fun cdv A outer s H vs Q E hr h => ?body)
  case len => obtain ⟨z, rfl, _⟩ := h; rfl
  case body =>
    obtain ⟨z, rfl, hz, q⟩ := h
    refine ⟨_, (pss_one (ps_ret (pe_and (pe_chain op_le op_le pe_int (pe_callB call_lenSN (by rfl) T.z_len (by decide +kernel) (pa_cons (pv 0) pa_nil)) pe_int) (pe_one (pe_callB (cr_allK (K := K) rfl rfl) (by rfl) T.z_all (by decide +kernel) (pa_cons (pe_lc (own := [("letter", 1)]) (g := gName 1) (tt := tYes) rfl sc_is_name.nd (pi_str (pv 0)) (blkOk_by (own := [("letter", 1)]) (N := ["text", "letter"]) (sc := defScope s_is_name) (by decide +kernel)) (fun _ _ _ _ _ => (pg_name (i := 1) sc_is_name.nd rfl (Or.inl rfl))) (fun _ _ _ _ _ => pts_nil) (fun _ _ _ _ _ => (pe_cmpR op_inSN (pv 1) (pe_globE T.c_LETTERS (by rfl)) rfl))) pa_nil)))))), ?_⟩
    try dsimp only [cxOf, Cx.nox]
    walk_at "go"
    refine w_dec (fun h1 => ?_) (fun h1 => ?_)
    · walk_at "go"
      refine w_dec (fun h2 => ?_) (fun h2 => ?_)
      · walk_at "go"
        refine lc_str (fun c => .bl (inLet c)) (by omega) (fun c hc H1 e1 R hR => ?_) (fun p H' hp hE hL => ?_)
        · walk_at "go"
          exact hR _ (Evl.Ex.refl _)
        · walk_at "go"
          have e : isName z = (tl z).all fun c => inLet c := by
            unfold isName
            rw [decide_eq_true h1, decide_eq_true h2, Bool.true_and, Bool.true_and]
          have q1 := q H' hE
          rw [e] at q1
          exact q1
      · walk_at "go"
        have e : isName z = false := by
          unfold isName
          rw [decide_eq_false h2, Bool.and_false, Bool.false_and]
        have q1 := q H (Evl.Ex.refl _)
        rw [e] at q1
        exact q1
    · walk_at "go"
      have e : isName z = false := by
        unfold isName
        rw [decide_eq_false h1, Bool.false_and, Bool.false_and]
      have q1 := q H (Evl.Ex.refl _)
      rw [e] at q1
      exact q1
theorem ok_is_key (T : Txt P K mg a) : FnOk P w K mg base CX0 1 a.f_is_key a.d_is_key ["text"] (sp_is_key K) := by
  refine T.F_is_key.ok sc_is_key (fun vs H Q E h => ?len) (fun cdv A outer s H vs Q E hr h => ?body)
  case len => obtain ⟨z, rfl, _⟩ := h; rfl
  case body =>
    obtain ⟨z, rfl, hz, q⟩ := h
    refine ⟨_, (pss_one (ps_ret (pe_and (pe_chain op_le op_le pe_int (pe_callB call_lenSN (by rfl) T.z_len (by decide +kernel) (pa_cons (pv 0) pa_nil)) pe_int) (pe_one (pe_callB (cr_allK (K := K) rfl rfl) (by rfl) T.z_all (by decide +kernel) (pa_cons (pe_lc (own := [("letter", 1)]) (g := gName 1) (tt := tYes) rfl sc_is_key.nd (pi_str (pv 0)) (blkOk_by (own := [("letter", 1)]) (N := ["text", "letter"]) (sc := defScope s_is_key) (by decide +kernel)) (fun _ _ _ _ _ => (pg_name (i := 1) sc_is_key.nd rfl (Or.inl rfl))) (fun _ _ _ _ _ => pts_nil) (fun _ _ _ _ _ => (pe_or (pe_cmpR op_inSN (pv 1) (pe_globE T.c_LETTERS (by rfl)) rfl) (pe_one (pe_cmpR op_eq (pv 1) pe_str (nomark _)))))) pa_nil)))))), ?_⟩
    try dsimp only [cxOf, Cx.nox]
    walk_at "go"
    refine w_dec (fun h1 => ?_) (fun h1 => ?_)
    · walk_at "go"
      refine w_dec (fun h2 => ?_) (fun h2 => ?_)
      · walk_at "go"
        refine lc_str (fun c => .bl (inLet c || decide (c = 45))) (by omega) (fun c hc H1 e1 R hR => ?_) (fun p H' hp hE hL => ?_)
        · walk_at "go"
          refine w_dec (fun h3 => ?_) (fun h3 => ?_)
          · have r := hR H1 (Evl.Ex.refl _)
            rw [show inLet c = true from decide_eq_true h3] at r
            exact r
          · walk_at "go"
            have r := hR H1 (Evl.Ex.refl _)
            rw [show inLet c = false from decide_eq_false h3, Bool.false_or] at r
            have e : decide ((⟨#[c]⟩ : Str) = ("-" : Str)) = decide (c = 45) := by
              rw [Bool.eq_iff_iff, decide_eq_true_eq, decide_eq_true_eq]
              constructor
              · intro h4
                have := congrArg tl h4
                exact (List.cons.inj this).1
              · rintro rfl; decide +kernel
            rw [e]
            exact r
        · walk_at "go"
          have e : isKey z = (tl z).all fun c => inLet c || decide (c = 45) := by
            unfold isKey
            rw [decide_eq_true h1, decide_eq_true h2, Bool.true_and, Bool.true_and]
          have q1 := q H' hE
          rw [e] at q1
          exact q1
      · walk_at "go"
        have e : isKey z = false := by
          unfold isKey
          rw [decide_eq_false h2, Bool.and_false, Bool.false_and]
        have q1 := q H (Evl.Ex.refl _)
        rw [e] at q1
        exact q1
    · walk_at "go"
      have e : isKey z = false := by
        unfold isKey
        rw [decide_eq_false h1, Bool.false_and, Bool.false_and]
      have q1 := q H (Evl.Ex.refl _)
      rw [e] at q1
      exact q1
theorem ok_check_request (T : Txt P K mg a) : FnOk P w K mg base (L2.CX P w) 2 a.f_check_request a.d_check_request ["key", "group", "cost"] (sp_check_request K a) := by
  refine T.F_check_request.okX sc_check_request (fun vs H Q E h => ?len) (fun cdv A outer s H vs Q E hr h => ?body)
  case len => obtain ⟨k, g, c, rfl, _⟩ := h; rfl
  case body =>
    obtain ⟨k, g, c, rfl, hk, hg, q1, q2⟩ := h
    unfold reqB at q1 q2
    refine ⟨_, (pss_one (ps_if (PW.pt (pw_or (pt_not (pt_val (pe_call (ok_is_key T) (hr.mono (by decide)) (by rfl) T.g_is_key T.F_is_key.kp T.b_is_key .nil pass0 (pa_cons (pv 0) pa_nil)))) (pw_or (pt_not (pt_val (pe_call (ok_is_name T) (hr.mono (by decide)) (by rfl) T.g_is_name T.F_is_name.kp T.b_is_name .nil pass0 (pa_cons (pv 1) pa_nil)))) (pw_or1 (pt_not (pt_chain op_le op_le pe_int (pv 2) pe_int))))))
   (pss_one (ps_raise rfl (takes_of rfl rfl rfl rfl) (pmk_own PySem.F.excBase_ValueError T.e_InvalidRequest.xC T.e_InvalidRequest.gC T.e_InvalidRequest.kC (raises_own T.e_InvalidRequest.bC T.e_InvalidRequest.tC) (by exact rfl))))
   pss_nil)), ?_⟩
    try dsimp only [cxOf, Cx.nox]
    walk_at "go"
    refine ⟨k, rfl, hk, fun H1 hE1 => ?_⟩
    walk_at "go"
    refine w_ite (fun h1 => ?_) (fun h1 => ?_)
    · have h2 : isKey k = false := by simpa using h1
      rw [h2] at q2
      exact q2 rfl _ hE1
    · have h2 : isKey k = true := by simpa using h1
      rw [h2] at q1 q2
      walk_at "go"
      refine ⟨g, rfl, hg, fun H2 hE2 => ?_⟩
      walk_at "go"
      refine w_ite (fun h3 => ?_) (fun h3 => ?_)
      · have h4 : isName g = false := by simpa using h3
        rw [h4] at q2
        exact q2 rfl _ (hE1.trans hE2)
      · have h4 : isName g = true := by simpa using h3
        rw [h4] at q1 q2
        walk_at "go"
        refine w_dec (fun h5 => ?_) (fun h5 => ?_)
        · walk_at "go"
          refine w_ndec (fun h6 => ?_) (fun h6 => ?_)
          · rw [decide_eq_true h5, decide_eq_false h6] at q2
            exact q2 rfl _ (hE1.trans hE2)
          · rw [decide_eq_true h5, decide_eq_true h6] at q1
            exact q1 rfl _ (hE1.trans hE2)
        · rw [decide_eq_false h5] at q2
          walk_at "go"
          exact q2 rfl _ (hE1.trans hE2)
theorem ok_check_moment (T : Txt P K mg a) : FnOk P w K mg base (L2.CX P w) 1 a.f_check_moment a.d_check_moment ["moment"] (sp_check_moment K a) := by
  refine T.F_check_moment.okX sc_check_moment (fun vs H Q E h => ?len) (fun cdv A outer s H vs Q E hr h => ?body)
  case len => obtain ⟨m, rfl, _⟩ := h; rfl
  case body =>
    obtain ⟨m, rfl, q1, q2⟩ := h
    unfold momB at q1 q2
    obtain ⟨vM, gM, rM⟩ := T.c_MOST_MOMENT
    refine ⟨_, (pss_one (ps_if (pt_not (pt_chain op_le op_le pe_int (pv 0) (pe_globE T.c_MOST_MOMENT (by rfl))))
   (pss_one (ps_raise rfl (takes_of rfl rfl rfl rfl) (pmk_own PySem.F.excBase_ValueError T.e_InvalidRequest.xC T.e_InvalidRequest.gC T.e_InvalidRequest.kC (raises_own T.e_InvalidRequest.bC T.e_InvalidRequest.tC) (by exact rfl))))
   pss_nil)), ?_⟩
    try dsimp only [cxOf, Cx.nox]
    walk_at "go"
    refine w_dec (fun h5 => ?_) (fun h5 => ?_)
    · walk_at "go"
      refine w_ndec (fun h6 => ?_) (fun h6 => ?_)
      · rw [decide_eq_true h5, decide_eq_false h6] at q2
        exact q2 rfl _ (Evl.Ex.refl _)
      · rw [decide_eq_true h5, decide_eq_true h6] at q1
        exact q1 rfl _ (Evl.Ex.refl _)
    · rw [decide_eq_false h5] at q2
      walk_at "go"
      exact q2 rfl _ (Evl.Ex.refl _)
theorem ok__law_text (T : Txt P K mg a) : FnOk P w K mg base CX0 1 a.f__law_text a.d__law_text ["_law_numbers_here", "_law_at"] (sp__law_text K) := by
  refine T.F__law_text.ok sc__law_text (fun vs H Q E h => ?len) (fun cdv A outer s H vs Q E hr h => ?body)
  case len => obtain ⟨l, ns, at_, rfl, _⟩ := h; rfl
  case body =>
    obtain ⟨l, ns, at_, rfl, hS, h0, h1, h9, q⟩ := h
    have hat : ∀ j : Nat, j ≤ 12 → atI (ns.map V.int) (at_ + j) = some (.int (ns.getD (at_ + j).toNat 0)) := fun j hj => at_ints (by omega) (by omega)
    have hL36 : ("abcdefghijklmnopqrstuvwxyz0123456789" : Str).cps.toList.length = 36 := by decide +kernel
    have hL15 : ("-A _.Zz\n~/:`{\x40[" : Str).cps.toList.length = 15 := by decide +kernel
    have hc36 : ∀ k : Nat, k < 36 → ("abcdefghijklmnopqrstuvwxyz0123456789" : Str).cps.toList.getD k 0 ≤ 1000000 := by decide +kernel
    have hc15 : ∀ k : Nat, k < 15 → ("-A _.Zz\n~/:`{\x40[" : Str).cps.toList.getD k 0 ≤ 1000000 := by decide +kernel
    refine ⟨_, (pss_cons (ps_set (i := 2) sc__law_text.nd rfl (Or.inl rfl) pe_str)
  (pss_cons (ps_set (i := 3) sc__law_text.nd rfl (Or.inl rfl) pe_str)
  (pss_cons (ps_for PassesOwn.never rfl (pi_range1 (by rfl) T.z_range (pa_cons (pe_op op_mod (pe_callTy call_intI (by rfl) T.z_int (by decide +kernel) (pa_cons (pe_ix (ix_listK (K := K) rfl) (pv 0) (pv 1) (fun _ _ => rfl)) pa_nil)) pe_int) pa_nil)) (pg_name (i := 4) sc__law_text.nd rfl (Or.inl rfl))
   (pss_one (ps_set (i := 3) sc__law_text.nd rfl (Or.inl rfl) (pe_op op_addSN (pv 3) (pe_ix ix_str (pv 2) (pe_op op_mod (pe_callTy call_intI (by rfl) T.z_int (by decide +kernel) (pa_cons (pe_op op_add (pe_ix (ix_listK (K := K) rfl) (pv 0) (pe_op op_add (pe_op op_add (pv 1) pe_int) (pe_op op_mod (pe_callTy call_intI (by rfl) T.z_int (by decide +kernel) (pa_cons (pv 4) pa_nil)) pe_int)) (fun _ _ => rfl)) (pe_op op_mul pe_int (pv 4))) pa_nil)) pe_int) (fun _ _ => rfl))))))
  (pss_cons (ps_if (PW.pt (pw_and (pt_cmpR op_ne (pv 3) pe_str (nomark _)) (pw_and1 (pt_cmpR op_eq (pe_op op_mod (pe_op op_fdiv (pe_callTy call_intI (by rfl) T.z_int (by decide +kernel) (pa_cons (pe_ix (ix_listK (K := K) rfl) (pv 0) (pv 1) (fun _ _ => rfl)) pa_nil)) pe_int) pe_int) pe_int (nomark _)))))
   (pss_cons (ps_set (i := 5) sc__law_text.nd rfl (Or.inl rfl) (pe_op op_mod (pe_callTy call_intI (by rfl) T.z_int (by decide +kernel) (pa_cons (pe_ix (ix_listK (K := K) rfl) (pv 0) (pe_op op_add (pv 1) pe_int) (fun _ _ => rfl)) pa_nil)) (pe_callB call_lenSN (by rfl) T.z_len (by decide +kernel) (pa_cons (pv 3) pa_nil))))
  (pss_one (ps_set (i := 3) sc__law_text.nd rfl (Or.inl rfl) (pe_op op_addSN (pe_op op_addSN (pe_slice sl_str (pv 3) po_none (po_some (pv 5))) (pe_ix ix_str pe_str (pe_op op_mod (pe_callTy call_intI (by rfl) T.z_int (by decide +kernel) (pa_cons (pe_ix (ix_listK (K := K) rfl) (pv 0) (pe_op op_add (pv 1) pe_int) (fun _ _ => rfl)) pa_nil)) pe_int) (fun _ _ => rfl))) (pe_slice sl_str (pv 3) (po_some (pe_op op_add (pv 5) pe_int)) po_none)))))
   pss_nil)
  (pss_one (ps_ret (pv 3))))))), ?_⟩
    try dsimp only [cxOf, Cx.nox]
    walk_at "go"
    refine l_it walk_range (fun i σ' H' => ∃ (z : Str) (v4 : Option V), σ' = [some (.ref l), some (.int at_), some (.str "abcdefghijklmnopqrstuvwxyz0123456789"), some (.str z), v4, none] ∧ Ex H H' ∧ z.length ≤ i ∧ ∀ c ∈ tl z, c ≤ 1000000) ⟨_, none, rfl, Evl.Ex.refl _, Nat.le_refl _, (fun c hc => nomatch hc)⟩ (fun i σ' H' hi hP => trivial) (fun i x σ' H1 H2 hi hP hY => ?_) (fun σ' H1 hP => ?_)
    · obtain ⟨z, v4, rfl, hE, hz, hzc⟩ := hP
      obtain ⟨rfl, rfl⟩ := hY
      have hS1 := ex_sqL hE hS
      walk_at "go"
      refine ⟨_, _, rfl, hE, by rw [len_app, len_sing]; omega, fun c hc => ?_⟩
      rw [tl_append] at hc
      rcases List.mem_append.mp hc with hc | hc
      · exact hzc c hc
      · rw [List.mem_singleton.mp hc]
        exact hc36 _ (by omega)
    · obtain ⟨z, v4, rfl, hE, hz, hzc⟩ := hP
      have hS1 := ex_sqL hE hS
      walk_at "go"
      refine w_ndec (fun h2 => ?_) (fun h2 => ?_)
      · walk_at "go"
        refine w_dec (fun h3 => ?_) (fun h3 => ?_)
        · have hzp : (0 : Int) < (z.length : Int) := by
            have : z.length ≠ 0 := fun e => h2 (by
              rw [← stxt_tl z, show tl z = [] from List.length_eq_zero_iff.mp (by rw [← len_tl]; exact e)]
              rfl)
            omega
          walk_at "go"
          have p0 := Int.emod_nonneg (ns.getD (at_ + 11).toNat 0) (show (z.length : Int) ≠ 0 by omega)
          have p1 := Int.emod_lt_of_pos (ns.getD (at_ + 11).toNat 0) hzp
          generalize ns.getD (at_ + 11).toNat 0 % (z.length : Int) = t at *
          have hc1 := tl_cut_to z p0
          have hc2 := tl_cut_from z (show 0 ≤ t + 1 by omega)
          have hl1 : (cutS z none (some t)).length ≤ 23 := by
            rw [len_tl, hc1, List.length_take, ← len_tl]
            omega
          have hl2 : (cutS z (some (t + 1)) none).length ≤ 23 := by
            rw [len_tl, hc2, List.length_drop, ← len_tl]
            omega
          walk_at "go"
          refine q _ _ hE ⟨?_, fun c hc => ?_⟩
          · rw [len_app, len_app, len_sing]
            omega
          · rw [tl_append, tl_append, hc1, hc2] at hc
            rcases List.mem_append.mp hc with hc | hc
            · rcases List.mem_append.mp hc with hc | hc
              · exact hzc c (List.mem_of_mem_take hc)
              · rw [List.mem_singleton.mp hc]
                exact hc15 _ (by omega)
            · exact hzc c (List.mem_of_mem_drop hc)
        · walk_at "go"
          exact q _ _ hE ⟨by omega, hzc⟩
      · walk_at "go"
        exact q _ _ hE ⟨by omega, hzc⟩
theorem ok__law_is (T : Txt P K mg a) : FnOk P w K mg base CX0 1 a.f__law_is a.d__law_is ["_law_text_here", "_law_signs", "_law_most"] (sp__law_is K) := by
  refine T.F__law_is.ok sc__law_is (fun vs H Q E h => ?len) (fun cdv A outer s H vs Q E hr h => ?body)
  case len => obtain ⟨z, s, m, rfl, _⟩ := h; rfl
  case body =>
    obtain ⟨z, s, m, rfl, hz, q⟩ := h
    unfold isB at q
    refine ⟨_, (pss_one (ps_ret (pe_and (pe_chain op_le op_le pe_int (pe_callB call_lenSN (by rfl) T.z_len (by decide +kernel) (pa_cons (pv 0) pa_nil)) (pv 2)) (pe_one (pe_cmpR op_eq (pe_callB (call_lenK (K := K) rfl) (by rfl) T.z_len (by decide +kernel) (pa_cons (pe_lc (own := [("_law_sign", 3)]) (g := gName 3) rfl sc__law_is.nd (pi_str (pv 0)) (blkOk_by (own := [("_law_sign", 3)]) (N := ["_law_text_here", "_law_signs", "_law_most", "_law_sign"]) (sc := defScope s__law_is) (by decide +kernel)) (fun _ _ _ _ _ => (pg_name (i := 3) sc__law_is.nd rfl (Or.inl rfl))) (fun _ _ _ _ _ => (pts_one (pt_cmpR op_ninSN (pv 3) (pv 1) rfl))) (fun _ _ _ _ _ => (pv 3))) pa_nil)) pe_int (nomark _)))))), ?_⟩
    try dsimp only [cxOf, Cx.nox]
    walk_at "go"
    refine w_dec (fun h1 => ?_) (fun h1 => ?_)
    · rw [decide_eq_true h1] at q
      walk_at "go"
      refine w_dec (fun h2 => ?_) (fun h2 => ?_)
      · rw [decide_eq_true h2] at q
        walk_at "go"
        refine lc_filtC (fun c => !decide (c ∈ s.cps.toList)) (fun c => .str ⟨#[c]⟩) (by omega) (fun c hc H1 e1 R N hR hN => ?_) (fun p H' hp hE hL => ?_)
        · walk_at "go"
          refine w_ite (fun h3 => ?_) (fun h3 => ?_)
          · walk_at "go"
            exact hR h3 _ (Evl.Ex.refl _)
          · exact hN h3 _ (Evl.Ex.refl _)
        · walk_at "go"
          rw [List.length_map, filter_len0]
          have q1 := q H' hE
          simp only [Bool.true_and, Bool.not_not] at q1 ⊢
          exact q1
      · rw [decide_eq_false h2] at q
        walk_at "go"
        exact q _ (Evl.Ex.refl _)
    · rw [decide_eq_false h1] at q
      walk_at "go"
      exact q _ (Evl.Ex.refl _)
theorem ok__law_says (T : Txt P K mg a) : FnOk P w K mg base CX0 1 a.f__law_says a.d__law_says ["_law_actual", "_law_due"] (sp__law_says K) := by
  refine T.F__law_says.ok sc__law_says (fun vs H Q E h => ?len) (fun cdv A outer s H vs Q E hr h => ?body)
  case len => obtain ⟨x, y, rfl, _⟩ := h; rfl
  case body =>
    obtain ⟨x, y, rfl, q⟩ := h
    refine ⟨_, (pss_cons (ps_if (pt_val (pv 1))
   (pss_one (ps_ret (pe_cmpR op_isB (pv 0) pe_bl (nomark _))))
   pss_nil)
  (pss_one (ps_ret (pe_cmpR op_isB (pv 0) pe_bl (nomark _))))), ?_⟩
    try dsimp only [cxOf, Cx.nox]
    cases y with
    | true =>
      walk_at "go"
      refine g_isBl ?_
      cases x <;> exact q
    | false =>
      walk_at "go"
      refine g_isBl ?_
      cases x <;> exact q
theorem ok__law_refuses (T : Txt P K mg a) : FnOk P w K mg base CX0 3 a.f__law_refuses a.d__law_refuses ["_law_kind", "_law_key", "_law_group", "_law_number"] (sp__law_refuses K) := by
  refine T.F__law_refuses.ok sc__law_refuses (fun vs H Q E h => ?len) (fun cdv A outer s H vs Q E hr h => ?body)
  case len => obtain ⟨n, k, g, c, rfl, _⟩ := h; rfl
  case body =>
    obtain ⟨n, k, g, c, rfl, hk, hg, hc⟩ := h
    refine ⟨_, (pss_one (ps_try_mix rfl rfl sc__law_refuses.nd takes0 (fun W pn xe tk pw => (pss_cons (ps_if (pt_cmpR op_eq (pv 0) pe_int (nomark _))
   (pss_one (ps_expr (pe_callS (ok_check_request T) (hr.mono (by decide)) (by rfl) T.g_check_request T.F_check_request.kp T.b_check_request (fun σ => passAt tk σ) (pa_cons (pv 1) (pa_cons (pv 2) (pa_cons (pv 3) pa_nil))))))
   (pss_one (ps_expr (pe_callS (ok_check_moment T) (hr.mono (by decide)) (by rfl) T.g_check_moment T.F_check_moment.kp T.b_check_moment (fun σ => passAt tk σ) (pa_cons (pv 3) pa_nil)))))
  (pss_one (ps_ret pe_bl)))) (HdsMix.plain ⟨rfl, by decide, Or.inl T.e_InvalidRequest.gC⟩ (fun a_ oe cls d pn hz hf => (pss_one (ps_ret pe_bl))) HdsMix.nil))), ?_⟩
    try dsimp only [cxOf, Cx.nox]
    walk_at "go"
    rcases hc with ⟨rfl, q⟩ | ⟨rfl, q⟩
    · refine w_dec (fun _ => ?_) (fun h => absurd rfl h)
      walk_at "go"
      refine ⟨k, g, c, rfl, hk, hg, fun h H1 hE1 => ?_, fun h H1 hE1 => ?_⟩
      · walk_at "go"
        rw [h] at q
        exact q _ hE1
      · refine g_mxT T.e_InvalidRequest.te (fun ax hax => ?_)
        walk_at "go"
        rw [h] at q
        exact q _ hE1
    · refine w_dec (fun h => absurd h (by decide)) (fun _ => ?_)
      walk_at "go"
      refine ⟨c, rfl, fun h H1 hE1 => ?_, fun h H1 hE1 => ?_⟩
      · walk_at "go"
        rw [h] at q
        exact q _ hE1
      · refine g_mxT T.e_InvalidRequest.te (fun ax hax => ?_)
        walk_at "go"
        rw [h] at q
        exact q _ hE1
theorem ok__law_kinds (T : Txt P K mg a) : FnOk P w K mg base CX0 1 a.f__law_kinds a.d__law_kinds ["_law_error"] (sp__law_kinds K a) := by
  refine T.F__law_kinds.ok sc__law_kinds (fun vs H Q E h => ?len) (fun cdv A outer s H vs Q E hr h => ?body)
  case len => obtain ⟨x, C, fs, i, rfl, _⟩ := h; rfl
  case body =>
    obtain ⟨x, C, fs, i, rfl, hV, hi, q⟩ := h
    have hi20 : i < 20 := by
      have := (List.getElem?_eq_some_iff.mp hi).1
      exact this
    have k0 := kitTab_at (m := 0) (D := a.f_InvalidName) T.tab hi rfl
    have k1 := kitTab_at (m := 1) (D := a.f_InvalidRequest) T.tab hi rfl
    have k2 := kitTab_at (m := 2) (D := a.f_InvalidLimit) T.tab hi rfl
    have k3 := kitTab_at (m := 3) (D := a.f_InvalidBook) T.tab hi rfl
    have k4 := kitTab_at (m := 4) (D := a.f_NoView) T.tab hi rfl
    have k5 := kitTab_at (m := 5) (D := a.f_InvalidPaper) T.tab hi rfl
    have k6 := kitTab_at (m := 6) (D := a.f_InvalidJournal) T.tab hi rfl
    have k7 := kitTab_at (m := 7) (D := a.f_TooLarge) T.tab hi rfl
    have k8 := kitTab_at (m := 8) (D := a.f_NothingToUndo) T.tab hi rfl
    have k9 := kitTab_at (m := 9) (D := a.f_NothingToRedo) T.tab hi rfl
    have k10 := kitTab_at (m := 10) (D := a.f_UnknownName) T.tab hi rfl
    have k11 := kitTab_at (m := 11) (D := a.f_NameTaken) T.tab hi rfl
    have k12 := kitTab_at (m := 12) (D := a.f_KeyKnown) T.tab hi rfl
    have k13 := kitTab_at (m := 13) (D := a.f_UnknownKey) T.tab hi rfl
    have k14 := kitTab_at (m := 14) (D := a.f_EarlierMoment) T.tab hi rfl
    have k15 := kitTab_at (m := 15) (D := a.f_InvalidNotation) T.tab hi rfl
    have k16 := kitTab_at (m := 16) (D := a.f_InvalidEntry) T.tab hi rfl
    have k17 := kitTab_at (m := 17) (D := a.f_UnknownLetter) T.tab hi rfl
    have k18 := kitTab_at (m := 18) (D := a.f_HouseFallen) T.tab hi rfl
    have k19 := kitTab_at (m := 19) (D := a.f_UnknownHouse) T.tab hi rfl
    refine ⟨_, (pss_cons (ps_set (i := 1) sc__law_kinds.nd rfl (Or.inl rfl) pe_int)
  (pss_cons (ps_set (i := 1) sc__law_kinds.nd rfl (Or.inl rfl) (pe_op op_add (pe_op op_add (pe_op op_add (pe_op op_add (pv 1) (pe_callTy call_intB (by rfl) T.z_int (by decide +kernel) (pa_cons (pe_callB (call_isV (K := K) rfl) (by rfl) T.z_isinstance (by decide +kernel) (pa_cons (pv 0) (pa_cons (pe_glob (v := .ref a.f_InvalidName) (by rfl) T.e_InvalidName.gC rfl (by decide)) pa_nil))) pa_nil))) (pe_callTy call_intB (by rfl) T.z_int (by decide +kernel) (pa_cons (pe_callB (call_isV (K := K) rfl) (by rfl) T.z_isinstance (by decide +kernel) (pa_cons (pv 0) (pa_cons (pe_glob (v := .ref a.f_InvalidRequest) (by rfl) T.e_InvalidRequest.gC rfl (by decide)) pa_nil))) pa_nil))) (pe_callTy call_intB (by rfl) T.z_int (by decide +kernel) (pa_cons (pe_callB (call_isV (K := K) rfl) (by rfl) T.z_isinstance (by decide +kernel) (pa_cons (pv 0) (pa_cons (pe_glob (v := .ref a.f_InvalidLimit) (by rfl) T.e_InvalidLimit.gC rfl (by decide)) pa_nil))) pa_nil))) (pe_callTy call_intB (by rfl) T.z_int (by decide +kernel) (pa_cons (pe_callB (call_isV (K := K) rfl) (by rfl) T.z_isinstance (by decide +kernel) (pa_cons (pv 0) (pa_cons (pe_glob (v := .ref a.f_InvalidBook) (by rfl) T.e_InvalidBook.gC rfl (by decide)) pa_nil))) pa_nil))))
  (pss_cons (ps_set (i := 1) sc__law_kinds.nd rfl (Or.inl rfl) (pe_op op_add (pe_op op_add (pe_op op_add (pe_op op_add (pv 1) (pe_callTy call_intB (by rfl) T.z_int (by decide +kernel) (pa_cons (pe_callB (call_isV (K := K) rfl) (by rfl) T.z_isinstance (by decide +kernel) (pa_cons (pv 0) (pa_cons (pe_glob (v := .ref a.f_NoView) (by rfl) T.e_NoView.gC rfl (by decide)) pa_nil))) pa_nil))) (pe_callTy call_intB (by rfl) T.z_int (by decide +kernel) (pa_cons (pe_callB (call_isV (K := K) rfl) (by rfl) T.z_isinstance (by decide +kernel) (pa_cons (pv 0) (pa_cons (pe_glob (v := .ref a.f_InvalidPaper) (by rfl) T.e_InvalidPaper.gC rfl (by decide)) pa_nil))) pa_nil))) (pe_callTy call_intB (by rfl) T.z_int (by decide +kernel) (pa_cons (pe_callB (call_isV (K := K) rfl) (by rfl) T.z_isinstance (by decide +kernel) (pa_cons (pv 0) (pa_cons (pe_glob (v := .ref a.f_InvalidJournal) (by rfl) T.e_InvalidJournal.gC rfl (by decide)) pa_nil))) pa_nil))) (pe_callTy call_intB (by rfl) T.z_int (by decide +kernel) (pa_cons (pe_callB (call_isV (K := K) rfl) (by rfl) T.z_isinstance (by decide +kernel) (pa_cons (pv 0) (pa_cons (pe_glob (v := .ref a.f_TooLarge) (by rfl) T.e_TooLarge.gC rfl (by decide)) pa_nil))) pa_nil))))
  (pss_cons (ps_set (i := 1) sc__law_kinds.nd rfl (Or.inl rfl) (pe_op op_add (pe_op op_add (pe_op op_add (pe_op op_add (pv 1) (pe_callTy call_intB (by rfl) T.z_int (by decide +kernel) (pa_cons (pe_callB (call_isV (K := K) rfl) (by rfl) T.z_isinstance (by decide +kernel) (pa_cons (pv 0) (pa_cons (pe_glob (v := .ref a.f_NothingToUndo) (by rfl) T.e_NothingToUndo.gC rfl (by decide)) pa_nil))) pa_nil))) (pe_callTy call_intB (by rfl) T.z_int (by decide +kernel) (pa_cons (pe_callB (call_isV (K := K) rfl) (by rfl) T.z_isinstance (by decide +kernel) (pa_cons (pv 0) (pa_cons (pe_glob (v := .ref a.f_NothingToRedo) (by rfl) T.e_NothingToRedo.gC rfl (by decide)) pa_nil))) pa_nil))) (pe_callTy call_intB (by rfl) T.z_int (by decide +kernel) (pa_cons (pe_callB (call_isV (K := K) rfl) (by rfl) T.z_isinstance (by decide +kernel) (pa_cons (pv 0) (pa_cons (pe_glob (v := .ref a.f_UnknownName) (by rfl) T.e_UnknownName.gC rfl (by decide)) pa_nil))) pa_nil))) (pe_callTy call_intB (by rfl) T.z_int (by decide +kernel) (pa_cons (pe_callB (call_isV (K := K) rfl) (by rfl) T.z_isinstance (by decide +kernel) (pa_cons (pv 0) (pa_cons (pe_glob (v := .ref a.f_NameTaken) (by rfl) T.e_NameTaken.gC rfl (by decide)) pa_nil))) pa_nil))))
  (pss_cons (ps_set (i := 1) sc__law_kinds.nd rfl (Or.inl rfl) (pe_op op_add (pe_op op_add (pe_op op_add (pe_op op_add (pv 1) (pe_callTy call_intB (by rfl) T.z_int (by decide +kernel) (pa_cons (pe_callB (call_isV (K := K) rfl) (by rfl) T.z_isinstance (by decide +kernel) (pa_cons (pv 0) (pa_cons (pe_glob (v := .ref a.f_KeyKnown) (by rfl) T.e_KeyKnown.gC rfl (by decide)) pa_nil))) pa_nil))) (pe_callTy call_intB (by rfl) T.z_int (by decide +kernel) (pa_cons (pe_callB (call_isV (K := K) rfl) (by rfl) T.z_isinstance (by decide +kernel) (pa_cons (pv 0) (pa_cons (pe_glob (v := .ref a.f_UnknownKey) (by rfl) T.e_UnknownKey.gC rfl (by decide)) pa_nil))) pa_nil))) (pe_callTy call_intB (by rfl) T.z_int (by decide +kernel) (pa_cons (pe_callB (call_isV (K := K) rfl) (by rfl) T.z_isinstance (by decide +kernel) (pa_cons (pv 0) (pa_cons (pe_glob (v := .ref a.f_EarlierMoment) (by rfl) T.e_EarlierMoment.gC rfl (by decide)) pa_nil))) pa_nil))) (pe_callTy call_intB (by rfl) T.z_int (by decide +kernel) (pa_cons (pe_callB (call_isV (K := K) rfl) (by rfl) T.z_isinstance (by decide +kernel) (pa_cons (pv 0) (pa_cons (pe_glob (v := .ref a.f_InvalidNotation) (by rfl) T.e_InvalidNotation.gC rfl (by decide)) pa_nil))) pa_nil))))
  (pss_cons (ps_set (i := 1) sc__law_kinds.nd rfl (Or.inl rfl) (pe_op op_add (pe_op op_add (pe_op op_add (pe_op op_add (pv 1) (pe_callTy call_intB (by rfl) T.z_int (by decide +kernel) (pa_cons (pe_callB (call_isV (K := K) rfl) (by rfl) T.z_isinstance (by decide +kernel) (pa_cons (pv 0) (pa_cons (pe_glob (v := .ref a.f_InvalidEntry) (by rfl) T.e_InvalidEntry.gC rfl (by decide)) pa_nil))) pa_nil))) (pe_callTy call_intB (by rfl) T.z_int (by decide +kernel) (pa_cons (pe_callB (call_isV (K := K) rfl) (by rfl) T.z_isinstance (by decide +kernel) (pa_cons (pv 0) (pa_cons (pe_glob (v := .ref a.f_UnknownLetter) (by rfl) T.e_UnknownLetter.gC rfl (by decide)) pa_nil))) pa_nil))) (pe_callTy call_intB (by rfl) T.z_int (by decide +kernel) (pa_cons (pe_callB (call_isV (K := K) rfl) (by rfl) T.z_isinstance (by decide +kernel) (pa_cons (pv 0) (pa_cons (pe_glob (v := .ref a.f_HouseFallen) (by rfl) T.e_HouseFallen.gC rfl (by decide)) pa_nil))) pa_nil))) (pe_callTy call_intB (by rfl) T.z_int (by decide +kernel) (pa_cons (pe_callB (call_isV (K := K) rfl) (by rfl) T.z_isinstance (by decide +kernel) (pa_cons (pv 0) (pa_cons (pe_glob (v := .ref a.f_UnknownHouse) (by rfl) T.e_UnknownHouse.gC rfl (by decide)) pa_nil))) pa_nil))))
  (pss_one (ps_ret (pv 1))))))))), ?_⟩
    try dsimp only [cxOf, Cx.nox]
    walk_at "go"
    have q1 := q H (Evl.Ex.refl _)
    rw [← sumI_one i hi20] at q1
    exact q1
theorem ok__law_classes (T : Txt P K mg a) : FnOk P w K mg base CX0 2 a.f__law_classes a.d__law_classes ["_law_text_here", "_law_number"] (sp__law_classes K) := by
  refine T.F__law_classes.ok sc__law_classes (fun vs H Q E h => ?len) (fun cdv A outer s H vs Q E hr h => ?body)
  case len => obtain ⟨z, n, rfl, _⟩ := h; rfl
  case body =>
    obtain ⟨z, n, rfl, hz, q⟩ := h
    have hzs := hz.so
    refine ⟨_, (pss_cons (ps_set (i := 2) sc__law_classes.nd rfl (Or.inl rfl) (pe_lst (pa_cons (pe_err0 (K := K) rfl T.e_InvalidName T.x_InvalidName (by rfl) (pv 0)) (pa_cons (pe_err0 (K := K) rfl T.e_InvalidRequest T.x_InvalidRequest (by rfl) (pv 0)) (pa_cons (pe_err0 (K := K) rfl T.e_InvalidLimit T.x_InvalidLimit (by rfl) (pv 0)) (pa_cons (pe_err0 (K := K) rfl T.e_InvalidBook T.x_InvalidBook (by rfl) (pv 0)) (pa_cons (pe_err0 (K := K) rfl T.e_NoView T.x_NoView (by rfl) (pv 0)) (pa_cons (pe_err0 (K := K) rfl T.e_InvalidPaper T.x_InvalidPaper (by rfl) (pv 0)) (pa_cons (pe_err0 (K := K) rfl T.e_InvalidJournal T.x_InvalidJournal (by rfl) (pv 0)) (pa_cons (pe_err0 (K := K) rfl T.e_TooLarge T.x_TooLarge (by rfl) (pv 0)) (pa_cons (pe_err0 (K := K) rfl T.e_NothingToUndo T.x_NothingToUndo (by rfl) (pv 0)) (pa_cons (pe_err0 (K := K) rfl T.e_NothingToRedo T.x_NothingToRedo (by rfl) (pv 0)) pa_nil))))))))))))
  (pss_cons (ps_set (i := 3) sc__law_classes.nd rfl (Or.inl rfl) (pe_lst (pa_cons (pe_err1 (K := K) rfl T.e_UnknownName T.x_UnknownName T.top (room3 hr) (by rfl) (pa_cons (pv 0) pa_nil)) (pa_cons (pe_err1 (K := K) rfl T.e_NameTaken T.x_NameTaken T.top (room3 hr) (by rfl) (pa_cons (pv 0) pa_nil)) (pa_cons (pe_err1 (K := K) rfl T.e_KeyKnown T.x_KeyKnown T.top (room3 hr) (by rfl) (pa_cons (pv 0) pa_nil)) (pa_cons (pe_err1 (K := K) rfl T.e_UnknownKey T.x_UnknownKey T.top (room3 hr) (by rfl) (pa_cons (pv 0) pa_nil)) (pa_cons (pe_err1 (K := K) rfl T.e_EarlierMoment T.x_EarlierMoment T.top (room3 hr) (by rfl) (pa_cons (pv 1) pa_nil)) (pa_cons (pe_err1 (K := K) rfl T.e_InvalidNotation T.x_InvalidNotation T.top (room3 hr) (by rfl) (pa_cons (pv 1) pa_nil)) (pa_cons (pe_err1 (K := K) rfl T.e_InvalidEntry T.x_InvalidEntry T.top (room3 hr) (by rfl) (pa_cons (pv 1) pa_nil)) (pa_cons (pe_err1 (K := K) rfl T.e_UnknownLetter T.x_UnknownLetter T.top (room3 hr) (by rfl) (pa_cons (pv 1) pa_nil)) (pa_cons (pe_err1 (K := K) rfl T.e_HouseFallen T.x_HouseFallen T.top (room3 hr) (by rfl) (pa_cons (pv 0) pa_nil)) (pa_cons (pe_err1 (K := K) rfl T.e_UnknownHouse T.x_UnknownHouse T.top (room3 hr) (by rfl) (pa_cons (pv 0) pa_nil)) pa_nil))))))))))))
  (pss_cons (ps_set (i := 4) sc__law_classes.nd rfl (Or.inl rfl) (pe_lst (pa_cons (pe_errF (K := K) rfl (pe_ix (ix_listK (K := K) rfl) (pv 3) pe_int (fun _ _ => rfl))) (pa_cons (pe_errF (K := K) rfl (pe_ix (ix_listK (K := K) rfl) (pv 3) pe_int (fun _ _ => rfl))) (pa_cons (pe_errF (K := K) rfl (pe_ix (ix_listK (K := K) rfl) (pv 3) pe_int (fun _ _ => rfl))) (pa_cons (pe_errF (K := K) rfl (pe_ix (ix_listK (K := K) rfl) (pv 3) pe_int (fun _ _ => rfl))) (pa_cons (pe_errF (K := K) rfl (pe_ix (ix_listK (K := K) rfl) (pv 3) pe_int (fun _ _ => rfl))) (pa_cons (pe_errF (K := K) rfl (pe_ix (ix_listK (K := K) rfl) (pv 3) pe_int (fun _ _ => rfl))) pa_nil))))))))
  (pss_cons (ps_if (PW.pt (pw_or (pt_cmpR (op_neDK (K := K) rfl hr.units) (pv 4) (pe_op op_rep (pe_lst (pa_cons (pv 0) pa_nil)) pe_int) (nomark _)) (pw_or1 (pt_cmpR (op_neDK (K := K) rfl hr.units) (pe_lst (pa_cons (pe_errF (K := K) rfl (pe_ix (ix_listK (K := K) rfl) (pv 3) pe_int (fun _ _ => rfl))) (pa_cons (pe_errF (K := K) rfl (pe_ix (ix_listK (K := K) rfl) (pv 3) pe_int (fun _ _ => rfl))) (pa_cons (pe_errF (K := K) rfl (pe_ix (ix_listK (K := K) rfl) (pv 3) pe_int (fun _ _ => rfl))) (pa_cons (pe_errF (K := K) rfl (pe_ix (ix_listK (K := K) rfl) (pv 3) pe_int (fun _ _ => rfl))) pa_nil))))) (pe_op op_rep (pe_lst (pa_cons (pv 1) pa_nil)) pe_int) (nomark _)))))
   (pss_one (ps_ret pe_bl))
   pss_nil)
  (pss_cons (ps_for PassesOwn.never rfl (pi_listK (K := K) rfl (pe_op op_cat (pv 2) (pv 3))) (pg_name (i := 5) sc__law_classes.nd rfl (Or.inl rfl))
   (pss_cons (ps_if (PW.pt (pw_or (pt_not (pt_val (pe_callB (call_isV (K := K) rfl) (by rfl) T.z_isinstance (by decide +kernel) (pa_cons (pv 5) (pa_cons (pe_glob (v := .ref a.f_LimitError) (by rfl) T.e_LimitError.gC rfl (by decide)) pa_nil))))) (pw_or1 (pt_not (pt_val (pe_callB (call_isV (K := K) rfl) (by rfl) T.z_isinstance (by decide +kernel) (pa_cons (pv 5) (pa_cons (pe_bltn (v := .ty "ValueError") (by rfl) T.z_ValueError (by decide +kernel) rfl) pa_nil))))))))
   (pss_one (ps_ret pe_bl))
   pss_nil)
  (pss_one (ps_if (pt_cmpR op_ne (pe_call (ok__law_kinds T) (hr.mono (by decide)) (by rfl) T.g__law_kinds T.F__law_kinds.kp T.b__law_kinds .nil pass0 (pa_cons (pv 5) pa_nil)) pe_int (nomark _))
   (pss_one (ps_ret pe_bl))
   pss_nil))))
  (pss_one (ps_ret pe_bl))))))), ?_⟩
    try dsimp only [cxOf, Cx.nox]
    walk_at "go"
    rename_i a0 G0 x0 e0 a1 G1 x1 e1 a2 G2 x2 e2 a3 G3 x3 e3 a4 G4 x4 e4 a5 G5 x5 e5 a6 G6 x6 e6 a7 G7 x7 e7 a8 G8 x8 e8 a9 G9 x9 e9 pp hpp a10 G10 x10 e10 a11 G11 x11 e11 a12 G12 x12 e12 a13 G13 x13 e13 a14 G14 x14 e14 a15 G15 x15 e15 a16 G16 x16 e16 a17 G17 x17 e17 a18 G18 x18 e18 a19 G19 x19 e19 pt hpt
    have y19 := Evl.Ex.new hpt (o := .lst [V.ref a10, V.ref a11, V.ref a12, V.ref a13, V.ref a14, V.ref a15, V.ref a16, V.ref a17, V.ref a18, V.ref a19])
    have y18 := x19.trans y19
    have y17 := x18.trans y18
    have y16 := x17.trans y17
    have y15 := x16.trans y16
    have y14 := x15.trans y15
    have y13 := x14.trans y14
    have y12 := x13.trans y13
    have y11 := x12.trans y12
    have y10 := x11.trans y11
    have ypp := x10.trans y10
    have y9 := (Evl.Ex.new hpp).trans ypp
    have y8 := x9.trans y9
    have y7 := x8.trans y8
    have y6 := x7.trans y7
    have y5 := x6.trans y6
    have y4 := x5.trans y5
    have y3 := x4.trans y4
    have y2 := x3.trans y3
    have y1 := x2.trans y2
    have y0 := x1.trans y1
    have y := x0.trans y0
    replace e0 := e0.ex y0
    replace e1 := e1.ex y1
    replace e2 := e2.ex y2
    replace e3 := e3.ex y3
    replace e4 := e4.ex y4
    replace e5 := e5.ex y5
    replace e6 := e6.ex y6
    replace e7 := e7.ex y7
    replace e8 := e8.ex y8
    replace e9 := e9.ex y9
    replace e10 := e10.ex y10
    replace e11 := e11.ex y11
    replace e12 := e12.ex y12
    replace e13 := e13.ex y13
    replace e14 := e14.ex y14
    replace e15 := e15.ex y15
    replace e16 := e16.ex y16
    replace e17 := e17.ex y17
    replace e18 := e18.ex y18
    replace e19 := e19.ex y19
    have hLp := ypp _ _ (upd_same (o := HO.lst [V.ref a0, V.ref a1, V.ref a2, V.ref a3, V.ref a4, V.ref a5, V.ref a6, V.ref a7, V.ref a8, V.ref a9]))
    have hLt : upd G19 pt (.lst [V.ref a10, V.ref a11, V.ref a12, V.ref a13, V.ref a14, V.ref a15, V.ref a16, V.ref a17, V.ref a18, V.ref a19]) pt = some (.lst [V.ref a10, V.ref a11, V.ref a12, V.ref a13, V.ref a14, V.ref a15, V.ref a16, V.ref a17, V.ref a18, V.ref a19]) := upd_same
    generalize upd G19 pt (.lst [V.ref a10, V.ref a11, V.ref a12, V.ref a13, V.ref a14, V.ref a15, V.ref a16, V.ref a17, V.ref a18, V.ref a19]) = G at *
    clear x0 y0 x1 y1 x2 y2 x3 y3 x4 y4 x5 y5 x6 y6 x7 y7 x8 y8 x9 y9 x10 y10 x11 y11 x12 y12 x13 y13 x14 y14 x15 y15 x16 y16 x17 y17 x18 y18 x19 y19 ypp hpp hpt
    refine g_errF1 e10 ?_
    walk_at "go"
    refine g_errF1 e11 ?_
    walk_at "go"
    refine g_errF1 e12 ?_
    walk_at "go"
    refine g_errF1 e13 ?_
    walk_at "go"
    refine g_errF1 e18 ?_
    walk_at "go"
    refine g_errF1 e19 ?_
    walk_at "go"
    rename_i p1 hp1 p2 hp2
    refine g_rep upd_same (by decide) (by decide) (Nat.le_of_ble_eq_true rfl) (fun p3 hp3 => ?_)
    rw [show (List.replicate (Int.toNat 6) [V.str z]).flatten = [V.str z, V.str z, V.str z, V.str z, V.str z, V.str z] from rfl]
    walk_at "go"
    have hz6 : ∀ y ∈ [z, z, z, z, z, z], PyData.strOk y = true := fun y hy => by
      simp only [List.mem_cons, List.not_mem_nil, or_false] at hy
      rcases hy with rfl | rfl | rfl | rfl | rfl | rfl <;> exact hzs
    refine g_neSame (.list ([z, z, z, z, z, z].map PyData.str)) (by walk_at "dp") (by walk_at "dp") (strs_shapedL hz6) ?_
    walk_at "go"
    refine g_errF1 (((e14.ex (Evl.Ex.new hp1)).ex (Evl.Ex.new hp2)).ex (Evl.Ex.new hp3)) ?_
    walk_at "go"
    refine g_errF1 (((e15.ex (Evl.Ex.new hp1)).ex (Evl.Ex.new hp2)).ex (Evl.Ex.new hp3)) ?_
    walk_at "go"
    refine g_errF1 (((e16.ex (Evl.Ex.new hp1)).ex (Evl.Ex.new hp2)).ex (Evl.Ex.new hp3)) ?_
    walk_at "go"
    refine g_errF1 (((e17.ex (Evl.Ex.new hp1)).ex (Evl.Ex.new hp2)).ex (Evl.Ex.new hp3)) ?_
    walk_at "go"
    rename_i p4 hp4 p5 hp5
    refine g_rep upd_same (by decide) (by decide) (Nat.le_of_ble_eq_true rfl) (fun p6 hp6 => ?_)
    rw [show (List.replicate (Int.toNat 4) [V.int n]).flatten = [V.int n, V.int n, V.int n, V.int n] from rfl]
    walk_at "go"
    refine g_neSame (.list [.int n, .int n, .int n, .int n]) (by walk_at "dp") (by walk_at "dp") rfl ?_
    walk_at "go"
    have hE6 := ((Evl.Ex.new hp1 (o := .lst [V.str z, V.str z, V.str z, V.str z, V.str z, V.str z])).trans ((Evl.Ex.new hp2 (o := .lst [V.str z])).trans ((Evl.Ex.new hp3 (o := .lst [V.str z, V.str z, V.str z, V.str z, V.str z, V.str z])).trans ((Evl.Ex.new hp4 (o := .lst [V.int n, V.int n, V.int n, V.int n])).trans ((Evl.Ex.new hp5 (o := .lst [V.int n])).trans (Evl.Ex.new hp6 (o := .lst [V.int n, V.int n, V.int n, V.int n])))))))
    have hA : ErrsAt K G a.f_LimitError [V.ref a0, V.ref a1, V.ref a2, V.ref a3, V.ref a4, V.ref a5, V.ref a6, V.ref a7, V.ref a8, V.ref a9, V.ref a10, V.ref a11, V.ref a12, V.ref a13, V.ref a14, V.ref a15, V.ref a16, V.ref a17, V.ref a18, V.ref a19] (csA a) := .cons e0 T.n_InvalidName_LimitError T.n_InvalidName_ValueError (.cons e1 T.n_InvalidRequest_LimitError T.n_InvalidRequest_ValueError (.cons e2 T.n_InvalidLimit_LimitError T.n_InvalidLimit_ValueError (.cons e3 T.n_InvalidBook_LimitError T.n_InvalidBook_ValueError (.cons e4 T.n_NoView_LimitError T.n_NoView_ValueError (.cons e5 T.n_InvalidPaper_LimitError T.n_InvalidPaper_ValueError (.cons e6 T.n_InvalidJournal_LimitError T.n_InvalidJournal_ValueError (.cons e7 T.n_TooLarge_LimitError T.n_TooLarge_ValueError (.cons e8 T.n_NothingToUndo_LimitError T.n_NothingToUndo_ValueError (.cons e9 T.n_NothingToRedo_LimitError T.n_NothingToRedo_ValueError (.cons e10 T.n_UnknownName_LimitError T.n_UnknownName_ValueError (.cons e11 T.n_NameTaken_LimitError T.n_NameTaken_ValueError (.cons e12 T.n_KeyKnown_LimitError T.n_KeyKnown_ValueError (.cons e13 T.n_UnknownKey_LimitError T.n_UnknownKey_ValueError (.cons e14 T.n_EarlierMoment_LimitError T.n_EarlierMoment_ValueError (.cons e15 T.n_InvalidNotation_LimitError T.n_InvalidNotation_ValueError (.cons e16 T.n_InvalidEntry_LimitError T.n_InvalidEntry_ValueError (.cons e17 T.n_UnknownLetter_LimitError T.n_UnknownLetter_ValueError (.cons e18 T.n_HouseFallen_LimitError T.n_HouseFallen_ValueError (.cons e19 T.n_UnknownHouse_LimitError T.n_UnknownHouse_ValueError (.nil))))))))))))))))))))
    rename_i p7 hp7
    rw [show [V.ref a0, V.ref a1, V.ref a2, V.ref a3, V.ref a4, V.ref a5, V.ref a6, V.ref a7, V.ref a8, V.ref a9] ++ [V.ref a10, V.ref a11, V.ref a12, V.ref a13, V.ref a14, V.ref a15, V.ref a16, V.ref a17, V.ref a18, V.ref a19] = [V.ref a0, V.ref a1, V.ref a2, V.ref a3, V.ref a4, V.ref a5, V.ref a6, V.ref a7, V.ref a8, V.ref a9, V.ref a10, V.ref a11, V.ref a12, V.ref a13, V.ref a14, V.ref a15, V.ref a16, V.ref a17, V.ref a18, V.ref a19] from rfl]
    generalize [V.ref a0, V.ref a1, V.ref a2, V.ref a3, V.ref a4, V.ref a5, V.ref a6, V.ref a7, V.ref a8, V.ref a9, V.ref a10, V.ref a11, V.ref a12, V.ref a13, V.ref a14, V.ref a15, V.ref a16, V.ref a17, V.ref a18, V.ref a19] = es at hA ⊢
    refine with_heap (P := LoopOk _ _ _ _ _) (F := fun Hx => Ex G Hx ∧ Hx p7 = some (.lst es)) ⟨hE6.trans (Evl.Ex.new hp7), upd_same⟩ (fun G7b hF => ?_)
    obtain ⟨hE7, hA7⟩ := hF
    have hes : SqL K G7b p7 es := .inl (.inl hA7)
    clear e0 e1 e2 e3 e4 e5 e6 e7 e8 e9 e10 e11 e12 e13 e14 e15 e16 e17 e18 e19 hp1 hp2 hp3 hp4 hp5 hp6 hp7 hE6 hLp hLt
    walk_at "go"
    refine l_it (walk_list (xs := es)) (fun i σ' H' => ∃ v5 : Option V, σ' = [some (.str z), some (.int n), some (.ref pp), some (.ref pt), some (.ref p1), v5] ∧ Ex G7b H') ⟨_, rfl, Evl.Ex.refl _⟩ (fun i σ' H' hi hP => ?_) (fun i x σ' H1 H2 hi hP hY => ?_) (fun σ' H1 hP => ?_)
    · obtain ⟨_, _, hE⟩ := hP
      exact ex_sqL hE hes
    · obtain ⟨v5, rfl, hE⟩ := hP
      obtain ⟨rfl, hxi⟩ := hY
      obtain ⟨x, C, fs, rfl, hV, hC, hl, hv⟩ := hA.get hxi
      have hV1 := (hV.ex hE7).ex hE
      walk_at "go"
      refine ⟨x, C, fs, i, rfl, hV1, hC, fun H3 hE3 => ?_⟩
      walk_at "go"
      exact ⟨_, rfl, hE.trans hE3⟩
    · obtain ⟨v5, rfl, hE⟩ := hP
      walk_at "go"
      exact q _ (y.trans (hE7.trans hE))
theorem ok_law (T : Txt P K mg a) : FnOk P w K mg base CX0 4 a.f_law a.d_law ["_law_script"] (sp_law K) := by
  refine T.F_law.ok sc_law (fun vs H Q E h => ?len) (fun cdv A outer s H vs Q E hr h => ?body)
  case len => obtain ⟨l, xs, rfl, _⟩ := h; rfl
  case body =>
    obtain ⟨l, xs, rfl, hS, hx, q⟩ := h
    refine ⟨_, (pss_cons (ps_set (i := 1) sc_law.nd rfl (Or.inl rfl) (pe_call (ok__law_numbers T) (hr.mono (by decide)) (by rfl) T.g__law_numbers T.F__law_numbers.kp T.b__law_numbers .nil pass0 (pa_cons (pv 0) (pa_cons pe_int pa_nil))))
  (pss_cons (ps_set (i := 2) sc_law.nd rfl (Or.inl rfl) pe_str)
  (pss_cons (ps_set (i := 3) sc_law.nd rfl (Or.inl rfl) (pe_lst (pa_cons (pe_call (ok__law_text T) (hr.mono (by decide)) (by rfl) T.g__law_text T.F__law_text.kp T.b__law_text .nil pass0 (pa_cons (pv 1) (pa_cons pe_int pa_nil))) (pa_cons (pe_call (ok__law_text T) (hr.mono (by decide)) (by rfl) T.g__law_text T.F__law_text.kp T.b__law_text .nil pass0 (pa_cons (pv 1) (pa_cons pe_int pa_nil))) (pa_cons (pe_call (ok__law_text T) (hr.mono (by decide)) (by rfl) T.g__law_text T.F__law_text.kp T.b__law_text .nil pass0 (pa_cons (pv 1) (pa_cons pe_int pa_nil))) (pa_cons pe_str (pa_cons (pe_op op_mulSN pe_str pe_int) (pa_cons (pe_op op_mulSN pe_str pe_int) (pa_cons (pe_op op_mulSN pe_str pe_int) (pa_cons (pe_op op_mulSN pe_str pe_int) pa_nil))))))))))
  (pss_cons (ps_for PassesOwn.never rfl (pi_listK (K := K) rfl (pv 3)) (pg_name (i := 4) sc_law.nd rfl (Or.inl rfl))
   (pss_one (ps_if (PW.pt (pw_or (pt_not (pt_val (pe_call (ok__law_says T) (hr.mono (by decide)) (by rfl) T.g__law_says T.F__law_says.kp T.b__law_says .nil pass0 (pa_cons (pe_call (ok_is_name T) (hr.mono (by decide)) (by rfl) T.g_is_name T.F_is_name.kp T.b_is_name .nil pass0 (pa_cons (pv 4) pa_nil)) (pa_cons (pe_call (ok__law_is T) (hr.mono (by decide)) (by rfl) T.g__law_is T.F__law_is.kp T.b__law_is .nil pass0 (pa_cons (pv 4) (pa_cons (pv 2) (pa_cons pe_int pa_nil)))) pa_nil))))) (pw_or1 (pt_not (pt_val (pe_call (ok__law_says T) (hr.mono (by decide)) (by rfl) T.g__law_says T.F__law_says.kp T.b__law_says .nil pass0 (pa_cons (pe_call (ok_is_key T) (hr.mono (by decide)) (by rfl) T.g_is_key T.F_is_key.kp T.b_is_key .nil pass0 (pa_cons (pv 4) pa_nil)) (pa_cons (pe_call (ok__law_is T) (hr.mono (by decide)) (by rfl) T.g__law_is T.F__law_is.kp T.b__law_is .nil pass0 (pa_cons (pv 4) (pa_cons (pe_op op_addSN (pv 2) pe_str) (pa_cons pe_int pa_nil)))) pa_nil))))))))
   (pss_one (ps_ret pe_bl))
   pss_nil)))
  (pss_cons (ps_set (i := 5) sc_law.nd rfl (Or.inl rfl) (pe_lst (pa_cons pe_int (pa_cons pe_int (pa_cons pe_int (pa_cons pe_int (pa_cons (pe_un un_neg pe_int) (pa_cons (pe_op op_sub (pe_callTy call_intI (by rfl) T.z_int (by decide +kernel) (pa_cons (pe_ix (ix_listK (K := K) rfl) (pv 1) pe_int (fun _ _ => rfl)) pa_nil)) pe_int) pa_nil))))))))
  (pss_cons (ps_for PassesOwn.never rfl (pi_listK (K := K) rfl (pv 5)) (pg_name (i := 6) sc_law.nd rfl (Or.inl rfl))
   (pss_one (ps_for PassesOwn.never rfl (pi_listK (K := K) rfl (pe_op op_cat (pe_slice (sl_listK (K := K) rfl) (pv 3) po_none (po_some pe_int)) (pe_lst (pa_cons pe_str pa_nil)))) (pg_name (i := 7) sc_law.nd rfl (Or.inl rfl))
   (pss_one (ps_for PassesOwn.never rfl (pi_listK (K := K) rfl (pe_op op_cat (pe_slice (sl_listK (K := K) rfl) (pv 3) (po_some pe_int) (po_some pe_int)) (pe_lst (pa_cons pe_str pa_nil)))) (pg_name (i := 8) sc_law.nd rfl (Or.inl rfl))
   (pss_cons (ps_set (i := 9) sc_law.nd rfl (Or.inl rfl) (pe_and (pe_call (ok__law_is T) (hr.mono (by decide)) (by rfl) T.g__law_is T.F__law_is.kp T.b__law_is .nil pass0 (pa_cons (pv 7) (pa_cons (pe_op op_addSN (pv 2) pe_str) (pa_cons pe_int pa_nil)))) (pe_and (pe_call (ok__law_is T) (hr.mono (by decide)) (by rfl) T.g__law_is T.F__law_is.kp T.b__law_is .nil pass0 (pa_cons (pv 8) (pa_cons (pv 2) (pa_cons pe_int pa_nil)))) (pe_one (pe_chain op_le op_le pe_int (pv 6) pe_int)))))
  (pss_one (ps_if (pt_cmpR op_eq (pe_call (ok__law_refuses T) (hr.mono (by decide)) (by rfl) T.g__law_refuses T.F__law_refuses.kp T.b__law_refuses .nil pass0 (pa_cons pe_int (pa_cons (pv 7) (pa_cons (pv 8) (pa_cons (pv 6) pa_nil))))) (pv 9) (nomark _))
   (pss_one (ps_ret pe_bl))
   pss_nil))))))))
  (pss_cons (ps_for PassesOwn.never rfl (pi_listK (K := K) rfl (pe_lst (pa_cons pe_int (pa_cons (pe_un un_neg pe_int) (pa_cons (pe_op op_pow pe_int pe_int) (pa_cons (pe_op op_add (pe_op op_pow pe_int pe_int) pe_int) (pa_cons (pe_op op_sub (pe_op op_mul (pe_op op_mul (pe_ix (ix_listK (K := K) rfl) (pv 1) pe_int (fun _ _ => rfl)) (pe_ix (ix_listK (K := K) rfl) (pv 1) pe_int (fun _ _ => rfl))) pe_int) pe_int) pa_nil))))))) (pg_name (i := 10) sc_law.nd rfl (Or.inl rfl))
   (pss_one (ps_if (pt_cmpR op_eq (pe_call (ok__law_refuses T) (hr.mono (by decide)) (by rfl) T.g__law_refuses T.F__law_refuses.kp T.b__law_refuses .nil pass0 (pa_cons pe_int (pa_cons pe_str (pa_cons pe_str (pa_cons (pv 10) pa_nil))))) (pe_chain op_le op_le pe_int (pv 10) (pe_op op_pow pe_int pe_int)) (nomark _))
   (pss_one (ps_ret pe_bl))
   pss_nil)))
  (pss_one (ps_ret (pe_call (ok__law_classes T) (hr.mono (by decide)) (by rfl) T.g__law_classes T.F__law_classes.kp T.b__law_classes .nil pass0 (pa_cons (pe_ix (ix_listK (K := K) rfl) (pv 3) pe_int (fun _ _ => rfl)) (pa_cons (pe_ix (ix_listK (K := K) rfl) (pv 1) pe_int (fun _ _ => rfl)) pa_nil)))))))))))), ?_⟩
    try dsimp only [cxOf, Cx.nox]
    walk_at "go"
    refine ⟨l, xs, 60, rfl, hS, hx, by decide, by decide, fun pn H1 ns hpn hE1 hA1 hnl hn9 => ?_⟩
    have hS1 : SqL K H1 pn (ns.map V.int) := .inl (.inl hA1)
    walk_at "go"
    refine ⟨pn, ns, 0, rfl, hS1, by omega, by omega, hn9, fun z0 H2 hE2 hz0 => ?_⟩
    have hS2 := ex_sqL hE2 hS1
    walk_at "go"
    refine ⟨pn, ns, 14, rfl, hS2, by omega, by omega, hn9, fun z1 H3 hE3 hz1 => ?_⟩
    have hS3 := ex_sqL hE3 hS2
    walk_at "go"
    refine ⟨pn, ns, 28, rfl, hS3, by omega, by omega, hn9, fun z2 H4 hE4 hz2 => ?_⟩
    have hS4 := ex_sqL hE4 hS3
    have hl36 : ("abcdefghijklmnopqrstuvwxyz0123456789" : Str).length = 36 := by decide +kernel
    have hl1 : ("-" : Str).length = 1 := by decide +kernel
    obtain ⟨zs, hzs⟩ : ∃ zs : List Str, zs = [z0, z1, z2, "", repS (Int.toNat 12) "a", repS (Int.toNat 13) "a", repS (Int.toNat 20) "-", repS (Int.toNat 21) "a"] := ⟨_, rfl⟩
    have hz8 : zs.length = 8 := by rw [hzs]; rfl
    have hzt : ∀ z ∈ zs, TxtOk z := fun z hz => by
      rw [hzs] at hz
      simp only [List.mem_cons, List.not_mem_nil, or_false] at hz
      rcases hz with rfl | rfl | rfl | rfl | rfl | rfl | rfl | rfl
      · exact hz0
      · exact hz1
      · exact hz2
      · exact ⟨by decide +kernel, by decide +kernel⟩
      · exact ⟨by decide +kernel, by decide +kernel⟩
      · exact ⟨by decide +kernel, by decide +kernel⟩
      · exact ⟨by decide +kernel, by decide +kernel⟩
      · exact ⟨by decide +kernel, by decide +kernel⟩
    walk_at "go"
    rename_i pt hpt
    refine with_heap (P := LoopOk _ _ _ _ _) (F := fun Hx => Ex H4 Hx ∧ Hx pt = some (.lst (zs.map V.str))) ⟨Evl.Ex.new hpt, by rw [hzs]; exact upd_same⟩ (fun H5 hF5 => ?_)
    obtain ⟨hE5, hA5⟩ := hF5
    have hS5 := ex_sqL hE5 hS4
    have hT5 : SqL K H5 pt (zs.map V.str) := .inl (.inl hA5)
    clear hzs hS1 hS2 hS3 hS4 hS hE1 hA1 hE2 hE3 hE4 hE5 hpt hpn hz0 hz1 hz2
    refine l_it (walk_list (xs := zs.map V.str)) (fun i σ' H' => ∃ v4 : Option V, σ' = [some (.ref l), some (.ref pn), some (.str "abcdefghijklmnopqrstuvwxyz0123456789"), some (.ref pt), v4, none, none, none, none, none, none] ∧ Ex H5 H') ⟨_, rfl, Evl.Ex.refl _⟩ (fun i σ' H' hi hP => ?_) (fun i x σ' H6 H7 hi hP hY => ?_) (fun σ' H6 hP => ?_)
    · obtain ⟨_, _, hE⟩ := hP
      exact ex_sqL hE hT5
    · obtain ⟨v4, rfl, hE⟩ := hP
      obtain ⟨rfl, hxi⟩ := hY
      obtain ⟨z, hzi, rfl⟩ := strs_get hxi
      have hz := hzt z (List.mem_of_getElem? hzi)
      have hzl : z.length ≤ 100000 := Nat.le_trans hz.1 (by decide)
      walk_at "go"
      refine ⟨z, rfl, hzl, fun H8 hE8 => ?_⟩
      walk_at "go"
      refine ⟨z, _, 12, rfl, hzl, fun H9 hE9 => ?_⟩
      walk_at "go"
      refine ⟨_, _, rfl, ?_⟩
      rw [isB_name, decide_eq_true rfl]
      walk_at "go"
      refine ⟨z, rfl, hzl, fun H10 hE10 => ?_⟩
      walk_at "go"
      refine ⟨z, _, 20, rfl, hzl, fun H11 hE11 => ?_⟩
      walk_at "go"
      refine ⟨_, _, rfl, ?_⟩
      rw [isB_key, decide_eq_true rfl]
      walk_at "go"
      exact ⟨_, rfl, hE.trans (hE8.trans (hE9.trans (hE10.trans hE11)))⟩
    · obtain ⟨v4, rfl, hE6⟩ := hP
      have hS6 := ex_sqL hE6 hS5
      have hT6 := ex_sqL hE6 hT5
      walk_at "go"
      rename_i pc hpc
      obtain ⟨cs, hcs⟩ : ∃ cs : List Int, cs = [0, 1, 1000, 1001, -1, ns.getD (Int.toNat 42) 0 - 4] := ⟨_, rfl⟩
      refine with_heap (P := LoopOk _ _ _ _ _) (F := fun Hx => Ex H6 Hx ∧ Hx pc = some (.lst (cs.map V.int))) ⟨Evl.Ex.new hpc, by rw [hcs]; exact upd_same⟩ (fun H7 hF7 => ?_)
      obtain ⟨hE7, hA7⟩ := hF7
      have hS7 := ex_sqL hE7 hS6
      have hT7 := ex_sqL hE7 hT6
      have hC7 : SqL K H7 pc (cs.map V.int) := .inl (.inl hA7)
      clear hcs hpc hS5 hS6 hT5 hT6 hE6 hA5
      refine l_it (walk_list (xs := cs.map V.int)) (fun i σ' H' => ∃ v6 v7 v8 v9 : Option V, σ' = [some (.ref l), some (.ref pn), some (.str "abcdefghijklmnopqrstuvwxyz0123456789"), some (.ref pt), v4, some (.ref pc), v6, v7, v8, v9, none] ∧ Ex H7 H') ⟨_, _, _, _, rfl, Evl.Ex.refl _⟩ (fun i σ' H' hi hP => ?_) (fun i x σ' H8 H9 hi hP hY => ?_) (fun σ' H8 hP => ?_)
      · obtain ⟨_, _, _, _, _, hE⟩ := hP
        exact ex_sqL hE hC7
      · obtain ⟨v6, v7, v8, v9, rfl, hE8⟩ := hP
        obtain ⟨rfl, hxi⟩ := hY
        obtain ⟨c, hci, rfl⟩ := intv_get hxi
        have hT8 := ex_sqL hE8 hT7
        walk_at "go"
        rename_i q1 hq1 q2 hq2
        refine g_cat (by walk_at "at") (by walk_at "at") (fits_of (by rw [cutV_to _ (by decide), List.length_take, List.length_map]; simp only [List.length_cons, List.length_nil]; omega)) (fun q3 hq3 => ?_)
        walk_at "go"
        obtain ⟨ks, hks⟩ : ∃ ks : List Str, ks = zs.take 2 ++ [("k-1" : Str)] := ⟨_, rfl⟩
        have hkt : ∀ z ∈ ks, TxtOk z := fun z hz => by
          rw [hks] at hz
          rcases List.mem_append.mp hz with hz | hz
          · exact hzt z (List.mem_of_mem_take hz)
          · rw [List.mem_singleton.mp hz]
            exact ⟨by decide +kernel, by decide +kernel⟩
        refine with_heap (P := LoopOk _ _ _ _ _) (F := fun Hx => Ex H9 Hx ∧ Hx q3 = some (.lst (ks.map V.str))) ⟨(Evl.Ex.new hq1).trans ((Evl.Ex.new hq2).trans (Evl.Ex.new hq3)), by rw [hks, upd_same, cutV_to _ (by decide), List.map_append, List.map_take]; rfl⟩ (fun H10 hF10 => ?_)
        obtain ⟨hE10, hA10⟩ := hF10
        have hT10 := ex_sqL hE10 hT8
        have hK10 : SqL K H10 q3 (ks.map V.str) := .inl (.inl hA10)
        clear hks hq1 hq2 hq3
        refine l_it (walk_list (xs := ks.map V.str)) (fun i σ' H' => ∃ v7 v8 v9 : Option V, σ' = [some (.ref l), some (.ref pn), some (.str "abcdefghijklmnopqrstuvwxyz0123456789"), some (.ref pt), v4, some (.ref pc), some (.int c), v7, v8, v9, none] ∧ Ex H10 H') ⟨_, _, _, rfl, Evl.Ex.refl _⟩ (fun i σ' H' hi hP => ?_) (fun i x σ' H11 H12 hi hP hY => ?_) (fun σ' H11 hP => ?_)
        · obtain ⟨_, _, _, _, hE⟩ := hP
          exact ex_sqL hE hK10
        · obtain ⟨v7, v8, v9, rfl, hE11⟩ := hP
          obtain ⟨rfl, hxi⟩ := hY
          obtain ⟨k, hki, rfl⟩ := strs_get hxi
          have hk := hkt k (List.mem_of_getElem? hki)
          have hkl : k.length ≤ 100000 := Nat.le_trans hk.1 (by decide)
          have hT11 := ex_sqL hE11 hT10
          walk_at "go"
          rename_i q1 hq1 q2 hq2
          have hcut : cutV (zs.map V.str) (some 1) (some 3) = ((zs.map V.str).drop 1).take (3 - 1) := cutV_mid (i := 1) (j := 3) _ (by decide) (by rw [List.length_map]; omega)
          refine g_cat (by walk_at "at") (by walk_at "at") (fits_of (by rw [hcut, List.length_take, List.length_drop, List.length_map]; simp only [List.length_cons, List.length_nil]; omega)) (fun q3 hq3 => ?_)
          walk_at "go"
          obtain ⟨gs, hgs⟩ : ∃ gs : List Str, gs = (zs.drop 1).take 2 ++ [("g" : Str)] := ⟨_, rfl⟩
          have hgt : ∀ z ∈ gs, TxtOk z := fun z hz => by
            rw [hgs] at hz
            rcases List.mem_append.mp hz with hz | hz
            · exact hzt z (List.mem_of_mem_drop (List.mem_of_mem_take hz))
            · rw [List.mem_singleton.mp hz]
              exact ⟨by decide +kernel, by decide +kernel⟩
          refine with_heap (P := LoopOk _ _ _ _ _) (F := fun Hx => Ex H12 Hx ∧ Hx q3 = some (.lst (gs.map V.str))) ⟨(Evl.Ex.new hq1).trans ((Evl.Ex.new hq2).trans (Evl.Ex.new hq3)), by
            rw [hgs, upd_same, hcut, List.map_append, List.map_take, List.map_drop]
            rfl⟩ (fun H13 hF13 => ?_)
          obtain ⟨hE13, hA13⟩ := hF13
          have hG13 : SqL K H13 q3 (gs.map V.str) := .inl (.inl hA13)
          clear hgs hq1 hq2 hq3
          refine l_it (walk_list (xs := gs.map V.str)) (fun i σ' H' => ∃ v8 v9 : Option V, σ' = [some (.ref l), some (.ref pn), some (.str "abcdefghijklmnopqrstuvwxyz0123456789"), some (.ref pt), v4, some (.ref pc), some (.int c), some (.str k), v8, v9, none] ∧ Ex H13 H') ⟨_, _, rfl, Evl.Ex.refl _⟩ (fun i σ' H' hi hP => ?_) (fun i x σ' H14 H15 hi hP hY => ?_) (fun σ' H14 hP => ?_)
          · obtain ⟨_, _, _, hE⟩ := hP
            exact ex_sqL hE hG13
          · obtain ⟨v8, v9, rfl, hE14⟩ := hP
            obtain ⟨rfl, hxi⟩ := hY
            obtain ⟨g, hgi, rfl⟩ := strs_get hxi
            have hg := hgt g (List.mem_of_getElem? hgi)
            have hgl : g.length ≤ 100000 := Nat.le_trans hg.1 (by decide)
            walk_at "go"
            refine ⟨k, _, 20, rfl, hkl, fun H16 hE16 => ?_⟩
            rw [isB_key]
            walk_at "go"
            refine w_ite (fun h1 => ?_) (fun h1 => ?_)
            · walk_at "go"
              refine ⟨g, _, 12, rfl, hgl, fun H17 hE17 => ?_⟩
              rw [isB_name]
              walk_at "go"
              refine w_ite (fun h2 => ?_) (fun h2 => ?_)
              · walk_at "go"
                refine w_dec (fun h3 => ?_) (fun h3 => ?_)
                · walk_at "go"
                  refine ⟨0, k, g, c, rfl, hkl, hgl, .inl ⟨rfl, fun Hb hEb => ?_⟩⟩
                  have hr2 : reqB k g c = decide (c ≤ 1000) := by
                    unfold reqB
                    rw [h1, h2, decide_eq_true h3]
                    rfl
                  walk_at "go"
                  rw [hr2, ne_self]
                  walk_at "go"
                  exact ⟨_, _, rfl, hE14.trans (hE16.trans (hE17.trans hEb))⟩
                · walk_at "go"
                  refine ⟨0, k, g, c, rfl, hkl, hgl, .inl ⟨rfl, fun Hb hEb => ?_⟩⟩
                  have hr2 : reqB k g c = false := by
                    unfold reqB
                    rw [h1, h2, decide_eq_false h3]
                    rfl
                  walk_at "go"
                  rw [hr2, ne_self]
                  walk_at "go"
                  exact ⟨_, _, rfl, hE14.trans (hE16.trans (hE17.trans hEb))⟩
              · walk_at "go"
                refine ⟨0, k, g, c, rfl, hkl, hgl, .inl ⟨rfl, fun Hb hEb => ?_⟩⟩
                have hr2 : reqB k g c = false := by
                  unfold reqB
                  rw [h1, h2]
                  rfl
                walk_at "go"
                rw [hr2, ne_self]
                walk_at "go"
                exact ⟨_, _, rfl, hE14.trans (hE16.trans (hE17.trans hEb))⟩
            · walk_at "go"
              refine ⟨0, k, g, c, rfl, hkl, hgl, .inl ⟨rfl, fun Hb hEb => ?_⟩⟩
              have hr2 : reqB k g c = false := by
                unfold reqB
                rw [h1]
                rfl
              walk_at "go"
              rw [hr2, ne_self]
              walk_at "go"
              exact ⟨_, _, rfl, hE14.trans (hE16.trans hEb)⟩
          · obtain ⟨v8, v9, rfl, hE14⟩ := hP
            exact ⟨_, _, _, rfl, hE11.trans (hE13.trans hE14)⟩
        · obtain ⟨v7, v8, v9, rfl, hE11⟩ := hP
          exact ⟨_, _, _, _, rfl, hE8.trans (hE10.trans hE11)⟩
      · obtain ⟨v6, v7, v8, v9, rfl, hE8⟩ := hP
        have hS8 := ex_sqL hE8 hS7
        have hT8 := ex_sqL hE8 hT7
        have h43 := hn9.at (Int.toNat 43) (show 43 < ns.length by omega)
        have h44 := hn9.at (Int.toNat 44) (show 44 < ns.length by omega)
        have hp0 := Int.mul_nonneg h43.1 h44.1
        have hp1 : ns.getD (Int.toNat 43) 0 * ns.getD (Int.toNat 44) 0 ≤ 1008 * 1008 := Int.mul_le_mul (by omega) (by omega) h44.1 (by decide)
        walk_at "go"
        rename_i pm hpm
        rw [ten9]
        obtain ⟨ms, hms⟩ : ∃ ms : List Int, ms = [0, -1, 1000000000, 1000000000 + 1, ns.getD (Int.toNat 43) 0 * ns.getD (Int.toNat 44) 0 * 1000 - 1000] := ⟨_, rfl⟩
        refine with_heap (P := LoopOk _ _ _ _ _) (F := fun Hx => Ex H8 Hx ∧ Hx pm = some (.lst (ms.map V.int))) ⟨Evl.Ex.new hpm, by rw [hms]; exact upd_same⟩ (fun H9 hF9 => ?_)
        obtain ⟨hE9, hA9⟩ := hF9
        have hM9 : SqL K H9 pm (ms.map V.int) := .inl (.inl hA9)
        have hS9 := ex_sqL hE9 hS8
        have hT9 := ex_sqL hE9 hT8
        clear hms hpm
        refine l_it (walk_list (xs := ms.map V.int)) (fun i σ' H' => ∃ v10 : Option V, σ' = [some (.ref l), some (.ref pn), some (.str "abcdefghijklmnopqrstuvwxyz0123456789"), some (.ref pt), v4, some (.ref pc), v6, v7, v8, v9, v10] ∧ Ex H9 H') ⟨_, rfl, Evl.Ex.refl _⟩ (fun i σ' H' hi hP => ?_) (fun i x σ' H10 H11 hi hP hY => ?_) (fun σ' H10 hP => ?_)
        · obtain ⟨_, _, hE⟩ := hP
          exact ex_sqL hE hM9
        · obtain ⟨v10, rfl, hE10⟩ := hP
          obtain ⟨rfl, hxi⟩ := hY
          obtain ⟨m, hmi, rfl⟩ := intv_get hxi
          walk_at "go"
          refine ⟨1, _, _, m, rfl, Nat.le_of_ble_eq_true rfl, Nat.le_of_ble_eq_true rfl, .inr ⟨rfl, fun Hb hEb => ?_⟩⟩
          walk_at "go"
          refine w_dec (fun h3 => ?_) (fun h3 => ?_)
          · have hr2 : momB m = decide (m ≤ 1000000000) := by
              unfold momB
              rw [decide_eq_true h3]
              rfl
            walk_at "go"
            rw [hr2, ten9, ne_self]
            walk_at "go"
            exact ⟨_, rfl, hE10.trans hEb⟩
          · have hr2 : momB m = false := by
              unfold momB
              rw [decide_eq_false h3]
              rfl
            walk_at "go"
            rw [hr2, ne_self]
            walk_at "go"
            exact ⟨_, rfl, hE10.trans hEb⟩
        · obtain ⟨v10, rfl, hE10⟩ := hP
          have hS10 := ex_sqL hE10 hS9
          have hT10 := ex_sqL hE10 hT9
          obtain ⟨t0, ht0⟩ : ∃ t0, zs[0]? = some t0 := ⟨_, List.getElem?_eq_getElem (by omega)⟩
          walk_at "go"
          refine g_ixL hT10 (v := .str t0) (atI_nat (j := 0) (by rw [List.getElem?_map, ht0]; rfl)) ?_
          walk_at "go"
          refine ⟨t0, _, rfl, hzt t0 (List.mem_of_getElem? ht0), fun H11 hE11 => ?_⟩
          walk_at "go"
          exact q _
theorem all_mk {l : PySem.W.OpenLaw} {w : World} {K : PySem.W.Frag} {h : Heap} {mg : Str → Option Value} {fa f0 f1 f2 f3 f4 f5 f6 f7 f8 f9 f10 f11 f12 : Addr} (X : K.In h) (G : h.Ns mainGlobals mg) (hfa : mg "law" = some (.ref fa))
    {od0 an0 od1 an1 od2 an2 od3 an3 od4 an4 od5 an5 od6 an6 od7 an7 od8 an8 od9 an9 od10 an10 od11 an11 od12 an12 : Option Addr} {sl0 sl1 sl2 sl3 sl4 sl5 sl6 sl7 sl8 sl9 sl10 sl11 sl12 : Array (Option Value)} {oc0 kV0 dc0 pm0 cd0 ct0 oc1 kV1 dc1 pm1 cd1 ct1 oc2 kV2 dc2 pm2 cd2 ct2 oc3 kV3 dc3 pm3 cd3 ct3 oc4 kV4 dc4 pm4 cd4 ct4 oc5 kV5 dc5 pm5 cd5 ct5 oc6 kV6 dc6 pm6 cd6 ct6 oc7 kV7 dc7 pm7 cd7 ct7 oc8 kV8 dc8 pm8 cd8 ct8 oc9 kV9 dc9 pm9 cd9 ct9 oc10 kV10 dc10 pm10 cd10 ct10 oc11 kV11 dc11 pm11 cd11 ct11 oc12 kV12 dc12 pm12 cd12 ct12 : Value}
    (a0 : PySem.W.nsIn K mainGlobals "is_name" = some (some (.ref f0))) (l0 : K.lookup f0 = some ⟨oc0, od0, .func (PySem.W.fnOf "is_name" "is_name" (defArgs s_is_name) (defBody s_is_name) (defScope s_is_name) .none kV0 dc0 pm0 an0 cd0 ct0), sl0⟩) (c0 : PySem.W.codeIn K cd0 "is_name" = true) (k0 : PySem.W.keepIn K (.ref f0) = true)
    (a1 : PySem.W.nsIn K mainGlobals "is_key" = some (some (.ref f1))) (l1 : K.lookup f1 = some ⟨oc1, od1, .func (PySem.W.fnOf "is_key" "is_key" (defArgs s_is_key) (defBody s_is_key) (defScope s_is_key) .none kV1 dc1 pm1 an1 cd1 ct1), sl1⟩) (c1 : PySem.W.codeIn K cd1 "is_key" = true) (k1 : PySem.W.keepIn K (.ref f1) = true)
    (a2 : PySem.W.nsIn K mainGlobals "check_request" = some (some (.ref f2))) (l2 : K.lookup f2 = some ⟨oc2, od2, .func (PySem.W.fnOf "check_request" "check_request" (defArgs s_check_request) (defBody s_check_request) (defScope s_check_request) .none kV2 dc2 pm2 an2 cd2 ct2), sl2⟩) (c2 : PySem.W.codeIn K cd2 "check_request" = true) (k2 : PySem.W.keepIn K (.ref f2) = true)
    (a3 : PySem.W.nsIn K mainGlobals "check_moment" = some (some (.ref f3))) (l3 : K.lookup f3 = some ⟨oc3, od3, .func (PySem.W.fnOf "check_moment" "check_moment" (defArgs s_check_moment) (defBody s_check_moment) (defScope s_check_moment) .none kV3 dc3 pm3 an3 cd3 ct3), sl3⟩) (c3 : PySem.W.codeIn K cd3 "check_moment" = true) (k3 : PySem.W.keepIn K (.ref f3) = true)
    (a4 : PySem.W.nsIn K mainGlobals "_law_row" = some (some (.ref f4))) (l4 : K.lookup f4 = some ⟨oc4, od4, .func (PySem.W.fnOf "_law_row" "_law_row" (defArgs s__law_row) (defBody s__law_row) (defScope s__law_row) .none kV4 dc4 pm4 an4 cd4 ct4), sl4⟩) (c4 : PySem.W.codeIn K cd4 "_law_row" = true) (k4 : PySem.W.keepIn K (.ref f4) = true)
    (a5 : PySem.W.nsIn K mainGlobals "_law_numbers" = some (some (.ref f5))) (l5 : K.lookup f5 = some ⟨oc5, od5, .func (PySem.W.fnOf "_law_numbers" "_law_numbers" (defArgs s__law_numbers) (defBody s__law_numbers) (defScope s__law_numbers) .none kV5 dc5 pm5 an5 cd5 ct5), sl5⟩) (c5 : PySem.W.codeIn K cd5 "_law_numbers" = true) (k5 : PySem.W.keepIn K (.ref f5) = true)
    (a6 : PySem.W.nsIn K mainGlobals "_law_text" = some (some (.ref f6))) (l6 : K.lookup f6 = some ⟨oc6, od6, .func (PySem.W.fnOf "_law_text" "_law_text" (defArgs s__law_text) (defBody s__law_text) (defScope s__law_text) .none kV6 dc6 pm6 an6 cd6 ct6), sl6⟩) (c6 : PySem.W.codeIn K cd6 "_law_text" = true) (k6 : PySem.W.keepIn K (.ref f6) = true)
    (a7 : PySem.W.nsIn K mainGlobals "_law_is" = some (some (.ref f7))) (l7 : K.lookup f7 = some ⟨oc7, od7, .func (PySem.W.fnOf "_law_is" "_law_is" (defArgs s__law_is) (defBody s__law_is) (defScope s__law_is) .none kV7 dc7 pm7 an7 cd7 ct7), sl7⟩) (c7 : PySem.W.codeIn K cd7 "_law_is" = true) (k7 : PySem.W.keepIn K (.ref f7) = true)
    (a8 : PySem.W.nsIn K mainGlobals "_law_says" = some (some (.ref f8))) (l8 : K.lookup f8 = some ⟨oc8, od8, .func (PySem.W.fnOf "_law_says" "_law_says" (defArgs s__law_says) (defBody s__law_says) (defScope s__law_says) .none kV8 dc8 pm8 an8 cd8 ct8), sl8⟩) (c8 : PySem.W.codeIn K cd8 "_law_says" = true) (k8 : PySem.W.keepIn K (.ref f8) = true)
    (a9 : PySem.W.nsIn K mainGlobals "_law_refuses" = some (some (.ref f9))) (l9 : K.lookup f9 = some ⟨oc9, od9, .func (PySem.W.fnOf "_law_refuses" "_law_refuses" (defArgs s__law_refuses) (defBody s__law_refuses) (defScope s__law_refuses) .none kV9 dc9 pm9 an9 cd9 ct9), sl9⟩) (c9 : PySem.W.codeIn K cd9 "_law_refuses" = true) (k9 : PySem.W.keepIn K (.ref f9) = true)
    (a10 : PySem.W.nsIn K mainGlobals "_law_kinds" = some (some (.ref f10))) (l10 : K.lookup f10 = some ⟨oc10, od10, .func (PySem.W.fnOf "_law_kinds" "_law_kinds" (defArgs s__law_kinds) (defBody s__law_kinds) (defScope s__law_kinds) .none kV10 dc10 pm10 an10 cd10 ct10), sl10⟩) (c10 : PySem.W.codeIn K cd10 "_law_kinds" = true) (k10 : PySem.W.keepIn K (.ref f10) = true)
    (a11 : PySem.W.nsIn K mainGlobals "_law_classes" = some (some (.ref f11))) (l11 : K.lookup f11 = some ⟨oc11, od11, .func (PySem.W.fnOf "_law_classes" "_law_classes" (defArgs s__law_classes) (defBody s__law_classes) (defScope s__law_classes) .none kV11 dc11 pm11 an11 cd11 ct11), sl11⟩) (c11 : PySem.W.codeIn K cd11 "_law_classes" = true) (k11 : PySem.W.keepIn K (.ref f11) = true)
    (a12 : PySem.W.nsIn K mainGlobals "law" = some (some (.ref f12))) (l12 : K.lookup f12 = some ⟨oc12, od12, .func (PySem.W.fnOf "law" "law" (defArgs s_law) (defBody s_law) (defScope s_law) .none kV12 dc12 pm12 an12 cd12 ct12), sl12⟩) (c12 : PySem.W.codeIn K cd12 "law" = true) (k12 : PySem.W.keepIn K (.ref f12) = true)
    (z_ValueError : PySem.W.nsIn K mainGlobals "ValueError" = some none)
    (z_abs : PySem.W.nsIn K mainGlobals "abs" = some none)
    (z_all : PySem.W.nsIn K mainGlobals "all" = some none)
    (z_int : PySem.W.nsIn K mainGlobals "int" = some none)
    (z_isinstance : PySem.W.nsIn K mainGlobals "isinstance" = some none)
    (z_len : PySem.W.nsIn K mainGlobals "len" = some none)
    (z_max : PySem.W.nsIn K mainGlobals "max" = some none)
    (z_range : PySem.W.nsIn K mainGlobals "range" = some none)
    {t_LETTERS : Tok} (y_LETTERS : PySem.W.nsIn K mainGlobals "LETTERS" = some (some (.str "abcdefghijklmnopqrstuvwxyz0123456789" t_LETTERS)))
    {t_MOST_MOMENT : Tok} (y_MOST_MOMENT : PySem.W.nsIn K mainGlobals "MOST_MOMENT" = some (some (.int 1000000000 t_MOST_MOMENT)))
    {C0 ci0 B0 N_0 cda0 cc0 : Addr} {q_0 : Str} {bs_0 sub_0 : List Value} {sn_0 : List Str} {ab_0 : Bool} {col_0 : Option Bool} {dd_0 : Option Addr} {m0_0 m1_0 m2_0 m3_0 m5_0 : Option Value}
    {ec0 edc0 epm0 ect0 ecc0 ecl0 : Value} {eod0 ean0 ecd0 eld0 : Option Addr} {esl0 ecs0 els0 : Array (Option Value)} {evs0 : Array Value} {etf0 : Tok}
    (aC0 : PySem.W.nsIn K mainGlobals "UnknownName" = some (some (.ref C0)))
    (xL0 : K.lookup C0 = some (excClassObj "UnknownName" q_0 C0 N_0 bs_0 [.ref B0, .type "ValueError", .type "Exception", .type "BaseException", .type "object"] true sn_0 sub_0 ab_0 col_0 dd_0 m0_0 m1_0 m2_0 m3_0 m5_0 "ValueError.__new__"))
    (sa0 : PySem.W.findIn K (.ref C0) "__setattr__" = some (some (.builtin "object.__setattr__")))
    (ga0 : PySem.W.findIn K (.ref C0) "__getattribute__" = some (some (.builtin "BaseException.__getattribute__")))
    (gg0 : PySem.W.findIn K (.ref C0) "__getattr__" = some none)
    (nb0 : PySem.W.findIn K (.ref C0) "name" = some none)
    (iI0 : PySem.W.findIn K (.ref C0) "__init__" = some (some (.ref ci0)))
    (tI0 : PySem.W.typeIn K (.ref ci0) = some (.type "function"))
    (lI0 : K.lookup ci0 = some ⟨ec0, eod0, .func (PySem.W.ksFn "__init__" "UnknownName.__init__" (PySem.LwX.xA "name" ⟨26, 17, 26, 21⟩ ⟨26, 23, 26, 27⟩) (PySem.LwX.xB "a name is not known" "name" 0 ⟨27, 8, 27, 13⟩ ⟨27, 8, 27, 15⟩ ⟨27, 8, 27, 24⟩ ⟨27, 25, 27, 46⟩ ⟨27, 8, 27, 47⟩ ⟨27, 8, 27, 47⟩ ⟨28, 8, 28, 12⟩ ⟨28, 8, 28, 17⟩ ⟨28, 20, 28, 24⟩ ⟨28, 8, 28, 24⟩) (PySem.LwX.xS "name") .none .none edc0 epm0 ean0 (.ref cda0) ect0 cc0), esl0⟩)
    (cI0 : PySem.W.codeIn K (.ref cda0) "UnknownName.__init__" = true)
    (dI0 : K.lookup cda0 = some ⟨ecc0, ecd0, .fields evs0, ecs0⟩)
    (vI0 : evs0[2]? = some (.str l.prog.main.file etf0))
    (eI0 : K.lookup cc0 = some ⟨ecl0, eld0, .cell (some (.ref C0)), els0⟩)
    (kC0 : PySem.W.keepIn K (.ref C0) = true)
    (eC0 : PySem.W.subIn K (.ref C0) (.type "BaseException") = some true)
    (vC0 : PySem.W.subIn K (.ref C0) (.type "ValueError") = some true)
    (mC0 : PySem.W.mroIn K C0 (.ref C0) = some true)
    (tC0 : PySem.W.typeIn K (.ref C0) = some (.type "type"))
    (hC0 : PySem.W.hasDictIn K C0 = true)
    (iC0 : PySem.W.isClsIn K C0 = true)
    (sC0 : PySem.W.subIn K (.ref C0) (.ref C0) = some true)
    (su0 : PySem.W.ks_superIn K C0 C0 "__init__" = some (some (.builtin "ValueError.__init__")))
    (ha0 : PySem.W.findIn K (.ref C0) "__class__" = some (some (.builtin "object.__class__")))
    (hm0 : PySem.W.mroIn K C0 (.type "object") = some true)
    {C1 ci1 B1 N_1 cda1 cc1 : Addr} {q_1 : Str} {bs_1 sub_1 : List Value} {sn_1 : List Str} {ab_1 : Bool} {col_1 : Option Bool} {dd_1 : Option Addr} {m0_1 m1_1 m2_1 m3_1 m5_1 : Option Value}
    {ec1 edc1 epm1 ect1 ecc1 ecl1 : Value} {eod1 ean1 ecd1 eld1 : Option Addr} {esl1 ecs1 els1 : Array (Option Value)} {evs1 : Array Value} {etf1 : Tok}
    (aC1 : PySem.W.nsIn K mainGlobals "NameTaken" = some (some (.ref C1)))
    (xL1 : K.lookup C1 = some (excClassObj "NameTaken" q_1 C1 N_1 bs_1 [.ref B1, .type "ValueError", .type "Exception", .type "BaseException", .type "object"] true sn_1 sub_1 ab_1 col_1 dd_1 m0_1 m1_1 m2_1 m3_1 m5_1 "ValueError.__new__"))
    (sa1 : PySem.W.findIn K (.ref C1) "__setattr__" = some (some (.builtin "object.__setattr__")))
    (ga1 : PySem.W.findIn K (.ref C1) "__getattribute__" = some (some (.builtin "BaseException.__getattribute__")))
    (gg1 : PySem.W.findIn K (.ref C1) "__getattr__" = some none)
    (nb1 : PySem.W.findIn K (.ref C1) "name" = some none)
    (iI1 : PySem.W.findIn K (.ref C1) "__init__" = some (some (.ref ci1)))
    (tI1 : PySem.W.typeIn K (.ref ci1) = some (.type "function"))
    (lI1 : K.lookup ci1 = some ⟨ec1, eod1, .func (PySem.W.ksFn "__init__" "NameTaken.__init__" (PySem.LwX.xA "name" ⟨31, 17, 31, 21⟩ ⟨31, 23, 31, 27⟩) (PySem.LwX.xB "a name is taken" "name" 0 ⟨32, 8, 32, 13⟩ ⟨32, 8, 32, 15⟩ ⟨32, 8, 32, 24⟩ ⟨32, 25, 32, 42⟩ ⟨32, 8, 32, 43⟩ ⟨32, 8, 32, 43⟩ ⟨33, 8, 33, 12⟩ ⟨33, 8, 33, 17⟩ ⟨33, 20, 33, 24⟩ ⟨33, 8, 33, 24⟩) (PySem.LwX.xS "name") .none .none edc1 epm1 ean1 (.ref cda1) ect1 cc1), esl1⟩)
    (cI1 : PySem.W.codeIn K (.ref cda1) "NameTaken.__init__" = true)
    (dI1 : K.lookup cda1 = some ⟨ecc1, ecd1, .fields evs1, ecs1⟩)
    (vI1 : evs1[2]? = some (.str l.prog.main.file etf1))
    (eI1 : K.lookup cc1 = some ⟨ecl1, eld1, .cell (some (.ref C1)), els1⟩)
    (kC1 : PySem.W.keepIn K (.ref C1) = true)
    (eC1 : PySem.W.subIn K (.ref C1) (.type "BaseException") = some true)
    (vC1 : PySem.W.subIn K (.ref C1) (.type "ValueError") = some true)
    (mC1 : PySem.W.mroIn K C1 (.ref C1) = some true)
    (tC1 : PySem.W.typeIn K (.ref C1) = some (.type "type"))
    (hC1 : PySem.W.hasDictIn K C1 = true)
    (iC1 : PySem.W.isClsIn K C1 = true)
    (sC1 : PySem.W.subIn K (.ref C1) (.ref C1) = some true)
    (su1 : PySem.W.ks_superIn K C1 C1 "__init__" = some (some (.builtin "ValueError.__init__")))
    (ha1 : PySem.W.findIn K (.ref C1) "__class__" = some (some (.builtin "object.__class__")))
    (hm1 : PySem.W.mroIn K C1 (.type "object") = some true)
    {C2 ci2 B2 N_2 cda2 cc2 : Addr} {q_2 : Str} {bs_2 sub_2 : List Value} {sn_2 : List Str} {ab_2 : Bool} {col_2 : Option Bool} {dd_2 : Option Addr} {m0_2 m1_2 m2_2 m3_2 m5_2 : Option Value}
    {ec2 edc2 epm2 ect2 ecc2 ecl2 : Value} {eod2 ean2 ecd2 eld2 : Option Addr} {esl2 ecs2 els2 : Array (Option Value)} {evs2 : Array Value} {etf2 : Tok}
    (aC2 : PySem.W.nsIn K mainGlobals "KeyKnown" = some (some (.ref C2)))
    (xL2 : K.lookup C2 = some (excClassObj "KeyKnown" q_2 C2 N_2 bs_2 [.ref B2, .type "ValueError", .type "Exception", .type "BaseException", .type "object"] true sn_2 sub_2 ab_2 col_2 dd_2 m0_2 m1_2 m2_2 m3_2 m5_2 "ValueError.__new__"))
    (sa2 : PySem.W.findIn K (.ref C2) "__setattr__" = some (some (.builtin "object.__setattr__")))
    (ga2 : PySem.W.findIn K (.ref C2) "__getattribute__" = some (some (.builtin "BaseException.__getattribute__")))
    (gg2 : PySem.W.findIn K (.ref C2) "__getattr__" = some none)
    (nb2 : PySem.W.findIn K (.ref C2) "key" = some none)
    (iI2 : PySem.W.findIn K (.ref C2) "__init__" = some (some (.ref ci2)))
    (tI2 : PySem.W.typeIn K (.ref ci2) = some (.type "function"))
    (lI2 : K.lookup ci2 = some ⟨ec2, eod2, .func (PySem.W.ksFn "__init__" "KeyKnown.__init__" (PySem.LwX.xA "key" ⟨36, 17, 36, 21⟩ ⟨36, 23, 36, 26⟩) (PySem.LwX.xB "a key was asked before" "key" 0 ⟨37, 8, 37, 13⟩ ⟨37, 8, 37, 15⟩ ⟨37, 8, 37, 24⟩ ⟨37, 25, 37, 49⟩ ⟨37, 8, 37, 50⟩ ⟨37, 8, 37, 50⟩ ⟨38, 8, 38, 12⟩ ⟨38, 8, 38, 16⟩ ⟨38, 19, 38, 22⟩ ⟨38, 8, 38, 22⟩) (PySem.LwX.xS "key") .none .none edc2 epm2 ean2 (.ref cda2) ect2 cc2), esl2⟩)
    (cI2 : PySem.W.codeIn K (.ref cda2) "KeyKnown.__init__" = true)
    (dI2 : K.lookup cda2 = some ⟨ecc2, ecd2, .fields evs2, ecs2⟩)
    (vI2 : evs2[2]? = some (.str l.prog.main.file etf2))
    (eI2 : K.lookup cc2 = some ⟨ecl2, eld2, .cell (some (.ref C2)), els2⟩)
    (kC2 : PySem.W.keepIn K (.ref C2) = true)
    (eC2 : PySem.W.subIn K (.ref C2) (.type "BaseException") = some true)
    (vC2 : PySem.W.subIn K (.ref C2) (.type "ValueError") = some true)
    (mC2 : PySem.W.mroIn K C2 (.ref C2) = some true)
    (tC2 : PySem.W.typeIn K (.ref C2) = some (.type "type"))
    (hC2 : PySem.W.hasDictIn K C2 = true)
    (iC2 : PySem.W.isClsIn K C2 = true)
    (sC2 : PySem.W.subIn K (.ref C2) (.ref C2) = some true)
    (su2 : PySem.W.ks_superIn K C2 C2 "__init__" = some (some (.builtin "ValueError.__init__")))
    (ha2 : PySem.W.findIn K (.ref C2) "__class__" = some (some (.builtin "object.__class__")))
    (hm2 : PySem.W.mroIn K C2 (.type "object") = some true)
    {C3 ci3 B3 N_3 cda3 cc3 : Addr} {q_3 : Str} {bs_3 sub_3 : List Value} {sn_3 : List Str} {ab_3 : Bool} {col_3 : Option Bool} {dd_3 : Option Addr} {m0_3 m1_3 m2_3 m3_3 m5_3 : Option Value}
    {ec3 edc3 epm3 ect3 ecc3 ecl3 : Value} {eod3 ean3 ecd3 eld3 : Option Addr} {esl3 ecs3 els3 : Array (Option Value)} {evs3 : Array Value} {etf3 : Tok}
    (aC3 : PySem.W.nsIn K mainGlobals "UnknownKey" = some (some (.ref C3)))
    (xL3 : K.lookup C3 = some (excClassObj "UnknownKey" q_3 C3 N_3 bs_3 [.ref B3, .type "ValueError", .type "Exception", .type "BaseException", .type "object"] true sn_3 sub_3 ab_3 col_3 dd_3 m0_3 m1_3 m2_3 m3_3 m5_3 "ValueError.__new__"))
    (sa3 : PySem.W.findIn K (.ref C3) "__setattr__" = some (some (.builtin "object.__setattr__")))
    (ga3 : PySem.W.findIn K (.ref C3) "__getattribute__" = some (some (.builtin "BaseException.__getattribute__")))
    (gg3 : PySem.W.findIn K (.ref C3) "__getattr__" = some none)
    (nb3 : PySem.W.findIn K (.ref C3) "key" = some none)
    (iI3 : PySem.W.findIn K (.ref C3) "__init__" = some (some (.ref ci3)))
    (tI3 : PySem.W.typeIn K (.ref ci3) = some (.type "function"))
    (lI3 : K.lookup ci3 = some ⟨ec3, eod3, .func (PySem.W.ksFn "__init__" "UnknownKey.__init__" (PySem.LwX.xA "key" ⟨41, 17, 41, 21⟩ ⟨41, 23, 41, 26⟩) (PySem.LwX.xB "a key is not known" "key" 0 ⟨42, 8, 42, 13⟩ ⟨42, 8, 42, 15⟩ ⟨42, 8, 42, 24⟩ ⟨42, 25, 42, 45⟩ ⟨42, 8, 42, 46⟩ ⟨42, 8, 42, 46⟩ ⟨43, 8, 43, 12⟩ ⟨43, 8, 43, 16⟩ ⟨43, 19, 43, 22⟩ ⟨43, 8, 43, 22⟩) (PySem.LwX.xS "key") .none .none edc3 epm3 ean3 (.ref cda3) ect3 cc3), esl3⟩)
    (cI3 : PySem.W.codeIn K (.ref cda3) "UnknownKey.__init__" = true)
    (dI3 : K.lookup cda3 = some ⟨ecc3, ecd3, .fields evs3, ecs3⟩)
    (vI3 : evs3[2]? = some (.str l.prog.main.file etf3))
    (eI3 : K.lookup cc3 = some ⟨ecl3, eld3, .cell (some (.ref C3)), els3⟩)
    (kC3 : PySem.W.keepIn K (.ref C3) = true)
    (eC3 : PySem.W.subIn K (.ref C3) (.type "BaseException") = some true)
    (vC3 : PySem.W.subIn K (.ref C3) (.type "ValueError") = some true)
    (mC3 : PySem.W.mroIn K C3 (.ref C3) = some true)
    (tC3 : PySem.W.typeIn K (.ref C3) = some (.type "type"))
    (hC3 : PySem.W.hasDictIn K C3 = true)
    (iC3 : PySem.W.isClsIn K C3 = true)
    (sC3 : PySem.W.subIn K (.ref C3) (.ref C3) = some true)
    (su3 : PySem.W.ks_superIn K C3 C3 "__init__" = some (some (.builtin "ValueError.__init__")))
    (ha3 : PySem.W.findIn K (.ref C3) "__class__" = some (some (.builtin "object.__class__")))
    (hm3 : PySem.W.mroIn K C3 (.type "object") = some true)
    {C4 ci4 B4 N_4 cda4 cc4 : Addr} {q_4 : Str} {bs_4 sub_4 : List Value} {sn_4 : List Str} {ab_4 : Bool} {col_4 : Option Bool} {dd_4 : Option Addr} {m0_4 m1_4 m2_4 m3_4 m5_4 : Option Value}
    {ec4 edc4 epm4 ect4 ecc4 ecl4 : Value} {eod4 ean4 ecd4 eld4 : Option Addr} {esl4 ecs4 els4 : Array (Option Value)} {evs4 : Array Value} {etf4 : Tok}
    (aC4 : PySem.W.nsIn K mainGlobals "EarlierMoment" = some (some (.ref C4)))
    (xL4 : K.lookup C4 = some (excClassObj "EarlierMoment" q_4 C4 N_4 bs_4 [.ref B4, .type "ValueError", .type "Exception", .type "BaseException", .type "object"] true sn_4 sub_4 ab_4 col_4 dd_4 m0_4 m1_4 m2_4 m3_4 m5_4 "ValueError.__new__"))
    (sa4 : PySem.W.findIn K (.ref C4) "__setattr__" = some (some (.builtin "object.__setattr__")))
    (ga4 : PySem.W.findIn K (.ref C4) "__getattribute__" = some (some (.builtin "BaseException.__getattribute__")))
    (gg4 : PySem.W.findIn K (.ref C4) "__getattr__" = some none)
    (nb4 : PySem.W.findIn K (.ref C4) "moment" = some none)
    (iI4 : PySem.W.findIn K (.ref C4) "__init__" = some (some (.ref ci4)))
    (tI4 : PySem.W.typeIn K (.ref ci4) = some (.type "function"))
    (lI4 : K.lookup ci4 = some ⟨ec4, eod4, .func (PySem.W.ksFn "__init__" "EarlierMoment.__init__" (PySem.LwX.xA "moment" ⟨46, 17, 46, 21⟩ ⟨46, 23, 46, 29⟩) (PySem.LwX.xB "a moment is less than the one before it" "moment" 0 ⟨47, 8, 47, 13⟩ ⟨47, 8, 47, 15⟩ ⟨47, 8, 47, 24⟩ ⟨47, 25, 47, 66⟩ ⟨47, 8, 47, 67⟩ ⟨47, 8, 47, 67⟩ ⟨48, 8, 48, 12⟩ ⟨48, 8, 48, 19⟩ ⟨48, 22, 48, 28⟩ ⟨48, 8, 48, 28⟩) (PySem.LwX.xS "moment") .none .none edc4 epm4 ean4 (.ref cda4) ect4 cc4), esl4⟩)
    (cI4 : PySem.W.codeIn K (.ref cda4) "EarlierMoment.__init__" = true)
    (dI4 : K.lookup cda4 = some ⟨ecc4, ecd4, .fields evs4, ecs4⟩)
    (vI4 : evs4[2]? = some (.str l.prog.main.file etf4))
    (eI4 : K.lookup cc4 = some ⟨ecl4, eld4, .cell (some (.ref C4)), els4⟩)
    (kC4 : PySem.W.keepIn K (.ref C4) = true)
    (eC4 : PySem.W.subIn K (.ref C4) (.type "BaseException") = some true)
    (vC4 : PySem.W.subIn K (.ref C4) (.type "ValueError") = some true)
    (mC4 : PySem.W.mroIn K C4 (.ref C4) = some true)
    (tC4 : PySem.W.typeIn K (.ref C4) = some (.type "type"))
    (hC4 : PySem.W.hasDictIn K C4 = true)
    (iC4 : PySem.W.isClsIn K C4 = true)
    (sC4 : PySem.W.subIn K (.ref C4) (.ref C4) = some true)
    (su4 : PySem.W.ks_superIn K C4 C4 "__init__" = some (some (.builtin "ValueError.__init__")))
    (ha4 : PySem.W.findIn K (.ref C4) "__class__" = some (some (.builtin "object.__class__")))
    (hm4 : PySem.W.mroIn K C4 (.type "object") = some true)
    {C5 ci5 B5 N_5 cda5 cc5 : Addr} {q_5 : Str} {bs_5 sub_5 : List Value} {sn_5 : List Str} {ab_5 : Bool} {col_5 : Option Bool} {dd_5 : Option Addr} {m0_5 m1_5 m2_5 m3_5 m5_5 : Option Value}
    {ec5 edc5 epm5 ect5 ecc5 ecl5 : Value} {eod5 ean5 ecd5 eld5 : Option Addr} {esl5 ecs5 els5 : Array (Option Value)} {evs5 : Array Value} {etf5 : Tok}
    (aC5 : PySem.W.nsIn K mainGlobals "InvalidNotation" = some (some (.ref C5)))
    (xL5 : K.lookup C5 = some (excClassObj "InvalidNotation" q_5 C5 N_5 bs_5 [.ref B5, .type "ValueError", .type "Exception", .type "BaseException", .type "object"] true sn_5 sub_5 ab_5 col_5 dd_5 m0_5 m1_5 m2_5 m3_5 m5_5 "ValueError.__new__"))
    (sa5 : PySem.W.findIn K (.ref C5) "__setattr__" = some (some (.builtin "object.__setattr__")))
    (ga5 : PySem.W.findIn K (.ref C5) "__getattribute__" = some (some (.builtin "BaseException.__getattribute__")))
    (gg5 : PySem.W.findIn K (.ref C5) "__getattr__" = some none)
    (nb5 : PySem.W.findIn K (.ref C5) "line" = some none)
    (iI5 : PySem.W.findIn K (.ref C5) "__init__" = some (some (.ref ci5)))
    (tI5 : PySem.W.typeIn K (.ref ci5) = some (.type "function"))
    (lI5 : K.lookup ci5 = some ⟨ec5, eod5, .func (PySem.W.ksFn "__init__" "InvalidNotation.__init__" (PySem.LwX.xA "line" ⟨51, 17, 51, 21⟩ ⟨51, 23, 51, 27⟩) (PySem.LwX.xB "a line of a text is wrong" "line" 0 ⟨52, 8, 52, 13⟩ ⟨52, 8, 52, 15⟩ ⟨52, 8, 52, 24⟩ ⟨52, 25, 52, 52⟩ ⟨52, 8, 52, 53⟩ ⟨52, 8, 52, 53⟩ ⟨53, 8, 53, 12⟩ ⟨53, 8, 53, 17⟩ ⟨53, 20, 53, 24⟩ ⟨53, 8, 53, 24⟩) (PySem.LwX.xS "line") .none .none edc5 epm5 ean5 (.ref cda5) ect5 cc5), esl5⟩)
    (cI5 : PySem.W.codeIn K (.ref cda5) "InvalidNotation.__init__" = true)
    (dI5 : K.lookup cda5 = some ⟨ecc5, ecd5, .fields evs5, ecs5⟩)
    (vI5 : evs5[2]? = some (.str l.prog.main.file etf5))
    (eI5 : K.lookup cc5 = some ⟨ecl5, eld5, .cell (some (.ref C5)), els5⟩)
    (kC5 : PySem.W.keepIn K (.ref C5) = true)
    (eC5 : PySem.W.subIn K (.ref C5) (.type "BaseException") = some true)
    (vC5 : PySem.W.subIn K (.ref C5) (.type "ValueError") = some true)
    (mC5 : PySem.W.mroIn K C5 (.ref C5) = some true)
    (tC5 : PySem.W.typeIn K (.ref C5) = some (.type "type"))
    (hC5 : PySem.W.hasDictIn K C5 = true)
    (iC5 : PySem.W.isClsIn K C5 = true)
    (sC5 : PySem.W.subIn K (.ref C5) (.ref C5) = some true)
    (su5 : PySem.W.ks_superIn K C5 C5 "__init__" = some (some (.builtin "ValueError.__init__")))
    (ha5 : PySem.W.findIn K (.ref C5) "__class__" = some (some (.builtin "object.__class__")))
    (hm5 : PySem.W.mroIn K C5 (.type "object") = some true)
    {C6 ci6 B6 N_6 cda6 cc6 : Addr} {q_6 : Str} {bs_6 sub_6 : List Value} {sn_6 : List Str} {ab_6 : Bool} {col_6 : Option Bool} {dd_6 : Option Addr} {m0_6 m1_6 m2_6 m3_6 m5_6 : Option Value}
    {ec6 edc6 epm6 ect6 ecc6 ecl6 : Value} {eod6 ean6 ecd6 eld6 : Option Addr} {esl6 ecs6 els6 : Array (Option Value)} {evs6 : Array Value} {etf6 : Tok}
    (aC6 : PySem.W.nsIn K mainGlobals "InvalidEntry" = some (some (.ref C6)))
    (xL6 : K.lookup C6 = some (excClassObj "InvalidEntry" q_6 C6 N_6 bs_6 [.ref B6, .type "ValueError", .type "Exception", .type "BaseException", .type "object"] true sn_6 sub_6 ab_6 col_6 dd_6 m0_6 m1_6 m2_6 m3_6 m5_6 "ValueError.__new__"))
    (sa6 : PySem.W.findIn K (.ref C6) "__setattr__" = some (some (.builtin "object.__setattr__")))
    (ga6 : PySem.W.findIn K (.ref C6) "__getattribute__" = some (some (.builtin "BaseException.__getattribute__")))
    (gg6 : PySem.W.findIn K (.ref C6) "__getattr__" = some none)
    (nb6 : PySem.W.findIn K (.ref C6) "number" = some none)
    (iI6 : PySem.W.findIn K (.ref C6) "__init__" = some (some (.ref ci6)))
    (tI6 : PySem.W.typeIn K (.ref ci6) = some (.type "function"))
    (lI6 : K.lookup ci6 = some ⟨ec6, eod6, .func (PySem.W.ksFn "__init__" "InvalidEntry.__init__" (PySem.LwX.xA "number" ⟨56, 17, 56, 21⟩ ⟨56, 23, 56, 29⟩) (PySem.LwX.xB "an entry of a row is wrong" "number" 0 ⟨57, 8, 57, 13⟩ ⟨57, 8, 57, 15⟩ ⟨57, 8, 57, 24⟩ ⟨57, 25, 57, 53⟩ ⟨57, 8, 57, 54⟩ ⟨57, 8, 57, 54⟩ ⟨58, 8, 58, 12⟩ ⟨58, 8, 58, 19⟩ ⟨58, 22, 58, 28⟩ ⟨58, 8, 58, 28⟩) (PySem.LwX.xS "number") .none .none edc6 epm6 ean6 (.ref cda6) ect6 cc6), esl6⟩)
    (cI6 : PySem.W.codeIn K (.ref cda6) "InvalidEntry.__init__" = true)
    (dI6 : K.lookup cda6 = some ⟨ecc6, ecd6, .fields evs6, ecs6⟩)
    (vI6 : evs6[2]? = some (.str l.prog.main.file etf6))
    (eI6 : K.lookup cc6 = some ⟨ecl6, eld6, .cell (some (.ref C6)), els6⟩)
    (kC6 : PySem.W.keepIn K (.ref C6) = true)
    (eC6 : PySem.W.subIn K (.ref C6) (.type "BaseException") = some true)
    (vC6 : PySem.W.subIn K (.ref C6) (.type "ValueError") = some true)
    (mC6 : PySem.W.mroIn K C6 (.ref C6) = some true)
    (tC6 : PySem.W.typeIn K (.ref C6) = some (.type "type"))
    (hC6 : PySem.W.hasDictIn K C6 = true)
    (iC6 : PySem.W.isClsIn K C6 = true)
    (sC6 : PySem.W.subIn K (.ref C6) (.ref C6) = some true)
    (su6 : PySem.W.ks_superIn K C6 C6 "__init__" = some (some (.builtin "ValueError.__init__")))
    (ha6 : PySem.W.findIn K (.ref C6) "__class__" = some (some (.builtin "object.__class__")))
    (hm6 : PySem.W.mroIn K C6 (.type "object") = some true)
    {C7 ci7 B7 N_7 cda7 cc7 : Addr} {q_7 : Str} {bs_7 sub_7 : List Value} {sn_7 : List Str} {ab_7 : Bool} {col_7 : Option Bool} {dd_7 : Option Addr} {m0_7 m1_7 m2_7 m3_7 m5_7 : Option Value}
    {ec7 edc7 epm7 ect7 ecc7 ecl7 : Value} {eod7 ean7 ecd7 eld7 : Option Addr} {esl7 ecs7 els7 : Array (Option Value)} {evs7 : Array Value} {etf7 : Tok}
    (aC7 : PySem.W.nsIn K mainGlobals "UnknownLetter" = some (some (.ref C7)))
    (xL7 : K.lookup C7 = some (excClassObj "UnknownLetter" q_7 C7 N_7 bs_7 [.ref B7, .type "ValueError", .type "Exception", .type "BaseException", .type "object"] true sn_7 sub_7 ab_7 col_7 dd_7 m0_7 m1_7 m2_7 m3_7 m5_7 "ValueError.__new__"))
    (sa7 : PySem.W.findIn K (.ref C7) "__setattr__" = some (some (.builtin "object.__setattr__")))
    (ga7 : PySem.W.findIn K (.ref C7) "__getattribute__" = some (some (.builtin "BaseException.__getattribute__")))
    (gg7 : PySem.W.findIn K (.ref C7) "__getattr__" = some none)
    (nb7 : PySem.W.findIn K (.ref C7) "number" = some none)
    (iI7 : PySem.W.findIn K (.ref C7) "__init__" = some (some (.ref ci7)))
    (tI7 : PySem.W.typeIn K (.ref ci7) = some (.type "function"))
    (lI7 : K.lookup ci7 = some ⟨ec7, eod7, .func (PySem.W.ksFn "__init__" "UnknownLetter.__init__" (PySem.LwX.xA "number" ⟨61, 17, 61, 21⟩ ⟨61, 23, 61, 29⟩) (PySem.LwX.xB "there is no letter with a number" "number" 0 ⟨62, 8, 62, 13⟩ ⟨62, 8, 62, 15⟩ ⟨62, 8, 62, 24⟩ ⟨62, 25, 62, 59⟩ ⟨62, 8, 62, 60⟩ ⟨62, 8, 62, 60⟩ ⟨63, 8, 63, 12⟩ ⟨63, 8, 63, 19⟩ ⟨63, 22, 63, 28⟩ ⟨63, 8, 63, 28⟩) (PySem.LwX.xS "number") .none .none edc7 epm7 ean7 (.ref cda7) ect7 cc7), esl7⟩)
    (cI7 : PySem.W.codeIn K (.ref cda7) "UnknownLetter.__init__" = true)
    (dI7 : K.lookup cda7 = some ⟨ecc7, ecd7, .fields evs7, ecs7⟩)
    (vI7 : evs7[2]? = some (.str l.prog.main.file etf7))
    (eI7 : K.lookup cc7 = some ⟨ecl7, eld7, .cell (some (.ref C7)), els7⟩)
    (kC7 : PySem.W.keepIn K (.ref C7) = true)
    (eC7 : PySem.W.subIn K (.ref C7) (.type "BaseException") = some true)
    (vC7 : PySem.W.subIn K (.ref C7) (.type "ValueError") = some true)
    (mC7 : PySem.W.mroIn K C7 (.ref C7) = some true)
    (tC7 : PySem.W.typeIn K (.ref C7) = some (.type "type"))
    (hC7 : PySem.W.hasDictIn K C7 = true)
    (iC7 : PySem.W.isClsIn K C7 = true)
    (sC7 : PySem.W.subIn K (.ref C7) (.ref C7) = some true)
    (su7 : PySem.W.ks_superIn K C7 C7 "__init__" = some (some (.builtin "ValueError.__init__")))
    (ha7 : PySem.W.findIn K (.ref C7) "__class__" = some (some (.builtin "object.__class__")))
    (hm7 : PySem.W.mroIn K C7 (.type "object") = some true)
    {C8 ci8 B8 N_8 cda8 cc8 : Addr} {q_8 : Str} {bs_8 sub_8 : List Value} {sn_8 : List Str} {ab_8 : Bool} {col_8 : Option Bool} {dd_8 : Option Addr} {m0_8 m1_8 m2_8 m3_8 m5_8 : Option Value}
    {ec8 edc8 epm8 ect8 ecc8 ecl8 : Value} {eod8 ean8 ecd8 eld8 : Option Addr} {esl8 ecs8 els8 : Array (Option Value)} {evs8 : Array Value} {etf8 : Tok}
    (aC8 : PySem.W.nsIn K mainGlobals "HouseFallen" = some (some (.ref C8)))
    (xL8 : K.lookup C8 = some (excClassObj "HouseFallen" q_8 C8 N_8 bs_8 [.ref B8, .type "ValueError", .type "Exception", .type "BaseException", .type "object"] true sn_8 sub_8 ab_8 col_8 dd_8 m0_8 m1_8 m2_8 m3_8 m5_8 "ValueError.__new__"))
    (sa8 : PySem.W.findIn K (.ref C8) "__setattr__" = some (some (.builtin "object.__setattr__")))
    (ga8 : PySem.W.findIn K (.ref C8) "__getattribute__" = some (some (.builtin "BaseException.__getattribute__")))
    (gg8 : PySem.W.findIn K (.ref C8) "__getattr__" = some none)
    (nb8 : PySem.W.findIn K (.ref C8) "house" = some none)
    (iI8 : PySem.W.findIn K (.ref C8) "__init__" = some (some (.ref ci8)))
    (tI8 : PySem.W.typeIn K (.ref ci8) = some (.type "function"))
    (lI8 : K.lookup ci8 = some ⟨ec8, eod8, .func (PySem.W.ksFn "__init__" "HouseFallen.__init__" (PySem.LwX.xA "house" ⟨66, 17, 66, 21⟩ ⟨66, 23, 66, 28⟩) (PySem.LwX.xB "a house is fallen" "house" 0 ⟨67, 8, 67, 13⟩ ⟨67, 8, 67, 15⟩ ⟨67, 8, 67, 24⟩ ⟨67, 25, 67, 44⟩ ⟨67, 8, 67, 45⟩ ⟨67, 8, 67, 45⟩ ⟨68, 8, 68, 12⟩ ⟨68, 8, 68, 18⟩ ⟨68, 21, 68, 26⟩ ⟨68, 8, 68, 26⟩) (PySem.LwX.xS "house") .none .none edc8 epm8 ean8 (.ref cda8) ect8 cc8), esl8⟩)
    (cI8 : PySem.W.codeIn K (.ref cda8) "HouseFallen.__init__" = true)
    (dI8 : K.lookup cda8 = some ⟨ecc8, ecd8, .fields evs8, ecs8⟩)
    (vI8 : evs8[2]? = some (.str l.prog.main.file etf8))
    (eI8 : K.lookup cc8 = some ⟨ecl8, eld8, .cell (some (.ref C8)), els8⟩)
    (kC8 : PySem.W.keepIn K (.ref C8) = true)
    (eC8 : PySem.W.subIn K (.ref C8) (.type "BaseException") = some true)
    (vC8 : PySem.W.subIn K (.ref C8) (.type "ValueError") = some true)
    (mC8 : PySem.W.mroIn K C8 (.ref C8) = some true)
    (tC8 : PySem.W.typeIn K (.ref C8) = some (.type "type"))
    (hC8 : PySem.W.hasDictIn K C8 = true)
    (iC8 : PySem.W.isClsIn K C8 = true)
    (sC8 : PySem.W.subIn K (.ref C8) (.ref C8) = some true)
    (su8 : PySem.W.ks_superIn K C8 C8 "__init__" = some (some (.builtin "ValueError.__init__")))
    (ha8 : PySem.W.findIn K (.ref C8) "__class__" = some (some (.builtin "object.__class__")))
    (hm8 : PySem.W.mroIn K C8 (.type "object") = some true)
    {C9 ci9 B9 N_9 cda9 cc9 : Addr} {q_9 : Str} {bs_9 sub_9 : List Value} {sn_9 : List Str} {ab_9 : Bool} {col_9 : Option Bool} {dd_9 : Option Addr} {m0_9 m1_9 m2_9 m3_9 m5_9 : Option Value}
    {ec9 edc9 epm9 ect9 ecc9 ecl9 : Value} {eod9 ean9 ecd9 eld9 : Option Addr} {esl9 ecs9 els9 : Array (Option Value)} {evs9 : Array Value} {etf9 : Tok}
    (aC9 : PySem.W.nsIn K mainGlobals "UnknownHouse" = some (some (.ref C9)))
    (xL9 : K.lookup C9 = some (excClassObj "UnknownHouse" q_9 C9 N_9 bs_9 [.ref B9, .type "ValueError", .type "Exception", .type "BaseException", .type "object"] true sn_9 sub_9 ab_9 col_9 dd_9 m0_9 m1_9 m2_9 m3_9 m5_9 "ValueError.__new__"))
    (sa9 : PySem.W.findIn K (.ref C9) "__setattr__" = some (some (.builtin "object.__setattr__")))
    (ga9 : PySem.W.findIn K (.ref C9) "__getattribute__" = some (some (.builtin "BaseException.__getattribute__")))
    (gg9 : PySem.W.findIn K (.ref C9) "__getattr__" = some none)
    (nb9 : PySem.W.findIn K (.ref C9) "house" = some none)
    (iI9 : PySem.W.findIn K (.ref C9) "__init__" = some (some (.ref ci9)))
    (tI9 : PySem.W.typeIn K (.ref ci9) = some (.type "function"))
    (lI9 : K.lookup ci9 = some ⟨ec9, eod9, .func (PySem.W.ksFn "__init__" "UnknownHouse.__init__" (PySem.LwX.xA "house" ⟨71, 17, 71, 21⟩ ⟨71, 23, 71, 28⟩) (PySem.LwX.xB "a house is not known" "house" 0 ⟨72, 8, 72, 13⟩ ⟨72, 8, 72, 15⟩ ⟨72, 8, 72, 24⟩ ⟨72, 25, 72, 47⟩ ⟨72, 8, 72, 48⟩ ⟨72, 8, 72, 48⟩ ⟨73, 8, 73, 12⟩ ⟨73, 8, 73, 18⟩ ⟨73, 21, 73, 26⟩ ⟨73, 8, 73, 26⟩) (PySem.LwX.xS "house") .none .none edc9 epm9 ean9 (.ref cda9) ect9 cc9), esl9⟩)
    (cI9 : PySem.W.codeIn K (.ref cda9) "UnknownHouse.__init__" = true)
    (dI9 : K.lookup cda9 = some ⟨ecc9, ecd9, .fields evs9, ecs9⟩)
    (vI9 : evs9[2]? = some (.str l.prog.main.file etf9))
    (eI9 : K.lookup cc9 = some ⟨ecl9, eld9, .cell (some (.ref C9)), els9⟩)
    (kC9 : PySem.W.keepIn K (.ref C9) = true)
    (eC9 : PySem.W.subIn K (.ref C9) (.type "BaseException") = some true)
    (vC9 : PySem.W.subIn K (.ref C9) (.type "ValueError") = some true)
    (mC9 : PySem.W.mroIn K C9 (.ref C9) = some true)
    (tC9 : PySem.W.typeIn K (.ref C9) = some (.type "type"))
    (hC9 : PySem.W.hasDictIn K C9 = true)
    (iC9 : PySem.W.isClsIn K C9 = true)
    (sC9 : PySem.W.subIn K (.ref C9) (.ref C9) = some true)
    (su9 : PySem.W.ks_superIn K C9 C9 "__init__" = some (some (.builtin "ValueError.__init__")))
    (ha9 : PySem.W.findIn K (.ref C9) "__class__" = some (some (.builtin "object.__class__")))
    (hm9 : PySem.W.mroIn K C9 (.type "object") = some true)
    {D0 : Addr}
    (pg0 : PySem.W.nsIn K mainGlobals "LimitError" = some (some (.ref D0)))
    (px0 : PySem.W.excIn K D0 [.type "ValueError", .type "Exception", .type "BaseException", .type "object"] "ValueError.__new__" = true)
    (pk0 : PySem.W.keepIn K (.ref D0) = true)
    (pb0 : PySem.W.subIn K (.ref D0) (.type "BaseException") = some true)
    (pt0 : PySem.W.typeIn K (.ref D0) = some (.type "type"))
    (pi0 : PySem.W.isClsIn K D0 = true)
    (ps0 : PySem.W.subIn K (.ref D0) (.ref D0) = some true)
    {D1 : Addr}
    (pg1 : PySem.W.nsIn K mainGlobals "InvalidName" = some (some (.ref D1)))
    (px1 : PySem.W.excIn K D1 [.type "ValueError", .type "Exception", .type "BaseException", .type "object"] "ValueError.__new__" = true)
    (pk1 : PySem.W.keepIn K (.ref D1) = true)
    (pb1 : PySem.W.subIn K (.ref D1) (.type "BaseException") = some true)
    (pt1 : PySem.W.typeIn K (.ref D1) = some (.type "type"))
    (pi1 : PySem.W.isClsIn K D1 = true)
    (ps1 : PySem.W.subIn K (.ref D1) (.ref D1) = some true)
    {D2 : Addr}
    (pg2 : PySem.W.nsIn K mainGlobals "InvalidRequest" = some (some (.ref D2)))
    (px2 : PySem.W.excIn K D2 [.type "ValueError", .type "Exception", .type "BaseException", .type "object"] "ValueError.__new__" = true)
    (pk2 : PySem.W.keepIn K (.ref D2) = true)
    (pb2 : PySem.W.subIn K (.ref D2) (.type "BaseException") = some true)
    (pt2 : PySem.W.typeIn K (.ref D2) = some (.type "type"))
    (pi2 : PySem.W.isClsIn K D2 = true)
    (ps2 : PySem.W.subIn K (.ref D2) (.ref D2) = some true)
    {D3 : Addr}
    (pg3 : PySem.W.nsIn K mainGlobals "InvalidLimit" = some (some (.ref D3)))
    (px3 : PySem.W.excIn K D3 [.type "ValueError", .type "Exception", .type "BaseException", .type "object"] "ValueError.__new__" = true)
    (pk3 : PySem.W.keepIn K (.ref D3) = true)
    (pb3 : PySem.W.subIn K (.ref D3) (.type "BaseException") = some true)
    (pt3 : PySem.W.typeIn K (.ref D3) = some (.type "type"))
    (pi3 : PySem.W.isClsIn K D3 = true)
    (ps3 : PySem.W.subIn K (.ref D3) (.ref D3) = some true)
    {D4 : Addr}
    (pg4 : PySem.W.nsIn K mainGlobals "InvalidBook" = some (some (.ref D4)))
    (px4 : PySem.W.excIn K D4 [.type "ValueError", .type "Exception", .type "BaseException", .type "object"] "ValueError.__new__" = true)
    (pk4 : PySem.W.keepIn K (.ref D4) = true)
    (pb4 : PySem.W.subIn K (.ref D4) (.type "BaseException") = some true)
    (pt4 : PySem.W.typeIn K (.ref D4) = some (.type "type"))
    (pi4 : PySem.W.isClsIn K D4 = true)
    (ps4 : PySem.W.subIn K (.ref D4) (.ref D4) = some true)
    {D5 : Addr}
    (pg5 : PySem.W.nsIn K mainGlobals "NoView" = some (some (.ref D5)))
    (px5 : PySem.W.excIn K D5 [.type "ValueError", .type "Exception", .type "BaseException", .type "object"] "ValueError.__new__" = true)
    (pk5 : PySem.W.keepIn K (.ref D5) = true)
    (pb5 : PySem.W.subIn K (.ref D5) (.type "BaseException") = some true)
    (pt5 : PySem.W.typeIn K (.ref D5) = some (.type "type"))
    (pi5 : PySem.W.isClsIn K D5 = true)
    (ps5 : PySem.W.subIn K (.ref D5) (.ref D5) = some true)
    {D6 : Addr}
    (pg6 : PySem.W.nsIn K mainGlobals "InvalidPaper" = some (some (.ref D6)))
    (px6 : PySem.W.excIn K D6 [.type "ValueError", .type "Exception", .type "BaseException", .type "object"] "ValueError.__new__" = true)
    (pk6 : PySem.W.keepIn K (.ref D6) = true)
    (pb6 : PySem.W.subIn K (.ref D6) (.type "BaseException") = some true)
    (pt6 : PySem.W.typeIn K (.ref D6) = some (.type "type"))
    (pi6 : PySem.W.isClsIn K D6 = true)
    (ps6 : PySem.W.subIn K (.ref D6) (.ref D6) = some true)
    {D7 : Addr}
    (pg7 : PySem.W.nsIn K mainGlobals "InvalidJournal" = some (some (.ref D7)))
    (px7 : PySem.W.excIn K D7 [.type "ValueError", .type "Exception", .type "BaseException", .type "object"] "ValueError.__new__" = true)
    (pk7 : PySem.W.keepIn K (.ref D7) = true)
    (pb7 : PySem.W.subIn K (.ref D7) (.type "BaseException") = some true)
    (pt7 : PySem.W.typeIn K (.ref D7) = some (.type "type"))
    (pi7 : PySem.W.isClsIn K D7 = true)
    (ps7 : PySem.W.subIn K (.ref D7) (.ref D7) = some true)
    {D8 : Addr}
    (pg8 : PySem.W.nsIn K mainGlobals "TooLarge" = some (some (.ref D8)))
    (px8 : PySem.W.excIn K D8 [.type "ValueError", .type "Exception", .type "BaseException", .type "object"] "ValueError.__new__" = true)
    (pk8 : PySem.W.keepIn K (.ref D8) = true)
    (pb8 : PySem.W.subIn K (.ref D8) (.type "BaseException") = some true)
    (pt8 : PySem.W.typeIn K (.ref D8) = some (.type "type"))
    (pi8 : PySem.W.isClsIn K D8 = true)
    (ps8 : PySem.W.subIn K (.ref D8) (.ref D8) = some true)
    {D9 : Addr}
    (pg9 : PySem.W.nsIn K mainGlobals "NothingToUndo" = some (some (.ref D9)))
    (px9 : PySem.W.excIn K D9 [.type "ValueError", .type "Exception", .type "BaseException", .type "object"] "ValueError.__new__" = true)
    (pk9 : PySem.W.keepIn K (.ref D9) = true)
    (pb9 : PySem.W.subIn K (.ref D9) (.type "BaseException") = some true)
    (pt9 : PySem.W.typeIn K (.ref D9) = some (.type "type"))
    (pi9 : PySem.W.isClsIn K D9 = true)
    (ps9 : PySem.W.subIn K (.ref D9) (.ref D9) = some true)
    {D10 : Addr}
    (pg10 : PySem.W.nsIn K mainGlobals "NothingToRedo" = some (some (.ref D10)))
    (px10 : PySem.W.excIn K D10 [.type "ValueError", .type "Exception", .type "BaseException", .type "object"] "ValueError.__new__" = true)
    (pk10 : PySem.W.keepIn K (.ref D10) = true)
    (pb10 : PySem.W.subIn K (.ref D10) (.type "BaseException") = some true)
    (pt10 : PySem.W.typeIn K (.ref D10) = some (.type "type"))
    (pi10 : PySem.W.isClsIn K D10 = true)
    (ps10 : PySem.W.subIn K (.ref D10) (.ref D10) = some true)
    (xg_InvalidName : PySem.W.findIn K (.ref D1) "__getattribute__" = some (some (.builtin "BaseException.__getattribute__")))
    (xh_InvalidName : PySem.W.findIn K (.ref D1) "__getattr__" = some none)
    (xd_InvalidName : PySem.W.hasDictIn K D1 = true)
    (xa_InvalidName : PySem.W.findIn K (.ref D1) "__class__" = some (some (.builtin "object.__class__")))
    (xm_InvalidName : PySem.W.mroIn K D1 (.type "object") = some true)
    (xg_InvalidRequest : PySem.W.findIn K (.ref D2) "__getattribute__" = some (some (.builtin "BaseException.__getattribute__")))
    (xh_InvalidRequest : PySem.W.findIn K (.ref D2) "__getattr__" = some none)
    (xd_InvalidRequest : PySem.W.hasDictIn K D2 = true)
    (xa_InvalidRequest : PySem.W.findIn K (.ref D2) "__class__" = some (some (.builtin "object.__class__")))
    (xm_InvalidRequest : PySem.W.mroIn K D2 (.type "object") = some true)
    (xg_InvalidLimit : PySem.W.findIn K (.ref D3) "__getattribute__" = some (some (.builtin "BaseException.__getattribute__")))
    (xh_InvalidLimit : PySem.W.findIn K (.ref D3) "__getattr__" = some none)
    (xd_InvalidLimit : PySem.W.hasDictIn K D3 = true)
    (xa_InvalidLimit : PySem.W.findIn K (.ref D3) "__class__" = some (some (.builtin "object.__class__")))
    (xm_InvalidLimit : PySem.W.mroIn K D3 (.type "object") = some true)
    (xg_InvalidBook : PySem.W.findIn K (.ref D4) "__getattribute__" = some (some (.builtin "BaseException.__getattribute__")))
    (xh_InvalidBook : PySem.W.findIn K (.ref D4) "__getattr__" = some none)
    (xd_InvalidBook : PySem.W.hasDictIn K D4 = true)
    (xa_InvalidBook : PySem.W.findIn K (.ref D4) "__class__" = some (some (.builtin "object.__class__")))
    (xm_InvalidBook : PySem.W.mroIn K D4 (.type "object") = some true)
    (xg_NoView : PySem.W.findIn K (.ref D5) "__getattribute__" = some (some (.builtin "BaseException.__getattribute__")))
    (xh_NoView : PySem.W.findIn K (.ref D5) "__getattr__" = some none)
    (xd_NoView : PySem.W.hasDictIn K D5 = true)
    (xa_NoView : PySem.W.findIn K (.ref D5) "__class__" = some (some (.builtin "object.__class__")))
    (xm_NoView : PySem.W.mroIn K D5 (.type "object") = some true)
    (xg_InvalidPaper : PySem.W.findIn K (.ref D6) "__getattribute__" = some (some (.builtin "BaseException.__getattribute__")))
    (xh_InvalidPaper : PySem.W.findIn K (.ref D6) "__getattr__" = some none)
    (xd_InvalidPaper : PySem.W.hasDictIn K D6 = true)
    (xa_InvalidPaper : PySem.W.findIn K (.ref D6) "__class__" = some (some (.builtin "object.__class__")))
    (xm_InvalidPaper : PySem.W.mroIn K D6 (.type "object") = some true)
    (xg_InvalidJournal : PySem.W.findIn K (.ref D7) "__getattribute__" = some (some (.builtin "BaseException.__getattribute__")))
    (xh_InvalidJournal : PySem.W.findIn K (.ref D7) "__getattr__" = some none)
    (xd_InvalidJournal : PySem.W.hasDictIn K D7 = true)
    (xa_InvalidJournal : PySem.W.findIn K (.ref D7) "__class__" = some (some (.builtin "object.__class__")))
    (xm_InvalidJournal : PySem.W.mroIn K D7 (.type "object") = some true)
    (xg_TooLarge : PySem.W.findIn K (.ref D8) "__getattribute__" = some (some (.builtin "BaseException.__getattribute__")))
    (xh_TooLarge : PySem.W.findIn K (.ref D8) "__getattr__" = some none)
    (xd_TooLarge : PySem.W.hasDictIn K D8 = true)
    (xa_TooLarge : PySem.W.findIn K (.ref D8) "__class__" = some (some (.builtin "object.__class__")))
    (xm_TooLarge : PySem.W.mroIn K D8 (.type "object") = some true)
    (xg_NothingToUndo : PySem.W.findIn K (.ref D9) "__getattribute__" = some (some (.builtin "BaseException.__getattribute__")))
    (xh_NothingToUndo : PySem.W.findIn K (.ref D9) "__getattr__" = some none)
    (xd_NothingToUndo : PySem.W.hasDictIn K D9 = true)
    (xa_NothingToUndo : PySem.W.findIn K (.ref D9) "__class__" = some (some (.builtin "object.__class__")))
    (xm_NothingToUndo : PySem.W.mroIn K D9 (.type "object") = some true)
    (xg_NothingToRedo : PySem.W.findIn K (.ref D10) "__getattribute__" = some (some (.builtin "BaseException.__getattribute__")))
    (xh_NothingToRedo : PySem.W.findIn K (.ref D10) "__getattr__" = some none)
    (xd_NothingToRedo : PySem.W.hasDictIn K D10 = true)
    (xa_NothingToRedo : PySem.W.findIn K (.ref D10) "__class__" = some (some (.builtin "object.__class__")))
    (xm_NothingToRedo : PySem.W.mroIn K D10 (.type "object") = some true)
    (opq : PySem.W.nsIn K cStatics "thirdparty.any" = some none)
    (gS : PySem.W.nsIn K mainGlobals "super" = some none)
    (top : (l.prog.main.scope.names.lookup ("super" : Str)).isSome = false)
    (hn : PySem.W.specialIn K (.builtin "object.__class__") "__get__" = some (some (.builtin "getset_descriptor.__get__")))
    (ht : PySem.W.takesIn K (.builtin "object.__class__") = some true)
    (nn_InvalidName_LimitError : PySem.W.kitOne K (.ref D1) (.ref D0) = some true)
    (nn_InvalidName_ValueError : PySem.W.kitOne K (.ref D1) (.type "ValueError") = some true)
    (nn_InvalidRequest_LimitError : PySem.W.kitOne K (.ref D2) (.ref D0) = some true)
    (nn_InvalidRequest_ValueError : PySem.W.kitOne K (.ref D2) (.type "ValueError") = some true)
    (nn_InvalidLimit_LimitError : PySem.W.kitOne K (.ref D3) (.ref D0) = some true)
    (nn_InvalidLimit_ValueError : PySem.W.kitOne K (.ref D3) (.type "ValueError") = some true)
    (nn_InvalidBook_LimitError : PySem.W.kitOne K (.ref D4) (.ref D0) = some true)
    (nn_InvalidBook_ValueError : PySem.W.kitOne K (.ref D4) (.type "ValueError") = some true)
    (nn_NoView_LimitError : PySem.W.kitOne K (.ref D5) (.ref D0) = some true)
    (nn_NoView_ValueError : PySem.W.kitOne K (.ref D5) (.type "ValueError") = some true)
    (nn_InvalidPaper_LimitError : PySem.W.kitOne K (.ref D6) (.ref D0) = some true)
    (nn_InvalidPaper_ValueError : PySem.W.kitOne K (.ref D6) (.type "ValueError") = some true)
    (nn_InvalidJournal_LimitError : PySem.W.kitOne K (.ref D7) (.ref D0) = some true)
    (nn_InvalidJournal_ValueError : PySem.W.kitOne K (.ref D7) (.type "ValueError") = some true)
    (nn_TooLarge_LimitError : PySem.W.kitOne K (.ref D8) (.ref D0) = some true)
    (nn_TooLarge_ValueError : PySem.W.kitOne K (.ref D8) (.type "ValueError") = some true)
    (nn_NothingToUndo_LimitError : PySem.W.kitOne K (.ref D9) (.ref D0) = some true)
    (nn_NothingToUndo_ValueError : PySem.W.kitOne K (.ref D9) (.type "ValueError") = some true)
    (nn_NothingToRedo_LimitError : PySem.W.kitOne K (.ref D10) (.ref D0) = some true)
    (nn_NothingToRedo_ValueError : PySem.W.kitOne K (.ref D10) (.type "ValueError") = some true)
    (nn_UnknownName_LimitError : PySem.W.kitOne K (.ref C0) (.ref D0) = some true)
    (nn_UnknownName_ValueError : PySem.W.kitOne K (.ref C0) (.type "ValueError") = some true)
    (nn_NameTaken_LimitError : PySem.W.kitOne K (.ref C1) (.ref D0) = some true)
    (nn_NameTaken_ValueError : PySem.W.kitOne K (.ref C1) (.type "ValueError") = some true)
    (nn_KeyKnown_LimitError : PySem.W.kitOne K (.ref C2) (.ref D0) = some true)
    (nn_KeyKnown_ValueError : PySem.W.kitOne K (.ref C2) (.type "ValueError") = some true)
    (nn_UnknownKey_LimitError : PySem.W.kitOne K (.ref C3) (.ref D0) = some true)
    (nn_UnknownKey_ValueError : PySem.W.kitOne K (.ref C3) (.type "ValueError") = some true)
    (nn_EarlierMoment_LimitError : PySem.W.kitOne K (.ref C4) (.ref D0) = some true)
    (nn_EarlierMoment_ValueError : PySem.W.kitOne K (.ref C4) (.type "ValueError") = some true)
    (nn_InvalidNotation_LimitError : PySem.W.kitOne K (.ref C5) (.ref D0) = some true)
    (nn_InvalidNotation_ValueError : PySem.W.kitOne K (.ref C5) (.type "ValueError") = some true)
    (nn_InvalidEntry_LimitError : PySem.W.kitOne K (.ref C6) (.ref D0) = some true)
    (nn_InvalidEntry_ValueError : PySem.W.kitOne K (.ref C6) (.type "ValueError") = some true)
    (nn_UnknownLetter_LimitError : PySem.W.kitOne K (.ref C7) (.ref D0) = some true)
    (nn_UnknownLetter_ValueError : PySem.W.kitOne K (.ref C7) (.type "ValueError") = some true)
    (nn_HouseFallen_LimitError : PySem.W.kitOne K (.ref C8) (.ref D0) = some true)
    (nn_HouseFallen_ValueError : PySem.W.kitOne K (.ref C8) (.type "ValueError") = some true)
    (nn_UnknownHouse_LimitError : PySem.W.kitOne K (.ref C9) (.ref D0) = some true)
    (nn_UnknownHouse_ValueError : PySem.W.kitOne K (.ref C9) (.type "ValueError") = some true)
    (ktab : kitTab K [D1, D2, D3, D4, D5, D6, D7, D8, D9, D10, C0, C1, C2, C3, C4, C5, C6, C7, C8, C9] = true) :
    ∃ fd : FuncData, (∀ (s : Shared) (v : Value), BindsTo s fd ⟨[v], []⟩ [("_law_script", v)]) ∧ ∀ base : Heap, K.In base → base.Ns mainGlobals mg → FnOk l.prog w K mg base CX0 4 fa fd ["_law_script"] (sp_law K) := by
  have e := hfa.symm.trans (PySem.W.mg_of X G a12)
  cases e
  have F0 := fun_mk (st := s_is_name) l0 c0 k0
  have F1 := fun_mk (st := s_is_key) l1 c1 k1
  have F2 := fun_mk (st := s_check_request) l2 c2 k2
  have F3 := fun_mk (st := s_check_moment) l3 c3 k3
  have F4 := fun_mk (st := s__law_row) l4 c4 k4
  have F5 := fun_mk (st := s__law_numbers) l5 c5 k5
  have F6 := fun_mk (st := s__law_text) l6 c6 k6
  have F7 := fun_mk (st := s__law_is) l7 c7 k7
  have F8 := fun_mk (st := s__law_says) l8 c8 k8
  have F9 := fun_mk (st := s__law_refuses) l9 c9 k9
  have F10 := fun_mk (st := s__law_kinds) l10 c10 k10
  have F11 := fun_mk (st := s__law_classes) l11 c11 k11
  have F12 := fun_mk (st := s_law) l12 c12 k12
  have b0 := F0.binds (ps := ["text"]) fun _ _ _ _ _ _ us hl => match us, hl with | [_], _ => rfl
  have b1 := F1.binds (ps := ["text"]) fun _ _ _ _ _ _ us hl => match us, hl with | [_], _ => rfl
  have b2 := F2.binds (ps := ["key", "group", "cost"]) fun _ _ _ _ _ _ us hl => match us, hl with | [_, _, _], _ => rfl
  have b3 := F3.binds (ps := ["moment"]) fun _ _ _ _ _ _ us hl => match us, hl with | [_], _ => rfl
  have b4 := F4.binds (ps := ["_law_cell", "_law_many"]) fun _ _ _ _ _ _ us hl => match us, hl with | [_, _], _ => rfl
  have b5 := F5.binds (ps := ["_law_script", "_law_many"]) fun _ _ _ _ _ _ us hl => match us, hl with | [_, _], _ => rfl
  have b6 := F6.binds (ps := ["_law_numbers_here", "_law_at"]) fun _ _ _ _ _ _ us hl => match us, hl with | [_, _], _ => rfl
  have b7 := F7.binds (ps := ["_law_text_here", "_law_signs", "_law_most"]) fun _ _ _ _ _ _ us hl => match us, hl with | [_, _, _], _ => rfl
  have b8 := F8.binds (ps := ["_law_actual", "_law_due"]) fun _ _ _ _ _ _ us hl => match us, hl with | [_, _], _ => rfl
  have b9 := F9.binds (ps := ["_law_kind", "_law_key", "_law_group", "_law_number"]) fun _ _ _ _ _ _ us hl => match us, hl with | [_, _, _, _], _ => rfl
  have b10 := F10.binds (ps := ["_law_error"]) fun _ _ _ _ _ _ us hl => match us, hl with | [_], _ => rfl
  have b11 := F11.binds (ps := ["_law_text_here", "_law_number"]) fun _ _ _ _ _ _ us hl => match us, hl with | [_, _], _ => rfl
  have b12 := F12.binds (ps := ["_law_script"]) fun _ _ _ _ _ _ us hl => match us, hl with | [_], _ => rfl
  have e0 : PySem.LwX.ErrTxt l.prog.main.file K mg "UnknownName" "name" C0 ci0 :=
    { fo := ⟨by decide +kernel, by decide +kernel, by decide +kernel, by decide +kernel, by decide +kernel, fun _ _ _ _ _ _ _ _ _ _ _ _ => rfl⟩, gC := PySem.W.mg_of X G aC0, cls := ⟨_, _, _, _, _, _, _, _, _, _, _, _, _, _, xL0, by rfl⟩, sa := sa0, ga := ga0, gg := gg0, noN := nb0, iC := iI0, tC := tI0, kC := kC0, exC := eC0, veC := vC0, selfC := mC0, tyC := tC0, hdC := hC0, te := exm_self eC0 iC0 tC0 sC0, su := su0, opq := opq, gS := PySem.W.mg_none_of X G gS,
      fn := ⟨_, _, _, _, _, _, _, _, _, _, _, _, _, _, _, _, _, _, _, _, _, _, _, _, lI0, cI0, ⟨_, _, _, _, _, dI0, vI0⟩, ⟨_, _, _, eI0⟩, rfl⟩ }
  have e1 : PySem.LwX.ErrTxt l.prog.main.file K mg "NameTaken" "name" C1 ci1 :=
    { fo := ⟨by decide +kernel, by decide +kernel, by decide +kernel, by decide +kernel, by decide +kernel, fun _ _ _ _ _ _ _ _ _ _ _ _ => rfl⟩, gC := PySem.W.mg_of X G aC1, cls := ⟨_, _, _, _, _, _, _, _, _, _, _, _, _, _, xL1, by rfl⟩, sa := sa1, ga := ga1, gg := gg1, noN := nb1, iC := iI1, tC := tI1, kC := kC1, exC := eC1, veC := vC1, selfC := mC1, tyC := tC1, hdC := hC1, te := exm_self eC1 iC1 tC1 sC1, su := su1, opq := opq, gS := PySem.W.mg_none_of X G gS,
      fn := ⟨_, _, _, _, _, _, _, _, _, _, _, _, _, _, _, _, _, _, _, _, _, _, _, _, lI1, cI1, ⟨_, _, _, _, _, dI1, vI1⟩, ⟨_, _, _, eI1⟩, rfl⟩ }
  have e2 : PySem.LwX.ErrTxt l.prog.main.file K mg "KeyKnown" "key" C2 ci2 :=
    { fo := ⟨by decide +kernel, by decide +kernel, by decide +kernel, by decide +kernel, by decide +kernel, fun _ _ _ _ _ _ _ _ _ _ _ _ => rfl⟩, gC := PySem.W.mg_of X G aC2, cls := ⟨_, _, _, _, _, _, _, _, _, _, _, _, _, _, xL2, by rfl⟩, sa := sa2, ga := ga2, gg := gg2, noN := nb2, iC := iI2, tC := tI2, kC := kC2, exC := eC2, veC := vC2, selfC := mC2, tyC := tC2, hdC := hC2, te := exm_self eC2 iC2 tC2 sC2, su := su2, opq := opq, gS := PySem.W.mg_none_of X G gS,
      fn := ⟨_, _, _, _, _, _, _, _, _, _, _, _, _, _, _, _, _, _, _, _, _, _, _, _, lI2, cI2, ⟨_, _, _, _, _, dI2, vI2⟩, ⟨_, _, _, eI2⟩, rfl⟩ }
  have e3 : PySem.LwX.ErrTxt l.prog.main.file K mg "UnknownKey" "key" C3 ci3 :=
    { fo := ⟨by decide +kernel, by decide +kernel, by decide +kernel, by decide +kernel, by decide +kernel, fun _ _ _ _ _ _ _ _ _ _ _ _ => rfl⟩, gC := PySem.W.mg_of X G aC3, cls := ⟨_, _, _, _, _, _, _, _, _, _, _, _, _, _, xL3, by rfl⟩, sa := sa3, ga := ga3, gg := gg3, noN := nb3, iC := iI3, tC := tI3, kC := kC3, exC := eC3, veC := vC3, selfC := mC3, tyC := tC3, hdC := hC3, te := exm_self eC3 iC3 tC3 sC3, su := su3, opq := opq, gS := PySem.W.mg_none_of X G gS,
      fn := ⟨_, _, _, _, _, _, _, _, _, _, _, _, _, _, _, _, _, _, _, _, _, _, _, _, lI3, cI3, ⟨_, _, _, _, _, dI3, vI3⟩, ⟨_, _, _, eI3⟩, rfl⟩ }
  have e4 : PySem.LwX.ErrTxt l.prog.main.file K mg "EarlierMoment" "moment" C4 ci4 :=
    { fo := ⟨by decide +kernel, by decide +kernel, by decide +kernel, by decide +kernel, by decide +kernel, fun _ _ _ _ _ _ _ _ _ _ _ _ => rfl⟩, gC := PySem.W.mg_of X G aC4, cls := ⟨_, _, _, _, _, _, _, _, _, _, _, _, _, _, xL4, by rfl⟩, sa := sa4, ga := ga4, gg := gg4, noN := nb4, iC := iI4, tC := tI4, kC := kC4, exC := eC4, veC := vC4, selfC := mC4, tyC := tC4, hdC := hC4, te := exm_self eC4 iC4 tC4 sC4, su := su4, opq := opq, gS := PySem.W.mg_none_of X G gS,
      fn := ⟨_, _, _, _, _, _, _, _, _, _, _, _, _, _, _, _, _, _, _, _, _, _, _, _, lI4, cI4, ⟨_, _, _, _, _, dI4, vI4⟩, ⟨_, _, _, eI4⟩, rfl⟩ }
  have e5 : PySem.LwX.ErrTxt l.prog.main.file K mg "InvalidNotation" "line" C5 ci5 :=
    { fo := ⟨by decide +kernel, by decide +kernel, by decide +kernel, by decide +kernel, by decide +kernel, fun _ _ _ _ _ _ _ _ _ _ _ _ => rfl⟩, gC := PySem.W.mg_of X G aC5, cls := ⟨_, _, _, _, _, _, _, _, _, _, _, _, _, _, xL5, by rfl⟩, sa := sa5, ga := ga5, gg := gg5, noN := nb5, iC := iI5, tC := tI5, kC := kC5, exC := eC5, veC := vC5, selfC := mC5, tyC := tC5, hdC := hC5, te := exm_self eC5 iC5 tC5 sC5, su := su5, opq := opq, gS := PySem.W.mg_none_of X G gS,
      fn := ⟨_, _, _, _, _, _, _, _, _, _, _, _, _, _, _, _, _, _, _, _, _, _, _, _, lI5, cI5, ⟨_, _, _, _, _, dI5, vI5⟩, ⟨_, _, _, eI5⟩, rfl⟩ }
  have e6 : PySem.LwX.ErrTxt l.prog.main.file K mg "InvalidEntry" "number" C6 ci6 :=
    { fo := ⟨by decide +kernel, by decide +kernel, by decide +kernel, by decide +kernel, by decide +kernel, fun _ _ _ _ _ _ _ _ _ _ _ _ => rfl⟩, gC := PySem.W.mg_of X G aC6, cls := ⟨_, _, _, _, _, _, _, _, _, _, _, _, _, _, xL6, by rfl⟩, sa := sa6, ga := ga6, gg := gg6, noN := nb6, iC := iI6, tC := tI6, kC := kC6, exC := eC6, veC := vC6, selfC := mC6, tyC := tC6, hdC := hC6, te := exm_self eC6 iC6 tC6 sC6, su := su6, opq := opq, gS := PySem.W.mg_none_of X G gS,
      fn := ⟨_, _, _, _, _, _, _, _, _, _, _, _, _, _, _, _, _, _, _, _, _, _, _, _, lI6, cI6, ⟨_, _, _, _, _, dI6, vI6⟩, ⟨_, _, _, eI6⟩, rfl⟩ }
  have e7 : PySem.LwX.ErrTxt l.prog.main.file K mg "UnknownLetter" "number" C7 ci7 :=
    { fo := ⟨by decide +kernel, by decide +kernel, by decide +kernel, by decide +kernel, by decide +kernel, fun _ _ _ _ _ _ _ _ _ _ _ _ => rfl⟩, gC := PySem.W.mg_of X G aC7, cls := ⟨_, _, _, _, _, _, _, _, _, _, _, _, _, _, xL7, by rfl⟩, sa := sa7, ga := ga7, gg := gg7, noN := nb7, iC := iI7, tC := tI7, kC := kC7, exC := eC7, veC := vC7, selfC := mC7, tyC := tC7, hdC := hC7, te := exm_self eC7 iC7 tC7 sC7, su := su7, opq := opq, gS := PySem.W.mg_none_of X G gS,
      fn := ⟨_, _, _, _, _, _, _, _, _, _, _, _, _, _, _, _, _, _, _, _, _, _, _, _, lI7, cI7, ⟨_, _, _, _, _, dI7, vI7⟩, ⟨_, _, _, eI7⟩, rfl⟩ }
  have e8 : PySem.LwX.ErrTxt l.prog.main.file K mg "HouseFallen" "house" C8 ci8 :=
    { fo := ⟨by decide +kernel, by decide +kernel, by decide +kernel, by decide +kernel, by decide +kernel, fun _ _ _ _ _ _ _ _ _ _ _ _ => rfl⟩, gC := PySem.W.mg_of X G aC8, cls := ⟨_, _, _, _, _, _, _, _, _, _, _, _, _, _, xL8, by rfl⟩, sa := sa8, ga := ga8, gg := gg8, noN := nb8, iC := iI8, tC := tI8, kC := kC8, exC := eC8, veC := vC8, selfC := mC8, tyC := tC8, hdC := hC8, te := exm_self eC8 iC8 tC8 sC8, su := su8, opq := opq, gS := PySem.W.mg_none_of X G gS,
      fn := ⟨_, _, _, _, _, _, _, _, _, _, _, _, _, _, _, _, _, _, _, _, _, _, _, _, lI8, cI8, ⟨_, _, _, _, _, dI8, vI8⟩, ⟨_, _, _, eI8⟩, rfl⟩ }
  have e9 : PySem.LwX.ErrTxt l.prog.main.file K mg "UnknownHouse" "house" C9 ci9 :=
    { fo := ⟨by decide +kernel, by decide +kernel, by decide +kernel, by decide +kernel, by decide +kernel, fun _ _ _ _ _ _ _ _ _ _ _ _ => rfl⟩, gC := PySem.W.mg_of X G aC9, cls := ⟨_, _, _, _, _, _, _, _, _, _, _, _, _, _, xL9, by rfl⟩, sa := sa9, ga := ga9, gg := gg9, noN := nb9, iC := iI9, tC := tI9, kC := kC9, exC := eC9, veC := vC9, selfC := mC9, tyC := tC9, hdC := hC9, te := exm_self eC9 iC9 tC9 sC9, su := su9, opq := opq, gS := PySem.W.mg_none_of X G gS,
      fn := ⟨_, _, _, _, _, _, _, _, _, _, _, _, _, _, _, _, _, _, _, _, _, _, _, _, lI9, cI9, ⟨_, _, _, _, _, dI9, vI9⟩, ⟨_, _, _, eI9⟩, rfl⟩ }
  have T : Txt l.prog K mg ⟨f0, f1, f2, f3, f4, f5, f6, f7, f8, f9, f10, f11, fa, C0, ci0, C1, ci1, C2, ci2, C3, ci3, C4, ci4, C5, ci5, C6, ci6, C7, ci7, C8, ci8, C9, ci9, D0, D1, D2, D3, D4, D5, D6, D7, D8, D9, D10, _, _, _, _, _, _, _, _, _, _, _, _, _⟩ := ⟨F0, PySem.W.mg_of X G a0, b0, F1, PySem.W.mg_of X G a1, b1, F2, PySem.W.mg_of X G a2, b2, F3, PySem.W.mg_of X G a3, b3, F4, PySem.W.mg_of X G a4, b4, F5, PySem.W.mg_of X G a5, b5, F6, PySem.W.mg_of X G a6, b6, F7, PySem.W.mg_of X G a7, b7, F8, PySem.W.mg_of X G a8, b8, F9, PySem.W.mg_of X G a9, b9, F10, PySem.W.mg_of X G a10, b10, F11, PySem.W.mg_of X G a11, b11, F12, PySem.W.mg_of X G a12, b12, PySem.W.mg_none_of X G z_ValueError, PySem.W.mg_none_of X G z_abs, PySem.W.mg_none_of X G z_all, PySem.W.mg_none_of X G z_int, PySem.W.mg_none_of X G z_isinstance, PySem.W.mg_none_of X G z_len, PySem.W.mg_none_of X G z_max, PySem.W.mg_none_of X G z_range, ⟨_, PySem.W.mg_of X G y_LETTERS, ⟨_, rfl⟩⟩, ⟨_, PySem.W.mg_of X G y_MOST_MOMENT, ⟨_, rfl⟩⟩, e0, ⟨ga0, gg0, eC0, hC0, ha0, hn, ht, hm0⟩, e1, ⟨ga1, gg1, eC1, hC1, ha1, hn, ht, hm1⟩, e2, ⟨ga2, gg2, eC2, hC2, ha2, hn, ht, hm2⟩, e3, ⟨ga3, gg3, eC3, hC3, ha3, hn, ht, hm3⟩, e4, ⟨ga4, gg4, eC4, hC4, ha4, hn, ht, hm4⟩, e5, ⟨ga5, gg5, eC5, hC5, ha5, hn, ht, hm5⟩, e6, ⟨ga6, gg6, eC6, hC6, ha6, hn, ht, hm6⟩, e7, ⟨ga7, gg7, eC7, hC7, ha7, hn, ht, hm7⟩, e8, ⟨ga8, gg8, eC8, hC8, ha8, hn, ht, hm8⟩, e9, ⟨ga9, gg9, eC9, hC9, ha9, hn, ht, hm9⟩, ⟨PySem.W.mg_of X G pg0, px0, pk0, pb0, pt0, exm_self pb0 pi0 pt0 ps0⟩, ⟨PySem.W.mg_of X G pg1, px1, pk1, pb1, pt1, exm_self pb1 pi1 pt1 ps1⟩, ⟨PySem.W.mg_of X G pg2, px2, pk2, pb2, pt2, exm_self pb2 pi2 pt2 ps2⟩, ⟨PySem.W.mg_of X G pg3, px3, pk3, pb3, pt3, exm_self pb3 pi3 pt3 ps3⟩, ⟨PySem.W.mg_of X G pg4, px4, pk4, pb4, pt4, exm_self pb4 pi4 pt4 ps4⟩, ⟨PySem.W.mg_of X G pg5, px5, pk5, pb5, pt5, exm_self pb5 pi5 pt5 ps5⟩, ⟨PySem.W.mg_of X G pg6, px6, pk6, pb6, pt6, exm_self pb6 pi6 pt6 ps6⟩, ⟨PySem.W.mg_of X G pg7, px7, pk7, pb7, pt7, exm_self pb7 pi7 pt7 ps7⟩, ⟨PySem.W.mg_of X G pg8, px8, pk8, pb8, pt8, exm_self pb8 pi8 pt8 ps8⟩, ⟨PySem.W.mg_of X G pg9, px9, pk9, pb9, pt9, exm_self pb9 pi9 pt9 ps9⟩, ⟨PySem.W.mg_of X G pg10, px10, pk10, pb10, pt10, exm_self pb10 pi10 pt10 ps10⟩, ⟨xg_InvalidName, xh_InvalidName, pb1, xd_InvalidName, xa_InvalidName, hn, ht, xm_InvalidName⟩, ⟨xg_InvalidRequest, xh_InvalidRequest, pb2, xd_InvalidRequest, xa_InvalidRequest, hn, ht, xm_InvalidRequest⟩, ⟨xg_InvalidLimit, xh_InvalidLimit, pb3, xd_InvalidLimit, xa_InvalidLimit, hn, ht, xm_InvalidLimit⟩, ⟨xg_InvalidBook, xh_InvalidBook, pb4, xd_InvalidBook, xa_InvalidBook, hn, ht, xm_InvalidBook⟩, ⟨xg_NoView, xh_NoView, pb5, xd_NoView, xa_NoView, hn, ht, xm_NoView⟩, ⟨xg_InvalidPaper, xh_InvalidPaper, pb6, xd_InvalidPaper, xa_InvalidPaper, hn, ht, xm_InvalidPaper⟩, ⟨xg_InvalidJournal, xh_InvalidJournal, pb7, xd_InvalidJournal, xa_InvalidJournal, hn, ht, xm_InvalidJournal⟩, ⟨xg_TooLarge, xh_TooLarge, pb8, xd_TooLarge, xa_TooLarge, hn, ht, xm_TooLarge⟩, ⟨xg_NothingToUndo, xh_NothingToUndo, pb9, xd_NothingToUndo, xa_NothingToUndo, hn, ht, xm_NothingToUndo⟩, ⟨xg_NothingToRedo, xh_NothingToRedo, pb10, xd_NothingToRedo, xa_NothingToRedo, hn, ht, xm_NothingToRedo⟩, nn_InvalidName_LimitError, nn_InvalidName_ValueError, nn_InvalidRequest_LimitError, nn_InvalidRequest_ValueError, nn_InvalidLimit_LimitError, nn_InvalidLimit_ValueError, nn_InvalidBook_LimitError, nn_InvalidBook_ValueError, nn_NoView_LimitError, nn_NoView_ValueError, nn_InvalidPaper_LimitError, nn_InvalidPaper_ValueError, nn_InvalidJournal_LimitError, nn_InvalidJournal_ValueError, nn_TooLarge_LimitError, nn_TooLarge_ValueError, nn_NothingToUndo_LimitError, nn_NothingToUndo_ValueError, nn_NothingToRedo_LimitError, nn_NothingToRedo_ValueError, nn_UnknownName_LimitError, nn_UnknownName_ValueError, nn_NameTaken_LimitError, nn_NameTaken_ValueError, nn_KeyKnown_LimitError, nn_KeyKnown_ValueError, nn_UnknownKey_LimitError, nn_UnknownKey_ValueError, nn_EarlierMoment_LimitError, nn_EarlierMoment_ValueError, nn_InvalidNotation_LimitError, nn_InvalidNotation_ValueError, nn_InvalidEntry_LimitError, nn_InvalidEntry_ValueError, nn_UnknownLetter_LimitError, nn_UnknownLetter_ValueError, nn_HouseFallen_LimitError, nn_HouseFallen_ValueError, nn_UnknownHouse_LimitError, nn_UnknownHouse_ValueError, top, ktab⟩
  exact ⟨_, fun s v => .of_eq rfl, fun base _ _ => ok_law T⟩
end
end Lw
open PySem PySem.W PyProof.Rows
set_option maxRecDepth 100000 in
set_option maxHeartbeats 0 in
theorem PySem.Challenge.cw_limitweave_k00_errors_names_and_moments_holds : PySem.Challenge.rw_limitweave_k00_errors_names_and_moments.Holds := by
  w_on; o_law; k_head; (case hw => w_witness2)
  k_fill
  refine L2.walk_of (l := PySem.Challenge.rw_limitweave_k00_errors_names_and_moments) (n := 63) (k := 4) (x := "_law_script") (CX := fun _ => L2.CX0) (sp := fun w => Lw.sp_law _) rfl (by decide) rfl ⟨rfl, by decide, by decide⟩ (fun w h Y => PySem.W.kIn_of Y) ?F (fun _ _ a ns hl _ hS => ⟨a, ns, rfl, hS, hl, fun _ => rfl⟩) (fun _ _ _ _ _ h => h)
  case F =>
    intro w mg fa h KX G hmg
    refine' Lw.all_mk KX G hmg ?a0 ?l0 ?c0 ?k0 ?a1 ?l1 ?c1 ?k1 ?a2 ?l2 ?c2 ?k2 ?a3 ?l3 ?c3 ?k3 ?a4 ?l4 ?c4 ?k4 ?a5 ?l5 ?c5 ?k5 ?a6 ?l6 ?c6 ?k6 ?a7 ?l7 ?c7 ?k7 ?a8 ?l8 ?c8 ?k8 ?a9 ?l9 ?c9 ?k9 ?a10 ?l10 ?c10 ?k10 ?a11 ?l11 ?c11 ?k11 ?a12 ?l12 ?c12 ?k12 ?z_ValueError ?z_abs ?z_all ?z_int ?z_isinstance ?z_len ?z_max ?z_range ?y_LETTERS ?y_MOST_MOMENT ?aC0 ?xL0 ?sa0 ?ga0 ?gg0 ?nb0 ?iI0 ?tI0 ?lI0 ?cI0 ?dI0 ?vI0 ?eI0 ?kC0 ?eC0 ?vC0 ?mC0 ?tC0 ?hC0 ?iC0 ?sC0 ?su0 ?ha0 ?hm0 ?aC1 ?xL1 ?sa1 ?ga1 ?gg1 ?nb1 ?iI1 ?tI1 ?lI1 ?cI1 ?dI1 ?vI1 ?eI1 ?kC1 ?eC1 ?vC1 ?mC1 ?tC1 ?hC1 ?iC1 ?sC1 ?su1 ?ha1 ?hm1 ?aC2 ?xL2 ?sa2 ?ga2 ?gg2 ?nb2 ?iI2 ?tI2 ?lI2 ?cI2 ?dI2 ?vI2 ?eI2 ?kC2 ?eC2 ?vC2 ?mC2 ?tC2 ?hC2 ?iC2 ?sC2 ?su2 ?ha2 ?hm2 ?aC3 ?xL3 ?sa3 ?ga3 ?gg3 ?nb3 ?iI3 ?tI3 ?lI3 ?cI3 ?dI3 ?vI3 ?eI3 ?kC3 ?eC3 ?vC3 ?mC3 ?tC3 ?hC3 ?iC3 ?sC3 ?su3 ?ha3 ?hm3 ?aC4 ?xL4 ?sa4 ?ga4 ?gg4 ?nb4 ?iI4 ?tI4 ?lI4 ?cI4 ?dI4 ?vI4 ?eI4 ?kC4 ?eC4 ?vC4 ?mC4 ?tC4 ?hC4 ?iC4 ?sC4 ?su4 ?ha4 ?hm4 ?aC5 ?xL5 ?sa5 ?ga5 ?gg5 ?nb5 ?iI5 ?tI5 ?lI5 ?cI5 ?dI5 ?vI5 ?eI5 ?kC5 ?eC5 ?vC5 ?mC5 ?tC5 ?hC5 ?iC5 ?sC5 ?su5 ?ha5 ?hm5 ?aC6 ?xL6 ?sa6 ?ga6 ?gg6 ?nb6 ?iI6 ?tI6 ?lI6 ?cI6 ?dI6 ?vI6 ?eI6 ?kC6 ?eC6 ?vC6 ?mC6 ?tC6 ?hC6 ?iC6 ?sC6 ?su6 ?ha6 ?hm6 ?aC7 ?xL7 ?sa7 ?ga7 ?gg7 ?nb7 ?iI7 ?tI7 ?lI7 ?cI7 ?dI7 ?vI7 ?eI7 ?kC7 ?eC7 ?vC7 ?mC7 ?tC7 ?hC7 ?iC7 ?sC7 ?su7 ?ha7 ?hm7 ?aC8 ?xL8 ?sa8 ?ga8 ?gg8 ?nb8 ?iI8 ?tI8 ?lI8 ?cI8 ?dI8 ?vI8 ?eI8 ?kC8 ?eC8 ?vC8 ?mC8 ?tC8 ?hC8 ?iC8 ?sC8 ?su8 ?ha8 ?hm8 ?aC9 ?xL9 ?sa9 ?ga9 ?gg9 ?nb9 ?iI9 ?tI9 ?lI9 ?cI9 ?dI9 ?vI9 ?eI9 ?kC9 ?eC9 ?vC9 ?mC9 ?tC9 ?hC9 ?iC9 ?sC9 ?su9 ?ha9 ?hm9 ?pg0 ?px0 ?pk0 ?pb0 ?pt0 ?pi0 ?ps0 ?pg1 ?px1 ?pk1 ?pb1 ?pt1 ?pi1 ?ps1 ?pg2 ?px2 ?pk2 ?pb2 ?pt2 ?pi2 ?ps2 ?pg3 ?px3 ?pk3 ?pb3 ?pt3 ?pi3 ?ps3 ?pg4 ?px4 ?pk4 ?pb4 ?pt4 ?pi4 ?ps4 ?pg5 ?px5 ?pk5 ?pb5 ?pt5 ?pi5 ?ps5 ?pg6 ?px6 ?pk6 ?pb6 ?pt6 ?pi6 ?ps6 ?pg7 ?px7 ?pk7 ?pb7 ?pt7 ?pi7 ?ps7 ?pg8 ?px8 ?pk8 ?pb8 ?pt8 ?pi8 ?ps8 ?pg9 ?px9 ?pk9 ?pb9 ?pt9 ?pi9 ?ps9 ?pg10 ?px10 ?pk10 ?pb10 ?pt10 ?pi10 ?ps10 ?xg_InvalidName ?xh_InvalidName ?xd_InvalidName ?xa_InvalidName ?xm_InvalidName ?xg_InvalidRequest ?xh_InvalidRequest ?xd_InvalidRequest ?xa_InvalidRequest ?xm_InvalidRequest ?xg_InvalidLimit ?xh_InvalidLimit ?xd_InvalidLimit ?xa_InvalidLimit ?xm_InvalidLimit ?xg_InvalidBook ?xh_InvalidBook ?xd_InvalidBook ?xa_InvalidBook ?xm_InvalidBook ?xg_NoView ?xh_NoView ?xd_NoView ?xa_NoView ?xm_NoView ?xg_InvalidPaper ?xh_InvalidPaper ?xd_InvalidPaper ?xa_InvalidPaper ?xm_InvalidPaper ?xg_InvalidJournal ?xh_InvalidJournal ?xd_InvalidJournal ?xa_InvalidJournal ?xm_InvalidJournal ?xg_TooLarge ?xh_TooLarge ?xd_TooLarge ?xa_TooLarge ?xm_TooLarge ?xg_NothingToUndo ?xh_NothingToUndo ?xd_NothingToUndo ?xa_NothingToUndo ?xm_NothingToUndo ?xg_NothingToRedo ?xh_NothingToRedo ?xd_NothingToRedo ?xa_NothingToRedo ?xm_NothingToRedo ?opq ?gS ?top ?hn ?ht ?nn_InvalidName_LimitError ?nn_InvalidName_ValueError ?nn_InvalidRequest_LimitError ?nn_InvalidRequest_ValueError ?nn_InvalidLimit_LimitError ?nn_InvalidLimit_ValueError ?nn_InvalidBook_LimitError ?nn_InvalidBook_ValueError ?nn_NoView_LimitError ?nn_NoView_ValueError ?nn_InvalidPaper_LimitError ?nn_InvalidPaper_ValueError ?nn_InvalidJournal_LimitError ?nn_InvalidJournal_ValueError ?nn_TooLarge_LimitError ?nn_TooLarge_ValueError ?nn_NothingToUndo_LimitError ?nn_NothingToUndo_ValueError ?nn_NothingToRedo_LimitError ?nn_NothingToRedo_ValueError ?nn_UnknownName_LimitError ?nn_UnknownName_ValueError ?nn_NameTaken_LimitError ?nn_NameTaken_ValueError ?nn_KeyKnown_LimitError ?nn_KeyKnown_ValueError ?nn_UnknownKey_LimitError ?nn_UnknownKey_ValueError ?nn_EarlierMoment_LimitError ?nn_EarlierMoment_ValueError ?nn_InvalidNotation_LimitError ?nn_InvalidNotation_ValueError ?nn_InvalidEntry_LimitError ?nn_InvalidEntry_ValueError ?nn_UnknownLetter_LimitError ?nn_UnknownLetter_ValueError ?nn_HouseFallen_LimitError ?nn_HouseFallen_ValueError ?nn_UnknownHouse_LimitError ?nn_UnknownHouse_ValueError ?ktab
    (case a0 => k_is)
    (case l0 => k_is)
    (case c0 => k_is)
    (case k0 => k_is)
    (case a1 => k_is)
    (case l1 => k_is)
    (case c1 => k_is)
    (case k1 => k_is)
    (case a2 => k_is)
    (case l2 => k_is)
    (case c2 => k_is)
    (case k2 => k_is)
    (case a3 => k_is)
    (case l3 => k_is)
    (case c3 => k_is)
    (case k3 => k_is)
    (case a4 => k_is)
    (case l4 => k_is)
    (case c4 => k_is)
    (case k4 => k_is)
    (case a5 => k_is)
    (case l5 => k_is)
    (case c5 => k_is)
    (case k5 => k_is)
    (case a6 => k_is)
    (case l6 => k_is)
    (case c6 => k_is)
    (case k6 => k_is)
    (case a7 => k_is)
    (case l7 => k_is)
    (case c7 => k_is)
    (case k7 => k_is)
    (case a8 => k_is)
    (case l8 => k_is)
    (case c8 => k_is)
    (case k8 => k_is)
    (case a9 => k_is)
    (case l9 => k_is)
    (case c9 => k_is)
    (case k9 => k_is)
    (case a10 => k_is)
    (case l10 => k_is)
    (case c10 => k_is)
    (case k10 => k_is)
    (case a11 => k_is)
    (case l11 => k_is)
    (case c11 => k_is)
    (case k11 => k_is)
    (case a12 => k_is)
    (case l12 => k_is)
    (case c12 => k_is)
    (case k12 => k_is)
    (case z_ValueError => k_is)
    (case z_abs => k_is)
    (case z_all => k_is)
    (case z_int => k_is)
    (case z_isinstance => k_is)
    (case z_len => k_is)
    (case z_max => k_is)
    (case z_range => k_is)
    (case y_LETTERS => k_is)
    (case y_MOST_MOMENT => k_is)
    (case aC0 => k_is)
    (case xL0 => k_is)
    (case sa0 => k_is)
    (case ga0 => k_is)
    (case gg0 => k_is)
    (case nb0 => k_is)
    (case iI0 => k_is)
    (case tI0 => k_is)
    (case lI0 => k_is)
    (case cI0 => k_is)
    (case dI0 => k_is)
    (case vI0 => rfl)
    (case eI0 => k_is)
    (case kC0 => k_is)
    (case eC0 => k_is)
    (case vC0 => k_is)
    (case mC0 => k_is)
    (case tC0 => k_is)
    (case hC0 => k_is)
    (case iC0 => k_is)
    (case sC0 => k_is)
    (case su0 => ks_is)
    (case ha0 => k_is)
    (case hm0 => k_is)
    (case aC1 => k_is)
    (case xL1 => k_is)
    (case sa1 => k_is)
    (case ga1 => k_is)
    (case gg1 => k_is)
    (case nb1 => k_is)
    (case iI1 => k_is)
    (case tI1 => k_is)
    (case lI1 => k_is)
    (case cI1 => k_is)
    (case dI1 => k_is)
    (case vI1 => rfl)
    (case eI1 => k_is)
    (case kC1 => k_is)
    (case eC1 => k_is)
    (case vC1 => k_is)
    (case mC1 => k_is)
    (case tC1 => k_is)
    (case hC1 => k_is)
    (case iC1 => k_is)
    (case sC1 => k_is)
    (case su1 => ks_is)
    (case ha1 => k_is)
    (case hm1 => k_is)
    (case aC2 => k_is)
    (case xL2 => k_is)
    (case sa2 => k_is)
    (case ga2 => k_is)
    (case gg2 => k_is)
    (case nb2 => k_is)
    (case iI2 => k_is)
    (case tI2 => k_is)
    (case lI2 => k_is)
    (case cI2 => k_is)
    (case dI2 => k_is)
    (case vI2 => rfl)
    (case eI2 => k_is)
    (case kC2 => k_is)
    (case eC2 => k_is)
    (case vC2 => k_is)
    (case mC2 => k_is)
    (case tC2 => k_is)
    (case hC2 => k_is)
    (case iC2 => k_is)
    (case sC2 => k_is)
    (case su2 => ks_is)
    (case ha2 => k_is)
    (case hm2 => k_is)
    (case aC3 => k_is)
    (case xL3 => k_is)
    (case sa3 => k_is)
    (case ga3 => k_is)
    (case gg3 => k_is)
    (case nb3 => k_is)
    (case iI3 => k_is)
    (case tI3 => k_is)
    (case lI3 => k_is)
    (case cI3 => k_is)
    (case dI3 => k_is)
    (case vI3 => rfl)
    (case eI3 => k_is)
    (case kC3 => k_is)
    (case eC3 => k_is)
    (case vC3 => k_is)
    (case mC3 => k_is)
    (case tC3 => k_is)
    (case hC3 => k_is)
    (case iC3 => k_is)
    (case sC3 => k_is)
    (case su3 => ks_is)
    (case ha3 => k_is)
    (case hm3 => k_is)
    (case aC4 => k_is)
    (case xL4 => k_is)
    (case sa4 => k_is)
    (case ga4 => k_is)
    (case gg4 => k_is)
    (case nb4 => k_is)
    (case iI4 => k_is)
    (case tI4 => k_is)
    (case lI4 => k_is)
    (case cI4 => k_is)
    (case dI4 => k_is)
    (case vI4 => rfl)
    (case eI4 => k_is)
    (case kC4 => k_is)
    (case eC4 => k_is)
    (case vC4 => k_is)
    (case mC4 => k_is)
    (case tC4 => k_is)
    (case hC4 => k_is)
    (case iC4 => k_is)
    (case sC4 => k_is)
    (case su4 => ks_is)
    (case ha4 => k_is)
    (case hm4 => k_is)
    (case aC5 => k_is)
    (case xL5 => k_is)
    (case sa5 => k_is)
    (case ga5 => k_is)
    (case gg5 => k_is)
    (case nb5 => k_is)
    (case iI5 => k_is)
    (case tI5 => k_is)
    (case lI5 => k_is)
    (case cI5 => k_is)
    (case dI5 => k_is)
    (case vI5 => rfl)
    (case eI5 => k_is)
    (case kC5 => k_is)
    (case eC5 => k_is)
    (case vC5 => k_is)
    (case mC5 => k_is)
    (case tC5 => k_is)
    (case hC5 => k_is)
    (case iC5 => k_is)
    (case sC5 => k_is)
    (case su5 => ks_is)
    (case ha5 => k_is)
    (case hm5 => k_is)
    (case aC6 => k_is)
    (case xL6 => k_is)
    (case sa6 => k_is)
    (case ga6 => k_is)
    (case gg6 => k_is)
    (case nb6 => k_is)
    (case iI6 => k_is)
    (case tI6 => k_is)
    (case lI6 => k_is)
    (case cI6 => k_is)
    (case dI6 => k_is)
    (case vI6 => rfl)
    (case eI6 => k_is)
    (case kC6 => k_is)
    (case eC6 => k_is)
    (case vC6 => k_is)
    (case mC6 => k_is)
    (case tC6 => k_is)
    (case hC6 => k_is)
    (case iC6 => k_is)
    (case sC6 => k_is)
    (case su6 => ks_is)
    (case ha6 => k_is)
    (case hm6 => k_is)
    (case aC7 => k_is)
    (case xL7 => k_is)
    (case sa7 => k_is)
    (case ga7 => k_is)
    (case gg7 => k_is)
    (case nb7 => k_is)
    (case iI7 => k_is)
    (case tI7 => k_is)
    (case lI7 => k_is)
    (case cI7 => k_is)
    (case dI7 => k_is)
    (case vI7 => rfl)
    (case eI7 => k_is)
    (case kC7 => k_is)
    (case eC7 => k_is)
    (case vC7 => k_is)
    (case mC7 => k_is)
    (case tC7 => k_is)
    (case hC7 => k_is)
    (case iC7 => k_is)
    (case sC7 => k_is)
    (case su7 => ks_is)
    (case ha7 => k_is)
    (case hm7 => k_is)
    (case aC8 => k_is)
    (case xL8 => k_is)
    (case sa8 => k_is)
    (case ga8 => k_is)
    (case gg8 => k_is)
    (case nb8 => k_is)
    (case iI8 => k_is)
    (case tI8 => k_is)
    (case lI8 => k_is)
    (case cI8 => k_is)
    (case dI8 => k_is)
    (case vI8 => rfl)
    (case eI8 => k_is)
    (case kC8 => k_is)
    (case eC8 => k_is)
    (case vC8 => k_is)
    (case mC8 => k_is)
    (case tC8 => k_is)
    (case hC8 => k_is)
    (case iC8 => k_is)
    (case sC8 => k_is)
    (case su8 => ks_is)
    (case ha8 => k_is)
    (case hm8 => k_is)
    (case aC9 => k_is)
    (case xL9 => k_is)
    (case sa9 => k_is)
    (case ga9 => k_is)
    (case gg9 => k_is)
    (case nb9 => k_is)
    (case iI9 => k_is)
    (case tI9 => k_is)
    (case lI9 => k_is)
    (case cI9 => k_is)
    (case dI9 => k_is)
    (case vI9 => rfl)
    (case eI9 => k_is)
    (case kC9 => k_is)
    (case eC9 => k_is)
    (case vC9 => k_is)
    (case mC9 => k_is)
    (case tC9 => k_is)
    (case hC9 => k_is)
    (case iC9 => k_is)
    (case sC9 => k_is)
    (case su9 => ks_is)
    (case ha9 => k_is)
    (case hm9 => k_is)
    (case pg0 => k_is)
    (case px0 => k_exc)
    (case pk0 => k_is)
    (case pb0 => k_is)
    (case pt0 => k_is)
    (case pi0 => k_is)
    (case ps0 => k_is)
    (case pg1 => k_is)
    (case px1 => k_exc)
    (case pk1 => k_is)
    (case pb1 => k_is)
    (case pt1 => k_is)
    (case pi1 => k_is)
    (case ps1 => k_is)
    (case pg2 => k_is)
    (case px2 => k_exc)
    (case pk2 => k_is)
    (case pb2 => k_is)
    (case pt2 => k_is)
    (case pi2 => k_is)
    (case ps2 => k_is)
    (case pg3 => k_is)
    (case px3 => k_exc)
    (case pk3 => k_is)
    (case pb3 => k_is)
    (case pt3 => k_is)
    (case pi3 => k_is)
    (case ps3 => k_is)
    (case pg4 => k_is)
    (case px4 => k_exc)
    (case pk4 => k_is)
    (case pb4 => k_is)
    (case pt4 => k_is)
    (case pi4 => k_is)
    (case ps4 => k_is)
    (case pg5 => k_is)
    (case px5 => k_exc)
    (case pk5 => k_is)
    (case pb5 => k_is)
    (case pt5 => k_is)
    (case pi5 => k_is)
    (case ps5 => k_is)
    (case pg6 => k_is)
    (case px6 => k_exc)
    (case pk6 => k_is)
    (case pb6 => k_is)
    (case pt6 => k_is)
    (case pi6 => k_is)
    (case ps6 => k_is)
    (case pg7 => k_is)
    (case px7 => k_exc)
    (case pk7 => k_is)
    (case pb7 => k_is)
    (case pt7 => k_is)
    (case pi7 => k_is)
    (case ps7 => k_is)
    (case pg8 => k_is)
    (case px8 => k_exc)
    (case pk8 => k_is)
    (case pb8 => k_is)
    (case pt8 => k_is)
    (case pi8 => k_is)
    (case ps8 => k_is)
    (case pg9 => k_is)
    (case px9 => k_exc)
    (case pk9 => k_is)
    (case pb9 => k_is)
    (case pt9 => k_is)
    (case pi9 => k_is)
    (case ps9 => k_is)
    (case pg10 => k_is)
    (case px10 => k_exc)
    (case pk10 => k_is)
    (case pb10 => k_is)
    (case pt10 => k_is)
    (case pi10 => k_is)
    (case ps10 => k_is)
    (case xg_InvalidName => k_is)
    (case xh_InvalidName => k_is)
    (case xd_InvalidName => k_is)
    (case xa_InvalidName => k_is)
    (case xm_InvalidName => k_is)
    (case xg_InvalidRequest => k_is)
    (case xh_InvalidRequest => k_is)
    (case xd_InvalidRequest => k_is)
    (case xa_InvalidRequest => k_is)
    (case xm_InvalidRequest => k_is)
    (case xg_InvalidLimit => k_is)
    (case xh_InvalidLimit => k_is)
    (case xd_InvalidLimit => k_is)
    (case xa_InvalidLimit => k_is)
    (case xm_InvalidLimit => k_is)
    (case xg_InvalidBook => k_is)
    (case xh_InvalidBook => k_is)
    (case xd_InvalidBook => k_is)
    (case xa_InvalidBook => k_is)
    (case xm_InvalidBook => k_is)
    (case xg_NoView => k_is)
    (case xh_NoView => k_is)
    (case xd_NoView => k_is)
    (case xa_NoView => k_is)
    (case xm_NoView => k_is)
    (case xg_InvalidPaper => k_is)
    (case xh_InvalidPaper => k_is)
    (case xd_InvalidPaper => k_is)
    (case xa_InvalidPaper => k_is)
    (case xm_InvalidPaper => k_is)
    (case xg_InvalidJournal => k_is)
    (case xh_InvalidJournal => k_is)
    (case xd_InvalidJournal => k_is)
    (case xa_InvalidJournal => k_is)
    (case xm_InvalidJournal => k_is)
    (case xg_TooLarge => k_is)
    (case xh_TooLarge => k_is)
    (case xd_TooLarge => k_is)
    (case xa_TooLarge => k_is)
    (case xm_TooLarge => k_is)
    (case xg_NothingToUndo => k_is)
    (case xh_NothingToUndo => k_is)
    (case xd_NothingToUndo => k_is)
    (case xa_NothingToUndo => k_is)
    (case xm_NothingToUndo => k_is)
    (case xg_NothingToRedo => k_is)
    (case xh_NothingToRedo => k_is)
    (case xd_NothingToRedo => k_is)
    (case xa_NothingToRedo => k_is)
    (case xm_NothingToRedo => k_is)
    (case opq => k_is)
    (case gS => k_is)
    (case top => rfl)
    (case hn => k_is)
    (case ht => k_is)
    (case nn_InvalidName_LimitError => kit_is)
    (case nn_InvalidName_ValueError => kit_is)
    (case nn_InvalidRequest_LimitError => kit_is)
    (case nn_InvalidRequest_ValueError => kit_is)
    (case nn_InvalidLimit_LimitError => kit_is)
    (case nn_InvalidLimit_ValueError => kit_is)
    (case nn_InvalidBook_LimitError => kit_is)
    (case nn_InvalidBook_ValueError => kit_is)
    (case nn_NoView_LimitError => kit_is)
    (case nn_NoView_ValueError => kit_is)
    (case nn_InvalidPaper_LimitError => kit_is)
    (case nn_InvalidPaper_ValueError => kit_is)
    (case nn_InvalidJournal_LimitError => kit_is)
    (case nn_InvalidJournal_ValueError => kit_is)
    (case nn_TooLarge_LimitError => kit_is)
    (case nn_TooLarge_ValueError => kit_is)
    (case nn_NothingToUndo_LimitError => kit_is)
    (case nn_NothingToUndo_ValueError => kit_is)
    (case nn_NothingToRedo_LimitError => kit_is)
    (case nn_NothingToRedo_ValueError => kit_is)
    (case nn_UnknownName_LimitError => kit_is)
    (case nn_UnknownName_ValueError => kit_is)
    (case nn_NameTaken_LimitError => kit_is)
    (case nn_NameTaken_ValueError => kit_is)
    (case nn_KeyKnown_LimitError => kit_is)
    (case nn_KeyKnown_ValueError => kit_is)
    (case nn_UnknownKey_LimitError => kit_is)
    (case nn_UnknownKey_ValueError => kit_is)
    (case nn_EarlierMoment_LimitError => kit_is)
    (case nn_EarlierMoment_ValueError => kit_is)
    (case nn_InvalidNotation_LimitError => kit_is)
    (case nn_InvalidNotation_ValueError => kit_is)
    (case nn_InvalidEntry_LimitError => kit_is)
    (case nn_InvalidEntry_ValueError => kit_is)
    (case nn_UnknownLetter_LimitError => kit_is)
    (case nn_UnknownLetter_ValueError => kit_is)
    (case nn_HouseFallen_LimitError => kit_is)
    (case nn_HouseFallen_ValueError => kit_is)
    (case nn_UnknownHouse_LimitError => kit_is)
    (case nn_UnknownHouse_ValueError => kit_is)
    (case ktab => kernel_rfl)
